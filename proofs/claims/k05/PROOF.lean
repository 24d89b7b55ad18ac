import PyProof.Rows.All
import Wide.All
import OpenK.AllK
import Wide.FinOn
import HandS.ForMost
import HandS.ForExc
import HandS.Wide
import HandS.Defaults
import HandS.CallSlots
import HandS.IsInst
import HandS.Deep
import HandS.HeadHook2
import HandS.Head2
import HandS.HeadEnd
import KE.KeyNested
import KE.KDictWalk
import KE.SortData
import HandS.DictTup
import HandS.MakeKwOnly
import HandS.ExcInit
import HandS.MakeKw
import HandS.Head0
import HandS.Head1
import HandS.HeadHook1
import HandS.HeadHook3
import HandS.Sort
import HandS.TryOnly
import HandS.TryMany
import HandS.ExcField
import HandS.ExcIs
import HandS.RaiseFrom
import HandS.SuiteRaise
import HandS.NoneIn
import HandS.FStr
import KE.KCallOwn
import HandS.TupAny
import HandS.Text
import PyProof.StrOps2
import HandS.Exc
import PyProof.InstNe
import HandS.More
import HandS.OwnEq
import HandS.TupLen
import KE.KDictSum
import KE.KDictCopyH
import KE.KDictOf
import HandS.Flow
import HandS.ExcInitHot
import PySem.Challenge.RW_sentahead_k05_texts_of_no_world
set_option Elab.async false
set_option linter.all false
set_option maxRecDepth 100000
set_option maxHeartbeats 4000000
/-!  -/
namespace Z
/-! Z1 -/
/-! Values as trees over the hand layer: the base. -/
open PySem PySem.Spec L2

abbrev Fr := PySem.W.Frag
/-- the world in which all runs (its hashes) -/
class Wrl where
  w : PySem.World

/-- a value: tuples, lists and instances that are never changed again are values; .ref a: an object that is owned -/
inductive Val where
  | non | bl (b : Bool) | int (i : Int) | str (x : Str) | tup (xs : List Val) | lst (xs : List Val) | scr (xs : List Val)
  | obj (C : Addr) (fs : List (Str × Val)) | ref (a : Addr) | ty (n : String) | exc (a dd : Addr) (v : Val) | err (C a dd : Addr) (v : Val)
/-- the object of a caught exception, held on to -/
def ErrO (cls : Value) (d : Option Addr) (a : Addr) : HO := .ext fun h => ∃ oe, h.get? a = some oe ∧ Zc cls d oe ∧ ∃ vs, oe.data = .fields vs

mutual
def Rel (K : Fr) (S : Hp) : Val → V → Prop
  | .non, w => w = .non
  | .bl b, w => w = .bl b
  | .int i, w => w = .int i
  | .str x, w => w = .str x
  | .tup xs, w => ∃ a ws, w = .ref a ∧ S a = some (.tup ws) ∧ Rels K S xs ws
  | .lst xs, w => ∃ a ws, w = .ref a ∧ S a = some (.lst ws) ∧ Rels K S xs ws
  | .scr xs, w => ∃ a ws, w = .ref a ∧ SqL K S a ws ∧ Rels K S xs ws
  | .obj C fs, w => ∃ a dx gs, w = .ref a ∧ S a = some (.ins C dx gs) ∧ RelF K S fs gs
  | .ref a, w => w = .ref a
  | .ty n, w => w = .ty n
  | .exc a dd v, w => w = .ref a ∧ ∃ u, S dd = some (.xd [("what", u)]) ∧ Rel K S v u
  | .err C a dd v, w => w = .ref a ∧ S a = some (ErrO (.ref C) (some dd) a) ∧ ∃ u, S dd = some (.xd [("what", u)]) ∧ Rel K S v u
def Rels (K : Fr) (S : Hp) : List Val → List V → Prop
  | [], ws => ws = []
  | x :: xs, ws => ∃ w r, ws = w :: r ∧ Rel K S x w ∧ Rels K S xs r
def RelF (K : Fr) (S : Hp) : List (Str × Val) → List (Str × V) → Prop
  | [], gs => gs = []
  | f :: fs, gs => ∃ w r, gs = (f.1, w) :: r ∧ Rel K S f.2 w ∧ RelF K S fs r
end

/-- S' keeps all of S -/
def Sub (S S' : Hp) : Prop := ∀ a o, S a = some o → S' a = some o
theorem Sub.refl (S : Hp) : Sub S S := fun _ _ h => h
theorem Sub.trans {S S1 S2 : Hp} (a : Sub S S1) (b : Sub S1 S2) : Sub S S2 := fun c o h => b c o (a c o h)
theorem Sub.free {S S' : Hp} (e : Sub S S') {l : Addr} (h : S' l = none) : S l = none := by
  cases q : S l with
  | none => rfl
  | some o => rw [e l o q] at h; cases h
theorem Sub.seqL {K : Fr} {S S' : Hp} {a : Addr} {xs : List V} (e : Sub S S') (h : SqL K S a xs) : SqL K S' a xs := by
  rcases h with (h | ⟨o, h⟩) | h
  · exact .inl (.inl (e _ _ h))
  · exact .inl (.inr ⟨o, e _ _ h⟩)
  · exact .inr h
theorem Sub.seqT {K : Fr} {S S' : Hp} {a : Addr} {xs : List V} (e : Sub S S') (h : SqT K S a xs) : SqT K S' a xs := by
  rcases h with (h | ⟨o, h⟩) | h
  · exact .inl (.inl (e _ _ h))
  · exact .inl (.inr ⟨o, e _ _ h⟩)
  · exact .inr h
theorem Sub.upd {S : Hp} {p : Addr} {o : HO} (h : S p = none) : Sub S (upd S p o) := fun a u e => by
  rw [upd_ne (ne_of_none e h)]; exact e

mutual
theorem Rel.mono {K : Fr} {S S' : Hp} (e : Sub S S') : ∀ (x : Val) (w : V), Rel K S x w → Rel K S' x w
  | .non, _, h => by unfold Rel at *; exact h
  | .bl _, _, h => by unfold Rel at *; exact h
  | .int _, _, h => by unfold Rel at *; exact h
  | .str _, _, h => by unfold Rel at *; exact h
  | .tup xs, _, h => by
    unfold Rel at *; obtain ⟨a, ws, e1, h1, h2⟩ := h; exact ⟨a, ws, e1, e _ _ h1, Rels.mono e xs ws h2⟩
  | .lst xs, _, h => by
    unfold Rel at *; obtain ⟨a, ws, e1, h1, h2⟩ := h; exact ⟨a, ws, e1, e _ _ h1, Rels.mono e xs ws h2⟩
  | .scr xs, _, h => by
    unfold Rel at *; obtain ⟨a, ws, e1, h1, h2⟩ := h; exact ⟨a, ws, e1, e.seqL h1, Rels.mono e xs ws h2⟩
  | .obj C fs, _, h => by
    unfold Rel at *; obtain ⟨a, dx, gs, e1, h1, h2⟩ := h; exact ⟨a, dx, gs, e1, e _ _ h1, RelF.mono e fs gs h2⟩
  | .ref _, _, h => by unfold Rel at *; exact h
  | .ty _, _, h => by unfold Rel at *; exact h
  | .exc a dd v, _, h => by unfold Rel at *; obtain ⟨e1, u, h1, h2⟩ := h; exact ⟨e1, u, e _ _ h1, Rel.mono e v u h2⟩
  | .err C a dd v, _, h => by unfold Rel at *; obtain ⟨e1, e2, u, h1, h2⟩ := h; exact ⟨e1, e _ _ e2, u, e _ _ h1, Rel.mono e v u h2⟩
theorem Rels.mono {K : Fr} {S S' : Hp} (e : Sub S S') : ∀ (xs : List Val) (ws : List V), Rels K S xs ws → Rels K S' xs ws
  | [], _, h => by unfold Rels at *; exact h
  | x :: xs, _, h => by
    unfold Rels at *; obtain ⟨w, r, e1, h1, h2⟩ := h; exact ⟨w, r, e1, Rel.mono e x w h1, Rels.mono e xs r h2⟩
theorem RelF.mono {K : Fr} {S S' : Hp} (e : Sub S S') : ∀ (xs : List (Str × Val)) (ws : List (Str × V)), RelF K S xs ws → RelF K S' xs ws
  | [], _, h => by unfold RelF at *; exact h
  | x :: xs, _, h => by
    unfold RelF at *; obtain ⟨w, r, e1, h1, h2⟩ := h; exact ⟨w, r, e1, Rel.mono e x.2 w h1, RelF.mono e xs r h2⟩
end

section
variable {K : Fr} {S S' : Hp}
theorem rel_exc {a dd : Addr} {v : Val} {w : V} : Rel K S (.exc a dd v) w ↔ w = .ref a ∧ ∃ u, S dd = some (.xd [("what", u)]) ∧ Rel K S v u := by
  constructor <;> intro h
  · unfold Rel at h; exact h
  · unfold Rel; exact h
theorem rel_err {C a dd : Addr} {v : Val} {w : V} : Rel K S (.err C a dd v) w ↔ w = .ref a ∧ S a = some (ErrO (.ref C) (some dd) a) ∧ ∃ u, S dd = some (.xd [("what", u)]) ∧ Rel K S v u := by
  constructor <;> intro h
  · unfold Rel at h; exact h
  · unfold Rel; exact h
theorem rel_non {w : V} : Rel K S .non w ↔ w = .non := by unfold Rel; rfl
theorem rel_bl {b : Bool} {w : V} : Rel K S (.bl b) w ↔ w = .bl b := by unfold Rel; rfl
theorem rel_int {i : Int} {w : V} : Rel K S (.int i) w ↔ w = .int i := by unfold Rel; rfl
theorem rel_str {x : Str} {w : V} : Rel K S (.str x) w ↔ w = .str x := by unfold Rel; rfl
theorem rel_ref {a : Addr} {w : V} : Rel K S (.ref a) w ↔ w = .ref a := by unfold Rel; rfl
theorem rel_ty {n : String} {w : V} : Rel K S (.ty n) w ↔ w = .ty n := by unfold Rel; rfl
theorem rel_tup {xs : List Val} {w : V} : Rel K S (.tup xs) w ↔ ∃ a ws, w = .ref a ∧ S a = some (.tup ws) ∧ Rels K S xs ws := by
  constructor <;> intro h
  · unfold Rel at h; exact h
  · unfold Rel; exact h
theorem rel_lst {xs : List Val} {w : V} : Rel K S (.lst xs) w ↔ ∃ a ws, w = .ref a ∧ S a = some (.lst ws) ∧ Rels K S xs ws := by
  constructor <;> intro h
  · unfold Rel at h; exact h
  · unfold Rel; exact h
theorem rel_scr {xs : List Val} {w : V} : Rel K S (.scr xs) w ↔ ∃ a ws, w = .ref a ∧ SqL K S a ws ∧ Rels K S xs ws := by
  constructor <;> intro h
  · unfold Rel at h; exact h
  · unfold Rel; exact h
theorem rel_obj {C : Addr} {fs : List (Str × Val)} {w : V} : Rel K S (.obj C fs) w ↔ ∃ a dx gs, w = .ref a ∧ S a = some (.ins C dx gs) ∧ RelF K S fs gs := by
  constructor <;> intro h
  · unfold Rel at h; exact h
  · unfold Rel; exact h
theorem rels_nil {ws : List V} : Rels K S [] ws ↔ ws = [] := by unfold Rels; rfl
theorem rels_cons {x : Val} {xs : List Val} {ws : List V} : Rels K S (x :: xs) ws ↔ ∃ w r, ws = w :: r ∧ Rel K S x w ∧ Rels K S xs r := by
  constructor <;> intro h
  · unfold Rels at h; exact h
  · unfold Rels; exact h
theorem relf_nil {ws : List (Str × V)} : RelF K S [] ws ↔ ws = [] := by unfold RelF; rfl
theorem relf_cons {x : Str × Val} {xs : List (Str × Val)} {ws : List (Str × V)} : RelF K S (x :: xs) ws ↔ ∃ w r, ws = (x.1, w) :: r ∧ Rel K S x.2 w ∧ RelF K S xs r := by
  constructor <;> intro h
  · unfold RelF at h; exact h
  · unfold RelF; exact h
theorem Rels.length : ∀ {xs : List Val} {ws : List V}, Rels K S xs ws → xs.length = ws.length
  | [], _, h => by rw [rels_nil] at h; subst h; rfl
  | x :: xs, _, h => by
    rw [rels_cons] at h; obtain ⟨w, r, rfl, _, h2⟩ := h
    simp [Rels.length h2]
theorem Rels.get : ∀ {xs : List Val} {ws : List V} {i : Nat} {x : Val}, Rels K S xs ws → xs[i]? = some x → ∃ w, ws[i]? = some w ∧ Rel K S x w
  | [], _, _, _, h, e => by simp at e
  | y :: xs, _, 0, x, h, e => by
    rw [rels_cons] at h; obtain ⟨w, r, rfl, h1, h2⟩ := h
    simp at e; subst e; exact ⟨w, rfl, h1⟩
  | y :: xs, _, i + 1, x, h, e => by
    rw [rels_cons] at h; obtain ⟨w, r, rfl, h1, h2⟩ := h
    obtain ⟨u, h3, h4⟩ := Rels.get (i := i) (x := x) h2 (by simpa using e)
    exact ⟨u, by simpa using h3, h4⟩
theorem Rels.app : ∀ {xs ys : List Val} {us ws : List V}, Rels K S xs us → Rels K S ys ws → Rels K S (xs ++ ys) (us ++ ws)
  | [], _, _, _, h, g => by rw [rels_nil] at h; subst h; exact g
  | x :: xs, ys, _, ws, h, g => by
    rw [rels_cons] at h; obtain ⟨w, r, rfl, h1, h2⟩ := h
    show Rels K S (x :: (xs ++ ys)) (w :: (r ++ ws))
    exact rels_cons.mpr ⟨w, _, rfl, h1, Rels.app h2 g⟩
theorem Rels.one {x : Val} {w : V} (h : Rel K S x w) : Rels K S [x] [w] := rels_cons.mpr ⟨w, [], rfl, h, rels_nil.mpr rfl⟩
theorem Rels.set : ∀ {xs : List Val} {us : List V} {x : Val} {w : V} (i : Nat), Rels K S xs us → Rel K S x w → Rels K S (xs.set i x) (us.set i w)
  | [], _, _, _, _, h, _ => by rw [rels_nil] at h; subst h; exact rels_nil.mpr rfl
  | y :: xs, _, x, w, 0, h, g => by
    rw [rels_cons] at h; obtain ⟨u, r, rfl, h1, h2⟩ := h
    exact rels_cons.mpr ⟨w, r, rfl, g, h2⟩
  | y :: xs, _, x, w, i + 1, h, g => by
    rw [rels_cons] at h; obtain ⟨u, r, rfl, h1, h2⟩ := h
    exact rels_cons.mpr ⟨u, r.set i w, rfl, h1, Rels.set i h2 g⟩
theorem Rels.erase : ∀ {xs : List Val} {us : List V} (i : Nat), Rels K S xs us → Rels K S (xs.eraseIdx i) (us.eraseIdx i)
  | [], _, _, h => by rw [rels_nil] at h; subst h; exact rels_nil.mpr rfl
  | y :: xs, _, 0, h => by
    rw [rels_cons] at h; obtain ⟨u, r, rfl, h1, h2⟩ := h
    exact h2
  | y :: xs, _, i + 1, h => by
    rw [rels_cons] at h; obtain ⟨u, r, rfl, h1, h2⟩ := h
    exact rels_cons.mpr ⟨u, r.eraseIdx i, rfl, h1, Rels.erase i h2⟩
theorem Rels.take : ∀ {xs : List Val} {us : List V} (i : Nat), Rels K S xs us → Rels K S (xs.take i) (us.take i)
  | [], _, i, h => by rw [rels_nil] at h; subst h; simp; exact rels_nil.mpr rfl
  | y :: xs, _, 0, h => by simp; exact rels_nil.mpr rfl
  | y :: xs, _, i + 1, h => by
    rw [rels_cons] at h; obtain ⟨u, r, rfl, h1, h2⟩ := h
    exact rels_cons.mpr ⟨u, r.take i, rfl, h1, Rels.take i h2⟩
theorem Rels.drop : ∀ {xs : List Val} {us : List V} (i : Nat), Rels K S xs us → Rels K S (xs.drop i) (us.drop i)
  | [], _, i, h => by rw [rels_nil] at h; subst h; simp; exact rels_nil.mpr rfl
  | y :: xs, _, 0, h => h
  | y :: xs, _, i + 1, h => by
    rw [rels_cons] at h; obtain ⟨u, r, rfl, h1, h2⟩ := h
    exact Rels.drop i h2
theorem Rels.ints : ∀ {ns : List Int} {ws : List V}, Rels K S (ns.map Val.int) ws ↔ ws = ns.map V.int
  | [], ws => by simp [rels_nil]
  | n :: ns, ws => by
    simp only [List.map_cons, rels_cons, rel_int]
    constructor
    · rintro ⟨w, r, rfl, rfl, h⟩; rw [Rels.ints.mp h]
    · intro h; exact ⟨_, _, h, rfl, Rels.ints.mpr rfl⟩
theorem Rels.strs : ∀ {ns : List Str} {ws : List V}, Rels K S (ns.map Val.str) ws ↔ ws = ns.map V.str
  | [], ws => by simp [rels_nil]
  | n :: ns, ws => by
    simp only [List.map_cons, rels_cons, rel_str]
    constructor
    · rintro ⟨w, r, rfl, rfl, h⟩; rw [Rels.strs.mp h]
    · intro h; exact ⟨_, _, h, rfl, Rels.strs.mpr rfl⟩
theorem RelF.lookup : ∀ {fs : List (Str × Val)} {gs : List (Str × V)} {f : Str} {x : Val}, RelF K S fs gs → fs.lookup f = some x → ∃ w, gs.lookup f = some w ∧ Rel K S x w
  | [], _, _, _, h, e => by simp at e
  | (n, y) :: fs, _, f, x, h, e => by
    rw [relf_cons] at h; obtain ⟨w, r, rfl, h1, h2⟩ := h
    simp only [List.lookup] at e ⊢
    cases q : f == n with
    | true => rw [q] at e; simp at e; subst e; exact ⟨w, rfl, h1⟩
    | false => rw [q] at e; exact RelF.lookup h2 e
theorem RelF.lookup_none : ∀ {fs : List (Str × Val)} {gs : List (Str × V)} {f : Str}, RelF K S fs gs → fs.lookup f = none → gs.lookup f = none
  | [], _, _, h, e => by rw [relf_nil] at h; subst h; rfl
  | (n, y) :: fs, _, f, h, e => by
    rw [relf_cons] at h; obtain ⟨w, r, rfl, h1, h2⟩ := h
    simp only [List.lookup] at e ⊢
    cases q : f == n with
    | true => rw [q] at e; simp at e
    | false => rw [q] at e; exact RelF.lookup_none h2 e
theorem RelF.length : ∀ {xs : List (Str × Val)} {ws : List (Str × V)}, RelF K S xs ws → xs.length = ws.length
  | [], _, h => by rw [relf_nil] at h; subst h; rfl
  | x :: xs, _, h => by
    rw [relf_cons] at h; obtain ⟨w, r, rfl, _, h2⟩ := h
    simp [RelF.length h2]
end

/-- stores a field -/
def putv (f : Str) (v : Val) : List (Str × Val) → List (Str × Val)
  | [] => [(f, v)]
  | (n, w) :: r => if n = f then (n, v) :: r else (n, w) :: putv f v r
/-! Z2 -/
/-! the owned heap, the tie to the layer's heap, the judgements -/

/-- an owned object -/
inductive Ob where
  | lst (xs : List Val) | dK (kvs : List (Key × Val)) | dT (kvs : List (List Key × Val)) | ins (C : Addr) (fs : List (Str × Val))
  /-- a dict whose keys are tuples of any depth; one that is walked (it stands as it is) -/
  | dN (kvs : List (NestedKey × Val)) | lk (u : HO) (kvs : List (NestedKey × Val))
abbrev Ev := List (Option Val)
abbrev Hh := Addr → Option Ob
def hup (h : Hh) (a : Addr) (o : Ob) : Hh := fun b => if b = a then some o else h b
def hdel (h : Hh) (a : Addr) : Hh := fun b => if b = a then none else h b
theorem hup_same {h : Hh} {a : Addr} {o : Ob} : hup h a o a = some o := by unfold hup; rw [if_pos rfl]
theorem hup_ne {h : Hh} {a b : Addr} {o : Ob} (n : b ≠ a) : hup h a o b = h b := by unfold hup; rw [if_neg n]
theorem hdel_same {h : Hh} {a : Addr} : hdel h a a = none := by unfold hdel; rw [if_pos rfl]
theorem hdel_ne {h : Hh} {a b : Addr} (n : b ≠ a) : hdel h a b = h b := by unfold hdel; rw [if_neg n]
theorem hup_hup {h : Hh} {a : Addr} {o u : Ob} : hup (hup h a o) a u = hup h a u := by
  funext b; unfold hup
  by_cases e : b = a
  · rw [if_pos e, if_pos e]
  · simp [e]
theorem hdel_hup {h : Hh} {a : Addr} {o : Ob} (n : h a = none) : hdel (hup h a o) a = h := by
  funext b; unfold hup hdel; split
  · rename_i e; rw [e, n]
  · rename_i e; exact if_neg e
def RelKV {κ : Type} (K : Fr) (S : Hp) : List (κ × Val) → List (κ × V) → Prop := Paired fun p q => p.1 = q.1 ∧ Rel K S p.2 q.2
/-- the dict at d with just these entries -/
def dNo (d : Addr) (es : Array DictEntry) (ep : Nat) : HO := .ext fun h => (d == sysModules) = false ∧ ∃ o, h.get? d = some o ∧ o.ExactDict ∧ o.data = .dict es ep
mutual
def keyN : NestedKey → Val
  | .none => .non
  | .num i => .int i
  | .text x => .str x
  | .tup ks => .tup (keysN ks)
def keysN : List NestedKey → List Val
  | [] => []
  | k :: ks => keyN k :: keysN ks
end
variable [Wrl]
def entN (x : NestedKey × Addr × Value) : DictEntry := ⟨x.1.hash Wrl.w, .ref x.2.1, x.2.2⟩
/-- an entry of such a dict -/
def RelN (K : Fr) (S : Hp) (p : NestedKey × Val) (q : NestedKey × Addr × Value) : Prop := p.1 = q.1 ∧ p.1.depth ≤ 8 ∧ Rel K S (keyN p.1) (.ref q.2.1) ∧ ∃ w, Rel K S p.2 w ∧ RelV w q.2.2
def DctN (K : Fr) (S : Hp) (kvs : List (NestedKey × Val)) (o : HO) : Prop := ∃ d es ep xs, o = dNo d es ep ∧ kvs.length ≤ sizeLine ∧ es.toList = xs.map entN ∧ Paired (RelN K S) kvs xs ∧ (xs.map (·.1)).Nodup
def RelOb (K : Fr) (S : Hp) : Ob → HO → Prop
  | .dN kvs, o => DctN K S kvs o
  | .lk u kvs, o => o = u ∧ DctN K S kvs o
  | .lst xs, o => ∃ ws, o = .lst ws ∧ Rels K S xs ws
  | .dK kvs, o => ∃ ws, o = .dK ws ∧ RelKV K S kvs ws
  | .dT kvs, o => ∃ ws, o = .dT ws ∧ RelKV K S kvs ws
  | .ins C fs, o => ∃ dx gs, o = .ins C dx gs ∧ RelF K S fs gs
theorem RelKV.mono {κ : Type} {K : Fr} {S S' : Hp} (e : Sub S S') {xs : List (κ × Val)} {ws : List (κ × V)} (h : RelKV K S xs ws) : RelKV K S' xs ws :=
  Paired.mapP h fun p q z => ⟨z.1, Rel.mono e _ _ z.2⟩
theorem RelN.mono {K : Fr} {S S' : Hp} (e : Sub S S') {p : NestedKey × Val} {q : NestedKey × Addr × Value} (h : RelN K S p q) : RelN K S' p q := by
  obtain ⟨h1, h0, h2, w, h3, h4⟩ := h
  exact ⟨h1, h0, Rel.mono e _ _ h2, w, Rel.mono e _ _ h3, h4⟩
theorem DctN.mono {K : Fr} {S S' : Hp} (e : Sub S S') {kvs : List (NestedKey × Val)} {o : HO} (h : DctN K S kvs o) : DctN K S' kvs o := by
  obtain ⟨d, es, ep, xs, h1, h2, h3, h4, h5⟩ := h
  exact ⟨d, es, ep, xs, h1, h2, h3, Paired.mapP h4 fun p q z => z.mono e, h5⟩
theorem RelOb.notup {K : Fr} {S : Hp} {o : Ob} {ws : List V} (x : RelOb K S o (.tup ws)) : False := by
  cases o with
  | lst xs => obtain ⟨_, e, _⟩ := x; cases e
  | dK xs => obtain ⟨_, e, _⟩ := x; cases e
  | dT xs => obtain ⟨_, e, _⟩ := x; cases e
  | ins C fs => obtain ⟨_, _, e, _⟩ := x; cases e
  | dN xs => obtain ⟨_, _, _, _, e, _⟩ := x; cases e
  | lk u xs => obtain ⟨_, _, _, _, _, e, _⟩ := x; cases e
theorem RelOb.mono {K : Fr} {S S' : Hp} (e : Sub S S') {o : Ob} {u : HO} (h : RelOb K S o u) : RelOb K S' o u := by
  cases o with
  | lst xs => obtain ⟨ws, e1, h1⟩ := h; exact ⟨ws, e1, Rels.mono e _ _ h1⟩
  | dK xs => obtain ⟨ws, e1, h1⟩ := h; exact ⟨ws, e1, h1.mono e⟩
  | dT xs => obtain ⟨ws, e1, h1⟩ := h; exact ⟨ws, e1, h1.mono e⟩
  | ins C fs => obtain ⟨dx, gs, e1, h1⟩ := h; exact ⟨dx, gs, e1, RelF.mono e _ _ h1⟩
  | dN kvs => exact DctN.mono e h
  | lk u kvs => exact ⟨h.1, DctN.mono e h.2⟩

/-- S: what never changes again; F: held back; h: owned; H: the layer's heap -/
structure R (K : Fr) (S F H : Hp) (h : Hh) : Prop where
  sub : Sub S H
  frm : ∀ a o, F a = some o → H a = some o ∧ S a = none ∧ h a = none
  own : ∀ a o, h a = some o → S a = none ∧ ∃ u, H a = some u ∧ RelOb K S o u
  ntp : ∀ a ws, F a ≠ some (.tup ws)
def Rls (K : Fr) (S : Hp) (ρ : Ev) (σ : St) : Prop := ρ.length = σ.length ∧ ∀ (i : Nat) (v : Val), ρ[i]? = some (some v) → ∃ w, σ[i]? = some (some w) ∧ Rel K S v w

section
variable {K : Fr} {S S' F H : Hp} {h : Hh} {ρ : Ev} {σ : St} {a p : Addr} {o : Ob} {u : HO}
theorem Rls.mono (e : Sub S S') (r : Rls K S ρ σ) : Rls K S' ρ σ := ⟨r.1, fun i v q => by
  obtain ⟨w, h1, h2⟩ := r.2 i v q; exact ⟨w, h1, Rel.mono e _ _ h2⟩⟩
theorem Rls.set (r : Rls K S ρ σ) (i : Nat) {v : Val} {w : V} (x : Rel K S v w) : Rls K S (ρ.set i (some v)) (σ.set i (some w)) := ⟨by simp [r.1], fun j y q => by
  by_cases e : i = j
  · subst e
    have hl : i < ρ.length := by
      obtain ⟨z, _⟩ := List.getElem?_eq_some_iff.mp q
      simpa using z
    rw [List.getElem?_set_self (by simpa using hl)] at q
    cases q
    exact ⟨w, by rw [List.getElem?_set_self (by rw [← r.1]; exact hl)], x⟩
  · rw [List.getElem?_set_ne e] at q ⊢
    exact r.2 j y q⟩
theorem Rls.unset (r : Rls K S ρ σ) (i : Nat) {w : Option V} : Rls K S (ρ.set i none) (σ.set i w) := ⟨by simp [r.1], fun j y q => by
  by_cases e : i = j
  · subst e
    have hl : i < ρ.length := by
      obtain ⟨z, _⟩ := List.getElem?_eq_some_iff.mp q
      simpa using z
    rw [List.getElem?_set_self (by simpa using hl)] at q
    cases q
  · rw [List.getElem?_set_ne e] at q ⊢
    exact r.2 j y q⟩
/-- a new object that is never changed again -/
theorem R.frozen (r : R K S F H h) (n : H p = none) : R K (upd S p u) F (upd H p u) h ∧ Sub S (upd S p u) := by
  have nS : S p = none := r.sub.free n
  refine ⟨⟨fun a o e => ?_, fun a o e => ?_, fun a o e => ?_, r.ntp⟩, Sub.upd nS⟩
  · by_cases q : a = p
    · subst q; rw [upd_same] at e ⊢; exact e
    · rw [upd_ne q] at e ⊢; exact r.sub _ _ e
  · obtain ⟨h1, h2, h3⟩ := r.frm a o e
    have q : a ≠ p := ne_of_none h1 n
    exact ⟨by rw [upd_ne q]; exact h1, by rw [upd_ne q]; exact h2, h3⟩
  · obtain ⟨h1, v, h2, h3⟩ := r.own a o e
    have q : a ≠ p := ne_of_none h2 n
    exact ⟨by rw [upd_ne q]; exact h1, v, by rw [upd_ne q]; exact h2, h3.mono (Sub.upd nS)⟩
/-- a new object that is owned -/
theorem R.owned (r : R K S F H h) (n : H p = none) (x : RelOb K S o u) : R K S F (upd H p u) (hup h p o) := by
  have nS : S p = none := r.sub.free n
  refine ⟨fun a o e => ?_, fun a o e => ?_, fun a o e => ?_, r.ntp⟩
  · rw [upd_ne (ne_of_none e nS)]; exact r.sub _ _ e
  · obtain ⟨h1, h2, h3⟩ := r.frm a o e
    have q : a ≠ p := ne_of_none h1 n
    exact ⟨by rw [upd_ne q]; exact h1, h2, by rw [hup_ne q]; exact h3⟩
  · by_cases q : a = p
    · subst q; rw [hup_same] at e; cases e; exact ⟨nS, u, upd_same, x⟩
    · rw [hup_ne q] at e
      obtain ⟨h1, v, h2, h3⟩ := r.own a o e
      exact ⟨h1, v, by rw [upd_ne q]; exact h2, h3⟩
theorem R.fresh (r : R K S F H h) (n : H p = none) : h p = none := by
  cases q : h p with
  | none => rfl
  | some o => obtain ⟨_, u, h2, _⟩ := r.own _ _ q; rw [n] at h2; cases h2
/-- a store into an owned object -/
theorem R.store {o' : Ob} (r : R K S F H h) (e : h p = some o') (x : RelOb K S o u) : R K S F (upd H p u) (hup h p o) := by
  obtain ⟨nS, v, hv, _⟩ := r.own _ _ e
  refine ⟨fun a o e => ?_, fun a o q => ?_, fun a o e => ?_, r.ntp⟩
  · rw [upd_ne (ne_of_none e nS)]; exact r.sub _ _ e
  · obtain ⟨h1, h2, h3⟩ := r.frm a o q
    have q : a ≠ p := fun z => by subst z; rw [h3] at e; cases e
    exact ⟨by rw [upd_ne q]; exact h1, h2, by rw [hup_ne q]; exact h3⟩
  · by_cases q : a = p
    · subst q; rw [hup_same] at e; cases e; exact ⟨nS, u, upd_same, x⟩
    · rw [hup_ne q] at e
      obtain ⟨h1, v, h2, h3⟩ := r.own a o e
      exact ⟨h1, v, by rw [upd_ne q]; exact h2, h3⟩
/-- what is owned is let go -/
theorem R.drop {h' : Hh} (r : R K S F H h) (e : ∀ a o, h' a = some o → h a = some o) : R K S F H h' :=
  ⟨r.sub, fun a o q => ⟨(r.frm a o q).1, (r.frm a o q).2.1, (by
    cases z : h' a with
    | none => rfl
    | some o' => have h3 := (r.frm a o q).2.2; rw [e _ _ z] at h3; cases h3)⟩, fun a o q => r.own a o (e _ _ q), r.ntp⟩
/-- an owned object is never changed again -/
theorem R.freeze (r : R K S F H h) (e : h p = some o) : ∃ u, RelOb K S o u ∧ R K (upd S p u) F H (hdel h p) ∧ Sub S (upd S p u) := by
  obtain ⟨nS, u, hu, x⟩ := r.own _ _ e
  refine ⟨u, x, ⟨fun a o e => ?_, fun a o q => ?_, fun a o q => ?_, r.ntp⟩, Sub.upd nS⟩
  · by_cases q : a = p
    · subst q; rw [upd_same] at e; cases e; exact hu
    · rw [upd_ne q] at e; exact r.sub _ _ e
  · obtain ⟨h1, h2, h3⟩ := r.frm a o q
    have q : a ≠ p := fun z => by subst z; rw [h3] at e; cases e
    exact ⟨h1, by rw [upd_ne q]; exact h2, by rw [hdel_ne q]; exact h3⟩
  · by_cases z : a = p
    · subst z; rw [hdel_same] at q; cases q
    · rw [hdel_ne z] at q
      obtain ⟨h1, v, h2, h3⟩ := r.own a o q
      exact ⟨by rw [upd_ne z]; exact h1, v, h2, h3.mono (Sub.upd nS)⟩
/-- held back -/
theorem R.hold (r : R K S F H h) (e : h p = some o) : ∃ u, H p = some u ∧ RelOb K S o u ∧ R K S (upd F p u) H (hdel h p) := by
  obtain ⟨nS, u, hu, x⟩ := r.own _ _ e
  refine ⟨u, hu, x, ⟨r.sub, fun a v q => ?_, fun a o q => ?_, fun a ws z => ?_⟩⟩
  · by_cases z : a = p
    · subst z; rw [upd_same] at q; cases q; exact ⟨hu, nS, hdel_same⟩
    · rw [upd_ne z] at q
      obtain ⟨h1, h2, h3⟩ := r.frm a _ q
      exact ⟨h1, h2, by rw [hdel_ne z]; exact h3⟩
  · by_cases z : a = p
    · subst z; rw [hdel_same] at q; cases q
    · rw [hdel_ne z] at q; exact r.own a o q
  · by_cases y : a = p
    · subst y; rw [upd_same] at z; cases z
      exact x.notup.elim
    · rw [upd_ne y] at z; exact r.ntp a ws z
/-- taken back from what is held -/
theorem R.unhold (r : R K S (upd F p u) H h) (n : F p = none) (x : RelOb K S o u) : H p = some u ∧ R K S F H (hup h p o) := by
  obtain ⟨h1, h2, h3⟩ := r.frm p u upd_same
  refine ⟨h1, r.sub, fun a v q => ?_, fun a v q => ?_, fun a ws z => ?_⟩
  · have z : a ≠ p := ne_of_none q n
    obtain ⟨g1, g2, g3⟩ := r.frm a v (by rw [upd_ne z]; exact q)
    exact ⟨g1, g2, by rw [hup_ne z]; exact g3⟩
  · by_cases z : a = p
    · subst z; rw [hup_same] at q; cases q; exact ⟨h2, u, h1, x⟩
    · rw [hup_ne z] at q; exact r.own a v q
  · have y : a ≠ p := ne_of_none z n
    exact r.ntp a ws (by rw [upd_ne y]; exact z)
end

/-! ### the judgements -/
abbrev KQ := Val → Hh → Prop
abbrev XQ := Addr → Val → Hh → Prop
abbrev XS := Addr → Val → Ev → Hh → Prop
abbrev WE := Ev → Hh → XQ → KQ → Prop
abbrev WT := Ev → Hh → XQ → (Bool → Hh → Prop) → Prop
abbrev WA := Ev → Hh → XQ → (List Val → Hh → Prop) → Prop
abbrev EH := Ev → Hh → Prop
/-- nx, rt, bk, ct, xe -/
abbrev WS := EH → KQ → EH → EH → XS → EH

section
variable (K : Fr) (S F : Hp)
def LQ (Q' : KQ) (Q : VK) : Prop := ∀ v h' S' w H', Q' v h' → Sub S S' → R K S' F H' h' → Rel K S' v w → Q w H'
def LB (Q' : Bool → Hh → Prop) (Q : Bool → Hp → Prop) : Prop := ∀ v h' S' H', Q' v h' → Sub S S' → R K S' F H' h' → Q v H'
def LA (Q' : List Val → Hh → Prop) (Q : List V → Hp → Prop) : Prop := ∀ v h' S' w H', Q' v h' → Sub S S' → R K S' F H' h' → Rels K S' v w → Q w H'
def LN (Q' : EH) (Q : St → Hp → Prop) : Prop := ∀ ρ h' S' σ H', Q' ρ h' → Sub S S' → R K S' F H' h' → Rls K S' ρ σ → Q σ H'
def LX (E' : XQ) (W : WX) (σ : St) : Prop := ∀ C v h' S' w d H', E' C v h' → Sub S S' → R K S' F H' h' → Rel K S' v w → S' d = some (.xd [("what", w)]) → W (.ref C) (some d) σ H'
def LXS (E' : XS) (W : WX) : Prop := ∀ C v ρ h' S' w d σ H', E' C v ρ h' → Sub S S' → R K S' F H' h' → Rls K S' ρ σ → Rel K S' v w → S' d = some (.xd [("what", w)]) → W (.ref C) (some d) σ H'
end
section
variable {K : Fr} {S S1 F : Hp}
theorem LQ.mono {Q' : KQ} {Q : VK} (l : LQ K S F Q' Q) (e : Sub S S1) : LQ K S1 F Q' Q := fun v h' S' w H' q e' => l v h' S' w H' q (e.trans e')
theorem LB.mono {Q' : Bool → Hh → Prop} {Q : Bool → Hp → Prop} (l : LB K S F Q' Q) (e : Sub S S1) : LB K S1 F Q' Q := fun v h' S' H' q e' => l v h' S' H' q (e.trans e')
theorem LA.mono {Q' : List Val → Hh → Prop} {Q : List V → Hp → Prop} (l : LA K S F Q' Q) (e : Sub S S1) : LA K S1 F Q' Q := fun v h' S' w H' q e' => l v h' S' w H' q (e.trans e')
theorem LN.mono {Q' : EH} {Q : St → Hp → Prop} (l : LN K S F Q' Q) (e : Sub S S1) : LN K S1 F Q' Q := fun v h' S' w H' q e' => l v h' S' w H' q (e.trans e')
theorem LX.mono {E' : XQ} {W : WX} {σ : St} (l : LX K S F E' W σ) (e : Sub S S1) : LX K S1 F E' W σ := fun C v h' S' w d H' q e' => l C v h' S' w d H' q (e.trans e')
theorem LXS.mono {E' : XS} {W : WX} (l : LXS K S F E' W) (e : Sub S S1) : LXS K S1 F E' W := fun C v ρ h' S' w d σ H' q e' => l C v ρ h' S' w d σ H' q (e.trans e')
theorem LXS.at {E' : XS} {W : WX} {ρ : Ev} {σ : St} (l : LXS K S F E' W) (r : Rls K S ρ σ) : LX K S F (fun C v h => E' C v ρ h) W σ := fun C v h' S' w d H' q e' r' x z => l C v ρ h' S' w d σ H' q e' r' (r.mono e') x z
end
section
variable (K : Fr) (W : WX)
def lE (t : WE) : L2.TE := fun σ H Q => ∃ S F ρ h E' Q', R K S F H h ∧ Rls K S ρ σ ∧ t ρ h E' Q' ∧ LQ K S F Q' Q ∧ LX K S F E' W σ
def lT (t : WT) : L2.TT := fun σ H Q => ∃ S F ρ h E' Q', R K S F H h ∧ Rls K S ρ σ ∧ t ρ h E' Q' ∧ LB K S F Q' Q ∧ LX K S F E' W σ
def lA (t : WA) : L2.TA := fun σ H Q => ∃ S F ρ h E' Q', R K S F H h ∧ Rls K S ρ σ ∧ t ρ h E' Q' ∧ LA K S F Q' Q ∧ LX K S F E' W σ
def lS (t : WS) : L2.TS := fun D σ H => ∃ S F ρ h nx rt bk ct xe, R K S F H h ∧ Rls K S ρ σ ∧ t nx rt bk ct xe ρ h ∧ LN K S F nx D.nx ∧ LQ K S F rt D.rt ∧ LN K S F bk D.bk ∧ LN K S F ct D.ct ∧ LXS K S F xe W
end
structure ZE (X : Cx) (W : WX) (e : Expr) (t : WE) : Prop where
  pe : PE X e (lE X.K W t)
structure ZT (X : Cx) (W : WX) (e : Expr) (t : WT) : Prop where
  pt : PT X e (lT X.K W t)
structure ZW (X : Cx) (W : WX) (e : Expr) (t : WT) : Prop where
  pw : PW X e (lT X.K W t)
structure ZA (X : Cx) (W : WX) (es : List Expr) (t : WA) : Prop where
  pa : PA X es (lA X.K W t)
structure ZS (X : Cx) (W : WX) (st : Stmt) (t : WS) : Prop where
  ps : PS X st (lS X.K W t)
structure ZB (X : Cx) (W : WX) (st : List Stmt) (t : WS) : Prop where
  pss : PSs X st (lS X.K W t)
theorem pe_imp {X : Cx} {e : Expr} {t t' : L2.TE} (h : PE X e t) (i : ∀ σ H Q, t' σ H Q → t σ H Q) : PE X e t' := ⟨fun pins s σ H Q I q => h.run pins s σ H Q I (i _ _ _ q)⟩
theorem pt_imp {X : Cx} {e : Expr} {t t' : L2.TT} (h : PT X e t) (i : ∀ σ H Q, t' σ H Q → t σ H Q) : PT X e t' := ⟨fun pins s σ H Q I q => h.run pins s σ H Q I (i _ _ _ q)⟩
theorem pw_imp {X : Cx} {e : Expr} {t t' : L2.TT} (h : PW X e t) (i : ∀ σ H Q, t' σ H Q → t σ H Q) : PW X e t' := ⟨fun w pins s σ H Q I q => h.run w pins s σ H Q I (i _ _ _ q)⟩
theorem pa_imp {X : Cx} {e : List Expr} {t t' : L2.TA} (h : PA X e t) (i : ∀ σ H Q, t' σ H Q → t σ H Q) : PA X e t' := ⟨fun w pins s σ H Q I q => h.run w pins s σ H Q I (i _ _ _ q)⟩
theorem ps_imp {X : Cx} {e : Stmt} {t t' : L2.TS} (h : PS X e t) (i : ∀ D σ H, t' D σ H → t D σ H) : PS X e t' := ⟨fun pins s σ H D I q => h.run pins s σ H D I (i _ _ _ q)⟩
theorem pss_imp {X : Cx} {e : List Stmt} {t t' : L2.TS} (h : PSs X e t) (i : ∀ D σ H, t' D σ H → t D σ H) : PSs X e t' := ⟨fun pins s σ H D I q => h.run pins s σ H D I (i _ _ _ q)⟩

/-! ### names, constants, displays -/
section
variable {X : Cx} {W : WX} {pos : Pos}
def wVar (i : Nat) : WE := fun ρ h _ Q => ∃ v, ρ[i]? = some (some v) ∧ Q v h
def wC (v : Val) : WE := fun _ h _ Q => Q v h
theorem zv (i : Nat) {x : Str} {pos : Pos} (hN : X.N[i]? = some x := by rfl) (hv : Vis X.env.scope x := by first | exact Or.inl rfl | exact Or.inr (Or.inl rfl) | exact Or.inr (Or.inr rfl)) (hd : (x == ("__debug__" : Str)) = false := by decide)
    (hcd : (x == ("__classdict__" : Str)) = false := by decide) : ZE X W (.Name x pos) (wVar i) :=
  ⟨pe_imp (pe_var hN hv hd hcd) fun σ H Q ⟨S, F, ρ, h, E', Q', r, rl, ⟨v, e, q⟩, lq, _⟩ => by
    obtain ⟨w, e1, x1⟩ := rl.2 i v e
    exact ⟨w, e1, lq v h S w H q (Sub.refl S) r x1⟩⟩
theorem zc {e : Expr} {v : Val} {w : V} (hp : PE X e (tC w)) (hr : ∀ S, Rel X.K S v w) : ZE X W e (wC v) :=
  ⟨pe_imp hp fun σ H Q ⟨S, F, ρ, h, E', Q', r, rl, q, lq, _⟩ => lq v h S w H q (Sub.refl S) r (hr S)⟩
theorem zint {i j} : ZE X W (.Constant (.int i) j pos) (wC (.int i)) := zc pe_int fun _ => rel_int.mpr rfl
theorem zbl {i j} : ZE X W (.Constant (.bool i) j pos) (wC (.bl i)) := zc pe_bl fun _ => rel_bl.mpr rfl
theorem znon {j} : ZE X W (.Constant .none j pos) (wC .non) := zc pe_non fun _ => rel_non.mpr rfl
theorem zstr {i j} : ZE X W (.Constant (.str i) j pos) (wC (.str i)) := zc pe_str fun _ => rel_str.mpr rfl
/-- a module's constant -/
theorem zglob {x : Str} {v : Val} {w : V} {u : Value} (hg : Gl X x) (hm : X.mg x = some u) (r : RelV w u) (hr : ∀ S, Rel X.K S v w) (hd : (x == ("__debug__" : Str)) = false := by decide) : ZE X W (.Name x pos) (wC v) := zc (pe_glob hg hm r hd) hr

def wNil : WA := fun _ h _ Q => Q [] h
def wCons (ta : WE) (tr : WA) : WA := fun ρ h E Q => ta ρ h E fun x h1 => tr ρ h1 E fun xs h2 => Q (x :: xs) h2
theorem za_nil : ZA X W [] wNil := ⟨pa_imp pa_nil fun σ H Q ⟨S, F, ρ, h, E', Q', r, rl, q, lq, _⟩ => lq [] h S [] H q (Sub.refl S) r (rels_nil.mpr rfl)⟩
theorem za_cons {e : Expr} {es : List Expr} {ta : WE} {t : WA} (ha : ZE X W e ta) (hr : ZA X W es t) (hs : starEach (e :: es) X.env = (false, eval e X.env) :: starEach es X.env := by rfl) : ZA X W (e :: es) (wCons ta t) :=
  ⟨pa_imp (pa_cons ha.pe hr.pa hs) fun σ H Q ⟨S, F, ρ, h, E', Q', r, rl, q, lq, lx⟩ =>
    ⟨S, F, ρ, h, E', _, r, rl, q, fun x h1 S1 w H1 q1 s1 r1 x1 => ⟨S1, F, ρ, h1, E', _, r1, rl.mono s1, q1, fun xs h2 S2 ws H2 q2 s2 r2 x2 =>
      lq _ h2 S2 _ H2 q2 (s1.trans s2) r2 (rels_cons.mpr ⟨w, ws, rfl, Rel.mono s2 _ _ x1, x2⟩), lx.mono s1⟩, lx⟩⟩
def small (n : Nat) : Prop := n ≤ 16000000
theorem small.line {n : Nat} (h : small n) : n ≤ sizeLine := by
  have e := sizeLine_eq
  unfold small at h; omega
def wTup (t : WA) : WE := fun ρ h E Q => t ρ h E fun xs h1 => small xs.length ∧ Q (.tup xs) h1
/-- a new list: owned, or never changed again -/
def NewL (xs : List Val) (h : Hh) (Q : KQ) : Prop := (∀ a, h a = none → Q (.ref a) (hup h a (.lst xs))) ∨ Q (.lst xs) h
def wLst (t : WA) : WE := fun ρ h E Q => t ρ h E fun xs h1 => small xs.length ∧ NewL xs h1 Q
theorem newl {K : Fr} {S F H : Hp} {h : Hh} {xs : List Val} {ws : List V} {Q' : KQ} {Q : VK} {p : Addr} (r : R K S F H h) (x : Rels K S xs ws) (q : NewL xs h Q') (lq : LQ K S F Q' Q) (n : H p = none) : Q (.ref p) (upd H p (.lst ws)) := by
  rcases q with q | q
  · exact lq _ _ S _ _ (q p (r.fresh n)) (Sub.refl S) (r.owned n ⟨ws, rfl, x⟩) (rel_ref.mpr rfl)
  · obtain ⟨r2, s2⟩ := r.frozen (u := .lst ws) n
    exact lq _ _ _ _ _ q s2 r2 (rel_lst.mpr ⟨p, ws, rfl, upd_same, Rels.mono s2 _ _ x⟩)
theorem newt {K : Fr} {S F H : Hp} {h : Hh} {xs : List Val} {ws : List V} {Q' : KQ} {Q : VK} {p : Addr} (r : R K S F H h) (x : Rels K S xs ws) (q : Q' (.tup xs) h) (lq : LQ K S F Q' Q) (n : H p = none) : Q (.ref p) (upd H p (.tup ws)) := by
  obtain ⟨r2, s2⟩ := r.frozen (u := .tup ws) n
  exact lq _ _ _ _ _ q s2 r2 (rel_tup.mpr ⟨p, ws, rfl, upd_same, Rels.mono s2 _ _ x⟩)
theorem ztup {es : List Expr} {t : WA} {x1} (ha : ZA X W es t) : ZE X W (.Tuple es x1 pos) (wTup t) :=
  ⟨pe_imp (pe_tup ha.pa) fun σ H Q ⟨S, F, ρ, h, E', Q', r, rl, q, lq, lx⟩ =>
    ⟨S, F, ρ, h, E', _, r, rl, q, fun xs h1 S1 ws H1 q1 s1 r1 x1 => ⟨by rw [← x1.length]; exact q1.1.line, fun p n => newt r1 x1 q1.2 (lq.mono s1) n⟩, lx⟩⟩
theorem zlst {es : List Expr} {t : WA} (ha : ZA X W es t) : ZE X W (.List es pos) (wLst t) :=
  ⟨pe_imp (pe_lst ha.pa) fun σ H Q ⟨S, F, ρ, h, E', Q', r, rl, q, lq, lx⟩ =>
    ⟨S, F, ρ, h, E', _, r, rl, q, fun xs h1 S1 ws H1 q1 s1 r1 x1 => ⟨by rw [← x1.length]; exact q1.1.line, fun p n => newl r1 x1 q1.2 (lq.mono s1) n⟩, lx⟩⟩

/-! ### operators -/
abbrev W2 := Val → Val → Hh → KQ → Prop
def Snd2 (K : Fr) (r' : W2) (r : R2) : Prop := ∀ S F H h x y v w Q' Q, R K S F H h → Rel K S x v → Rel K S y w → r' x y h Q' → LQ K S F Q' Q → r v w H Q
def wOp (r : W2) (ta tb : WE) : WE := fun ρ h E Q => ta ρ h E fun x h1 => tb ρ h1 E fun y h2 => r x y h2 Q
theorem zop {a b : Expr} {ta tb : WE} {op : Operator} {r : R2} {r' : W2} (o : OpR X (binaryOp op) r) (s : Snd2 X.K r' r) (ha : ZE X W a ta) (hb : ZE X W b tb) : ZE X W (.BinOp a op b pos) (wOp r' ta tb) :=
  ⟨pe_imp (pe_op o ha.pe hb.pe) fun σ H Q ⟨S, F, ρ, h, E', Q', r, rl, q, lq, lx⟩ =>
    ⟨S, F, ρ, h, E', _, r, rl, q, fun x h1 S1 v H1 q1 s1 r1 x1 => ⟨S1, F, ρ, h1, E', _, r1, rl.mono s1, q1, fun y h2 S2 w H2 q2 s2 r2 x2 =>
      s S2 F H2 h2 x y v w _ Q r2 (Rel.mono s2 _ _ x1) x2 q2 ((lq.mono s1).mono s2), lx.mono s1⟩, lx⟩⟩
/-- two ints -/
def wI (C : Int → Int → Prop) (g : Int → Int → Val) : W2 := fun x y h Q => ∃ i j, x = .int i ∧ y = .int j ∧ C i j ∧ Q (g i j) h
def wI0 (g : Int → Int → Val) : W2 := fun x y h Q => ∃ i j, x = .int i ∧ y = .int j ∧ Q (g i j) h
theorem snd_I {K : Fr} {C : Int → Int → Prop} {g : Int → Int → Val} {g' : Int → Int → V} (hg : ∀ S i j, Rel K S (g i j) (g' i j)) : Snd2 K (wI C g) (rI C g') := fun S F H h x y v w Q' Q r rx ry q lq => by
  obtain ⟨i, j, rfl, rfl, c, q⟩ := q
  exact ⟨i, j, rel_int.mp rx, rel_int.mp ry, c, lq _ _ S _ _ q (Sub.refl S) r (hg S i j)⟩
theorem snd_I0 {K : Fr} {g : Int → Int → Val} {g' : Int → Int → V} (hg : ∀ S i j, Rel K S (g i j) (g' i j)) : Snd2 K (wI0 g) (rI0 g') := fun S F H h x y v w Q' Q r rx ry q lq => by
  obtain ⟨i, j, rfl, rfl, q⟩ := q
  exact ⟨i, j, rel_int.mp rx, rel_int.mp ry, lq _ _ S _ _ q (Sub.refl S) r (hg S i j)⟩
end
/-! Z3 -/
/-! tests, comparisons, subscripts, fields -/
section
variable {X : Cx} {W : WX} {pos : Pos}
/-! ### readings that fall through -/
/-! ### comparisons as values and as tests -/
theorem zcmp {a b : Expr} {ta tb : WE} {op : CmpOp} {r : R2} {r' : W2} (o : OpR X (compareOp op) r) (s : Snd2 X.K r' r) (ha : ZE X W a ta) (hb : ZE X W b tb) (h1 : behindInMarks op b = false) : ZE X W (.Compare a [op] [b] pos) (wOp r' ta tb) :=
  ⟨pe_imp (pe_cmpR o ha.pe hb.pe h1) fun σ H Q ⟨S, F, ρ, h, E', Q', r, rl, q, lq, lx⟩ =>
    ⟨S, F, ρ, h, E', _, r, rl, q, fun x h1 S1 v H1 q1 s1 r1 x1 => ⟨S1, F, ρ, h1, E', _, r1, rl.mono s1, q1, fun y h2 S2 w H2 q2 s2 r2 x2 =>
      s S2 F H2 h2 x y v w _ Q r2 (Rel.mono s2 _ _ x1) x2 q2 ((lq.mono s1).mono s2), lx.mono s1⟩, lx⟩⟩
/-- an expression that gives True or False, as a test -/
def wTv (t : WE) : WT := fun ρ h E Q => t ρ h E fun v h1 => ∃ c, v = .bl c ∧ Q c h1
theorem ztv {e : Expr} {t : WE} (h : ZE X W e t) (he : ∀ whole, isTrue e X.env whole = (do let v ← whole; standAt e.pos; holding [v] (truthy v)) := by intro _; rfl) : ZT X W e (wTv t) :=
  ⟨pt_imp (pt_val h.pe he) fun σ H Q ⟨S, F, ρ, h, E', Q', r, rl, q, lq, lx⟩ =>
    ⟨S, F, ρ, h, E', _, r, rl, q, fun x h1 S1 v H1 q1 s1 r1 x1 => by
      obtain ⟨c, rfl, q1⟩ := q1
      exact ⟨c, rel_bl.mp x1, lq _ _ _ _ q1 s1 r1⟩, lx⟩⟩
theorem ztc {a b : Expr} {ta tb : WE} {op : CmpOp} {r : R2} {r' : W2} (o : OpR X (compareOp op) r) (s : Snd2 X.K r' r) (ha : ZE X W a ta) (hb : ZE X W b tb) (h1 : behindInMarks op b = false) : ZT X W (.Compare a [op] [b] pos) (wTv (wOp r' ta tb)) :=
  ⟨pt_imp (pt_cmpR o ha.pe hb.pe h1) fun σ H Q ⟨S, F, ρ, h, E', Q', r, rl, q, lq, lx⟩ =>
    ⟨S, F, ρ, h, E', _, r, rl, q, fun x h1 S1 v H1 q1 s1 r1 x1 => ⟨S1, F, ρ, h1, E', _, r1, rl.mono s1, q1, fun y h2 S2 w H2 q2 s2 r2 x2 =>
      s S2 F H2 h2 x y v w _ _ r2 (Rel.mono s2 _ _ x1) x2 q2 fun z h3 S3 u H3 q3 s3 r3 x3 => by
        obtain ⟨c, rfl, q3⟩ := q3
        exact ⟨c, rel_bl.mp x3, lq _ _ _ _ q3 ((s1.trans s2).trans s3) r3⟩, lx.mono s1⟩, lx⟩⟩
def wNot (t : WT) : WT := fun ρ h E Q => t ρ h E fun b h1 => Q (!b) h1
theorem ztnot {a : Expr} {t : WT} (h : ZT X W a t) : ZT X W (.UnaryOp .Not a pos) (wNot t) :=
  ⟨pt_imp (pt_not h.pt) fun σ H Q ⟨S, F, ρ, h, E', Q', r, rl, q, lq, lx⟩ =>
    ⟨S, F, ρ, h, E', _, r, rl, q, fun b h1 S1 H1 q1 s1 r1 => lq _ _ _ _ q1 s1 r1, lx⟩⟩
def wAnd (t u : WT) : WT := fun ρ h E Q => t ρ h E fun c h1 => if c = true then u ρ h1 E Q else Q false h1
def wOr (t u : WT) : WT := fun ρ h E Q => t ρ h E fun c h1 => if c = true then Q true h1 else u ρ h1 E Q
theorem zw1 {op} {a : Expr} {t : WT} (h : ZT X W a t) : ZW X W (.BoolOp op [a] pos) t := ⟨by cases op with
  | And => exact pw_and1 h.pt
  | Or => exact pw_or1 h.pt⟩
theorem zwand {a b : Expr} {rest : List Expr} {t u : WT} (h : ZT X W a t) (h2 : ZW X W (.BoolOp .And (b :: rest) pos) u) : ZW X W (.BoolOp .And (a :: b :: rest) pos) (wAnd t u) :=
  ⟨pw_imp (pw_and h.pt h2.pw) fun σ H Q ⟨S, F, ρ, h, E', Q', r, rl, q, lq, lx⟩ =>
    ⟨S, F, ρ, h, E', _, r, rl, q, fun c h1 S1 H1 q1 s1 r1 => by
      cases c with
      | true => exact iteT ⟨S1, F, ρ, h1, E', Q', r1, rl.mono s1, q1, lq.mono s1, lx.mono s1⟩
      | false => exact iteF (lq _ _ _ _ q1 s1 r1), lx⟩⟩
theorem zwor {a b : Expr} {rest : List Expr} {t u : WT} (h : ZT X W a t) (h2 : ZW X W (.BoolOp .Or (b :: rest) pos) u) : ZW X W (.BoolOp .Or (a :: b :: rest) pos) (wOr t u) :=
  ⟨pw_imp (pw_or h.pt h2.pw) fun σ H Q ⟨S, F, ρ, h, E', Q', r, rl, q, lq, lx⟩ =>
    ⟨S, F, ρ, h, E', _, r, rl, q, fun c h1 S1 H1 q1 s1 r1 => by
      cases c with
      | true => exact iteT (lq _ _ _ _ q1 s1 r1)
      | false => exact iteF ⟨S1, F, ρ, h1, E', Q', r1, rl.mono s1, q1, lq.mono s1, lx.mono s1⟩, lx⟩⟩
theorem ztw {a : Expr} {t : WT} (h : ZW X W a t) : ZT X W a t := ⟨h.pw.pt⟩
/-- and, or, not of True, False as values -/
def wAndV (ta tb : WE) : WE := fun ρ h E Q => ta ρ h E fun x h1 => ∃ c, x = .bl c ∧ if c = true then tb ρ h1 E Q else Q (.bl false) h1
def wOrV (ta tb : WE) : WE := fun ρ h E Q => ta ρ h E fun x h1 => ∃ c, x = .bl c ∧ if c = true then Q (.bl true) h1 else tb ρ h1 E Q
def wNotV (ta : WE) : WE := fun ρ h E Q => ta ρ h E fun x h1 => ∃ c, x = .bl c ∧ Q (.bl (!c)) h1
theorem zone {op} {a : Expr} {t : WE} (h : ZE X W a t) : ZE X W (.BoolOp op [a] pos) t := ⟨pe_one h.pe⟩
theorem zand {a b : Expr} {rest : List Expr} {t u : WE} (h : ZE X W a t) (h2 : ZE X W (.BoolOp .And (b :: rest) pos) u) : ZE X W (.BoolOp .And (a :: b :: rest) pos) (wAndV t u) :=
  ⟨pe_imp (pe_and h.pe h2.pe) fun σ H Q ⟨S, F, ρ, h, E', Q', r, rl, q, lq, lx⟩ =>
    ⟨S, F, ρ, h, E', _, r, rl, q, fun x h1 S1 v H1 q1 s1 r1 x1 => by
      obtain ⟨c, rfl, q1⟩ := q1
      refine ⟨c, rel_bl.mp x1, ?_⟩
      cases c with
      | true => exact iteT ⟨S1, F, ρ, h1, E', Q', r1, rl.mono s1, q1, lq.mono s1, lx.mono s1⟩
      | false => exact iteF (lq _ _ _ _ _ q1 s1 r1 (rel_bl.mpr rfl)), lx⟩⟩
theorem zor {a b : Expr} {rest : List Expr} {t u : WE} (h : ZE X W a t) (h2 : ZE X W (.BoolOp .Or (b :: rest) pos) u) : ZE X W (.BoolOp .Or (a :: b :: rest) pos) (wOrV t u) :=
  ⟨pe_imp (pe_or h.pe h2.pe) fun σ H Q ⟨S, F, ρ, h, E', Q', r, rl, q, lq, lx⟩ =>
    ⟨S, F, ρ, h, E', _, r, rl, q, fun x h1 S1 v H1 q1 s1 r1 x1 => by
      obtain ⟨c, rfl, q1⟩ := q1
      refine ⟨c, rel_bl.mp x1, ?_⟩
      cases c with
      | true => exact iteT (lq _ _ _ _ _ q1 s1 r1 (rel_bl.mpr rfl))
      | false => exact iteF ⟨S1, F, ρ, h1, E', Q', r1, rl.mono s1, q1, lq.mono s1, lx.mono s1⟩, lx⟩⟩
theorem znot {a : Expr} {t : WE} (h : ZE X W a t) : ZE X W (.UnaryOp .Not a pos) (wNotV t) :=
  ⟨pe_imp (pe_not h.pe) fun σ H Q ⟨S, F, ρ, h, E', Q', r, rl, q, lq, lx⟩ =>
    ⟨S, F, ρ, h, E', _, r, rl, q, fun x h1 S1 v H1 q1 s1 r1 x1 => by
      obtain ⟨c, rfl, q1⟩ := q1
      exact ⟨c, rel_bl.mp x1, lq _ _ _ _ _ q1 s1 r1 (rel_bl.mpr rfl)⟩, lx⟩⟩
def wIfE (c : WT) (ta tb : WE) : WE := fun ρ h E Q => c ρ h E fun b h1 => if b = true then ta ρ h1 E Q else tb ρ h1 E Q
/-- a < b < c -/
def wChain (r r' : W2) (ta tb tc : WE) : WE := fun ρ h E Q => ta ρ h E fun x h1 => tb ρ h1 E fun y h2 => r x y h2 fun z h3 => ∃ k, z = .bl k ∧ if k = true then tc ρ h3 E fun u h4 => r' y u h4 Q else Q (.bl false) h3
theorem zchain {a b c : Expr} {ta tb tc : WE} {op op' : CmpOp} {r r' : R2} {s s' : W2} (o : OpR X (compareOp op) r) (o' : OpR X (compareOp op') r') (q : Snd2 X.K s r) (q' : Snd2 X.K s' r') (ha : ZE X W a ta) (hb : ZE X W b tb) (hc : ZE X W c tc)
    (hl : lastMarks [op, op'] [b, c] = false := by rfl) : ZE X W (.Compare a [op, op'] [b, c] pos) (wChain s s' ta tb tc) :=
  ⟨pe_imp (pe_chain o o' ha.pe hb.pe hc.pe hl) fun σ H Q ⟨S, F, ρ, h, E', Q', r0, rl, p, lq, lx⟩ =>
    ⟨S, F, ρ, h, E', _, r0, rl, p, fun x h1 S1 v H1 q1 s1 r1 x1 => ⟨S1, F, ρ, h1, E', _, r1, rl.mono s1, q1, fun y h2 S2 w H2 q2 s2 r2 x2 =>
      q S2 F H2 h2 x y v w _ _ r2 (Rel.mono s2 _ _ x1) x2 q2 fun z h3 S3 u H3 q3 s3 r3 x3 => by
        obtain ⟨k, rfl, q3⟩ := q3
        refine ⟨k, rel_bl.mp x3, ?_⟩
        cases k with
        | true => exact iteT ⟨S3, F, ρ, h3, E', _, r3, ((rl.mono s1).mono s2).mono s3, iteT' q3, fun z4 h4 S4 w4 H4 q4 s4 r4 x4 =>
            q' S4 F H4 h4 y z4 w w4 _ Q r4 (Rel.mono (s3.trans s4) _ _ x2) x4 q4 ((((lq.mono s1).mono s2).mono s3).mono s4), ((lx.mono s1).mono s2).mono s3⟩
        | false => exact iteF (lq _ _ _ _ _ (iteF' q3) ((s1.trans s2).trans s3) r3 (rel_bl.mpr rfl)), lx.mono s1⟩, lx⟩⟩
where
  iteT' {A B : Prop} (h : if true = true then A else B) : A := by rw [if_pos rfl] at h; exact h
  iteF' {A B : Prop} (h : if false = true then A else B) : B := by rw [if_neg Bool.false_ne_true] at h; exact h

/-! ### the operators -/
def wAdd : W2 := wI0 fun i j => .int (i + j)
def wSub : W2 := wI0 fun i j => .int (i - j)
def wMul : W2 := wI CMul fun i j => .int (i * j)
def wMod : W2 := wI (fun _ j => 0 < j) fun i j => .int (i % j)
def wDivW : W2 := wI CDivW fun i j => .int (i / j)
def wPow : W2 := wI CPow fun i j => .int (i ^ j.toNat)
theorem s_add {K : Fr} : Snd2 K wAdd (rI0 fun i j => .int (i + j)) := snd_I0 fun _ _ _ => rel_int.mpr rfl
theorem s_sub {K : Fr} : Snd2 K wSub (rI0 fun i j => .int (i - j)) := snd_I0 fun _ _ _ => rel_int.mpr rfl
theorem s_mul {K : Fr} : Snd2 K wMul (rI CMul fun i j => .int (i * j)) := snd_I fun _ _ _ => rel_int.mpr rfl
theorem s_mod {K : Fr} : Snd2 K wMod (rI (fun _ j => 0 < j) fun i j => .int (i % j)) := snd_I fun _ _ _ => rel_int.mpr rfl
theorem s_divW {K : Fr} : Snd2 K wDivW (rI CDivW fun i j => .int (i / j)) := snd_I fun _ _ _ => rel_int.mpr rfl
theorem s_pow {K : Fr} : Snd2 K wPow (rI CPow fun i j => .int (i ^ j.toNat)) := snd_I fun _ _ _ => rel_int.mpr rfl
def wLt : W2 := wI0 fun i j => .bl (decide (i < j))
def wLe : W2 := wI0 fun i j => .bl (decide (i ≤ j))
def wGt : W2 := wI0 fun i j => .bl (decide (j < i))
def wGe : W2 := wI0 fun i j => .bl (decide (j ≤ i))
theorem s_lt {K : Fr} : Snd2 K wLt (rI0 fun i j => .bl (decide (i < j))) := snd_I0 fun _ _ _ => rel_bl.mpr rfl
theorem s_le {K : Fr} : Snd2 K wLe (rI0 fun i j => .bl (decide (i ≤ j))) := snd_I0 fun _ _ _ => rel_bl.mpr rfl
theorem s_gt {K : Fr} : Snd2 K wGt (rI0 fun i j => .bl (decide (j < i))) := snd_I0 fun _ _ _ => rel_bl.mpr rfl
theorem s_ge {K : Fr} : Snd2 K wGe (rI0 fun i j => .bl (decide (j ≤ i))) := snd_I0 fun _ _ _ => rel_bl.mpr rfl
/-- scalars: == -/
def scalar : Val → Val → Bool
  | .non, .non => true | .non, .int _ => true | .int _, .non => true | .non, .bl _ => true | .bl _, .non => true | .non, .str _ => true | .str _, .non => true
  | .int _, .int _ => true | .bl _, .bl _ => true | .str _, .str _ => true
  | .int _, .str _ => true | .str _, .int _ => true | .bl _, .str _ => true | .str _, .bl _ => true
  | _, _ => false
def seqv : Val → Val → Bool
  | .int i, .int j => decide (i = j)
  | .str x, .str y => decide (x = y)
  | .bl a, .bl b => decide (a = b)
  | .non, .non => true
  | _, _ => false
def wEqS : W2 := fun x y h Q => scalar x y = true ∧ Q (.bl (seqv x y)) h
def wNeS : W2 := fun x y h Q => scalar x y = true ∧ Q (.bl (!seqv x y)) h
theorem scalar_rel {K : Fr} {S : Hp} {x y : Val} {v w : V} (rx : Rel K S x v) (ry : Rel K S y w) (h : scalar x y = true) : scal v w = true ∧ decide (v = w) = seqv x y := by
  cases x <;> cases y <;> first | (simp [scalar] at h; done) | skip
  all_goals
    (first | rw [rel_non] at rx | rw [rel_int] at rx | rw [rel_str] at rx | rw [rel_bl] at rx)
    (first | rw [rel_non] at ry | rw [rel_int] at ry | rw [rel_str] at ry | rw [rel_bl] at ry)
    subst rx ry
    exact ⟨rfl, by simp [seqv]⟩
theorem s_eqS {K : Fr} : Snd2 K wEqS rEq := fun S F H h x y v w Q' Q r rx ry q lq => by
  obtain ⟨a, b⟩ := scalar_rel rx ry q.1
  exact ⟨a, by rw [b]; exact lq _ _ S _ _ q.2 (Sub.refl S) r (rel_bl.mpr rfl)⟩
theorem s_neS {K : Fr} : Snd2 K wNeS rNe := fun S F H h x y v w Q' Q r rx ry q lq => by
  obtain ⟨a, b⟩ := scalar_rel rx ry q.1
  exact ⟨a, by rw [b]; exact lq _ _ S _ _ q.2 (Sub.refl S) r (rel_bl.mpr rfl)⟩
/-! ### data of any depth -/
mutual
inductive Dv (h : Hh) : Val → PyData → Prop
  | non : Dv h .non .none
  | bl (b : Bool) : Dv h (.bl b) (.bool b)
  | int (i : Int) : Dv h (.int i) (.int i)
  | str (x : Str) : Dv h (.str x) (.str x)
  | lst {xs : List Val} {ds : List PyData} : Dvs h xs ds → Dv h (.lst xs) (.list ds)
  | scr {xs : List Val} {ds : List PyData} : Dvs h xs ds → Dv h (.scr xs) (.list ds)
  | tup {xs : List Val} {ds : List PyData} : Dvs h xs ds → Dv h (.tup xs) (.tuple ds)
  | ref {a : Addr} {xs : List Val} {ds : List PyData} : h a = some (.lst xs) → Dvs h xs ds → Dv h (.ref a) (.list ds)
inductive Dvs (h : Hh) : List Val → List PyData → Prop
  | nil : Dvs h [] []
  | cons {v : Val} {vs : List Val} {d : PyData} {ds : List PyData} : Dv h v d → Dvs h vs ds → Dvs h (v :: vs) (d :: ds)
end
mutual
theorem Dv.dp {K : Fr} {S F H : Hp} {h : Hh} (r : R K S F H h) : ∀ (d : PyData) (x : Val) (v : V), Dv h x d → Rel K S x v → Dp K H v d
  | .none, _, _, q, x => by cases q; rw [rel_non] at x; subst x; exact .non
  | .bool b, _, _, q, x => by cases q; rw [rel_bl] at x; subst x; exact .bl b
  | .int i, _, _, q, x => by cases q; rw [rel_int] at x; subst x; exact .int i
  | .str i, _, _, q, x => by cases q; rw [rel_str] at x; subst x; exact .str i
  | .list ds, _, _, q, x => by
    cases q with
    | lst q =>
      rw [rel_lst] at x
      obtain ⟨a, ws, rfl, h1, h2⟩ := x
      exact .lst (.of (r.sub _ _ h1)) (Dvs.dp r ds _ _ q h2)
    | scr q =>
      rw [rel_scr] at x
      obtain ⟨a, ws, rfl, h1, h2⟩ := x
      exact .lst (r.sub.seqL h1) (Dvs.dp r ds _ _ q h2)
    | ref e q =>
      rw [rel_ref] at x
      subst x
      obtain ⟨_, u, h1, ws, rfl, h2⟩ := r.own _ _ e
      exact .lst (.of h1) (Dvs.dp r ds _ _ q h2)
  | .tuple ds, _, _, q, x => by
    cases q with
    | tup q =>
      rw [rel_tup] at x
      obtain ⟨a, ws, rfl, h1, h2⟩ := x
      exact .tup (.of (r.sub _ _ h1)) (Dvs.dp r ds _ _ q h2)
  | .dict _, _, _, q, _ => by cases q
theorem Dvs.dp {K : Fr} {S F H : Hp} {h : Hh} (r : R K S F H h) : ∀ (ds : List PyData) (xs : List Val) (vs : List V), Dvs h xs ds → Rels K S xs vs → DpAll K H vs ds
  | [], _, _, q, x => by cases q; rw [rels_nil] at x; subst x; exact .nil
  | d :: ds, _, _, q, x => by
    cases q with
    | cons q1 q2 =>
      rw [rels_cons] at x
      obtain ⟨w, r', rfl, h1, h2⟩ := x
      exact .cons (Dv.dp r d _ _ q1 h1) (Dvs.dp r ds _ _ q2 h2)
end
def wEqD : W2 := fun x y h Q => ∃ d e, Dv h x d ∧ Dv h y e ∧ SeqAt.shaped d = true ∧ SeqAt.shaped e = true ∧ Q (.bl (PyData.eqv d e)) h
def wNeD : W2 := fun x y h Q => ∃ d e, Dv h x d ∧ Dv h y e ∧ SeqAt.shaped d = true ∧ SeqAt.shaped e = true ∧ Q (.bl (!PyData.eqv d e)) h
theorem s_eqD {K : Fr} : Snd2 K wEqD (rEqD K) := fun S F H h x y v w Q' Q r rx ry q lq => by
  obtain ⟨d, e, h1, h2, h3, h4, q⟩ := q
  exact ⟨d, e, h1.dp r _ _ _ rx, h2.dp r _ _ _ ry, h3, h4, lq _ _ S _ _ q (Sub.refl S) r (rel_bl.mpr rfl)⟩
theorem s_neD {K : Fr} : Snd2 K wNeD (rNeD K) := fun S F H h x y v w Q' Q r rx ry q lq => by
  obtain ⟨d, e, h1, h2, h3, h4, q⟩ := q
  exact ⟨d, e, h1.dp r _ _ _ rx, h2.dp r _ _ _ ry, h3, h4, lq _ _ S _ _ q (Sub.refl S) r (rel_bl.mpr rfl)⟩
/-- x in xs, xs a list -/
def wInD : W2 := fun x y h Q => ∃ d ds, Dv h x d ∧ Dv h y (.list ds) ∧ SeqAt.shaped d = true ∧ SeqAt.shaped (.list ds) = true ∧ Q (.bl (ds.any fun z => PyData.eqv z d)) h
def wNotInD : W2 := fun x y h Q => ∃ d ds, Dv h x d ∧ Dv h y (.list ds) ∧ SeqAt.shaped d = true ∧ SeqAt.shaped (.list ds) = true ∧ Q (.bl (!ds.any fun z => PyData.eqv z d)) h
theorem s_inD {K : Fr} : Snd2 K wInD (rInD K) := fun S F H h x y v w Q' Q r rx ry q lq => by
  obtain ⟨d, e, h1, h2, h3, h4, q⟩ := q
  exact ⟨d, e, h1.dp r _ _ _ rx, h2.dp r _ _ _ ry, h3, h4, lq _ _ S _ _ q (Sub.refl S) r (rel_bl.mpr rfl)⟩
theorem s_notInD {K : Fr} : Snd2 K wNotInD (rNotInD K) := fun S F H h x y v w Q' Q r rx ry q lq => by
  obtain ⟨d, e, h1, h2, h3, h4, q⟩ := q
  exact ⟨d, e, h1.dp r _ _ _ rx, h2.dp r _ _ _ ry, h3, h4, lq _ _ S _ _ q (Sub.refl S) r (rel_bl.mpr rfl)⟩
/-- what a list or a tuple holds -/
inductive Seqq (h : Hh) : Val → List Val → Prop
  | lst (xs) : Seqq h (.lst xs) xs
  | scr (xs) : Seqq h (.scr xs) xs
  | ref {a xs} : h a = some (.lst xs) → Seqq h (.ref a) xs
theorem Seqq.l {K : Fr} {S F H : Hp} {h : Hh} {x : Val} {xs : List Val} {v : V} (q : Seqq h x xs) (r : R K S F H h) (x : Rel K S x v) : ∃ a ws, v = .ref a ∧ SqL K H a ws ∧ Rels K S xs ws := by
  cases q with
  | lst => rw [rel_lst] at x; obtain ⟨a, ws, e, h1, h2⟩ := x; exact ⟨a, ws, e, .of (r.sub _ _ h1), h2⟩
  | scr => rw [rel_scr] at x; obtain ⟨a, ws, e, h1, h2⟩ := x; exact ⟨a, ws, e, r.sub.seqL h1, h2⟩
  | ref e =>
    rw [rel_ref] at x
    obtain ⟨_, u, h1, ws, rfl, h2⟩ := r.own _ _ e
    exact ⟨_, ws, x, .of h1, h2⟩
theorem rel_tupH {K : Fr} {S F H : Hp} {h : Hh} {xs : List Val} {v : V} (r : R K S F H h) (x : Rel K S (.tup xs) v) : ∃ a ws, v = .ref a ∧ SqT K H a ws ∧ Rels K S xs ws := by
  rw [rel_tup] at x; obtain ⟨a, ws, e, h1, h2⟩ := x; exact ⟨a, ws, e, .of (r.sub _ _ h1), h2⟩
/-- x in t (texts, ints, bools, None in a list or tuple of such) -/
def flat : Val → Bool
  | .non => true | .bl _ => true | .int _ => true | .str _ => true | _ => false
theorem rels_atI {K : Fr} {S : Hp} {xs : List Val} {ws : List V} {i : Int} {v : Val} (x : Rels K S xs ws) (e : L2.atI xs i = some v) : ∃ w, L2.atI ws i = some w ∧ Rel K S v w := by
  unfold L2.atI at e ⊢
  rw [← x.length]
  cases q : L2.ixN xs.length i with
  | none => rw [q] at e; cases e
  | some j =>
    rw [q] at e
    exact x.get (show xs[j]? = some v from e)
/-! ### subscripts -/
def wIxL : W2 := fun x y h Q => ∃ xs i v, Seqq h x xs ∧ y = .int i ∧ L2.atI xs i = some v ∧ Q v h
def wIxT : W2 := fun x y h Q => ∃ xs i v, x = .tup xs ∧ y = .int i ∧ L2.atI xs i = some v ∧ Q v h
def wIxS : W2 := fun x y h Q => ∃ z i c, x = .str z ∧ y = .int i ∧ z.length ≤ sizeLine ∧ L2.atI z.cps.toList i = some c ∧ Q (.str ⟨#[c]⟩) h
theorem s_ixL {K : Fr} : Snd2 K wIxL (rIxL K) := fun S F H h x y v w Q' Q r rx ry q lq => by
  obtain ⟨xs, i, v, h1, rfl, h3, q⟩ := q
  obtain ⟨a, ws, e, g1, g2⟩ := h1.l r rx
  obtain ⟨u, g3, g4⟩ := rels_atI g2 h3
  exact ⟨a, ws, i, u, e, rel_int.mp ry, g1, g3, lq _ _ S _ _ q (Sub.refl S) r g4⟩
theorem s_ixT {K : Fr} : Snd2 K wIxT (rIxT K) := fun S F H h x y v w Q' Q r rx ry q lq => by
  obtain ⟨xs, i, v, rfl, rfl, h3, q⟩ := q
  obtain ⟨a, ws, e, g1, g2⟩ := rel_tupH r rx
  obtain ⟨u, g3, g4⟩ := rels_atI g2 h3
  exact ⟨a, ws, i, u, e, rel_int.mp ry, g1, g3, lq _ _ S _ _ q (Sub.refl S) r g4⟩
theorem s_ixS {K : Fr} : Snd2 K wIxS rIxS := fun S F H h x y v w Q' Q r rx ry q lq => by
  obtain ⟨z, i, c, rfl, rfl, h2, h3, q⟩ := q
  exact ⟨z, i, c, rel_str.mp rx, rel_int.mp ry, h2, h3, lq _ _ S _ _ q (Sub.refl S) r (rel_str.mpr rfl)⟩
theorem zix {a b : Expr} {ta tb : WE} {r : R2} {r' : W2} (o : IxR X r) (s : Snd2 X.K r' r) (ha : ZE X W a ta) (hb : ZE X W b tb) (hi : PlainIx b) : ZE X W (.Subscript a b pos) (wOp r' ta tb) :=
  ⟨pe_imp (pe_ix o ha.pe hb.pe hi) fun σ H Q ⟨S, F, ρ, h, E', Q', r, rl, q, lq, lx⟩ =>
    ⟨S, F, ρ, h, E', _, r, rl, q, fun x h1 S1 v H1 q1 s1 r1 x1 => ⟨S1, F, ρ, h1, E', _, r1, rl.mono s1, q1, fun y h2 S2 w H2 q2 s2 r2 x2 =>
      s S2 F H2 h2 x y v w _ Q r2 (Rel.mono s2 _ _ x1) x2 q2 ((lq.mono s1).mono s2), lx.mono s1⟩, lx⟩⟩
/-! ### None -/
def isNon : Val → Bool
  | .non => true
  | _ => false
def wIsN (ta : WE) : WE := fun ρ h E Q => ta ρ h E fun x h1 => Q (.bl (isNon x)) h1
def wNotN (ta : WE) : WE := fun ρ h E Q => ta ρ h E fun x h1 => Q (.bl (!isNon x)) h1
theorem non_dec {K : Fr} {S : Hp} {x : Val} {v : V} (h : Rel K S x v) : decide (v = .non) = isNon x := by
  cases x with
  | non => rw [rel_non] at h; subst h; rfl
  | bl _ => rw [rel_bl] at h; subst h; rfl
  | int _ => rw [rel_int] at h; subst h; rfl
  | str _ => rw [rel_str] at h; subst h; rfl
  | ref _ => rw [rel_ref] at h; subst h; rfl
  | ty _ => rw [rel_ty] at h; subst h; rfl
  | exc _ _ _ => rw [rel_exc] at h; obtain ⟨rfl, _⟩ := h; rfl
  | err _ _ _ _ => rw [rel_err] at h; obtain ⟨rfl, _⟩ := h; rfl
  | tup _ => rw [rel_tup] at h; obtain ⟨_, _, rfl, _⟩ := h; rfl
  | lst _ => rw [rel_lst] at h; obtain ⟨_, _, rfl, _⟩ := h; rfl
  | scr _ => rw [rel_scr] at h; obtain ⟨_, _, rfl, _⟩ := h; rfl
  | obj _ _ => rw [rel_obj] at h; obtain ⟨_, _, _, rfl, _⟩ := h; rfl
theorem zisN {a : Expr} {ta : WE} {j pos'} (ha : ZE X W a ta) : ZE X W (.Compare a [.Is] [.Constant .none j pos'] pos) (wIsN ta) :=
  ⟨pe_imp (pe_cmp (pc_isN ha.pe) rfl) fun σ H Q ⟨S, F, ρ, h, E', Q', r, rl, q, lq, lx⟩ =>
    ⟨S, F, ρ, h, E', _, r, rl, q, fun x h1 S1 v H1 q1 s1 r1 x1 => by show Q (V.bl (decide (v = V.non))) H1; rw [non_dec x1]; exact lq _ _ _ _ _ q1 s1 r1 (rel_bl.mpr rfl), lx⟩⟩
theorem ztisN {a : Expr} {ta : WE} {j pos'} (ha : ZE X W a ta) (h1 : behindInMarks .Is (.Constant .none j pos') = false := by rfl) : ZT X W (.Compare a [.Is] [.Constant .none j pos'] pos) (wTv (wIsN ta)) :=
  ⟨pt_imp (pt_cmpR op_isN ha.pe pe_non h1) fun σ H Q ⟨S, F, ρ, h, E', Q', r, rl, q, lq, lx⟩ =>
    ⟨S, F, ρ, h, E', _, r, rl, q, fun x h1 S1 v H1 q1 s1 r1 x1 => ⟨rfl, decide (v = V.non), rfl, by
      obtain ⟨c, e, q2⟩ := q1
      rw [non_dec x1]
      cases e
      exact lq _ _ _ _ q2 s1 r1⟩, lx⟩⟩
theorem ztnotN {a : Expr} {ta : WE} {j pos'} (ha : ZE X W a ta) (h1 : behindInMarks .IsNot (.Constant .none j pos') = false := by rfl) : ZT X W (.Compare a [.IsNot] [.Constant .none j pos'] pos) (wTv (wNotN ta)) :=
  ⟨pt_imp (pt_cmpR op_notN ha.pe pe_non h1) fun σ H Q ⟨S, F, ρ, h, E', Q', r, rl, q, lq, lx⟩ =>
    ⟨S, F, ρ, h, E', _, r, rl, q, fun x h1 S1 v H1 q1 s1 r1 x1 => ⟨rfl, !decide (v = V.non), rfl, by
      obtain ⟨c, e, q2⟩ := q1
      rw [non_dec x1]
      cases e
      exact lq _ _ _ _ q2 s1 r1⟩, lx⟩⟩
/-! ### slices -/
abbrev WO := Ev → Hh → XQ → (Option Int → Hh → Prop) → Prop
structure ZO (X : Cx) (W : WX) (e : Option Expr) (t : WO) : Prop where
  po : PO X e (fun σ H Q => ∃ S F ρ h E' Q', R X.K S F H h ∧ Rls X.K S ρ σ ∧ t ρ h E' Q' ∧ (∀ v h' S' H', Q' v h' → Sub S S' → R X.K S' F H' h' → Q v H') ∧ LX X.K S F E' W σ)
theorem po_imp {X : Cx} {e : Option Expr} {t t' : TO} (h : PO X e t) (i : ∀ σ H Q, t' σ H Q → t σ H Q) : PO X e t' := ⟨fun pins s σ H Q I q => h.run pins s σ H Q I (i _ _ _ q)⟩
def wNoPart : WO := fun _ h _ Q => Q none h
def wPart (t : WE) : WO := fun ρ h E Q => t ρ h E fun x h1 => ∃ i, x = .int i ∧ Q (some i) h1
theorem zo_none : ZO X W none wNoPart := ⟨po_imp po_none fun σ H Q ⟨S, F, ρ, h, E', Q', r, rl, q, lq, lx⟩ => lq _ _ _ _ q (Sub.refl S) r⟩
theorem zo_some {e : Expr} {te : WE} (h : ZE X W e te) : ZO X W (some e) (wPart te) := ⟨po_imp (po_some h.pe) fun σ H Q ⟨S, F, ρ, h, E', Q', r, rl, q, lq, lx⟩ =>
  ⟨S, F, ρ, h, E', _, r, rl, q, fun x h1 S1 v H1 q1 s1 r1 x1 => by
    obtain ⟨i, rfl, q1⟩ := q1
    exact ⟨i, rel_int.mp x1, lq _ _ _ _ q1 s1 r1⟩, lx⟩⟩
abbrev W3 := Val → Option Int → Option Int → Hh → KQ → Prop
def Snd3 (K : Fr) (r' : W3) (r : V → Option Int → Option Int → Hp → VK → Prop) : Prop := ∀ S F H h x v lo hi Q' Q, R K S F H h → Rel K S x v → r' x lo hi h Q' → LQ K S F Q' Q → r v lo hi H Q
def wSl (r : W3) (te : WE) (tl th : WO) : WE := fun ρ h E Q => te ρ h E fun x h1 => tl ρ h1 E fun l h2 => th ρ h2 E fun u h3 => r x l u h3 Q
theorem zslice {e : Expr} {te : WE} {lo hi : Option Expr} {tl th : WO} {p2 : Pos} {r : V → Option Int → Option Int → Hp → VK → Prop} {r' : W3} (o : SlR X r) (s : Snd3 X.K r' r) (he : ZE X W e te) (hl : ZO X W lo tl) (hh : ZO X W hi th) :
    ZE X W (.Subscript e (.Slice lo hi none p2) pos) (wSl r' te tl th) :=
  ⟨pe_imp (pe_slice o he.pe hl.po hh.po) fun σ H Q ⟨S, F, ρ, h, E', Q', r, rl, q, lq, lx⟩ =>
    ⟨S, F, ρ, h, E', _, r, rl, q, fun x h1 S1 v H1 q1 s1 r1 x1 => ⟨S1, F, ρ, h1, E', _, r1, rl.mono s1, q1, fun l h2 S2 H2 q2 s2 r2 =>
      ⟨S2, F, ρ, h2, E', _, r2, (rl.mono s1).mono s2, q2, fun u h3 S3 H3 q3 s3 r3 => s S3 F H3 h3 x v l u _ Q r3 (Rel.mono (s2.trans s3) _ _ x1) q3 (((lq.mono s1).mono s2).mono s3), (lx.mono s1).mono s2⟩, lx.mono s1⟩, lx⟩⟩
def cut {α : Type} (xs : List α) (lo hi : Option Int) : List α := (xs.drop (HT.sIx xs.length 0 lo)).take (HT.sIx xs.length xs.length hi - HT.sIx xs.length 0 lo)
def wSlL : W3 := fun x lo hi h Q => ∃ xs, Seqq h x xs ∧ NewL (cut xs lo hi) h Q
theorem s_slL {K : Fr} : Snd3 K wSlL (rSlL K) := fun S F H h x v lo hi Q' Q r rx q lq => by
  obtain ⟨xs, h1, q⟩ := q
  obtain ⟨a, ws, e, g1, g2⟩ := h1.l r rx
  refine ⟨a, ws, e, g1, fun p n => newl r ?_ q lq n⟩
  have e2 : cutV ws lo hi = cut ws lo hi := rfl
  rw [e2]
  unfold cut
  rw [g2.length]
  exact (g2.drop _).take _
end
/-! Z4 -/
/-! fields, statements, targets, loops, comprehensions -/
section
variable {X : Cx} {W : WX} {pos : Pos}
/-! ### fields -/
inductive Ins (h : Hh) : Val → Addr → List (Str × Val) → Prop
  | obj (C fs) : Ins h (.obj C fs) C fs
  | ref {a C fs} : h a = some (.ins C fs) → Ins h (.ref a) C fs
theorem Ins.l {K : Fr} {S F H : Hp} {h : Hh} {x : Val} {C : Addr} {fs : List (Str × Val)} {v : V} (q : Ins h x C fs) (r : R K S F H h) (x : Rel K S x v) : ∃ a dx gs, v = .ref a ∧ H a = some (.ins C dx gs) ∧ RelF K S fs gs := by
  cases q with
  | obj => rw [rel_obj] at x; obtain ⟨a, dx, gs, e, h1, h2⟩ := x; exact ⟨a, dx, gs, e, r.sub _ _ h1, h2⟩
  | ref e =>
    rw [rel_ref] at x
    obtain ⟨_, u, h1, dx, gs, rfl, h2⟩ := r.own _ _ e
    exact ⟨_, dx, gs, x, h1, h2⟩
def wFld (C : Addr) (ta : WE) (f : Str) : WE := fun ρ h E Q => ta ρ h E fun x h1 => ∃ fs v, Ins h1 x C fs ∧ fs.lookup f = some v ∧ Q v h1
theorem zfld {e : Expr} {f : Str} {ta : WE} {C : Addr} (c : Cls X.K C) (n : NoAttr X.K C f) (he : ZE X W e ta) (hb : attributeBase e f X.env (eval e X.env) = eval e X.env := by rfl) : ZE X W (.Attribute e f pos) (wFld C ta f) :=
  ⟨pe_imp (pe_fld he.pe hb) fun σ H Q ⟨S, F, ρ, h, E', Q', r, rl, q, lq, lx⟩ =>
    ⟨S, F, ρ, h, E', _, r, rl, q, fun x h1 S1 v H1 q1 s1 r1 x1 => by
      obtain ⟨fs, y, q2, q3, q4⟩ := q1
      obtain ⟨a, dx, gs, e1, e2, e3⟩ := q2.l r1 x1
      obtain ⟨u, e4, e5⟩ := e3.lookup q3
      exact ⟨a, C, dx, gs, u, e1, e2, c, n, e4, lq _ _ _ _ _ q4 s1 r1 e5⟩, lx⟩⟩
theorem relf_put {K : Fr} {S : Hp} {f : Str} {v : Val} {w : V} (x : Rel K S v w) : ∀ {fs : List (Str × Val)} {gs : List (Str × V)}, RelF K S fs gs → RelF K S (putv f v fs) (putF f w gs)
  | [], _, h => by rw [relf_nil] at h; subst h; exact relf_cons.mpr ⟨w, [], rfl, x, relf_nil.mpr rfl⟩
  | (n, y) :: fs, _, h => by
    rw [relf_cons] at h; obtain ⟨u, r, rfl, h1, h2⟩ := h
    unfold putv putF
    by_cases e : n = f
    · rw [if_pos e, if_pos e]; exact relf_cons.mpr ⟨w, r, rfl, x, h2⟩
    · rw [if_neg e, if_neg e]; exact relf_cons.mpr ⟨u, _, rfl, h1, relf_put x h2⟩
/-! ### statements -/
def atx (xe : XS) (ρ : Ev) : XQ := fun C v h => xe C v ρ h
def wNext : WS := fun nx _ _ _ _ ρ h => nx ρ h
def wSeq (t u : WS) : WS := fun nx rt bk ct xe ρ h => t (u nx rt bk ct xe) rt bk ct xe ρ h
theorem zb_nil : ZB X W [] wNext := ⟨pss_imp pss_nil fun D σ H ⟨S, F, ρ, h, nx, rt, bk, ct, xe, r, rl, q, ln, lr, lb, lc, lx⟩ => ln _ _ _ _ _ q (Sub.refl S) r rl⟩
theorem zb_cons {st : Stmt} {rest : List Stmt} {t u : WS} (h1 : ZS X W st t) (h2 : ZB X W rest u) : ZB X W (st :: rest) (wSeq t u) :=
  ⟨pss_imp (pss_cons h1.ps h2.pss) fun D σ H ⟨S, F, ρ, h, nx, rt, bk, ct, xe, r, rl, q, ln, lr, lb, lc, lx⟩ =>
    ⟨S, F, ρ, h, _, rt, bk, ct, xe, r, rl, q, fun ρ1 h1 S1 σ1 H1 q1 s1 r1 rl1 => ⟨S1, F, ρ1, h1, nx, rt, bk, ct, xe, r1, rl1, q1, ln.mono s1, lr.mono s1, lb.mono s1, lc.mono s1, lx.mono s1⟩, lr, lb, lc, lx⟩⟩
theorem zb_one {st : Stmt} {t : WS} (h1 : ZS X W st t) : ZB X W [st] t := ⟨pss_one h1.ps⟩
def wExpr (te : WE) : WS := fun nx _ _ _ xe ρ h => te ρ h (atx xe ρ) fun _ h1 => nx ρ h1
theorem zs_expr {e : Expr} {te : WE} (he : ZE X W e te) (hs : swapsWith e none pos.line X.env = pure false := by rfl) : ZS X W (.Expr e pos) (wExpr te) :=
  ⟨ps_imp (ps_expr he.pe hs) fun D σ H ⟨S, F, ρ, h, nx, rt, bk, ct, xe, r, rl, q, ln, lr, lb, lc, lx⟩ =>
    ⟨S, F, ρ, h, _, _, r, rl, q, fun x h1 S1 v H1 q1 s1 r1 x1 => ln _ _ _ _ _ q1 s1 r1 (rl.mono s1), lx.at rl⟩⟩
def wRet (te : WE) : WS := fun _ rt _ _ xe ρ h => te ρ h (atx xe ρ) rt
theorem zs_ret {e : Expr} {te : WE} (he : ZE X W e te) : ZS X W (.Return (some e) pos) (wRet te) :=
  ⟨ps_imp (ps_ret he.pe) fun D σ H ⟨S, F, ρ, h, nx, rt, bk, ct, xe, r, rl, q, ln, lr, lb, lc, lx⟩ => ⟨S, F, ρ, h, _, _, r, rl, q, lr, lx.at rl⟩⟩
def wIf (c : WT) (t u : WS) : WS := fun nx rt bk ct xe ρ h => c ρ h (atx xe ρ) fun b h1 => if b = true then t nx rt bk ct xe ρ h1 else u nx rt bk ct xe ρ h1
theorem zs_if {c : Expr} {a b : List Stmt} {tc : WT} {t u : WS} (hc : ZT X W c tc) (ha : ZB X W a t) (hb : ZB X W b u) : ZS X W (.If c a b pos) (wIf tc t u) :=
  ⟨ps_imp (ps_if hc.pt ha.pss hb.pss) fun D σ H ⟨S, F, ρ, h, nx, rt, bk, ct, xe, r, rl, q, ln, lr, lb, lc, lx⟩ =>
    ⟨S, F, ρ, h, _, _, r, rl, q, fun b h1 S1 H1 q1 s1 r1 => by
      cases b with
      | true => exact iteT ⟨S1, F, ρ, h1, nx, rt, bk, ct, xe, r1, rl.mono s1, q1, ln.mono s1, lr.mono s1, lb.mono s1, lc.mono s1, lx.mono s1⟩
      | false => exact iteF ⟨S1, F, ρ, h1, nx, rt, bk, ct, xe, r1, rl.mono s1, q1, ln.mono s1, lr.mono s1, lb.mono s1, lc.mono s1, lx.mono s1⟩, lx.at rl⟩⟩
def wFldS (C : Addr) (ta tv : WE) (f : Str) : WS := fun nx _ _ _ xe ρ h => tv ρ h (atx xe ρ) fun y h1 => ta ρ h1 (atx xe ρ) fun x h2 => ∃ a fs, x = .ref a ∧ h2 a = some (.ins C fs) ∧ fs.length < 1000 ∧ nx ρ (hup h2 a (.ins C (putv f y fs)))
theorem zs_fld {o value : Expr} {f : Str} {ta tv : WE} {C : Addr} {pos' : Pos} (c : Cls X.K C) (n : NoAttr X.K C f) (ho : ZE X W o ta) (hv : ZE X W value tv) (hs : swapsWith value (some (.Attribute o f pos')) pos.line X.env = pure false := by rfl) :
    ZS X W (.Assign [.Attribute o f pos'] value pos) (wFldS C ta tv f) :=
  ⟨ps_imp (ps_fld ho.pe hv.pe hs) fun D σ H ⟨S, F, ρ, h, nx, rt, bk, ct, xe, r, rl, q, ln, lr, lb, lc, lx⟩ =>
    ⟨S, F, ρ, h, _, _, r, rl, q, fun y h1 S1 w H1 q1 s1 r1 x1 => ⟨S1, F, ρ, h1, _, _, r1, rl.mono s1, q1, fun x h2 S2 v H2 q2 s2 r2 x2 => by
      obtain ⟨a, fs, rfl, e2, l, q3⟩ := q2
      obtain ⟨b, u, e3, dx, gs, rfl, e4⟩ := r2.own _ _ e2
      rw [rel_ref] at x2
      refine ⟨a, C, dx, gs, x2, e3, c, n, by rw [← e4.length]; exact l, ?_⟩
      exact ln _ _ S2 _ _ q3 (s1.trans s2) (r2.store e2 ⟨dx, _, rfl, relf_put (Rel.mono s2 _ _ x1) e4⟩) ((rl.mono s1).mono s2), (lx.mono s1).at (rl.mono s1)⟩, lx.at rl⟩⟩
/-! ### targets -/
abbrev WG := Val → Ev → Hh → EH → Prop
abbrev WGs := List Val → Ev → Hh → EH → Prop
def lG (K : Fr) (t : WG) : L2.TG := fun w σ H Q => ∃ S F v ρ h Q', R K S F H h ∧ Rls K S ρ σ ∧ Rel K S v w ∧ t v ρ h Q' ∧ LN K S F Q' Q
def lGs (K : Fr) (t : WGs) : L2.TGs := fun w σ H Q => ∃ S F v ρ h Q', R K S F H h ∧ Rls K S ρ σ ∧ Rels K S v w ∧ t v ρ h Q' ∧ LN K S F Q' Q
structure ZG (X : Cx) (e : Expr) (t : WG) : Prop where
  pg : PG X e (lG X.K t)
structure ZGs (X : Cx) (es : List Expr) (t : WGs) : Prop where
  pgs : PGs X es (lGs X.K t)
theorem pg_imp {X : Cx} {e : Expr} {t t' : L2.TG} (h : PG X e t) (i : ∀ w σ H Q, t' w σ H Q → t w σ H Q) : PG X e t' := by
  obtain ⟨run⟩ := h
  exact ⟨by first | exact fun v pins s σ H w Q a b c => run v pins s σ H w Q a b (i _ _ _ _ c) | exact fun pins s σ H w Q u a b c => run pins s σ H w Q u a b (i _ _ _ _ c) | exact fun pins s σ H v u Q a b c => run pins s σ H v u Q a b (i _ _ _ _ c)⟩
theorem pgs_imp {X : Cx} {e : List Expr} {t t' : L2.TGs} (h : PGs X e t) (i : ∀ w σ H Q, t' w σ H Q → t w σ H Q) : PGs X e t' := by
  obtain ⟨run⟩ := h
  exact ⟨by first | exact fun v pins s σ H w Q a b c => run v pins s σ H w Q a b (i _ _ _ _ c) | exact fun pins s σ H w Q u a b c => run pins s σ H w Q u a b (i _ _ _ _ c)⟩
def wgName (i : Nat) : WG := fun v ρ h Q => Q (ρ.set i (some v)) h
def wgNil : WGs := fun vs ρ h Q => vs = [] ∧ Q ρ h
def wgCons (t : WG) (u : WGs) : WGs := fun vs ρ h Q => ∃ v r, vs = v :: r ∧ t v ρ h fun ρ1 h1 => u r ρ1 h1 Q
def wgTup (n : Nat) (t : WGs) : WG := fun v ρ h Q => ∃ xs, v = .tup xs ∧ xs.length = n ∧ t xs ρ h Q
theorem zg_name {i : Nat} {x : Str} (hN : X.N.Nodup) (hi : X.N[i]? = some x) (hx : Loc X.env.scope x) (hf : X.fn x = true ∨ X.env.scope.names.lookup x = some .local := by first | exact .inl rfl | exact .inr rfl | assumption) : ZG X (.Name x pos) (wgName i) :=
  ⟨pg_imp (pg_name hN hi hx hf) fun w σ H Q ⟨S, F, v, ρ, h, Q', r, rl, x, q, ln⟩ => ln _ _ _ _ _ q (Sub.refl S) r (rl.set i x)⟩
theorem zgs_nil : ZGs X [] wgNil := ⟨pgs_imp pgs_nil fun w σ H Q ⟨S, F, v, ρ, h, Q', r, rl, x, ⟨e, q⟩, ln⟩ => by
  subst e; rw [rels_nil] at x; exact ⟨x, ln _ _ _ _ _ q (Sub.refl S) r rl⟩⟩
theorem zgs_cons {e : Expr} {es : List Expr} {t : WG} {u : WGs} (h1 : ZG X e t) (h2 : ZGs X es u)
    (ha : (assignEach (e :: es) X.env).map (·.2) = assign e X.env :: (assignEach es X.env).map (·.2) := by rfl) : ZGs X (e :: es) (wgCons t u) :=
  ⟨pgs_imp (pgs_cons h1.pg h2.pgs ha) fun w σ H Q ⟨S, F, v, ρ, h, Q', r, rl, x, q, ln⟩ => by
    obtain ⟨y, ys, rfl, q⟩ := q
    rw [rels_cons] at x
    obtain ⟨w1, ws, rfl, x1, x2⟩ := x
    exact ⟨w1, ws, rfl, S, F, y, ρ, h, _, r, rl, x1, q, fun ρ1 h1 S1 σ1 H1 q1 s1 r1 rl1 => ⟨S1, F, ys, ρ1, h1, Q', r1, rl1, Rels.mono s1 _ _ x2, q1, ln.mono s1⟩⟩⟩
theorem zg_tup {es : List Expr} {k : Nat} {t : WGs} {n : Nat} (hc : X.calm = true) (h : ZGs X es t) (hl : (assignEach es X.env).length = n := by rfl) (hf : (assignEach es X.env).findIdx? (·.1) = none := by rfl) : ZG X (.Tuple es k pos) (wgTup n t) :=
  ⟨pg_imp (pg_tup hc h.pgs hl hf) fun w σ H Q ⟨S, F, v, ρ, h, Q', r, rl, x, q, ln⟩ => by
    obtain ⟨xs, rfl, hn, q⟩ := q
    obtain ⟨a, ws, e, g1, g2⟩ := rel_tupH r x
    exact ⟨a, ws, e, g1, by rw [← g2.length]; exact hn, S, F, xs, ρ, h, Q', r, rl, g2, q, ln⟩⟩
/-- xs[i] = e, d[k] = e -/
abbrev WSet := Val → Val → Val → Hh → (Hh → Prop) → Prop
def SndSet (K : Fr) (t' : WSet) (t : TSet) : Prop := ∀ S F H h o i x v w u (Q' : Hh → Prop) (Q : Hp → Prop), R K S F H h → Rel K S o v → Rel K S i w → Rel K S x u → t' o i x h Q' → (∀ h' S' H', Q' h' → Sub S S' → R K S' F H' h' → Q H') → t v w u H Q
def wgSub (to ti : WE) (t : WSet) (E : XQ) : WG := fun v ρ h Q => to ρ h E fun o h1 => ti ρ h1 E fun i h2 => t o i v h2 fun h3 => Q ρ h3
theorem zg_sub {W0 : WX} {o i : Expr} {to ti : WE} {t : TSet} {t' : WSet} (s : SndSet X.K t' t) (hs : PSet X t) (ho : ZE X W0 o to) (hi : ZE X W0 i ti)
    (he : ∀ v : Value, assign (.Subscript o i pos) X.env v = (do
      let ov ← holding [v] (eval o X.env)
      let iv ← holding [v, ov] (eval i X.env)
      standAt pos
      holding [v, ov, iv] (setItem ov iv v)
      release [v, ov, iv] []) := by intro _; rfl) : ZG X (.Subscript o i pos) (wgSub to ti t' fun _ _ _ => False) :=
  ⟨pg_imp (pg_sub ho.pe hi.pe hs he) fun w σ H Q ⟨S, F, v, ρ, h, Q', r, rl, x, q, ln⟩ =>
    have nox : ∀ S, LX X.K S F (fun _ _ _ => False) W0 σ := fun S _ _ _ _ _ _ _ q => q.elim
    ⟨S, F, ρ, h, _, _, r, rl, q, fun o1 h1 S1 v1 H1 q1 s1 r1 x1 => ⟨S1, F, ρ, h1, _, _, r1, rl.mono s1, q1, fun i1 h2 S2 w2 H2 q2 s2 r2 x2 =>
      s S2 F H2 h2 o1 i1 v v1 w2 w _ _ r2 (Rel.mono s2 _ _ x1) x2 (Rel.mono (s1.trans s2) _ _ x) q2 fun h3 S3 H3 q3 s3 r3 => ln _ _ _ _ _ q3 ((s1.trans s2).trans s3) r3 (rl.mono ((s1.trans s2).trans s3)), nox S1⟩, nox S⟩⟩
def wSetL : WSet := fun o i v h Q => ∃ p xs k j, o = .ref p ∧ i = .int k ∧ h p = some (.lst xs) ∧ L2.ixN xs.length k = some j ∧ Q (hup h p (.lst (xs.set j v)))
theorem s_setL {K : Fr} : SndSet K wSetL rSetL := fun S F H h o i x v w u Q' Q r ro ri rx q l => by
  obtain ⟨p, xs, k, j, rfl, rfl, e, hj, q⟩ := q
  obtain ⟨nS, uu, e1, ws, rfl, e2⟩ := r.own _ _ e
  exact ⟨p, ws, k, j, rel_ref.mp ro, rel_int.mp ri, e1, by rw [← e2.length]; exact hj, l _ S _ q (Sub.refl S) (r.store e ⟨_, rfl, e2.set j rx⟩)⟩
def wAsg (te : WE) (g : WG) : WS := fun nx _ _ _ xe ρ h => te ρ h (atx xe ρ) fun v h1 => g v ρ h1 nx
theorem zs_asg {tg e : Expr} {te : WE} {g : WG} (he : ZE X W e te) (hg : ZG X tg g) (hs : swapsWithSole [tg] e pos.line X.env = pure false := by rfl) (hw : swappedStores [tg] e X.env = pure none := by rfl)
    (ha : (assignEach [tg] X.env).map (·.2) = [assign tg X.env] := by rfl) : ZS X W (.Assign [tg] e pos) (wAsg te g) :=
  ⟨ps_imp (ps_asg he.pe hg.pg hs hw ha) fun D σ H ⟨S, F, ρ, h, nx, rt, bk, ct, xe, r, rl, q, ln, lr, lb, lc, lx⟩ =>
    ⟨S, F, ρ, h, _, _, r, rl, q, fun x h1 S1 v H1 q1 s1 r1 x1 => ⟨S1, F, x, ρ, h1, nx, r1, rl.mono s1, x1, q1, ln.mono s1⟩, lx.at rl⟩⟩
theorem zs_set {i : Nat} {x : Str} {e : Expr} {te : WE} {pos' : Pos} (hN : X.N.Nodup) (hi : X.N[i]? = some x) (hx : Loc X.env.scope x) (he : ZE X W e te) (hs : swapsWith e (some (.Name x pos')) pos.line X.env = pure false := by rfl)
    (hf : X.fn x = true ∨ X.env.scope.names.lookup x = some .local := by first | exact .inl rfl | exact .inr rfl | assumption) : ZS X W (.Assign [.Name x pos'] e pos) (wAsg te (wgName i)) :=
  ⟨ps_imp (ps_set hN hi hx he.pe hs hf) fun D σ H ⟨S, F, ρ, h, nx, rt, bk, ct, xe, r, rl, q, ln, lr, lb, lc, lx⟩ =>
    ⟨S, F, ρ, h, _, _, r, rl, q, fun x h1 S1 v H1 q1 s1 r1 x1 => ln _ _ _ _ _ q1 s1 r1 ((rl.mono s1).set i x1), lx.at rl⟩⟩
/-! ### while -/
def wWhile (c : WT) (tb : WS) : WS := fun nx rt _ _ xe ρ h => ∃ I : Nat → EH, (∃ m, I m ρ h) ∧ ∀ m ρ h, I m ρ h → c ρ h (atx xe ρ) fun b h1 =>
  if b = true then tb (fun ρ2 h2 => ∃ m2, m2 < m ∧ I m2 ρ2 h2) rt nx (fun ρ2 h2 => ∃ m2, m2 < m ∧ I m2 ρ2 h2) xe ρ h1 else nx ρ h1
theorem zs_while {c : Expr} {body : List Stmt} {tc : WT} {tb : WS} (hp : PassesOwn (model X.prog X.w) X.A X.env X.xe) (hc : ZT X W c tc) (hb : ZB X W body tb) : ZS X W (.While c body [] pos) (wWhile tc tb) :=
  ⟨ps_imp (ps_while hp hc.pt hb.pss) fun D σ H ⟨S, F, ρ, h, nx, rt, bk, ct, xe, r, rl, q, ln, lr, lb, lc, lx⟩ => by
    obtain ⟨I, ⟨m, q0⟩, turn⟩ := q
    refine ⟨fun m σ H => ∃ S1 ρ h, Sub S S1 ∧ R X.K S1 F H h ∧ Rls X.K S1 ρ σ ∧ I m ρ h, ⟨m, S, ρ, h, Sub.refl S, r, rl, q0⟩, ?_⟩
    rintro m σ1 H1 ⟨S1, ρ1, h1, s1, r1, rl1, i1⟩
    refine ⟨S1, F, ρ1, h1, _, _, r1, rl1, turn m ρ1 h1 i1, fun b h2 S2 H2 q2 s2 r2 => ?_, (lx.mono s1).at rl1⟩
    have s12 := s1.trans s2
    cases b with
    | true =>
      refine iteT ⟨_, fun σ' H' q => q, S2, F, ρ1, h2, _, rt, nx, _, xe, r2, rl1.mono s2, q2, fun ρ3 h3 S3 σ3 H3 q3 s3 r3 rl3 => ?_, lr.mono s12, ln.mono s12, fun ρ3 h3 S3 σ3 H3 q3 s3 r3 rl3 => ?_, lx.mono s12⟩
      · obtain ⟨m2, hm, i3⟩ := q3
        exact ⟨m2, hm, S3, ρ3, h3, s12.trans s3, r3, rl3, i3⟩
      · obtain ⟨m2, hm, i3⟩ := q3
        exact ⟨m2, hm, S3, ρ3, h3, s12.trans s3, r3, rl3, i3⟩
    | false => exact iteF (ln _ _ _ _ _ q2 s12 r2 (rl1.mono s2))⟩
/-! ### what is walked -/
structure JOk (K : Fr) (J : It) (S : Hp) (xs : List Val) (chk : Hh → Prop) : Prop where
  go : ∀ i x S' F H h, xs[i]? = some x → Sub S S' → R K S' F H h → chk h → J.go i H ∧ ∀ w H', J.yld i H w H' → ∃ S2, Sub S' S2 ∧ R K S2 F H' h ∧ Rel K S2 x w
  stop : ∀ i S' F H h, xs.length ≤ i → Sub S S' → R K S' F H h → chk h → J.stop i H
abbrev WI := Ev → Hh → XQ → (List Val → (Hh → Prop) → Hh → Prop) → Prop
def lI (K : Fr) (W : WX) (t : WI) : L2.TI := fun σ H Rr => ∃ S F ρ h E' G, R K S F H h ∧ Rls K S ρ σ ∧ t ρ h E' G ∧ LX K S F E' W σ ∧ ∀ xs chk h' S' H' J, G xs chk h' → Sub S S' → R K S' F H' h' → JOk K J S' xs chk → Rr J H'
structure ZI (X : Cx) (W : WX) (tg iter : Expr) (t : WI) : Prop where
  pi : PI X tg iter (lI X.K W t)
theorem pi_imp {X : Cx} {tg e : Expr} {t t' : L2.TI} (h : PI X tg e t) (i : ∀ σ H Q, t' σ H Q → t σ H Q) : PI X tg e t' := ⟨fun pins s σ H Q I q => h.run pins s σ H Q I (i _ _ _ q)⟩
/-- the items of a list: one that is owned stays as it is while it is walked -/
def Its (h : Hh) (v : Val) (G : List Val → (Hh → Prop) → Hh → Prop) : Prop := (∃ xs, (v = .lst xs ∨ v = .scr xs) ∧ G xs (fun _ => True) h) ∨ ∃ a xs, v = .ref a ∧ h a = some (.lst xs) ∧ G xs (fun h => h a = some (.lst xs)) h
def wiL (t : WE) : WI := fun ρ h E G => t ρ h E fun v h1 => Its h1 v G
end
/-! Z5 -/
/-! loops over lists, tuples, ranges, enumerate, zip, texts; comprehensions -/
section
variable {X : Cx} {W : WX} {pos : Pos}
theorem jok_frozen {K : Fr} {S : Hp} {a : Addr} {ws : List V} {xs : List Val} {chk : Hh → Prop} (h1 : SqL K S a ws) (h2 : Rels K S xs ws) : JOk K (Itl K a) S xs chk where
  go := fun i x S' F H h e s r _ => by
    obtain ⟨w, e2, x2⟩ := h2.get e
    have g := r.sub.seqL (s.seqL h1)
    exact ⟨⟨ws, w, g, e2⟩, fun u H' ⟨eH, y⟩ => by
      subst eH
      have z := y ws g
      rw [e2] at z; cases z
      exact ⟨S', Sub.refl _, r, Rel.mono s _ _ x2⟩⟩
  stop := fun i S' F H h e s r _ => ⟨ws, r.sub.seqL (s.seqL h1), by rw [← h2.length]; exact e⟩
theorem jok_owned {K : Fr} {S : Hp} {a : Addr} {xs : List Val} : JOk K (Itl K a) S xs (fun h => h a = some (.lst xs)) where
  go := fun i x S' F H h e s r c => by
    obtain ⟨_, u, h1, ws, rfl, h2⟩ := r.own _ _ c
    obtain ⟨w, e2, x2⟩ := h2.get e
    exact ⟨⟨ws, w, .of h1, e2⟩, fun u H' ⟨eH, y⟩ => by
      subst eH
      have z := y ws (.of h1)
      rw [e2] at z; cases z
      exact ⟨S', Sub.refl _, r, x2⟩⟩
  stop := fun i S' F H h e s r c => by
    obtain ⟨_, u, h1, ws, rfl, h2⟩ := r.own _ _ c
    exact ⟨ws, .of h1, by rw [← h2.length]; exact e⟩
theorem zi_list {tg l : Expr} {tl : WE} (hl : ZE X W l tl) : ZI X W tg l (wiL tl) :=
  ⟨pi_imp (pi_list hl.pe) fun σ H Rr ⟨S, F, ρ, h, E', G, r, rl, q, lx, g⟩ => ⟨S, F, ρ, h, E', _, r, rl, q, fun v h1 S1 w H1 q1 s1 r1 x1 => by
    rcases q1 with ⟨xs, e, q1⟩ | ⟨a, xs, rfl, e, q1⟩
    · have k : ∃ a ws, w = .ref a ∧ SqL X.K S1 a ws ∧ Rels X.K S1 xs ws := by
        rcases e with rfl | rfl
        · rw [rel_lst] at x1; obtain ⟨a, ws, e, h1, h2⟩ := x1; exact ⟨a, ws, e, .of h1, h2⟩
        · rw [rel_scr] at x1; exact x1
      obtain ⟨a, ws, e, h1, h2⟩ := k
      exact ⟨a, e, ⟨ws, r1.sub.seqL h1⟩, g _ _ _ _ _ _ q1 s1 r1 (jok_frozen h1 h2)⟩
    · rw [rel_ref] at x1
      obtain ⟨_, u, h1, ws, rfl, h2⟩ := r1.own _ _ e
      exact ⟨a, x1, ⟨ws, .of h1⟩, g _ _ _ _ _ _ q1 s1 r1 jok_owned⟩, lx⟩⟩
theorem jok_tup {K : Fr} {S : Hp} {a : Addr} {ws : List V} {xs : List Val} {chk : Hh → Prop} (h1 : SqT K S a ws) (h2 : Rels K S xs ws) : JOk K (Itt K a) S xs chk where
  go := fun i x S' F H h e s r _ => by
    obtain ⟨w, e2, x2⟩ := h2.get e
    have g := r.sub.seqT (s.seqT h1)
    exact ⟨⟨ws, w, g, e2⟩, fun u H' ⟨eH, y⟩ => by
      subst eH
      have z := y ws g
      rw [e2] at z; cases z
      exact ⟨S', Sub.refl _, r, Rel.mono s _ _ x2⟩⟩
  stop := fun i S' F H h e s r _ => ⟨ws, r.sub.seqT (s.seqT h1), by rw [← h2.length]; exact e⟩
def wiT (t : WE) : WI := fun ρ h E G => t ρ h E fun v h1 => ∃ xs, v = .tup xs ∧ G xs (fun _ => True) h1
theorem zi_tup {tg l : Expr} {tl : WE} (hl : ZE X W l tl) : ZI X W tg l (wiT tl) :=
  ⟨pi_imp (pi_tup hl.pe) fun σ H Rr ⟨S, F, ρ, h, E', G, r, rl, q, lx, g⟩ => ⟨S, F, ρ, h, E', _, r, rl, q, fun v h1 S1 w H1 q1 s1 r1 x1 => by
    obtain ⟨xs, rfl, q1⟩ := q1
    rw [rel_tup] at x1
    obtain ⟨a, ws, e, h1, h2⟩ := x1
    exact ⟨a, e, ⟨ws, .of (r1.sub _ _ h1)⟩, g _ _ _ _ _ _ q1 s1 r1 (jok_tup (.of h1) h2)⟩, lx⟩⟩
theorem cons_nil {K : Fr} {W : WX} {ta : WE} {σ : L2.St} {H : Hp} {Q : List V → Hp → Prop} {S F : Hp} {ρ : Ev} {h : Hh} {E' : XQ} {Q' : KQ} (r : R K S F H h) (rl : Rls K S ρ σ) (q : ta ρ h E' Q') (lx : LX K S F E' W σ) (l : ∀ v h' S' w H', Q' v h' → Sub S S' → R K S' F H' h' → Rel K S' v w → Q [w] H') : lA K W (wCons ta wNil) σ H Q := by
  refine ⟨S, F, ρ, h, E', fun vs h' => ∃ v, vs = [v] ∧ Q' v h', r, rl, ?_, fun vs h' S' ws H' q1 s1 r1 x1 => ?_, lx⟩
  · show ta ρ h E' fun x h1 => ∃ v, [x] = [v] ∧ Q' v h1
    have e : (fun (x : Val) (h1 : Hh) => ∃ v, [x] = [v] ∧ Q' v h1) = Q' := by
      funext x h1
      simp
    rw [e]
    exact q
  · obtain ⟨v, rfl, q1⟩ := q1
    rw [rels_cons] at x1
    obtain ⟨w1, ws, rfl, x1, x2⟩ := x1
    rw [rels_nil] at x2; subst x2
    exact l _ _ _ _ _ q1 s1 r1 x1
def rng (lo : Int) (n : Nat) : List Val := (List.range n).map fun (i : Nat) => Val.int (lo + (i : Int))
theorem rng_len {lo : Int} {n : Nat} : (rng lo n).length = n := by simp [rng]
theorem rng_get {lo : Int} {n i : Nat} {x : Val} (h : (rng lo n)[i]? = some x) : i < n ∧ x = .int (lo + i) := by
  unfold rng at h
  rw [List.getElem?_map] at h
  by_cases e : i < n
  · rw [List.getElem?_range e] at h; cases h; exact ⟨e, rfl⟩
  · rw [List.getElem?_eq_none (by simpa using e)] at h; cases h
theorem jok_rng {K : Fr} {S : Hp} {lo : Int} {n : Nat} {chk : Hh → Prop} : JOk K (Itr lo n) S (rng lo n) chk where
  go := fun i x S' F H h e s r _ => by
    obtain ⟨h1, rfl⟩ := rng_get e
    exact ⟨h1, fun w H' ⟨e1, e2⟩ => by subst e1 e2; exact ⟨S', Sub.refl _, r, rel_int.mpr rfl⟩⟩
  stop := fun i S' F H h e s r _ => by rw [rng_len] at e; exact e
def wiR1 (t : WE) : WI := fun ρ h E G => t ρ h E fun v h1 => ∃ j : Int, v = .int j ∧ -(2 ^ 62) ≤ j ∧ j < 2 ^ 62 ∧ G (rng 0 j.toNat) (fun _ => True) h1
theorem zi_r1 {tg a : Expr} {ta : WE} {p : Pos} (hg : Gl X "range") (hm : X.mg "range" = none) (ha : ZE X W a ta) (hs : starEach [a] X.env = (false, eval a X.env) :: starEach [] X.env := by rfl) (hs1 : starEach [a] X.env = [(false, eval a X.env)] := by rfl) : ZI X W tg (.Call (.Name "range" p) [a] [] pos) (wiR1 ta) :=
  ⟨pi_imp (pi_range1 hg hm (za_cons ha za_nil hs).pa hs1) fun σ H Rr ⟨S, F, ρ, h, E', G, r, rl, q, lx, g⟩ => cons_nil r rl q lx fun v h1 S1 w H1 q1 s1 r1 x1 => by
    obtain ⟨j, rfl, b1, b2, q1⟩ := q1
    rw [rel_int] at x1; subst x1
    exact ⟨j, rfl, b1, b2, g _ _ _ _ _ _ q1 s1 r1 jok_rng⟩⟩
/-- the signs of a text -/
def sgn (c : Nat) : Val := .str ⟨#[c]⟩
def wiS (t : WE) : WI := fun ρ h E G => t ρ h E fun v h1 => ∃ x : Str, v = .str x ∧ G (x.cps.toList.map sgn) (fun _ => True) h1
theorem jok_str {K : Fr} {S : Hp} {z : Str} {chk : Hh → Prop} : JOk K (L2.Its z) S (z.cps.toList.map sgn) chk where
  go := fun i x S' F H h e s r _ => by
    rw [List.getElem?_map] at e
    cases q : z.cps.toList[i]? with
    | none => rw [q] at e; cases e
    | some c =>
      rw [q] at e; cases e
      obtain ⟨hl, q2⟩ := List.getElem?_eq_some_iff.mp q
      refine ⟨by show i < z.cps.size; simpa using hl, fun w H' ⟨e1, c', e2, e3⟩ => ?_⟩
      subst e1 e3
      have e4 : z.cps[i]? = some c := by rw [← q]; simp
      rw [e4] at e2; cases e2
      exact ⟨S', Sub.refl _, r, rel_str.mpr rfl⟩
  stop := fun i S' F H h e s r _ => by show z.cps.size ≤ i; simpa using e
theorem zi_str {tg e : Expr} {te : WE} (he : ZE X W e te) : ZI X W tg e (wiS te) :=
  ⟨pi_imp (pi_str he.pe) fun σ H Rr ⟨S, F, ρ, h, E', G, r, rl, q, lx, g⟩ => ⟨S, F, ρ, h, E', _, r, rl, q, fun v h1 S1 w H1 q1 s1 r1 x1 => by
    obtain ⟨x, rfl, q1⟩ := q1
    exact ⟨x, rel_str.mp x1, g _ _ _ _ _ _ q1 s1 r1 jok_str⟩, lx⟩⟩
/-! ### for -/
def wFor (wi : WI) (g : WG) (tb : WS) : WS := fun nx rt _ _ xe ρ h => wi ρ h (atx xe ρ) fun xs chk h1 => ∃ I : Nat → EH, I 0 ρ h1 ∧ ∀ i ρ h, I i ρ h → chk h ∧ (xs.length ≤ i → nx ρ h) ∧
  ∀ x, xs[i]? = some x → g x ρ h fun ρ2 h2 => tb (I (i + 1)) rt nx (I (i + 1)) xe ρ2 h2
theorem zs_for {tg iter : Expr} {body : List Stmt} {wi : WI} {g : WG} {tb : WS} (hp : PassesOwn (model X.prog X.w) X.A X.env X.xe) (hc : X.calm = true) (hi : ZI X W tg iter wi) (hg : ZG X tg g) (hb : ZB X W body tb)
    (hs : ∀ x, foldedSetIterable iter X.env x = pure x := by intro _; rfl) : ZS X W (.For tg iter body [] pos) (wFor wi g tb) :=
  ⟨ps_imp (ps_for hp hc hi.pi hg.pg hb.pss hs) fun D σ H ⟨S, F, ρ, h, nx, rt, bk, ct, xe, r, rl, q, ln, lr, lb, lc, lx⟩ =>
    ⟨S, F, ρ, h, _, _, r, rl, q, lx.at rl, fun xs chk h1 S1 H1 J q1 s1 r1 jok => by
      obtain ⟨I, i0, turn⟩ := q1
      refine ⟨fun i m σ H => m = xs.length - i ∧ ∃ S2 ρ h, Sub S1 S2 ∧ R X.K S2 F H h ∧ Rls X.K S2 ρ σ ∧ I i ρ h, ⟨_, rfl, S1, ρ, h1, Sub.refl _, r1, rl.mono s1, i0⟩, ?_⟩
      rintro i m σ2 H2 ⟨rfl, S2, ρ2, h2, s2, r2, rl2, i2⟩
      obtain ⟨c, fin, step⟩ := turn i ρ2 h2 i2
      have s12 := s1.trans s2
      by_cases hl : xs.length ≤ i
      · exact .inl ⟨jok.stop i S2 F H2 h2 hl s2 r2 c, ln _ _ _ _ _ (fin hl) s12 r2 rl2⟩
      · have hx : xs[i]? = some (xs[i]'(by omega)) := List.getElem?_eq_getElem (by omega)
        obtain ⟨go, yld⟩ := jok.go i _ S2 F H2 h2 hx s2 r2 c
        refine .inr ⟨go, _, fun σ' H' z => z, fun w H3 y => ?_⟩
        obtain ⟨S3, s3, r3, x3⟩ := yld w H3 y
        have s13 := s12.trans s3
        refine ⟨S3, F, _, ρ2, h2, _, r3, rl2.mono s3, x3, step _ hx, fun ρ4 h4 S4 σ4 H4 q4 s4 r4 rl4 => ?_⟩
        have s14 := s13.trans s4
        refine ⟨S4, F, ρ4, h4, _, rt, nx, _, xe, r4, rl4, q4, fun ρ5 h5 S5 σ5 H5 q5 s5 r5 rl5 => ?_, lr.mono s14, ln.mono s14, fun ρ5 h5 S5 σ5 H5 q5 s5 r5 rl5 => ?_, lx.mono s14⟩
        · exact ⟨_, by omega, rfl, S5, ρ5, h5, ((s2.trans s3).trans s4).trans s5, r5, rl5, q5⟩
        · exact ⟨_, by omega, rfl, S5, ρ5, h5, ((s2.trans s3).trans s4).trans s5, r5, rl5, q5⟩⟩⟩
end
/-! Z6 -/
/-! comprehensions; calls of built-ins; methods of built-in types -/
section
variable {X : Cx} {W : WX} {pos : Pos}
/-! ### comprehensions -/
def WF : WX := fun _ _ _ _ => False
theorem lxF {K : Fr} {S F : Hp} {σ : L2.St} {W : WX} : LX K S F (fun _ _ _ => False) W σ := fun _ _ _ _ _ _ _ q => q.elim
def wipeV (ρ : Ev) : List Nat → Ev
  | [] => ρ
  | v :: vs => (wipeV ρ vs).set v none
theorem rls_wipe {K : Fr} {S : Hp} {ρ : Ev} {σ : L2.St} (r : Rls K S ρ σ) : ∀ vs : List Nat, Rls K S (wipeV ρ vs) (wipe σ vs)
  | [] => r
  | v :: vs => (rls_wipe r vs).unset v
structure ZTs (X : Cx) (W : WX) (es : List Expr) (t : WT) : Prop where
  pts : PTs X es (lT X.K W t)
theorem pts_imp {X : Cx} {e : List Expr} {t t' : L2.TT} (h : PTs X e t) (i : ∀ σ H Q, t' σ H Q → t σ H Q) : PTs X e t' := ⟨fun pins s σ H Q I q => h.run pins s σ H Q I (i _ _ _ q)⟩
def wYes : WT := fun _ h _ Q => Q true h
theorem zts_nil : ZTs X W [] wYes := ⟨pts_imp pts_nil fun σ H Q ⟨S, F, ρ, h, E', Q', r, rl, q, lq, lx⟩ => lq _ _ _ _ q (Sub.refl S) r⟩
theorem zts_one {c : Expr} {t : WT} (h : ZT X W c t) : ZTs X W [c] t := ⟨pts_one h.pt⟩
/-- the comprehension's loop: I tells what is made so far -/
def wLcB (tg : Val → Ev → (Ev → Prop) → Prop) (xs : List Val) (chk : Hh → Prop) (tt : WT) (te : WE) (vs : List Nat) (ρ : Ev) (h : Hh) (Q : KQ) : Prop :=
  ∃ I : Nat → List Val → Hh → Prop, I 0 [] h ∧ ∀ i acc h, I i acc h → chk h ∧ (xs.length ≤ i → NewL acc h Q) ∧ ∀ x, xs[i]? = some x → tg x (wipeV ρ vs) fun ρ2 =>
    tt ρ2 h (fun _ _ _ => False) fun b h3 => if b = true then te ρ2 h3 (fun _ _ _ => False) (fun y h4 => acc.length < 16000000 ∧ I (i + 1) (acc ++ [y]) h4) else I (i + 1) acc h3
def tg1 (i : Nat) : Val → Ev → (Ev → Prop) → Prop := fun x ρ Q => Q (ρ.set i (some x))
def wLc (wi : WI) (tg : Val → Ev → (Ev → Prop) → Prop) (tt : WT) (te : WE) (vs : List Nat) : WE := fun ρ h E Q => wi ρ h E fun xs chk h1 => wLcB tg xs chk tt te vs ρ h1 Q
/-- a target's two readings: the layer's and ours -/
def TgOk (K : Fr) (g : L2.TG) (tg : Val → Ev → (Ev → Prop) → Prop) (vs : List Nat) : Prop := ∀ S F H h x w (ρ : Ev) (σ : L2.St) (Q' : Ev → Prop) (Q : L2.St → Hp → Prop), R K S F H h → Rel K S x w → Rls K S (wipeV ρ vs) (wipe σ vs) → tg x (wipeV ρ vs) Q' →
  (∀ ρ2 σ2, Q' ρ2 → Rls K S ρ2 σ2 → wipe σ2 vs = wipe σ vs → Q σ2 H) → g w (wipe σ vs) H Q
theorem tg1_ok {K : Fr} {i : Nat} : TgOk K (gName i) (tg1 i) [i] := fun S F H h x w ρ σ Q' Q r rx rl q l => by
  refine l _ _ q (rl.set i rx) ?_
  simp [wipe]
/-- a frame's new object -/
theorem R.held {K : Fr} {S F H : Hp} {h : Hh} {p : Addr} {u : HO} (r : R K S F H h) (n : H p = none) (nt : ∀ ws, u ≠ .tup ws := by intro ws z; cases z) : R K S (upd F p u) (upd H p u) h := by
  have nS : S p = none := r.sub.free n
  refine ⟨fun a o e => ?_, fun a o e => ?_, fun a o e => ?_, fun a ws z => by
    by_cases y : a = p
    · subst y; rw [upd_same] at z; cases z; exact nt _ rfl
    · rw [upd_ne y] at z; exact r.ntp a ws z⟩
  · rw [upd_ne (ne_of_none e nS)]; exact r.sub _ _ e
  · by_cases q : a = p
    · subst q; rw [upd_same] at e ⊢; exact ⟨e, nS, r.fresh n⟩
    · rw [upd_ne q] at e
      rw [upd_ne q]
      exact r.frm a o e
  · obtain ⟨h1, v, h2, h3⟩ := r.own a o e
    have q : a ≠ p := ne_of_none h2 n
    exact ⟨h1, v, by rw [upd_ne q]; exact h2, h3⟩
theorem R.reheld {K : Fr} {S F H : Hp} {h : Hh} {p : Addr} {u v : HO} (r : R K S (upd F p u) H h) (n : F p = none) (nt : ∀ ws, v ≠ .tup ws := by intro ws z; cases z) : R K S (upd F p v) (upd H p v) h := by
  obtain ⟨e1, e2, e3⟩ := r.frm p u upd_same
  refine ⟨fun a o e => ?_, fun a o e => ?_, fun a o e => ?_, fun a ws z => by
    by_cases y : a = p
    · subst y; rw [upd_same] at z; cases z; exact nt _ rfl
    · rw [upd_ne y] at z; exact r.ntp a ws (by rw [upd_ne y]; exact z)⟩
  · rw [upd_ne (ne_of_none e e2)]; exact r.sub _ _ e
  · by_cases q : a = p
    · subst q; rw [upd_same] at e ⊢; exact ⟨e, e2, e3⟩
    · rw [upd_ne q] at e
      rw [upd_ne q]
      exact r.frm a o (by rw [upd_ne q]; exact e)
  · obtain ⟨h1, v, h2, h3⟩ := r.own a o e
    have q : a ≠ p := fun z => by subst z; rw [e3] at e; cases e
    exact ⟨h1, v, by rw [upd_ne q]; exact h2, h3⟩
theorem R.held_freeze {K : Fr} {S F H : Hp} {h : Hh} {p : Addr} {u : HO} (r : R K S (upd F p u) H h) (n : F p = none) : R K (upd S p u) F H h ∧ Sub S (upd S p u) := by
  obtain ⟨e1, e2, e3⟩ := r.frm p u upd_same
  refine ⟨⟨fun a o e => ?_, fun a o e => ?_, fun a o e => ?_, fun a ws z => r.ntp a ws (by rw [upd_ne (ne_of_none z n)]; exact z)⟩, Sub.upd e2⟩
  · by_cases q : a = p
    · subst q; rw [upd_same] at e; cases e; exact e1
    · rw [upd_ne q] at e; exact r.sub _ _ e
  · have q : a ≠ p := ne_of_none e n
    obtain ⟨g1, g2, g3⟩ := r.frm a o (by rw [upd_ne q]; exact e)
    exact ⟨g1, by rw [upd_ne q]; exact g2, g3⟩
  · obtain ⟨h1, v, h2, h3⟩ := r.own a o e
    have q : a ≠ p := fun z => by subst z; rw [e3] at e; cases e
    exact ⟨by rw [upd_ne q]; exact h1, v, h2, h3.mono (Sub.upd e2)⟩
theorem zlc_run {K : Fr} {W W' : WX} {wi : WI} {g : L2.TG} {tg : Val → Ev → (Ev → Prop) → Prop} {tt : WT} {te : WE} {vs : List Nat} (gk : TgOk K g tg vs) {σ : L2.St} {H : Hp} {Q : VK} (q : lE K W (wLc wi tg tt te vs) σ H Q) : tLc (lI K W wi) g (lT K W' tt) (lE K W' te) vs σ H Q := by
  obtain ⟨S, F, ρ, h, E', Q', r, rl, q, lq, lx⟩ := q
  refine ⟨S, F, ρ, h, E', _, r, rl, q, lx, fun xs chk h1 S1 H1 J q1 s1 r1 jok D hD => ?_⟩
  obtain ⟨I, i0, turn⟩ := q1
  have nF : F D = none := by
    cases z : F D with
    | none => rfl
    | some o => have := (r1.frm _ _ z).1; rw [hD] at this; cases this
  refine ⟨fun i m H => m = xs.length - i ∧ ∃ S2 h acc wacc, Sub S1 S2 ∧ R K S2 (upd F D (.lst wacc)) H h ∧ Rels K S2 acc wacc ∧ I i acc h, ⟨_, rfl, S1, h1, [], [], Sub.refl _, r1.held hD, rels_nil.mpr rfl, i0⟩, ?_⟩
  rintro i m H2 ⟨rfl, S2, h2, acc, wacc, s2, r2, xa, i2⟩
  obtain ⟨c, fin, step⟩ := turn i acc h2 i2
  have s12 := s1.trans s2
  by_cases hl : xs.length ≤ i
  · refine .inl ⟨jok.stop i S2 _ H2 h2 hl s2 r2 c, ?_⟩
    rcases fin hl with q | q
    · have e3 := (r2.frm D _ upd_same).2.2
      exact lq _ _ S2 _ _ (q D e3) s12 (r2.unhold nF (o := .lst acc) ⟨wacc, rfl, xa⟩).2 (rel_ref.mpr rfl)
    · obtain ⟨r3, s3⟩ := r2.held_freeze nF
      exact lq _ _ _ _ _ q (s12.trans s3) r3 (rel_lst.mpr ⟨D, wacc, rfl, upd_same, Rels.mono s3 _ _ xa⟩)
  · have hx : xs[i]? = some (xs[i]'(by omega)) := List.getElem?_eq_getElem (by omega)
    obtain ⟨go, yld⟩ := jok.go i _ S2 _ H2 h2 hx s2 r2 c
    refine .inr ⟨go, _, fun H' z => z, fun w H3 y => ?_⟩
    obtain ⟨S3, s3, r3, x3⟩ := yld w H3 y
    refine gk S3 _ H3 h2 _ w ρ σ _ _ r3 x3 (rls_wipe (rl.mono (s12.trans s3)) vs) (step _ hx) fun ρ2 σ2 q2 rl2 ew => ⟨ew, ?_⟩
    refine ⟨S3, _, ρ2, h2, _, _, r3, rl2, q2, fun b h4 S4 H4 q4 s4 r4 => ?_, lxF⟩
    cases b with
    | true =>
      refine iteT ⟨S4, _, ρ2, h4, _, _, r4, rl2.mono s4, (by rw [if_pos rfl] at q4; exact q4), fun v h5 S5 w5 H5 q5 s5 r5 x5 => ?_, lxF⟩
      have e5 := (r5.frm D _ upd_same).1
      have xa5 := Rels.mono ((s3.trans s4).trans s5) _ _ xa
      have ln := xa5.length
      have hz := sizeLine_eq
      exact ⟨wacc, e5, by rw [← ln]; have := q5.1; omega, _, by omega, rfl, S5, h5, acc ++ [v], wacc ++ [w5], ((s2.trans s3).trans s4).trans s5, r5.reheld nF, xa5.app (Rels.one x5), q5.2⟩
    | false =>
      rw [if_neg Bool.false_ne_true] at q4
      refine iteF ⟨_, ?_, rfl, S4, h4, acc, wacc, (s2.trans s3).trans s4, r4, Rels.mono (s3.trans s4) _ _ xa, q4⟩
      omega
/-- [elt for x in iter if ..] -/
theorem zlc {elt tg0 iter : Expr} {ifs : List Expr} {scope : Scope} {own : List (Str × Nat)} {wi : WI} {g : L2.TG} {tg : Val → Ev → (Ev → Prop) → Prop} {tt : WT} {te : WE} (gk : TgOk X.K g tg (own.map (·.2))) (hc : X.calm = true) (hN : X.N.Nodup) (hi : ZI X W tg0 iter wi) (ok : BlkOk X.N X.env.scope scope own)
    (hg : ∀ (s : Shared) (H : Hp) (C : Addr) (cl : List (Str × Addr)) (fp : List Addr), PG (X.blk s H scope (compEnvC scope cl C X.env) fp) tg0 g)
    (ht : ∀ (s : Shared) (H : Hp) (C : Addr) (cl : List (Str × Addr)) (fp : List Addr), ZTs (X.blk s H scope (compEnvC scope cl C X.env) fp) WF ifs tt)
    (he : ∀ (s : Shared) (H : Hp) (C : Addr) (cl : List (Str × Addr)) (fp : List Addr), ZE (X.blk s H scope (compEnvC scope cl C X.env) fp) WF elt te)
    (hs : ∀ x, foldedSetIterable iter X.env x = pure x := by intro _; rfl) : ZE X W (.ListComp elt [{ target := tg0, iter := iter, ifs := ifs, is_async := 0 }] scope pos) (wLc wi tg tt te (own.map (·.2))) :=
  ⟨pe_imp (pe_lc hc hN hi.pi ok hg (fun s H C cl fp => (ht s H C cl fp).pts) (fun s H C cl fp => (he s H C cl fp).pe) hs) fun σ H Q q => zlc_run gk q⟩
/-- y = [elt for x in iter if ..] -/
theorem zs_setLc {i : Nat} {y : Str} {py spos : Pos} {elt tg0 iter : Expr} {ifs : List Expr} {scope : Scope} {own : List (Str × Nat)} {wi : WI} {g : L2.TG} {tg : Val → Ev → (Ev → Prop) → Prop} {tt : WT} {te : WE} (gk : TgOk X.K g tg (own.map (·.2))) (hc : X.calm = true) (hN : X.N.Nodup) (hy : X.N[i]? = some y)
    (hk : X.env.scope.names.lookup y = some .local) (hsw : swapsWith (.ListComp elt [{ target := tg0, iter := iter, ifs := ifs, is_async := 0 }] scope pos) (some (.Name y py)) spos.line X.env = pure true) (hi : ZI X W tg0 iter wi) (ok : BlkOk X.N X.env.scope scope own)
    (hg : ∀ (s : Shared) (H : Hp) (C : Addr) (cl : List (Str × Addr)) (fp : List Addr), PG (X.blk s H scope (compEnvC scope cl C X.env) fp) tg0 g)
    (ht : ∀ (s : Shared) (H : Hp) (C : Addr) (cl : List (Str × Addr)) (fp : List Addr), ZTs (X.blk s H scope (compEnvC scope cl C X.env) fp) WF ifs tt)
    (he : ∀ (s : Shared) (H : Hp) (C : Addr) (cl : List (Str × Addr)) (fp : List Addr), ZE (X.blk s H scope (compEnvC scope cl C X.env) fp) WF elt te)
    (hs : ∀ x, foldedSetIterable iter X.env x = pure x := by intro _; rfl) : ZS X W (.Assign [.Name y py] (.ListComp elt [{ target := tg0, iter := iter, ifs := ifs, is_async := 0 }] scope pos) spos) (wAsg (wLc wi tg tt te (own.map (·.2))) (wgName i)) :=
  ⟨ps_imp (ps_setLc hc hN hy hk hsw hi.pi ok hg (fun s H C cl fp => (ht s H C cl fp).pts) (fun s H C cl fp => (he s H C cl fp).pe) hs) fun D σ H ⟨S, F, ρ, h, nx, rt, bk, ct, xe, r, rl, q, ln, lr, lb, lc, lx⟩ =>
    zlc_run (W := W) (W' := WF) gk ⟨S, F, ρ, h, _, _, r, rl, q, fun x h1 S1 v H1 q1 s1 r1 x1 => ln _ _ _ _ _ q1 s1 r1 ((rl.mono s1).set i x1), lx.at rl⟩⟩

/-! ### calls of built-ins -/
abbrev WC := List Val → Hh → KQ → Prop
def SndC (K : Fr) (r' : WC) (r : List V → Hp → VK → Prop) : Prop := ∀ S F H h xs vs Q' Q, R K S F H h → Rels K S xs vs → r' xs h Q' → LQ K S F Q' Q → r vs H Q
def wCB (r : WC) (t : WA) : WE := fun ρ h E Q => t ρ h E fun vs h1 => r vs h1 Q
theorem zcallB {x : Str} {p : Pos} {e : Expr} {es : List Expr} {t : WA} {id : String} {r : List V → Hp → VK → Prop} {r' : WC} (hc : CallR X (.builtin id) r) (s : SndC X.K r' r) (hg : Gl X x) (hm : X.mg x = none) (hv : bootBuiltins x = some (.builtin id)) (ha : ZA X W (e :: es) t)
    (hn : x ≠ "__name__" := by decide) (hdb : (x == ("__debug__" : Str)) = false := by decide) (he : starEach (e :: es) X.env = (false, eval e X.env) :: starEach es X.env := by rfl) (hpl : (backTo pos (starEach es X.env)).any (·.1) = false := by rfl) :
    ZE X W (.Call (.Name x p) (e :: es) [] pos) (wCB r' t) :=
  ⟨pe_imp (pe_callB hc hg hm hv ha.pa hn hdb he hpl) fun σ H Q ⟨S, F, ρ, h, E', Q', r, rl, q, lq, lx⟩ =>
    ⟨S, F, ρ, h, E', _, r, rl, q, fun vs h1 S1 ws H1 q1 s1 r1 x1 => s S1 F H1 h1 vs ws _ Q r1 x1 q1 (lq.mono s1), lx⟩⟩
theorem zcallTy {x : Str} {p : Pos} {e : Expr} {es : List Expr} {t : WA} {T : String} {r : List V → Hp → VK → Prop} {r' : WC} (hc : CallR X (.type T) r) (s : SndC X.K r' r) (hg : Gl X x) (hm : X.mg x = none) (hv : bootBuiltins x = some (.type T)) (ha : ZA X W (e :: es) t)
    (hn : x ≠ "__name__" := by decide) (hdb : (x == ("__debug__" : Str)) = false := by decide) (he : starEach (e :: es) X.env = (false, eval e X.env) :: starEach es X.env := by rfl) (hpl : (backTo pos (starEach es X.env)).any (·.1) = false := by rfl) :
    ZE X W (.Call (.Name x p) (e :: es) [] pos) (wCB r' t) :=
  ⟨pe_imp (pe_callTy hc hg hm hv ha.pa hn hdb he hpl) fun σ H Q ⟨S, F, ρ, h, E', Q', r, rl, q, lq, lx⟩ =>
    ⟨S, F, ρ, h, E', _, r, rl, q, fun vs h1 S1 ws H1 q1 s1 r1 x1 => s S1 F H1 h1 vs ws _ Q r1 x1 q1 (lq.mono s1), lx⟩⟩
/-- a built-in class as a value -/
theorem ztyp {x : Str} {n : String} (hg : Gl X x) (hm : X.mg x = none) (hv : bootBuiltins x = some (.type n)) (hn : x ≠ "__name__" := by decide) (hd : (x == ("__debug__" : Str)) = false := by decide) : ZE X W (.Name x pos) (wC (.ty n)) :=
  zc (pe_bltn (v := .ty n) hg hm hv rfl hn hd) fun _ => rel_ty.mpr rfl
theorem rels_1 {K : Fr} {S : Hp} {x : Val} {vs : List V} (h : Rels K S [x] vs) : ∃ w, vs = [w] ∧ Rel K S x w := by
  rw [rels_cons] at h
  obtain ⟨w, r, rfl, h1, h2⟩ := h
  rw [rels_nil] at h2; subst h2
  exact ⟨w, rfl, h1⟩
theorem rels_2 {K : Fr} {S : Hp} {x y : Val} {vs : List V} (h : Rels K S [x, y] vs) : ∃ w u, vs = [w, u] ∧ Rel K S x w ∧ Rel K S y u := by
  rw [rels_cons] at h
  obtain ⟨w, r, rfl, h1, h2⟩ := h
  obtain ⟨u, rfl, h3⟩ := rels_1 h2
  exact ⟨w, u, rfl, h1, h3⟩
/-- len -/
inductive LenN (h : Hh) : Val → Nat → Prop
  | lst {x xs} : Seqq h x xs → LenN h x xs.length
  | tup {xs} : LenN h (.tup xs) xs.length
  | str {z : Str} : z.length ≤ sizeLine → LenN h (.str z) z.length
theorem LenN.l {K : Fr} {S F H : Hp} {h : Hh} {x : Val} {n : Nat} {v : V} (q : LenN h x n) (r : R K S F H h) (x1 : Rel K S x v) : LenV K v H n := by
  cases q with
  | lst q => obtain ⟨a, ws, rfl, h1, h2⟩ := q.l r x1; exact .inl ⟨ws, h1, h2.length⟩
  | tup => obtain ⟨a, ws, rfl, h1, h2⟩ := rel_tupH r x1; exact .inr ⟨ws, h1, h2.length⟩
  | str e => rw [rel_str] at x1; subst x1; exact ⟨e, rfl⟩
def cLen : WC := fun vs h Q => ∃ x n, vs = [x] ∧ LenN h x n ∧ Q (.int (n : Int)) h
theorem s_len {K : Fr} : SndC K cLen (fun xs H Q => ∃ x n, xs = [x] ∧ LenV K x H n ∧ Q (.int n) H) := fun S F H h xs vs Q' Q r rx q lq => by
  obtain ⟨x, n, rfl, q1, q⟩ := q
  obtain ⟨w, rfl, x1⟩ := rels_1 rx
  exact ⟨w, n, rfl, q1.l r x1, lq _ _ S _ _ q (Sub.refl S) r (rel_int.mpr rfl)⟩
/-- max(a, b), min(a, b) of ints -/
def cMax2 : WC := fun vs h Q => ∃ i j, vs = [.int i, .int j] ∧ Q (.int (if j > i then j else i)) h
theorem s_max2 {K : Fr} : SndC K cMax2 (fun xs H Q => ∃ i j, xs = [V.int i, V.int j] ∧ Q (V.int (if j > i then j else i)) H) := fun S F H h xs vs Q' Q r rx q lq => by
  obtain ⟨i, j, rfl, q⟩ := q
  obtain ⟨w, u, rfl, x1, x2⟩ := rels_2 rx
  rw [rel_int] at x1 x2; subst x1 x2
  exact ⟨i, j, rfl, lq _ _ S _ _ q (Sub.refl S) r (rel_int.mpr rfl)⟩
def cMin2 : WC := fun vs h Q => ∃ i j, vs = [.int i, .int j] ∧ Q (.int (if j < i then j else i)) h
/-- isinstance(x, T) of built-in classes -/
inductive TyN (h : Hh) : Val → String → Prop
  | non : TyN h .non "NoneType"
  | bl (b) : TyN h (.bl b) "bool"
  | int (i) : TyN h (.int i) "int"
  | str (z) : TyN h (.str z) "str"
  | tup (xs) : TyN h (.tup xs) "tuple"
  | lst {x xs} : Seqq h x xs → TyN h x "list"
theorem TyN.l {K : Fr} {S F H : Hp} {h : Hh} {x : Val} {n : String} {v : V} (q : TyN h x n) (r : R K S F H h) (x1 : Rel K S x v) : TyX K H v (.type n) := by
  cases q with
  | non => rw [rel_non] at x1; subst x1; exact .base .non
  | bl b => rw [rel_bl] at x1; subst x1; exact .base (.bl b)
  | int i => rw [rel_int] at x1; subst x1; exact .base (.int i)
  | str z => rw [rel_str] at x1; subst x1; exact .base (.str z)
  | tup xs =>
    obtain ⟨a, ws, rfl, h1, h2⟩ := rel_tupH r x1
    rcases h1 with (h1 | ⟨o, h1⟩) | ⟨o, its, m, h1, h3, _⟩
    · exact .base (.tup h1)
    · exact .fTuple h1
    · exact .kTuple h1 h3
  | lst q =>
    obtain ⟨a, ws, rfl, h1, h2⟩ := q.l r x1
    rcases h1 with (h1 | ⟨o, h1⟩) | ⟨o, its, m, h1, h3, _⟩
    · exact .base (.lst h1)
    · exact .base (.frz h1)
    · exact .kList h1 h3
def cIsi : WC := fun vs h Q => ∃ x n T b, vs = [x, .ty T] ∧ TyN h x n ∧ kitB n T = some b ∧ Q (.bl b) h
theorem s_isi {K : Fr} : SndC K cIsi (rIsi K) := fun S F H h xs vs Q' Q r rx q lq => by
  obtain ⟨x, n, T, b, rfl, q1, q2, q⟩ := q
  obtain ⟨w, u, rfl, x1, x2⟩ := rels_2 rx
  rw [rel_ty] at x2; subst x2
  exact ⟨w, .ty T, .type n, .type T, b, rfl, .ty T, q1.l r x1, kit_ty q2, lq _ _ S _ _ q (Sub.refl S) r (rel_bl.mpr rfl)⟩
/-- list(x), tuple(x) -/
inductive SeqT (h : Hh) : Val → List Val → Prop
  | lst {x xs} : Seqq h x xs → SeqT h x xs
  | tup (xs) : SeqT h (.tup xs) xs
theorem SeqT.l {K : Fr} {S F H : Hp} {h : Hh} {x : Val} {xs : List Val} {v : V} (q : SeqT h x xs) (r : R K S F H h) (x1 : Rel K S x v) : ∃ a ws, v = .ref a ∧ (SqL K H a ws ∨ SqT K H a ws) ∧ Rels K S xs ws := by
  cases q with
  | lst q => obtain ⟨a, ws, e, h1, h2⟩ := q.l r x1; exact ⟨a, ws, e, .inl h1, h2⟩
  | tup => obtain ⟨a, ws, e, h1, h2⟩ := rel_tupH r x1; exact ⟨a, ws, e, .inr h1, h2⟩
def cList : WC := fun vs h Q => ∃ x xs, vs = [x] ∧ SeqT h x xs ∧ NewL xs h Q
theorem s_list {K : Fr} : SndC K cList (fun xs H Q => ∃ p ys, xs = [V.ref p] ∧ (SqL K H p ys ∨ SqT K H p ys) ∧ ∀ (l : Addr), H l = none → Q (V.ref l) (upd H l (HO.lst ys))) := fun S F H h xs vs Q' Q r rx q lq => by
  obtain ⟨x, ys, rfl, q1, q⟩ := q
  obtain ⟨w, rfl, x1⟩ := rels_1 rx
  obtain ⟨a, ws, rfl, h1, h2⟩ := q1.l r x1
  exact ⟨a, ws, rfl, h1, fun l n => newl r h2 q lq n⟩
def cTuple : WC := fun vs h Q => ∃ x xs, vs = [x] ∧ SeqT h x xs ∧ Q (.tup xs) h
theorem s_tuple {K : Fr} : SndC K cTuple (fun xs H Q => ∃ p ys, xs = [V.ref p] ∧ ((SqL K H p ys ∧ ∀ (l : Addr), H l = none → Q (V.ref l) (upd H l (HO.tup ys))) ∨ SqT K H p ys ∧ Q (V.ref p) H)) := fun S F H h xs vs Q' Q r rx q lq => by
  obtain ⟨x, ys, rfl, q1, q⟩ := q
  obtain ⟨w, rfl, x1⟩ := rels_1 rx
  cases q1 with
  | lst q1 =>
    obtain ⟨a, ws, rfl, h1, h2⟩ := q1.l r x1
    exact ⟨a, ws, rfl, .inl ⟨h1, fun l n => newt r h2 q lq n⟩⟩
  | tup =>
    obtain ⟨a, ws, rfl, h1, h2⟩ := rel_tupH r x1
    exact ⟨a, ws, rfl, .inr ⟨h1, lq _ _ S _ _ q (Sub.refl S) r x1⟩⟩
/-- sum(xs) of ints -/
def cSum : WC := fun vs h Q => ∃ (x : Val) (ns : List Int), vs = [x] ∧ Seqq h x (ns.map Val.int) ∧ Q (.int ns.sum) h
theorem s_sum {K : Fr} : SndC K cSum (rSum K) := fun S F H h xs vs Q' Q r rx q lq => by
  obtain ⟨x, ns, rfl, q1, q⟩ := q
  obtain ⟨w, rfl, x1⟩ := rels_1 rx
  obtain ⟨a, ws, rfl, h1, h2⟩ := q1.l r x1
  rw [Rels.ints] at h2; subst h2
  exact ⟨a, ns, rfl, h1, lq _ _ S _ _ q (Sub.refl S) r (rel_int.mpr rfl)⟩
/-- int(n), int(flag) -/
def cInt : WC := fun vs h Q => (∃ i, vs = [.int i] ∧ Q (.int i) h) ∨ ∃ k, vs = [.bl k] ∧ Q (.int (if k then 1 else 0)) h
theorem s_int {K : Fr} : SndC K cInt (fun xs H Q => (∃ i, xs = [V.int i] ∧ Q (V.int i) H) ∨ ∃ k, xs = [V.bl k] ∧ Q (V.int (if k then 1 else 0)) H) := fun S F H h xs vs Q' Q r rx q lq => by
  rcases q with ⟨i, rfl, q⟩ | ⟨k, rfl, q⟩
  · obtain ⟨w, rfl, x1⟩ := rels_1 rx
    rw [rel_int] at x1; subst x1
    exact .inl ⟨i, rfl, lq _ _ S _ _ q (Sub.refl S) r (rel_int.mpr rfl)⟩
  · obtain ⟨w, rfl, x1⟩ := rels_1 rx
    rw [rel_bl] at x1; subst x1
    exact .inr ⟨k, rfl, lq _ _ S _ _ q (Sub.refl S) r (rel_int.mpr rfl)⟩
/-! ### methods of built-in types -/
abbrev WM := Val → List Val → Hh → KQ → Prop
def SndM (K : Fr) (r' : WM) (r : V → List V → Hp → VK → Prop) : Prop := ∀ S F H h x v xs vs Q' Q, R K S F H h → Rel K S x v → Rels K S xs vs → r' x xs h Q' → LQ K S F Q' Q → r v vs H Q
inductive TyM (h : Hh) : String → Val → Prop
  | str (z) : TyM h "str" (.str z)
  | lst {x xs} : Seqq h x xs → TyM h "list" x
  | dK {a kvs} : h a = some (.dK kvs) → TyM h "dict" (.ref a)
  | dT {a kvs} : h a = some (.dT kvs) → TyM h "dict" (.ref a)
theorem TyM.l {K : Fr} {S F H : Hp} {h : Hh} {x : Val} {T : String} {v : V} (q : TyM h T x) (r : R K S F H h) (x1 : Rel K S x v) : tyV K T v H := by
  cases q with
  | str z => rw [rel_str] at x1; subst x1; exact rfl
  | lst q => obtain ⟨a, ws, rfl, h1, h2⟩ := q.l r x1; exact .inl ⟨rfl, ws, h1⟩
  | dK e => rw [rel_ref] at x1; subst x1; obtain ⟨_, u, h1, ws, rfl, _⟩ := r.own _ _ e; exact .inr (.inr (.inl ⟨rfl, .inl ⟨_, h1⟩⟩))
  | dT e => rw [rel_ref] at x1; subst x1; obtain ⟨_, u, h1, ws, rfl, _⟩ := r.own _ _ e; exact .inr (.inr (.inl ⟨rfl, .inr ⟨_, h1⟩⟩))
def wBM (T : String) (r : WM) (to : WE) (t : WA) : WE := fun ρ h E Q => to ρ h E fun x h1 => TyM h1 T x ∧ t ρ h1 E fun xs h2 => r x xs h2 Q
def wBM0 (T : String) (r : WM) (to : WE) : WE := fun ρ h E Q => to ρ h E fun x h1 => TyM h1 T x ∧ r x [] h1 Q
theorem zbm {o e : Expr} {es : List Expr} {to : WE} {t : WA} {name : Str} {apos cpos : Pos} {T id : String} {r : V → List V → Hp → VK → Prop} {r' : WM} (hp : PlainAttrs T) (hs : Slot T name id) (hd : typeOf (.builtin id) = pure (.type "method_descriptor")) (hr : MtR X id r) (s : SndM X.K r' r) (ho : ZE X W o to) (ha : ZA X W (e :: es) t)
    (hb : attributeBase o name X.env (eval o X.env) = eval o X.env := by rfl)
    (hq : ((((backTo cpos (starEach (e :: es) X.env)).all fun x => !x.1) && (backToKw cpos (keywordEach [] X.env)).all fun x => x.1.isSome) && decide (((e :: es).length + ([] : List Keyword).length + if ([] : List Keyword).isEmpty = true then 0 else 1) < 30)) = true := by rfl)
    (hl : (apos.endLine == cpos.line) = true := by rfl) (he : starEach (e :: es) X.env = (false, eval e X.env) :: starEach es X.env := by rfl) (hpl : (backTo cpos (starEach es X.env)).any (·.1) = false := by rfl) :
    ZE X W (.Call (.Attribute o name apos) (e :: es) [] cpos) (wBM T r' to t) :=
  ⟨pe_imp (pe_bm hp hs hd hr ho.pe ha.pa hb hq hl he hpl) fun σ H Q ⟨S, F, ρ, h, E', Q', r, rl, q, lq, lx⟩ =>
    ⟨S, F, ρ, h, E', _, r, rl, q, fun x h1 S1 v H1 q1 s1 r1 x1 => ⟨q1.1.l r1 x1, S1, F, ρ, h1, E', _, r1, rl.mono s1, q1.2, fun xs h2 S2 vs H2 q2 s2 r2 x2 =>
      s S2 F H2 h2 x v xs vs _ Q r2 (Rel.mono s2 _ _ x1) x2 q2 ((lq.mono s1).mono s2), lx.mono s1⟩, lx⟩⟩
def mAppend : WM := fun x vs h Q => ∃ l xs y, x = .ref l ∧ vs = [y] ∧ h l = some (.lst xs) ∧ xs.length < 16000000 ∧ Q .non (hup h l (.lst (xs ++ [y])))
theorem s_append {K : Fr} : SndM K mAppend rAppend := fun S F H h x v xs vs Q' Q r rx rxs q lq => by
  obtain ⟨l, ys, y, rfl, rfl, e, hl, q⟩ := q
  obtain ⟨w, rfl, x1⟩ := rels_1 rxs
  rw [rel_ref] at rx
  obtain ⟨_, u, h1, ws, rfl, h2⟩ := r.own _ _ e
  have hz := sizeLine_eq
  exact ⟨l, ws, w, rx, rfl, h1, by rw [← h2.length]; omega, lq _ _ S _ _ q (Sub.refl S) (r.store e ⟨_, rfl, h2.app (Rels.one x1)⟩) (rel_non.mpr rfl)⟩
def mPopAt : WM := fun x vs h Q => ∃ l xs i k y, x = .ref l ∧ vs = [.int i] ∧ h l = some (.lst xs) ∧ -(2 ^ 63) ≤ i ∧ i < 2 ^ 63 ∧ seqIndex? i xs.length = some k ∧ xs[k]? = some y ∧ Q y (hup h l (.lst (xs.eraseIdx k)))
theorem s_popAt {K : Fr} : SndM K mPopAt rPopAt := fun S F H h x v xs vs Q' Q r rx rxs q lq => by
  obtain ⟨l, ys, i, k, y, rfl, rfl, e, b1, b2, hk, hy, q⟩ := q
  obtain ⟨w, rfl, x1⟩ := rels_1 rxs
  rw [rel_ref] at rx
  rw [rel_int] at x1; subst x1
  obtain ⟨_, u, h1, ws, rfl, h2⟩ := r.own _ _ e
  obtain ⟨w2, e2, x2⟩ := h2.get hy
  exact ⟨l, ws, i, k, w2, rx, rfl, h1, b1, b2, by rw [← h2.length]; exact hk, e2, lq _ _ S _ _ q (Sub.refl S) (r.store e ⟨_, rfl, h2.erase k⟩) x2⟩
end
/-! Z7 -/
/-! own defs: promises, calls, methods, instances; a def by its body -/
open PyProof.Rows
/-- a promise: parameters, what must hold ahead, what holds behind, what is let out -/
structure FS where
  P : Type
  pre : P → List Val → Hh → Prop
  post : P → Hh → Val → Hh → Prop
  xpost : P → Hh → Addr → Val → Hh → Prop := fun _ _ _ _ _ => False
def FS.sp (fs : FS) (vs : List Val) (h : Hh) (E : XQ) (Q : KQ) : Prop := ∃ p, fs.pre p vs h ∧ (∀ v h', fs.post p h v h' → Q v h') ∧ ∀ C v h', fs.xpost p h C v h' → E C v h'
def lSp (K : Fr) (fs : FS) : L2.Sp := fun ws H Q E => ∃ S F vs h E' Q', R K S F H h ∧ Rels K S vs ws ∧ fs.sp vs h E' Q' ∧ LQ K S F Q' Q ∧
  ∀ C v h' S' w d H', E' C v h' → Sub S S' → R K S' F H' h' → Rel K S' v w → S' d = some (.xd [("what", w)]) → E (.ref C) (some d) H'
/-- a def of the module that keeps a promise; dv: what fills up behind the written arguments -/
structure Fn (P : Program) (w : World) (K : Fr) (mg : Str → Option Value) (base : Heap) (x : Str) (k : Nat) (ps : List Str) (dv : List Val) (fs : FS) : Prop where
  ex : ∃ (f : Addr) (fd : FuncData) (dvs : List V) (ds : List Value), FnOk P w K mg base (L2.CX P w) k f fd ps (lSp K fs) ∧ mg x = some (.ref f) ∧ PySem.W.keepIn K (.ref f) = true ∧ Vals dvs ds ∧ (∀ S, Rels K S dv dvs) ∧ Binds K fd ps ds
/-- a method of the class at C -/
structure Mt (P : Program) (w : World) (K : Fr) (mg : Str → Option Value) (base : Heap) (C : Addr) (m : Str) (k : Nat) (ps : List Str) (dv : List Val) (fs : FS) : Prop where
  ex : ∃ (f : Addr) (fd : FuncData) (dvs : List V) (ds : List Value), FnOk P w K mg base (L2.CX P w) k f fd ps (lSp K fs) ∧ Meth K C m f ∧ Vals dvs ds ∧ (∀ S, Rels K S dv dvs) ∧ Binds K fd ps ds
/-- a class that is made -/
structure Ck (P : Program) (w : World) (K : Fr) (mg : Str → Option Value) (base : Heap) (x : Str) (C : Addr) (k : Nat) (ps : List Str) (dv : List Val) (fs : FS) : Prop where
  ex : ∃ (f : Addr) (fd : FuncData) (dvs : List V) (ds : List Value), FnOk P w K mg base (L2.CX P w) k f fd ps (lSp K fs) ∧ mg x = some (.ref C) ∧ Mk K C f ∧ Vals dvs ds ∧ (∀ S, Rels K S dv dvs) ∧ Binds K fd ps ds
section
variable {X : Cx} {W : WX} {pos : Pos} {k : Nat} {x m : Str} {ps : List Str} {dv : List Val} {fs : FS} {C : Addr} {p apos : Pos} {e o : Expr} {es : List Expr} {t : WA} {ta : WE}
def wCall (fs : FS) (dv : List Val) (t : WA) : WE := fun ρ h E Q => t ρ h E fun vs h1 => fs.sp (vs ++ dv) h1 E Q
theorem lsp_of {K : Fr} {W : WX} {S F H : Hp} {h : Hh} {σ : L2.St} {vs : List Val} {ws : List V} {E' : XQ} {Q' : KQ} {Q : VK} (r : R K S F H h) (x : Rels K S vs ws) (q : fs.sp vs h E' Q') (lq : LQ K S F Q' Q) (lx : LX K S F E' W σ) : lSp K fs ws H Q (L2.WE W σ) :=
  ⟨S, F, vs, h, E', Q', r, x, q, lq, lx⟩
theorem zcall (tk : Takes X W) (G : Fn X.prog X.w X.K X.mg X.base x k ps dv fs) (hr : Room k X.A) (hg : Gl X x) (ha : ZA X W (e :: es) t) (hdb : (x == ("__debug__" : Str)) = false := by decide)
    (he : starEach (e :: es) X.env = (false, eval e X.env) :: starEach es X.env := by rfl) (hpl : (backTo pos (starEach es X.env)).any (·.1) = false := by rfl) : ZE X W (.Call (.Name x p) (e :: es) [] pos) (wCall fs dv t) := by
  obtain ⟨f, fd, dvs, ds, F, hm, hk, hd, hdv, hb⟩ := G.ex
  exact ⟨pe_imp (pe_callSD F hr hg hm hk hb hd (fun σ => passAt tk σ) ha.pa hdb he hpl) fun σ H Q ⟨S, F, ρ, h, E', Q', r, rl, q, lq, lx⟩ =>
    ⟨S, F, ρ, h, E', _, r, rl, q, fun vs h1 S1 ws H1 q1 s1 r1 x1 => lsp_of r1 (x1.app (hdv S1)) q1 (lq.mono s1) (lx.mono s1), lx⟩⟩
/-- o.m(e, ..) -/
def wMeth (C : Addr) (m : Str) (fs : FS) (dv : List Val) (ta : WE) (t : WA) : WE := fun ρ h E Q => ta ρ h E fun x h1 => ∃ fl, Ins h1 x C fl ∧ fl.lookup m = none ∧ t ρ h1 E fun vs h2 => fs.sp (x :: (vs ++ dv)) h2 E Q
theorem zmeth {pl : Sem Bool} (tk : Takes X W) (c : Cls X.K C) (G : Mt X.prog X.w X.K X.mg X.base C m k ps dv fs) (hr : Room k X.A) (ho : ZE X W o ta) (ha : ZA X W (e :: es) t)
    (hst : starEach (e :: es) X.env = (false, eval e X.env) :: starEach es X.env := by rfl) (hpl : (backTo pos (starEach es X.env)).any (·.1) = false := by rfl)
    (ht : eval (.Call (.Attribute o m apos) (e :: es) [] pos) X.env = (do
      let ov ← eval o X.env
      standAt apos.atName
      let (f, first) ← holding [ov] (getMethod ov m pl)
      callWith pos f first (backTo pos (starEach (e :: es) X.env)) (backToKw pos (keywordEach [] X.env))) := by rfl) : ZE X W (.Call (.Attribute o m apos) (e :: es) [] pos) (wMeth C m fs dv ta t) := by
  obtain ⟨f, fd, dvs, ds, F, hm, hd, hdv, hb⟩ := G.ex
  refine ⟨⟨fun pins s σ H Q I h => ?_⟩⟩
  obtain ⟨S, Fr, ρ, h, E', Q', r, rl, q, lq, lx⟩ := h
  refine PySem.W.methodCall_KW (pl := pl) (thn (ho.pe.run pins s σ H (fun v H1 => ∃ S1 h1 x, Sub S S1 ∧ R X.K S1 Fr H1 h1 ∧ Rel X.K S1 x v ∧ _) I ⟨S, Fr, ρ, h, E', _, r, rl, q, fun y h1 S1 v H1 q1 s1 r1 x1 => ⟨S1, h1, y, s1, r1, x1, q1⟩, lx⟩) fun u s1 ⟨y, H1, I1, rx, S1, h1, x1, ss1, r1, rx1, fl, q1, q2, q3⟩ => ?_) ht
  obtain ⟨a, dx, gs, e1, e2, e3⟩ := q1.l r1 rx1
  subst e1
  obtain rfl : u = Value.ref a := rx
  refine getmeth_ok I1 e2 c hm (e3.lookup_none q2) ?_
  refine PySem.W.callWith_K (first := [.ref a]) (h₀ := X.base) I.ok.mod.kin hm.kp (thn (ha.pa.run pos pins s1 σ H1 (fun ws H2 => lSp X.K fs (.ref a :: (ws ++ dvs)) H2 Q (L2.WE W σ)) I1 ?_) fun us s2 ⟨vs, H2, I2, rv, q4⟩ => ⟨I2.kIn, ?_⟩) hst hpl
  · exact ⟨S1, Fr, ρ, h1, E', _, r1, rl.mono ss1, q3, fun vs h2 S2 ws H2 q4 s2 r2 x2 => lsp_of r2 (rels_cons.mpr ⟨_, _, rfl, Rel.mono s2 _ _ rx1, x2.app (hdv S2)⟩) q4 ((lq.mono ss1).mono s2) ((lx.mono ss1).mono s2), lx.mono ss1⟩
  · exact run_fnSD (us := .ref a :: us) (vs := .ref a :: vs) (E := L2.WE W) F hr hb hd (passAt tk σ) I2 (.cons rfl rv) q4
/-- C(e, ..) -/
def MkEnd (C a : Addr) (h : Hh) (Q : KQ) : Prop := Q (.ref a) h ∨ ∃ fs, h a = some (.ins C fs) ∧ Q (.obj C fs) (hdel h a)
def wMake (C : Addr) (fs : FS) (dv : List Val) (t : WA) : WE := fun ρ h E Q => t ρ h E fun vs h1 => ∀ a, h1 a = none → fs.sp (.ref a :: (vs ++ dv)) (hup h1 a (.ins C [])) E (fun v h2 => v = .non ∧ MkEnd C a h2 Q)
/-- a new object that nobody speaks of -/
theorem R.extra {K : Fr} {S F H : Hp} {h : Hh} {q : Addr} {u : HO} (r : R K S F H h) (n : H q = none) : R K S F (upd H q u) h := by
  have nS : S q = none := r.sub.free n
  refine ⟨fun a o e => ?_, fun a o e => ?_, fun a o e => ?_, r.ntp⟩
  · rw [upd_ne (ne_of_none e nS)]; exact r.sub _ _ e
  · obtain ⟨h1, h2, h3⟩ := r.frm a o e
    exact ⟨by rw [upd_ne (ne_of_none h1 n)]; exact h1, h2, h3⟩
  · obtain ⟨h1, v, h2, h3⟩ := r.own a o e
    exact ⟨h1, v, by rw [upd_ne (ne_of_none h2 n)]; exact h2, h3⟩
theorem run_makeSD {CX : CXT} {f C : Addr} {fd : FuncData} {ps : List Str} {sp : L2.Sp} {dvs : List V} {ds : List Value} {E : L2.St → XK} {k : Nat} {pins : List (Addr × Obj)} {σ : L2.St} {H : Hp} {s : Shared} {Q : VK} {us : List Value} {vs : List V} (M : Mk X.K C f) (F : FnOk X.prog X.w X.K X.mg X.base CX k f fd ps sp) (hr : Room (k + 1) X.A) (hb : Binds X.K fd ps ds) (hd : Vals dvs ds)
    (hx : PassesAt CX X σ (E σ)) (I : L2.Inv X pins σ H s) (r : Vals vs us)
    (h : ∀ x dx, H x = none → H dx = none → dx ≠ x → sp (.ref x :: (vs ++ dvs)) (upd (upd H dx (.own x)) x (.ins C dx [])) (fun v H2 => v = .non ∧ Q (.ref x) H2) (E σ)) :
    wpAny (model X.prog X.w) X.A (call (.ref C) us) (EP X pins σ Q) X.xe s := by
  have hq := h (s.heap.objs.size + 1) s.heap.objs.size (I.hok.fresh (Nat.le_succ _)) (I.hok.fresh (Nat.le_refl _)) (Nat.ne_of_lt (Nat.lt_succ_self _))
  have I2 := L2.Inv.made (C := C) I
  have r2 : Vals (V.ref (s.heap.objs.size + 1) :: (vs ++ dvs)) (Value.ref (s.heap.objs.size + 1) :: (us ++ ds)) := .cons rfl (r.append hd)
  have hl : (Value.ref (s.heap.objs.size + 1) :: us ++ ds).length = ps.length := by
    have e := r2.length
    rw [F.len _ _ _ _ hq] at e
    exact e.symm
  refine wpAny_call (make_map (f := f) I.kIn M.makes M.init (beq_iff_eq.mp M.fn) (codeAny_mono (F.run _ X.stack _ _ ⟨Value.ref (s.heap.objs.size + 1) :: us, []⟩ (Value.ref (s.heap.objs.size + 1) :: (us ++ ds)) _ _ (E σ) (hr.make C us [])
    (I2.env0.make C us []) (hb _ (Value.ref (s.heap.objs.size + 1) :: us) I2.kIn hl) r2 hq) fun r s' hq' => ?_))
  cases r with
  | error e => exact hx pins _ _ e s' I2 hq'
  | ok fl =>
    cases fl with
    | ret u =>
      obtain ⟨v, H', I3, rv, ev, q3⟩ := I2.after hq'
      subst ev
      exact ⟨rv, ⟨V.ref (s.heap.objs.size + 1), H', I3, rfl, q3⟩⟩
    | next => exact False.elim hq'
    | brk => exact False.elim hq'
    | cont => exact False.elim hq'
theorem mk_sp {K : Fr} {W : WX} {S F H : Hp} {h : Hh} {σ : L2.St} {vs : List Val} {ws : List V} {E' : XQ} {Q' : KQ} {Q : VK} (r : R K S F H h) (x : Rels K S vs ws) (q : ∀ a, h a = none → fs.sp (.ref a :: vs) (hup h a (.ins C [])) E' (fun v h2 => v = .non ∧ MkEnd C a h2 Q')) (lq : LQ K S F Q' Q) (lx : LX K S F E' W σ) :
    ∀ x dx, H x = none → H dx = none → dx ≠ x → lSp K fs (.ref x :: ws) (upd (upd H dx (.own x)) x (.ins C dx [])) (fun v H2 => v = .non ∧ Q (.ref x) H2) (L2.WE W σ) := fun a dx n nd ne => by
  have n2 : upd H dx (.own a) a = none := by rw [upd_ne ne.symm]; exact n
  have r2 : R K S F (upd (upd H dx (.own a)) a (.ins C dx [])) (hup h a (.ins C [])) := (r.extra (u := .own a) nd).owned n2 ⟨dx, [], rfl, relf_nil.mpr rfl⟩
  refine ⟨S, F, .ref a :: vs, _, E', _, r2, rels_cons.mpr ⟨_, _, rfl, rel_ref.mpr rfl, x⟩, q a (r.fresh n), fun v h' S' w H' q1 s1 r1 x1 => ?_, lx⟩
  obtain ⟨rfl, q1⟩ := q1
  refine ⟨rel_non.mp x1, ?_⟩
  rcases q1 with q1 | ⟨fl, e1, q1⟩
  · exact lq _ _ _ _ _ q1 s1 r1 (rel_ref.mpr rfl)
  · obtain ⟨u, x2, r3, s3⟩ := r1.freeze e1
    obtain ⟨dy, gs, rfl, x3⟩ := x2
    exact lq _ _ _ _ _ q1 (s1.trans s3) r3 (rel_obj.mpr ⟨a, dy, gs, rfl, upd_same, RelF.mono s3 _ _ x3⟩)
end

/-! ### a def by its body -/
/-- a value and a heap may be told otherwise -/
def ShV (K : Fr) (v : Val) (h : Hh) (v2 : Val) (h2 : Hh) : Prop := ∀ S F H w, R K S F H h → Rel K S v w → ∃ S2, Sub S S2 ∧ R K S2 F H h2 ∧ Rel K S2 v2 w
def Good (K : Fr) (Q : KQ) : Prop := ∀ v h v2 h2, ShV K v h v2 h2 → Q v2 h2 → Q v h
def startV (N : List Str) (vs : List Val) : Ev := vs.map some ++ List.replicate (N.length - vs.length) none
theorem rls_start {K : Fr} {S : Hp} {N : List Str} {vs : List Val} {ws : List V} (x : Rels K S vs ws) : Rls K S (startV N vs) (L2.start N ws) := by
  unfold startV L2.start
  have hl := x.length
  refine ⟨by simp [hl], fun i v e => ?_⟩
  by_cases hi : i < vs.length
  · rw [List.getElem?_append_left (by simpa using hi), List.getElem?_map] at e
    cases q : vs[i]? with
    | none => rw [q] at e; cases e
    | some y =>
      rw [q] at e; cases e
      obtain ⟨w, e2, x2⟩ := x.get q
      exact ⟨w, by rw [List.getElem?_append_left (by simpa [← hl] using hi), List.getElem?_map, e2]; rfl, x2⟩
  · rw [List.getElem?_append_right (by simpa using hi)] at e
    rw [List.getElem?_replicate] at e
    split at e <;> cases e
section
variable {P : Program} {w : World} {K : Fr} {mg : Str → Option Value} {base : Heap} {x qual : Str} {params : Arguments} {body : List Stmt} {scope : Scope} {dvs : List V} {kws : List (Str × V)} {f : Addr} {fd : FuncData} {N ps : List Str} {k : Nat} {fs : FS}
abbrev Cxd (P : Program) (w : World) (K : Fr) (mg : Str → Option Value) (base : Heap) (N : List Str) (qual : Str) (scope : Scope) (f : Addr) (cdv : Value) (A : Around) (outer : List Env) (s : Shared) (H : Hp) (E : XK) : Cx := cxOf (L2.CX P w) P w K mg base N qual scope f cdv A outer s H E
abbrev Wd (E : XK) : WX := fun cls d _ H => E cls d H
theorem tkd {N : List Str} {qual : Str} {scope : Scope} {cdv : Value} {A : Around} {outer : List Env} {s : Shared} {H : Hp} {E : XK} : Takes (Cxd P w K mg base N qual scope f cdv A outer s H E) (Wd E) := takes_of rfl rfl rfl rfl
theorem psd {N : List Str} {qual : Str} {scope : Scope} {cdv : Value} {A : Around} {outer : List Env} {s : Shared} {H : Hp} {E : XK} : PassesOwn (model (Cxd P w K mg base N qual scope f cdv A outer s H E).prog (Cxd P w K mg base N qual scope f cdv A outer s H E).w) (Cxd P w K mg base N qual scope f cdv A outer s H E).A (Cxd P w K mg base N qual scope f cdv A outer s H E).env (Cxd P w K mg base N qual scope f cdv A outer s H E).xe := passes_of rfl
theorem zdef (F : FunD K x qual params body scope dvs kws f fd) (Sc : FnScope N ps scope) (len : ∀ p vs h, fs.pre p vs h → vs.length = ps.length)
    (hb : ∀ (cdv : Value) (A : Around) (outer : List Env) (s : Shared) (H : Hp) (E : XK), Room k (A.deeper (envOfC qual scope s.heap.objs.size f cdv)) →
      ∃ t, ZB (Cxd P w K mg base N qual scope f cdv A outer s H E) (Wd E) body t ∧ ∀ p vs h Q (X : XQ), Good K Q → fs.pre p vs h → (∀ v h', fs.post p h v h' → Q v h') → (∀ C v h', fs.xpost p h C v h' → X C v h') →
        t (fun _ h' => Q .non h') Q (fun _ _ => False) (fun _ _ => False) (fun C v _ h' => X C v h') (startV N vs) h) : FnOk P w K mg base (L2.CX P w) (k + 1) f fd ps (lSp K fs) := by
  refine F.ok Sc (fun ws H Q E ⟨S, Fr, vs, h, E', Q', r, rx, ⟨p, q, _⟩, _⟩ => rx.length.symm.trans (len _ _ _ q)) fun cdv A outer s H ws Q E hr hsp => ?_
  obtain ⟨t, ht, hq⟩ := hb cdv A outer s H E hr
  refine ⟨_, ht.pss, ?_⟩
  obtain ⟨S, Fr, vs, h, E', Q', r, rx, ⟨p, q, qp, qx⟩, lq, lx⟩ := hsp
  have gd : Good K (fun v h' => ∀ S' w H', Sub S S' → R K S' Fr H' h' → Rel K S' v w → Q w H') := fun v h v2 h2 sh q2 S' w H' s' r' x' => by
    obtain ⟨S2, s2, r2, x2⟩ := sh S' Fr H' w r' x'
    exact q2 S2 w H' (s'.trans s2) r2 x2
  have q0 := hq p vs h _ (fun C v h' => ∀ S' w d H', Sub S S' → R K S' Fr H' h' → Rel K S' v w → S' d = some (.xd [("what", w)]) → E (.ref C) (some d) H') gd q
    (fun v h' z S' w H' s' r' x' => lq _ _ _ _ _ (qp v h' z) s' r' x') (fun C v h' z S' w d H' s' r' x' e => lx _ _ _ _ _ _ _ (qx C v h' z) s' r' x' e)
  exact ⟨S, Fr, _, h, _, _, _, _, _, r, rls_start rx, q0, fun ρ h' S' σ H' z s' r' _ => z S' .non H' s' r' (rel_non.mpr rfl), fun v h' S' w H' z s' r' x' => z S' w H' s' r' x', fun _ _ _ _ _ z => z.elim, fun _ _ _ _ _ z => z.elim,
    fun C v ρ h' S' w d σ H' z s' r' _ x' e => z S' w d H' s' r' x' e⟩
/-- the law's own def -/
abbrev Cxl (P : Program) (w : World) (K : Fr) (mg : Str → Option Value) (base : Heap) (N : List Str) (qual : Str) (scope : Scope) (f : Addr) (cdv : Value) (A : Around) (outer : List Env) (s : Shared) (H : Hp) (E : XK) : Cx := cxOf CX0 P w K mg base N qual scope f cdv A outer s H E
theorem tkl {N : List Str} {qual : Str} {scope : Scope} {cdv : Value} {A : Around} {outer : List Env} {s : Shared} {H : Hp} {E : XK} : Takes (Cxl P w K mg base N qual scope f cdv A outer s H E) WF := takes0
theorem psl {N : List Str} {qual : Str} {scope : Scope} {cdv : Value} {A : Around} {outer : List Env} {s : Shared} {H : Hp} {E : XK} : PassesOwn (model (Cxl P w K mg base N qual scope f cdv A outer s H E).prog (Cxl P w K mg base N qual scope f cdv A outer s H E).w) (Cxl P w K mg base N qual scope f cdv A outer s H E).A (Cxl P w K mg base N qual scope f cdv A outer s H E).env (Cxl P w K mg base N qual scope f cdv A outer s H E).xe := passes_of (K := fun _ _ => False) (E₁ := fun _ _ => False) rfl
theorem zlaw {pre : List Val → Hh → Prop} (F : FunD K x qual params body scope dvs kws f fd) (Sc : FnScope N ps scope) (len : ∀ vs h, pre vs h → vs.length = ps.length)
    (hb : ∀ (cdv : Value) (A : Around) (outer : List Env) (s : Shared) (H : Hp) (E : XK), Room k (A.deeper (envOfC qual scope s.heap.objs.size f cdv)) →
      ∃ t, ZB (Cxl P w K mg base N qual scope f cdv A outer s H E) WF body t ∧ ∀ vs h Q, pre vs h → (∀ h', Q (.bl true) h') → t (fun _ h' => Q .non h') Q (fun _ _ => False) (fun _ _ => False) (fun _ _ _ _ => False) (startV N vs) h) :
    FnOk P w K mg base CX0 (k + 1) f fd ps (lSp K ⟨Unit, fun _ => pre, fun _ _ v _ => v = .bl true, fun _ _ _ _ _ => False⟩) := by
  refine F.ok Sc (fun ws H Q E ⟨S, Fr, vs, h, E', Q', r, rx, ⟨p, q, _⟩, _⟩ => rx.length.symm.trans (len _ _ q)) fun cdv A outer s H ws Q E hr hsp => ?_
  obtain ⟨t, ht, hq⟩ := hb cdv A outer s H E hr
  refine ⟨_, ht.pss, ?_⟩
  obtain ⟨S, Fr, vs, h, E', Q', r, rx, ⟨p, q, qp, qx⟩, lq, lx⟩ := hsp
  have q0 := hq vs h (fun v h' => ∀ S' w H', Sub S S' → R K S' Fr H' h' → Rel K S' v w → Q w H') q (fun h' S' w H' s' r' x' => lq _ _ _ _ _ (qp _ h' rfl) s' r' x')
  exact ⟨S, Fr, _, h, _, _, _, _, _, r, rls_start rx, q0, fun ρ h' S' σ H' z s' r' _ => z S' .non H' s' r' (rel_non.mpr rfl), fun v h' S' w H' z s' r' x' => z S' w H' s' r' x', fun _ _ _ _ _ z => z.elim, fun _ _ _ _ _ z => z.elim,
    fun C v ρ h' S' w d σ H' z => z.elim⟩
end
/-- what the law is handed -/
def preL : List Val → Hh → Prop := fun vs h => ∃ ns : List Int, vs = [.scr (ns.map Val.int)] ∧ ns.length ≤ 63 ∧ h = fun _ => none
/-- every object of the layer's heap, at the law's entry, is never changed again -/
theorem r_entry {K : Fr} {H : Hp} : R K H (fun _ => none) H (fun _ => none) := ⟨Sub.refl H, fun _ _ q => (nomatch q), fun _ _ q => (nomatch q), fun _ _ q => (nomatch q)⟩
theorem law_sp {K : Fr} {H : Hp} {a : Addr} {ns : List Int} (hl : ns.length ≤ 63) (hS : SqL K H a (ns.map V.int)) : lSp K ⟨Unit, fun _ => preL, fun _ _ v _ => v = .bl true, fun _ _ _ _ _ => False⟩ [.ref a] H (fun v _ => v = .bl true) fun _ _ _ => False :=
  ⟨H, fun _ => none, [.scr (ns.map Val.int)], fun _ => none, fun _ _ _ => False, fun v _ => v = .bl true, r_entry, Rels.one (rel_scr.mpr ⟨a, _, rfl, hS, Rels.ints.mpr rfl⟩), ⟨(), ⟨ns, rfl, hl, rfl⟩, fun _ _ z => z, fun _ _ _ z => z⟩,
    fun v h' S' w H' z _ _ x => by subst z; exact rel_bl.mp x, fun _ _ _ _ _ _ _ z => z.elim⟩
/-! Z8 -/
/-! more rules: one subscript for lists, tuples, texts; texts; chains as tests; minus; str, join, f-strings; list + list -/
section
variable {X : Cx} {W : WX} {pos : Pos}
inductive IxA (h : Hh) : Val → Int → Val → Prop
  | lst {x xs i v} : Seqq h x xs → L2.atI xs i = some v → IxA h x i v
  | tup {xs i v} : L2.atI xs i = some v → IxA h (.tup xs) i v
  | str {z : Str} {i c} : z.length ≤ sizeLine → L2.atI z.cps.toList i = some c → IxA h (.str z) i (.str ⟨#[c]⟩)
def wIx : W2 := fun x y h Q => ∃ i v, y = .int i ∧ IxA h x i v ∧ Q v h
theorem s_ix {K : Fr} : Snd2 K wIx (rIx K) := fun S F H h x y v w Q' Q r rx ry q lq => by
  obtain ⟨i, v, rfl, q1, q⟩ := q
  cases q1 with
  | lst h1 h3 => exact .inl (s_ixL S F H h _ _ _ _ _ _ r rx ry ⟨_, _, _, h1, rfl, h3, q⟩ lq)
  | tup h3 => exact .inr (.inl (s_ixT S F H h _ _ _ _ _ _ r rx ry ⟨_, _, _, rfl, rfl, h3, q⟩ lq))
  | str h1 h3 => exact .inr (.inr (s_ixS S F H h _ _ _ _ _ _ r rx ry ⟨_, _, _, rfl, rfl, h1, h3, q⟩ lq))
def wUn (ta : WE) : WE := fun ρ h E Q => ta ρ h E fun x h1 => ∃ i, x = .int i ∧ Q (.int (-i)) h1
/-- texts + -/
def wAddS : W2 := fun x y h Q => ∃ i j : Str, x = .str i ∧ y = .str j ∧ i.length + j.length ≤ sizeLine ∧ Q (.str (i ++ j)) h
/-- list + list: both stand tracked -/
inductive LstT (h : Hh) : Val → List Val → Prop
  | lst (xs) : LstT h (.lst xs) xs
  | ref {a xs} : h a = some (.lst xs) → LstT h (.ref a) xs
theorem LstT.l {K : Fr} {S F H : Hp} {h : Hh} {x : Val} {xs : List Val} {v : V} (q : LstT h x xs) (r : R K S F H h) (x : Rel K S x v) : ∃ a ws, v = .ref a ∧ H a = some (.lst ws) ∧ Rels K S xs ws := by
  cases q with
  | lst => rw [rel_lst] at x; obtain ⟨a, ws, e, h1, h2⟩ := x; exact ⟨a, ws, e, r.sub _ _ h1, h2⟩
  | ref e =>
    rw [rel_ref] at x
    obtain ⟨_, u, h1, ws, rfl, h2⟩ := r.own _ _ e
    exact ⟨_, ws, x, h1, h2⟩
def wCat : W2 := fun x y h Q => ∃ xs ys, LstT h x xs ∧ LstT h y ys ∧ small (xs.length + ys.length) ∧ NewL (xs ++ ys) h Q
theorem s_cat {K : Fr} : Snd2 K wCat rCat := fun S F H h x y v w Q' Q r rx ry q lq => by
  obtain ⟨xs, ys, h1, h2, hz, q⟩ := q
  obtain ⟨a, ws, rfl, g1, g2⟩ := h1.l r rx
  obtain ⟨b, us, rfl, g3, g4⟩ := h2.l r ry
  exact ⟨a, b, ws, us, rfl, rfl, g1, g3, by rw [← g2.length, ← g4.length]; exact hz.line, fun p n => newl r (g2.app g4) q lq n⟩
theorem s_addS {K : Fr} : Snd2 K wAddS (fun x y H Q => ∃ i j, x = V.str i ∧ y = V.str j ∧ Str.length i + Str.length j ≤ sizeLine ∧ Q (V.str (i ++ j)) H) := fun S F H h x y v w Q' Q r rx ry q lq => by
  obtain ⟨i, j, rfl, rfl, hz, q⟩ := q
  exact ⟨i, j, rel_str.mp rx, rel_str.mp ry, hz, lq _ _ S _ _ q (Sub.refl S) r (rel_str.mpr rfl)⟩
/-- str(n) -/
def cStr : WC := fun vs h Q => ∃ i : Int, vs = [.int i] ∧ i.natAbs.log2 < 1920 ∧ Q (.str (toString i)) h
theorem s_str {K : Fr} : SndC K cStr (fun xs H Q => ∃ i : Int, xs = [.int i] ∧ i.natAbs.log2 < 1920 ∧ Q (.str (toString i)) H) := fun S F H h xs vs Q' Q r rx q lq => by
  obtain ⟨i, rfl, hz, q⟩ := q
  obtain ⟨w, rfl, x1⟩ := rels_1 rx
  rw [rel_int] at x1; subst x1
  exact ⟨i, rfl, hz, lq _ _ S _ _ q (Sub.refl S) r (rel_str.mpr rfl)⟩
/-- sep.join(texts) -/
def mJoin : WM := fun x vs h Q => ∃ (a : Str) (l : Val) (ys : List Str), x = .str a ∧ vs = [l] ∧ SeqT h l (ys.map Val.str) ∧ (ys.map (·.length)).sum + ys.length * a.length ≤ 16777216 ∧ Q (.str (Txt.join a ys)) h
theorem s_join {K : Fr} : SndM K mJoin (fun x xs H Q => ∃ a p, ∃ ys : List Str, x = V.str a ∧ xs = [V.ref p] ∧ (SqL K H p (ys.map V.str) ∨ SqT K H p (ys.map V.str)) ∧ (ys.map (·.length)).sum + ys.length * a.length ≤ 16777216 ∧ Q (V.str (Txt.join a ys)) H) :=
  fun S F H h x v xs vs Q' Q r rx rxs q lq => by
  obtain ⟨a, l, ys, rfl, rfl, h1, hz, q⟩ := q
  obtain ⟨w, rfl, x1⟩ := rels_1 rxs
  obtain ⟨p, ws, rfl, g1, g2⟩ := h1.l r x1
  rw [Rels.strs] at g2; subst g2
  exact ⟨a, p, ys, rel_str.mp rx, rfl, g1, hz, lq _ _ S _ _ q (Sub.refl S) r (rel_str.mpr rfl)⟩
/-- a module's int, text -/
theorem zglobI {x : Str} {i : Int} (hg : Gl X x) (hm : ∃ t, X.mg x = some (.int i t)) (hd : (x == ("__debug__" : Str)) = false := by decide) : ZE X W (.Name x pos) (wC (.int i)) := by
  obtain ⟨t, hm⟩ := hm
  exact zglob (w := .int i) hg hm ⟨t, rfl⟩ (fun _ => rel_int.mpr rfl) hd
theorem zglobS {x z : Str} (hg : Gl X x) (hm : ∃ t, X.mg x = some (.str z t)) (hd : (x == ("__debug__" : Str)) = false := by decide) : ZE X W (.Name x pos) (wC (.str z)) := by
  obtain ⟨t, hm⟩ := hm
  exact zglob (w := .str z) hg hm ⟨t, rfl⟩ (fun _ => rel_str.mpr rfl) hd
end
/-! ### steps through a reading -/
theorem i_seq {t u : WS} {nx rt bk ct xe ρ h} (q : t (u nx rt bk ct xe) rt bk ct xe ρ h) : wSeq t u nx rt bk ct xe ρ h := q
theorem i_next {nx : EH} {rt bk ct xe ρ h} (q : nx ρ h) : wNext nx rt bk ct xe ρ h := q
theorem i_expr {te : WE} {nx rt bk ct xe ρ h} (q : te ρ h (atx xe ρ) fun _ h1 => nx ρ h1) : wExpr te nx rt bk ct xe ρ h := q
theorem i_ret {te : WE} {nx rt bk ct xe ρ h} (q : te ρ h (atx xe ρ) rt) : wRet te nx rt bk ct xe ρ h := q
theorem i_if {c : WT} {t u : WS} {nx rt bk ct xe ρ h} (q : c ρ h (atx xe ρ) fun b h1 => if b = true then t nx rt bk ct xe ρ h1 else u nx rt bk ct xe ρ h1) : wIf c t u nx rt bk ct xe ρ h := q
theorem i_asg {te : WE} {g : WG} {nx rt bk ct xe ρ h} (q : te ρ h (atx xe ρ) fun v h1 => g v ρ h1 nx) : wAsg te g nx rt bk ct xe ρ h := q
theorem i_c {v : Val} {ρ : Ev} {h E} {Q : KQ} (q : Q v h) : wC v ρ h E Q := q
theorem i_op {r : W2} {ta tb : WE} {ρ h E} {Q : KQ} (q : ta ρ h E fun x h1 => tb ρ h1 E fun y h2 => r x y h2 Q) : wOp r ta tb ρ h E Q := q
theorem i_add {i j : Int} {h} {Q : KQ} (q : Q (.int (i + j)) h) : wAdd (.int i) (.int j) h Q := ⟨i, j, rfl, rfl, q⟩
theorem i_sub {i j : Int} {h} {Q : KQ} (q : Q (.int (i - j)) h) : wSub (.int i) (.int j) h Q := ⟨i, j, rfl, rfl, q⟩
theorem i_mul {i j : Int} {h} {Q : KQ} (c : CMul i j) (q : Q (.int (i * j)) h) : wMul (.int i) (.int j) h Q := ⟨i, j, rfl, rfl, c, q⟩
theorem i_mod {i j : Int} {h} {Q : KQ} (c : 0 < j) (q : Q (.int (i % j)) h) : wMod (.int i) (.int j) h Q := ⟨i, j, rfl, rfl, c, q⟩
theorem i_divW {i j : Int} {h} {Q : KQ} (c : CDivW i j) (q : Q (.int (i / j)) h) : wDivW (.int i) (.int j) h Q := ⟨i, j, rfl, rfl, c, q⟩
theorem i_pow {i j : Int} {h} {Q : KQ} (c : CPow i j) (q : Q (.int (i ^ j.toNat)) h) : wPow (.int i) (.int j) h Q := ⟨i, j, rfl, rfl, c, q⟩
theorem i_lt {i j : Int} {h} {Q : KQ} (q : Q (.bl (decide (i < j))) h) : wLt (.int i) (.int j) h Q := ⟨i, j, rfl, rfl, q⟩
theorem i_le {i j : Int} {h} {Q : KQ} (q : Q (.bl (decide (i ≤ j))) h) : wLe (.int i) (.int j) h Q := ⟨i, j, rfl, rfl, q⟩
theorem i_gt {i j : Int} {h} {Q : KQ} (q : Q (.bl (decide (j < i))) h) : wGt (.int i) (.int j) h Q := ⟨i, j, rfl, rfl, q⟩
theorem i_ge {i j : Int} {h} {Q : KQ} (q : Q (.bl (decide (j ≤ i))) h) : wGe (.int i) (.int j) h Q := ⟨i, j, rfl, rfl, q⟩
theorem i_eqI {i j : Int} {h} {Q : KQ} (q : Q (.bl (decide (i = j))) h) : wEqS (.int i) (.int j) h Q := ⟨rfl, q⟩
theorem i_neI {i j : Int} {h} {Q : KQ} (q : Q (.bl (!decide (i = j))) h) : wNeS (.int i) (.int j) h Q := ⟨rfl, q⟩
theorem i_eqT {i j : Str} {h} {Q : KQ} (q : Q (.bl (decide (i = j))) h) : wEqS (.str i) (.str j) h Q := ⟨rfl, q⟩
theorem i_neT {i j : Str} {h} {Q : KQ} (q : Q (.bl (!decide (i = j))) h) : wNeS (.str i) (.str j) h Q := ⟨rfl, q⟩
theorem i_eqB {i j : Bool} {h} {Q : KQ} (q : Q (.bl (decide (i = j))) h) : wEqS (.bl i) (.bl j) h Q := ⟨rfl, q⟩
theorem i_neB {i j : Bool} {h} {Q : KQ} (q : Q (.bl (!decide (i = j))) h) : wNeS (.bl i) (.bl j) h Q := ⟨rfl, q⟩
theorem i_tv {t : WE} {ρ h E} {Q : Bool → Hh → Prop} (q : t ρ h E fun v h1 => ∃ c, v = .bl c ∧ Q c h1) : wTv t ρ h E Q := q
theorem i_bl {c : Bool} {h : Hh} {Q : Bool → Hh → Prop} (q : Q c h) : ∃ b, Val.bl c = .bl b ∧ Q b h := ⟨c, rfl, q⟩
theorem i_blV {c : Bool} {A : Bool → Prop} (q : A c) : ∃ b, Val.bl c = .bl b ∧ A b := ⟨c, rfl, q⟩
theorem i_not {t : WT} {ρ h E} {Q : Bool → Hh → Prop} (q : t ρ h E fun b h1 => Q (!b) h1) : wNot t ρ h E Q := q
theorem i_and {t u : WT} {ρ h E} {Q : Bool → Hh → Prop} (q : t ρ h E fun c h1 => if c = true then u ρ h1 E Q else Q false h1) : wAnd t u ρ h E Q := q
theorem i_or {t u : WT} {ρ h E} {Q : Bool → Hh → Prop} (q : t ρ h E fun c h1 => if c = true then Q true h1 else u ρ h1 E Q) : wOr t u ρ h E Q := q
theorem i_andV {ta tb : WE} {ρ h E} {Q : KQ} (q : ta ρ h E fun x h1 => ∃ c, x = .bl c ∧ if c = true then tb ρ h1 E Q else Q (.bl false) h1) : wAndV ta tb ρ h E Q := q
theorem i_orV {ta tb : WE} {ρ h E} {Q : KQ} (q : ta ρ h E fun x h1 => ∃ c, x = .bl c ∧ if c = true then Q (.bl true) h1 else tb ρ h1 E Q) : wOrV ta tb ρ h E Q := q
theorem i_notV {ta : WE} {ρ h E} {Q : KQ} (q : ta ρ h E fun x h1 => ∃ c, x = .bl c ∧ Q (.bl (!c)) h1) : wNotV ta ρ h E Q := q
theorem i_ifE {c : WT} {ta tb : WE} {ρ h E} {Q : KQ} (q : c ρ h E fun b h1 => if b = true then ta ρ h1 E Q else tb ρ h1 E Q) : wIfE c ta tb ρ h E Q := q
theorem i_isN {ta : WE} {ρ h E} {Q : KQ} (q : ta ρ h E fun x h1 => Q (.bl (isNon x)) h1) : wIsN ta ρ h E Q := q
theorem i_notN {ta : WE} {ρ h E} {Q : KQ} (q : ta ρ h E fun x h1 => Q (.bl (!isNon x)) h1) : wNotN ta ρ h E Q := q
theorem i_un {ta : WE} {ρ h E} {Q : KQ} (q : ta ρ h E fun x h1 => ∃ i, x = .int i ∧ Q (.int (-i)) h1) : wUn ta ρ h E Q := q
theorem i_int1 {i : Int} {A : Int → Prop} (q : A i) : ∃ j, Val.int i = .int j ∧ A j := ⟨i, rfl, q⟩
theorem i_nil {ρ h E} {Q : List Val → Hh → Prop} (q : Q [] h) : wNil ρ h E Q := q
theorem i_cons {ta : WE} {tr : WA} {ρ h E} {Q : List Val → Hh → Prop} (q : ta ρ h E fun x h1 => tr ρ h1 E fun xs h2 => Q (x :: xs) h2) : wCons ta tr ρ h E Q := q
theorem i_tup {t : WA} {ρ h E} {Q : KQ} (q : t ρ h E fun xs h1 => small xs.length ∧ Q (.tup xs) h1) : wTup t ρ h E Q := q
theorem i_lst {t : WA} {ρ h E} {Q : KQ} (q : t ρ h E fun xs h1 => small xs.length ∧ NewL xs h1 Q) : wLst t ρ h E Q := q
theorem i_small {n : Nat} {A : Prop} (e : n ≤ 16000000) (q : A) : small n ∧ A := ⟨e, q⟩
theorem i_cb {r : WC} {t : WA} {ρ h E} {Q : KQ} (q : t ρ h E fun vs h1 => r vs h1 Q) : wCB r t ρ h E Q := q
theorem i_call {fs : FS} {dv : List Val} {t : WA} {ρ h E} {Q : KQ} (q : t ρ h E fun vs h1 => fs.sp (vs ++ dv) h1 E Q) : wCall fs dv t ρ h E Q := q
theorem i_fld {C : Addr} {ta : WE} {f : Str} {ρ h E} {Q : KQ} (q : ta ρ h E fun x h1 => ∃ fs v, Ins h1 x C fs ∧ fs.lookup f = some v ∧ Q v h1) : wFld C ta f ρ h E Q := q
theorem i_fldS {C : Addr} {ta tv : WE} {f : Str} {nx rt bk ct xe ρ h} (q : tv ρ h (atx xe ρ) fun y h1 => ta ρ h1 (atx xe ρ) fun x h2 => ∃ a fs, x = .ref a ∧ h2 a = some (.ins C fs) ∧ fs.length < 1000 ∧ nx ρ (hup h2 a (.ins C (putv f y fs)))) : wFldS C ta tv f nx rt bk ct xe ρ h := q
theorem i_bm {T : String} {r : WM} {to : WE} {t : WA} {ρ h E} {Q : KQ} (q : to ρ h E fun x h1 => TyM h1 T x ∧ t ρ h1 E fun xs h2 => r x xs h2 Q) : wBM T r to t ρ h E Q := q
theorem i_sub_ {to ti : WE} {t : WSet} {E : XQ} {v ρ h} {Q : EH} (q : to ρ h E fun o h1 => ti ρ h1 E fun i h2 => t o i v h2 fun h3 => Q ρ h3) : wgSub to ti t E v ρ h Q := q
theorem i_lc {wi : WI} {tg tt te vs ρ h E} {Q : KQ} (q : wi ρ h E fun xs chk h1 => wLcB tg xs chk tt te vs ρ h1 Q) : wLc wi tg tt te vs ρ h E Q := q
theorem i_r1 {t : WE} {ρ h E G} (q : t ρ h E fun v h1 => ∃ j : Int, v = .int j ∧ -(2 ^ 62) ≤ j ∧ j < 2 ^ 62 ∧ G (rng 0 j.toNat) (fun _ => True) h1) : wiR1 t ρ h E G := q
theorem i_iL {t : WE} {ρ h E G} (q : t ρ h E fun v h1 => Its h1 v G) : wiL t ρ h E G := q
theorem i_iT {t : WE} {ρ h E G} (q : t ρ h E fun v h1 => ∃ xs, v = .tup xs ∧ G xs (fun _ => True) h1) : wiT t ρ h E G := q
theorem i_atx {xe : XS} {ρ C v h} (q : xe C v ρ h) : atx xe ρ C v h := q
theorem i_ifd {p : Prop} [Decidable p] {A B : Prop} (h1 : p → A) (h2 : ¬ p → B) : if decide p = true then A else B := by
  by_cases h : p
  · rw [decide_eq_true h]; exact iteT (h1 h)
  · rw [decide_eq_false h]; exact iteF (h2 h)
/-! Z9 -/
/-! steps over written slots; lookups; tables of small lemmas for readings -/
theorem i_var0 {v : Val} {r : Ev} {h E} {Q : KQ} (q : Q v h) : wVar 0 (some v :: r) h E Q := ⟨v, rfl, q⟩
theorem i_name0 {c : Option Val} {v : Val} {r : Ev} {h} {Q : EH} (q : Q (some v :: r) h) : wgName 0 v (c :: r) h Q := q
theorem i_var1 {a0 : Option Val} {v : Val} {r : Ev} {h E} {Q : KQ} (q : Q v h) : wVar 1 (a0 :: some v :: r) h E Q := ⟨v, rfl, q⟩
theorem i_name1 {a0 : Option Val} {c : Option Val} {v : Val} {r : Ev} {h} {Q : EH} (q : Q (a0 :: some v :: r) h) : wgName 1 v (a0 :: c :: r) h Q := q
theorem i_var2 {a0 a1 : Option Val} {v : Val} {r : Ev} {h E} {Q : KQ} (q : Q v h) : wVar 2 (a0 :: a1 :: some v :: r) h E Q := ⟨v, rfl, q⟩
theorem i_name2 {a0 a1 : Option Val} {c : Option Val} {v : Val} {r : Ev} {h} {Q : EH} (q : Q (a0 :: a1 :: some v :: r) h) : wgName 2 v (a0 :: a1 :: c :: r) h Q := q
theorem i_var3 {a0 a1 a2 : Option Val} {v : Val} {r : Ev} {h E} {Q : KQ} (q : Q v h) : wVar 3 (a0 :: a1 :: a2 :: some v :: r) h E Q := ⟨v, rfl, q⟩
theorem i_name3 {a0 a1 a2 : Option Val} {c : Option Val} {v : Val} {r : Ev} {h} {Q : EH} (q : Q (a0 :: a1 :: a2 :: some v :: r) h) : wgName 3 v (a0 :: a1 :: a2 :: c :: r) h Q := q
theorem i_var4 {a0 a1 a2 a3 : Option Val} {v : Val} {r : Ev} {h E} {Q : KQ} (q : Q v h) : wVar 4 (a0 :: a1 :: a2 :: a3 :: some v :: r) h E Q := ⟨v, rfl, q⟩
theorem i_name4 {a0 a1 a2 a3 : Option Val} {c : Option Val} {v : Val} {r : Ev} {h} {Q : EH} (q : Q (a0 :: a1 :: a2 :: a3 :: some v :: r) h) : wgName 4 v (a0 :: a1 :: a2 :: a3 :: c :: r) h Q := q
theorem i_var5 {a0 a1 a2 a3 a4 : Option Val} {v : Val} {r : Ev} {h E} {Q : KQ} (q : Q v h) : wVar 5 (a0 :: a1 :: a2 :: a3 :: a4 :: some v :: r) h E Q := ⟨v, rfl, q⟩
theorem i_name5 {a0 a1 a2 a3 a4 : Option Val} {c : Option Val} {v : Val} {r : Ev} {h} {Q : EH} (q : Q (a0 :: a1 :: a2 :: a3 :: a4 :: some v :: r) h) : wgName 5 v (a0 :: a1 :: a2 :: a3 :: a4 :: c :: r) h Q := q
theorem i_var6 {a0 a1 a2 a3 a4 a5 : Option Val} {v : Val} {r : Ev} {h E} {Q : KQ} (q : Q v h) : wVar 6 (a0 :: a1 :: a2 :: a3 :: a4 :: a5 :: some v :: r) h E Q := ⟨v, rfl, q⟩
theorem i_name6 {a0 a1 a2 a3 a4 a5 : Option Val} {c : Option Val} {v : Val} {r : Ev} {h} {Q : EH} (q : Q (a0 :: a1 :: a2 :: a3 :: a4 :: a5 :: some v :: r) h) : wgName 6 v (a0 :: a1 :: a2 :: a3 :: a4 :: a5 :: c :: r) h Q := q
theorem i_var7 {a0 a1 a2 a3 a4 a5 a6 : Option Val} {v : Val} {r : Ev} {h E} {Q : KQ} (q : Q v h) : wVar 7 (a0 :: a1 :: a2 :: a3 :: a4 :: a5 :: a6 :: some v :: r) h E Q := ⟨v, rfl, q⟩
theorem i_name7 {a0 a1 a2 a3 a4 a5 a6 : Option Val} {c : Option Val} {v : Val} {r : Ev} {h} {Q : EH} (q : Q (a0 :: a1 :: a2 :: a3 :: a4 :: a5 :: a6 :: some v :: r) h) : wgName 7 v (a0 :: a1 :: a2 :: a3 :: a4 :: a5 :: a6 :: c :: r) h Q := q
theorem i_var8 {a0 a1 a2 a3 a4 a5 a6 a7 : Option Val} {v : Val} {r : Ev} {h E} {Q : KQ} (q : Q v h) : wVar 8 (a0 :: a1 :: a2 :: a3 :: a4 :: a5 :: a6 :: a7 :: some v :: r) h E Q := ⟨v, rfl, q⟩
theorem i_name8 {a0 a1 a2 a3 a4 a5 a6 a7 : Option Val} {c : Option Val} {v : Val} {r : Ev} {h} {Q : EH} (q : Q (a0 :: a1 :: a2 :: a3 :: a4 :: a5 :: a6 :: a7 :: some v :: r) h) : wgName 8 v (a0 :: a1 :: a2 :: a3 :: a4 :: a5 :: a6 :: a7 :: c :: r) h Q := q
theorem i_var9 {a0 a1 a2 a3 a4 a5 a6 a7 a8 : Option Val} {v : Val} {r : Ev} {h E} {Q : KQ} (q : Q v h) : wVar 9 (a0 :: a1 :: a2 :: a3 :: a4 :: a5 :: a6 :: a7 :: a8 :: some v :: r) h E Q := ⟨v, rfl, q⟩
theorem i_name9 {a0 a1 a2 a3 a4 a5 a6 a7 a8 : Option Val} {c : Option Val} {v : Val} {r : Ev} {h} {Q : EH} (q : Q (a0 :: a1 :: a2 :: a3 :: a4 :: a5 :: a6 :: a7 :: a8 :: some v :: r) h) : wgName 9 v (a0 :: a1 :: a2 :: a3 :: a4 :: a5 :: a6 :: a7 :: a8 :: c :: r) h Q := q
theorem i_var10 {a0 a1 a2 a3 a4 a5 a6 a7 a8 a9 : Option Val} {v : Val} {r : Ev} {h E} {Q : KQ} (q : Q v h) : wVar 10 (a0 :: a1 :: a2 :: a3 :: a4 :: a5 :: a6 :: a7 :: a8 :: a9 :: some v :: r) h E Q := ⟨v, rfl, q⟩
theorem i_name10 {a0 a1 a2 a3 a4 a5 a6 a7 a8 a9 : Option Val} {c : Option Val} {v : Val} {r : Ev} {h} {Q : EH} (q : Q (a0 :: a1 :: a2 :: a3 :: a4 :: a5 :: a6 :: a7 :: a8 :: a9 :: some v :: r) h) : wgName 10 v (a0 :: a1 :: a2 :: a3 :: a4 :: a5 :: a6 :: a7 :: a8 :: a9 :: c :: r) h Q := q
theorem i_var11 {a0 a1 a2 a3 a4 a5 a6 a7 a8 a9 a10 : Option Val} {v : Val} {r : Ev} {h E} {Q : KQ} (q : Q v h) : wVar 11 (a0 :: a1 :: a2 :: a3 :: a4 :: a5 :: a6 :: a7 :: a8 :: a9 :: a10 :: some v :: r) h E Q := ⟨v, rfl, q⟩
theorem i_name11 {a0 a1 a2 a3 a4 a5 a6 a7 a8 a9 a10 : Option Val} {c : Option Val} {v : Val} {r : Ev} {h} {Q : EH} (q : Q (a0 :: a1 :: a2 :: a3 :: a4 :: a5 :: a6 :: a7 :: a8 :: a9 :: a10 :: some v :: r) h) : wgName 11 v (a0 :: a1 :: a2 :: a3 :: a4 :: a5 :: a6 :: a7 :: a8 :: a9 :: a10 :: c :: r) h Q := q
theorem i_var12 {a0 a1 a2 a3 a4 a5 a6 a7 a8 a9 a10 a11 : Option Val} {v : Val} {r : Ev} {h E} {Q : KQ} (q : Q v h) : wVar 12 (a0 :: a1 :: a2 :: a3 :: a4 :: a5 :: a6 :: a7 :: a8 :: a9 :: a10 :: a11 :: some v :: r) h E Q := ⟨v, rfl, q⟩
theorem i_name12 {a0 a1 a2 a3 a4 a5 a6 a7 a8 a9 a10 a11 : Option Val} {c : Option Val} {v : Val} {r : Ev} {h} {Q : EH} (q : Q (a0 :: a1 :: a2 :: a3 :: a4 :: a5 :: a6 :: a7 :: a8 :: a9 :: a10 :: a11 :: some v :: r) h) : wgName 12 v (a0 :: a1 :: a2 :: a3 :: a4 :: a5 :: a6 :: a7 :: a8 :: a9 :: a10 :: a11 :: c :: r) h Q := q
theorem i_var13 {a0 a1 a2 a3 a4 a5 a6 a7 a8 a9 a10 a11 a12 : Option Val} {v : Val} {r : Ev} {h E} {Q : KQ} (q : Q v h) : wVar 13 (a0 :: a1 :: a2 :: a3 :: a4 :: a5 :: a6 :: a7 :: a8 :: a9 :: a10 :: a11 :: a12 :: some v :: r) h E Q := ⟨v, rfl, q⟩
theorem i_name13 {a0 a1 a2 a3 a4 a5 a6 a7 a8 a9 a10 a11 a12 : Option Val} {c : Option Val} {v : Val} {r : Ev} {h} {Q : EH} (q : Q (a0 :: a1 :: a2 :: a3 :: a4 :: a5 :: a6 :: a7 :: a8 :: a9 :: a10 :: a11 :: a12 :: some v :: r) h) : wgName 13 v (a0 :: a1 :: a2 :: a3 :: a4 :: a5 :: a6 :: a7 :: a8 :: a9 :: a10 :: a11 :: a12 :: c :: r) h Q := q
theorem i_var14 {a0 a1 a2 a3 a4 a5 a6 a7 a8 a9 a10 a11 a12 a13 : Option Val} {v : Val} {r : Ev} {h E} {Q : KQ} (q : Q v h) : wVar 14 (a0 :: a1 :: a2 :: a3 :: a4 :: a5 :: a6 :: a7 :: a8 :: a9 :: a10 :: a11 :: a12 :: a13 :: some v :: r) h E Q := ⟨v, rfl, q⟩
theorem i_name14 {a0 a1 a2 a3 a4 a5 a6 a7 a8 a9 a10 a11 a12 a13 : Option Val} {c : Option Val} {v : Val} {r : Ev} {h} {Q : EH} (q : Q (a0 :: a1 :: a2 :: a3 :: a4 :: a5 :: a6 :: a7 :: a8 :: a9 :: a10 :: a11 :: a12 :: a13 :: some v :: r) h) : wgName 14 v (a0 :: a1 :: a2 :: a3 :: a4 :: a5 :: a6 :: a7 :: a8 :: a9 :: a10 :: a11 :: a12 :: a13 :: c :: r) h Q := q
theorem i_var15 {a0 a1 a2 a3 a4 a5 a6 a7 a8 a9 a10 a11 a12 a13 a14 : Option Val} {v : Val} {r : Ev} {h E} {Q : KQ} (q : Q v h) : wVar 15 (a0 :: a1 :: a2 :: a3 :: a4 :: a5 :: a6 :: a7 :: a8 :: a9 :: a10 :: a11 :: a12 :: a13 :: a14 :: some v :: r) h E Q := ⟨v, rfl, q⟩
theorem i_name15 {a0 a1 a2 a3 a4 a5 a6 a7 a8 a9 a10 a11 a12 a13 a14 : Option Val} {c : Option Val} {v : Val} {r : Ev} {h} {Q : EH} (q : Q (a0 :: a1 :: a2 :: a3 :: a4 :: a5 :: a6 :: a7 :: a8 :: a9 :: a10 :: a11 :: a12 :: a13 :: a14 :: some v :: r) h) : wgName 15 v (a0 :: a1 :: a2 :: a3 :: a4 :: a5 :: a6 :: a7 :: a8 :: a9 :: a10 :: a11 :: a12 :: a13 :: a14 :: c :: r) h Q := q
theorem i_var16 {a0 a1 a2 a3 a4 a5 a6 a7 a8 a9 a10 a11 a12 a13 a14 a15 : Option Val} {v : Val} {r : Ev} {h E} {Q : KQ} (q : Q v h) : wVar 16 (a0 :: a1 :: a2 :: a3 :: a4 :: a5 :: a6 :: a7 :: a8 :: a9 :: a10 :: a11 :: a12 :: a13 :: a14 :: a15 :: some v :: r) h E Q := ⟨v, rfl, q⟩
theorem i_name16 {a0 a1 a2 a3 a4 a5 a6 a7 a8 a9 a10 a11 a12 a13 a14 a15 : Option Val} {c : Option Val} {v : Val} {r : Ev} {h} {Q : EH} (q : Q (a0 :: a1 :: a2 :: a3 :: a4 :: a5 :: a6 :: a7 :: a8 :: a9 :: a10 :: a11 :: a12 :: a13 :: a14 :: a15 :: some v :: r) h) : wgName 16 v (a0 :: a1 :: a2 :: a3 :: a4 :: a5 :: a6 :: a7 :: a8 :: a9 :: a10 :: a11 :: a12 :: a13 :: a14 :: a15 :: c :: r) h Q := q
theorem i_var17 {a0 a1 a2 a3 a4 a5 a6 a7 a8 a9 a10 a11 a12 a13 a14 a15 a16 : Option Val} {v : Val} {r : Ev} {h E} {Q : KQ} (q : Q v h) : wVar 17 (a0 :: a1 :: a2 :: a3 :: a4 :: a5 :: a6 :: a7 :: a8 :: a9 :: a10 :: a11 :: a12 :: a13 :: a14 :: a15 :: a16 :: some v :: r) h E Q := ⟨v, rfl, q⟩
theorem i_name17 {a0 a1 a2 a3 a4 a5 a6 a7 a8 a9 a10 a11 a12 a13 a14 a15 a16 : Option Val} {c : Option Val} {v : Val} {r : Ev} {h} {Q : EH} (q : Q (a0 :: a1 :: a2 :: a3 :: a4 :: a5 :: a6 :: a7 :: a8 :: a9 :: a10 :: a11 :: a12 :: a13 :: a14 :: a15 :: a16 :: some v :: r) h) : wgName 17 v (a0 :: a1 :: a2 :: a3 :: a4 :: a5 :: a6 :: a7 :: a8 :: a9 :: a10 :: a11 :: a12 :: a13 :: a14 :: a15 :: a16 :: c :: r) h Q := q
theorem i_var18 {a0 a1 a2 a3 a4 a5 a6 a7 a8 a9 a10 a11 a12 a13 a14 a15 a16 a17 : Option Val} {v : Val} {r : Ev} {h E} {Q : KQ} (q : Q v h) : wVar 18 (a0 :: a1 :: a2 :: a3 :: a4 :: a5 :: a6 :: a7 :: a8 :: a9 :: a10 :: a11 :: a12 :: a13 :: a14 :: a15 :: a16 :: a17 :: some v :: r) h E Q := ⟨v, rfl, q⟩
theorem i_name18 {a0 a1 a2 a3 a4 a5 a6 a7 a8 a9 a10 a11 a12 a13 a14 a15 a16 a17 : Option Val} {c : Option Val} {v : Val} {r : Ev} {h} {Q : EH} (q : Q (a0 :: a1 :: a2 :: a3 :: a4 :: a5 :: a6 :: a7 :: a8 :: a9 :: a10 :: a11 :: a12 :: a13 :: a14 :: a15 :: a16 :: a17 :: some v :: r) h) : wgName 18 v (a0 :: a1 :: a2 :: a3 :: a4 :: a5 :: a6 :: a7 :: a8 :: a9 :: a10 :: a11 :: a12 :: a13 :: a14 :: a15 :: a16 :: a17 :: c :: r) h Q := q
theorem i_var19 {a0 a1 a2 a3 a4 a5 a6 a7 a8 a9 a10 a11 a12 a13 a14 a15 a16 a17 a18 : Option Val} {v : Val} {r : Ev} {h E} {Q : KQ} (q : Q v h) : wVar 19 (a0 :: a1 :: a2 :: a3 :: a4 :: a5 :: a6 :: a7 :: a8 :: a9 :: a10 :: a11 :: a12 :: a13 :: a14 :: a15 :: a16 :: a17 :: a18 :: some v :: r) h E Q := ⟨v, rfl, q⟩
theorem i_name19 {a0 a1 a2 a3 a4 a5 a6 a7 a8 a9 a10 a11 a12 a13 a14 a15 a16 a17 a18 : Option Val} {c : Option Val} {v : Val} {r : Ev} {h} {Q : EH} (q : Q (a0 :: a1 :: a2 :: a3 :: a4 :: a5 :: a6 :: a7 :: a8 :: a9 :: a10 :: a11 :: a12 :: a13 :: a14 :: a15 :: a16 :: a17 :: a18 :: some v :: r) h) : wgName 19 v (a0 :: a1 :: a2 :: a3 :: a4 :: a5 :: a6 :: a7 :: a8 :: a9 :: a10 :: a11 :: a12 :: a13 :: a14 :: a15 :: a16 :: a17 :: a18 :: c :: r) h Q := q
theorem i_var20 {a0 a1 a2 a3 a4 a5 a6 a7 a8 a9 a10 a11 a12 a13 a14 a15 a16 a17 a18 a19 : Option Val} {v : Val} {r : Ev} {h E} {Q : KQ} (q : Q v h) : wVar 20 (a0 :: a1 :: a2 :: a3 :: a4 :: a5 :: a6 :: a7 :: a8 :: a9 :: a10 :: a11 :: a12 :: a13 :: a14 :: a15 :: a16 :: a17 :: a18 :: a19 :: some v :: r) h E Q := ⟨v, rfl, q⟩
theorem i_name20 {a0 a1 a2 a3 a4 a5 a6 a7 a8 a9 a10 a11 a12 a13 a14 a15 a16 a17 a18 a19 : Option Val} {c : Option Val} {v : Val} {r : Ev} {h} {Q : EH} (q : Q (a0 :: a1 :: a2 :: a3 :: a4 :: a5 :: a6 :: a7 :: a8 :: a9 :: a10 :: a11 :: a12 :: a13 :: a14 :: a15 :: a16 :: a17 :: a18 :: a19 :: some v :: r) h) : wgName 20 v (a0 :: a1 :: a2 :: a3 :: a4 :: a5 :: a6 :: a7 :: a8 :: a9 :: a10 :: a11 :: a12 :: a13 :: a14 :: a15 :: a16 :: a17 :: a18 :: a19 :: c :: r) h Q := q
theorem i_var21 {a0 a1 a2 a3 a4 a5 a6 a7 a8 a9 a10 a11 a12 a13 a14 a15 a16 a17 a18 a19 a20 : Option Val} {v : Val} {r : Ev} {h E} {Q : KQ} (q : Q v h) : wVar 21 (a0 :: a1 :: a2 :: a3 :: a4 :: a5 :: a6 :: a7 :: a8 :: a9 :: a10 :: a11 :: a12 :: a13 :: a14 :: a15 :: a16 :: a17 :: a18 :: a19 :: a20 :: some v :: r) h E Q := ⟨v, rfl, q⟩
theorem i_name21 {a0 a1 a2 a3 a4 a5 a6 a7 a8 a9 a10 a11 a12 a13 a14 a15 a16 a17 a18 a19 a20 : Option Val} {c : Option Val} {v : Val} {r : Ev} {h} {Q : EH} (q : Q (a0 :: a1 :: a2 :: a3 :: a4 :: a5 :: a6 :: a7 :: a8 :: a9 :: a10 :: a11 :: a12 :: a13 :: a14 :: a15 :: a16 :: a17 :: a18 :: a19 :: a20 :: some v :: r) h) : wgName 21 v (a0 :: a1 :: a2 :: a3 :: a4 :: a5 :: a6 :: a7 :: a8 :: a9 :: a10 :: a11 :: a12 :: a13 :: a14 :: a15 :: a16 :: a17 :: a18 :: a19 :: a20 :: c :: r) h Q := q
theorem i_var22 {a0 a1 a2 a3 a4 a5 a6 a7 a8 a9 a10 a11 a12 a13 a14 a15 a16 a17 a18 a19 a20 a21 : Option Val} {v : Val} {r : Ev} {h E} {Q : KQ} (q : Q v h) : wVar 22 (a0 :: a1 :: a2 :: a3 :: a4 :: a5 :: a6 :: a7 :: a8 :: a9 :: a10 :: a11 :: a12 :: a13 :: a14 :: a15 :: a16 :: a17 :: a18 :: a19 :: a20 :: a21 :: some v :: r) h E Q := ⟨v, rfl, q⟩
theorem i_name22 {a0 a1 a2 a3 a4 a5 a6 a7 a8 a9 a10 a11 a12 a13 a14 a15 a16 a17 a18 a19 a20 a21 : Option Val} {c : Option Val} {v : Val} {r : Ev} {h} {Q : EH} (q : Q (a0 :: a1 :: a2 :: a3 :: a4 :: a5 :: a6 :: a7 :: a8 :: a9 :: a10 :: a11 :: a12 :: a13 :: a14 :: a15 :: a16 :: a17 :: a18 :: a19 :: a20 :: a21 :: some v :: r) h) : wgName 22 v (a0 :: a1 :: a2 :: a3 :: a4 :: a5 :: a6 :: a7 :: a8 :: a9 :: a10 :: a11 :: a12 :: a13 :: a14 :: a15 :: a16 :: a17 :: a18 :: a19 :: a20 :: a21 :: c :: r) h Q := q
theorem i_var23 {a0 a1 a2 a3 a4 a5 a6 a7 a8 a9 a10 a11 a12 a13 a14 a15 a16 a17 a18 a19 a20 a21 a22 : Option Val} {v : Val} {r : Ev} {h E} {Q : KQ} (q : Q v h) : wVar 23 (a0 :: a1 :: a2 :: a3 :: a4 :: a5 :: a6 :: a7 :: a8 :: a9 :: a10 :: a11 :: a12 :: a13 :: a14 :: a15 :: a16 :: a17 :: a18 :: a19 :: a20 :: a21 :: a22 :: some v :: r) h E Q := ⟨v, rfl, q⟩
theorem i_name23 {a0 a1 a2 a3 a4 a5 a6 a7 a8 a9 a10 a11 a12 a13 a14 a15 a16 a17 a18 a19 a20 a21 a22 : Option Val} {c : Option Val} {v : Val} {r : Ev} {h} {Q : EH} (q : Q (a0 :: a1 :: a2 :: a3 :: a4 :: a5 :: a6 :: a7 :: a8 :: a9 :: a10 :: a11 :: a12 :: a13 :: a14 :: a15 :: a16 :: a17 :: a18 :: a19 :: a20 :: a21 :: a22 :: some v :: r) h) : wgName 23 v (a0 :: a1 :: a2 :: a3 :: a4 :: a5 :: a6 :: a7 :: a8 :: a9 :: a10 :: a11 :: a12 :: a13 :: a14 :: a15 :: a16 :: a17 :: a18 :: a19 :: a20 :: a21 :: a22 :: c :: r) h Q := q
theorem i_var24 {a0 a1 a2 a3 a4 a5 a6 a7 a8 a9 a10 a11 a12 a13 a14 a15 a16 a17 a18 a19 a20 a21 a22 a23 : Option Val} {v : Val} {r : Ev} {h E} {Q : KQ} (q : Q v h) : wVar 24 (a0 :: a1 :: a2 :: a3 :: a4 :: a5 :: a6 :: a7 :: a8 :: a9 :: a10 :: a11 :: a12 :: a13 :: a14 :: a15 :: a16 :: a17 :: a18 :: a19 :: a20 :: a21 :: a22 :: a23 :: some v :: r) h E Q := ⟨v, rfl, q⟩
theorem i_name24 {a0 a1 a2 a3 a4 a5 a6 a7 a8 a9 a10 a11 a12 a13 a14 a15 a16 a17 a18 a19 a20 a21 a22 a23 : Option Val} {c : Option Val} {v : Val} {r : Ev} {h} {Q : EH} (q : Q (a0 :: a1 :: a2 :: a3 :: a4 :: a5 :: a6 :: a7 :: a8 :: a9 :: a10 :: a11 :: a12 :: a13 :: a14 :: a15 :: a16 :: a17 :: a18 :: a19 :: a20 :: a21 :: a22 :: a23 :: some v :: r) h) : wgName 24 v (a0 :: a1 :: a2 :: a3 :: a4 :: a5 :: a6 :: a7 :: a8 :: a9 :: a10 :: a11 :: a12 :: a13 :: a14 :: a15 :: a16 :: a17 :: a18 :: a19 :: a20 :: a21 :: a22 :: a23 :: c :: r) h Q := q
theorem i_var25 {a0 a1 a2 a3 a4 a5 a6 a7 a8 a9 a10 a11 a12 a13 a14 a15 a16 a17 a18 a19 a20 a21 a22 a23 a24 : Option Val} {v : Val} {r : Ev} {h E} {Q : KQ} (q : Q v h) : wVar 25 (a0 :: a1 :: a2 :: a3 :: a4 :: a5 :: a6 :: a7 :: a8 :: a9 :: a10 :: a11 :: a12 :: a13 :: a14 :: a15 :: a16 :: a17 :: a18 :: a19 :: a20 :: a21 :: a22 :: a23 :: a24 :: some v :: r) h E Q := ⟨v, rfl, q⟩
theorem i_name25 {a0 a1 a2 a3 a4 a5 a6 a7 a8 a9 a10 a11 a12 a13 a14 a15 a16 a17 a18 a19 a20 a21 a22 a23 a24 : Option Val} {c : Option Val} {v : Val} {r : Ev} {h} {Q : EH} (q : Q (a0 :: a1 :: a2 :: a3 :: a4 :: a5 :: a6 :: a7 :: a8 :: a9 :: a10 :: a11 :: a12 :: a13 :: a14 :: a15 :: a16 :: a17 :: a18 :: a19 :: a20 :: a21 :: a22 :: a23 :: a24 :: some v :: r) h) : wgName 25 v (a0 :: a1 :: a2 :: a3 :: a4 :: a5 :: a6 :: a7 :: a8 :: a9 :: a10 :: a11 :: a12 :: a13 :: a14 :: a15 :: a16 :: a17 :: a18 :: a19 :: a20 :: a21 :: a22 :: a23 :: a24 :: c :: r) h Q := q

theorem i_call0 {fs : FS} {t : WA} {ρ h E} {Q : KQ} (q : t ρ h E fun vs h1 => fs.sp vs h1 E Q) : wCall fs [] t ρ h E Q := by
  unfold wCall
  have e : (fun vs h1 => fs.sp (vs ++ []) h1 E Q) = fun vs h1 => fs.sp vs h1 E Q := by
    funext vs h1
    rw [List.append_nil]
  rw [e]
  exact q
theorem i_meth0 {C : Addr} {m : Str} {fs : FS} {ta : WE} {t : WA} {ρ h E} {Q : KQ} (q : ta ρ h E fun x h1 => ∃ fl, Ins h1 x C fl ∧ fl.lookup m = none ∧ t ρ h1 E fun vs h2 => fs.sp (x :: vs) h2 E Q) : wMeth C m fs [] ta t ρ h E Q := by
  unfold wMeth
  have e : ∀ x : Val, (fun vs h2 => fs.sp (x :: (vs ++ [])) h2 E Q) = fun vs h2 => fs.sp (x :: vs) h2 E Q := fun x => by
    funext vs h1
    rw [List.append_nil]
  simp only [e]
  exact q
theorem i_make0 {C : Addr} {fs : FS} {t : WA} {ρ h E} {Q : KQ} (q : t ρ h E fun vs h1 => ∀ a, h1 a = none → fs.sp (.ref a :: vs) (hup h1 a (.ins C [])) E (fun v h2 => v = .non ∧ MkEnd C a h2 Q)) : wMake C fs [] t ρ h E Q := by
  unfold wMake
  have e : (fun (vs : List Val) (h1 : Hh) => ∀ a, h1 a = none → fs.sp (.ref a :: (vs ++ [])) (hup h1 a (.ins C [])) E (fun v h2 => v = .non ∧ MkEnd C a h2 Q)) = fun vs h1 => ∀ a, h1 a = none → fs.sp (.ref a :: vs) (hup h1 a (.ins C [])) E (fun v h2 => v = .non ∧ MkEnd C a h2 Q) := by
    funext vs h1
    rw [List.append_nil]
  rw [e]
  exact q
theorem i_fldO {C : Addr} {fs : List (Str × Val)} {f : Str} {v : Val} {h : Hh} {A : Val → Prop} (l : fs.lookup f = some v) (q : A v) : ∃ gs u, Ins h (.obj C fs) C gs ∧ gs.lookup f = some u ∧ A u := ⟨fs, v, .obj C fs, l, q⟩
theorem i_fldR {C a : Addr} {fs : List (Str × Val)} {f : Str} {v : Val} {h : Hh} {A : Val → Prop} (e : h a = some (.ins C fs)) (l : fs.lookup f = some v) (q : A v) : ∃ gs u, Ins h (.ref a) C gs ∧ gs.lookup f = some u ∧ A u := ⟨fs, v, .ref e, l, q⟩
theorem i_mO {C : Addr} {fs : List (Str × Val)} {m : Str} {h : Hh} {A : Prop} (l : fs.lookup m = none) (q : A) : ∃ gs, Ins h (.obj C fs) C gs ∧ gs.lookup m = none ∧ A := ⟨fs, .obj C fs, l, q⟩
theorem i_mR {C a : Addr} {fs : List (Str × Val)} {m : Str} {h : Hh} {A : Prop} (e : h a = some (.ins C fs)) (l : fs.lookup m = none) (q : A) : ∃ gs, Ins h (.ref a) C gs ∧ gs.lookup m = none ∧ A := ⟨fs, .ref e, l, q⟩
theorem lk_hd {f : Str} {v : Val} {r : List (Str × Val)} : ((f, v) :: r).lookup f = some v := by simp
theorem lk_tl {f g : Str} {v : Val} {r : List (Str × Val)} {x : Option Val} (e : (f == g) = false) (h : r.lookup f = x) : ((g, v) :: r).lookup f = x := by
  simp only [List.lookup, e]; exact h
theorem lk_nil {f : Str} : ([] : List (Str × Val)).lookup f = none := rfl
theorem i_ixT {xs : List Val} {i : Int} {v : Val} {h} {Q : KQ} (e : L2.atI xs i = some v) (q : Q v h) : wIx (.tup xs) (.int i) h Q := ⟨i, v, rfl, .tup e, q⟩
theorem i_ixL {xs : List Val} {i : Int} {v : Val} {h} {Q : KQ} (e : L2.atI xs i = some v) (q : Q v h) : wIx (.lst xs) (.int i) h Q := ⟨i, v, rfl, .lst (.lst xs) e, q⟩
theorem i_ixR {a : Addr} {xs : List Val} {i : Int} {v : Val} {h : Hh} {Q : KQ} (e1 : h a = some (.lst xs)) (e : L2.atI xs i = some v) (q : Q v h) : wIx (.ref a) (.int i) h Q := ⟨i, v, rfl, .lst (.ref e1) e, q⟩
theorem i_setL {p : Addr} {xs : List Val} {k : Int} {j : Nat} {v : Val} {h : Hh} {Q : Hh → Prop} (e : h p = some (.lst xs)) (ej : L2.ixN xs.length k = some j) (q : Q (hup h p (.lst (xs.set j v)))) : wSetL (.ref p) (.int k) v h Q := ⟨p, xs, k, j, rfl, rfl, e, ej, q⟩
theorem i_tyL {h : Hh} {l : Addr} {xs : List Val} {A : Prop} (e : h l = some (.lst xs)) (q : A) : TyM h "list" (.ref l) ∧ A := ⟨.lst (.ref e), q⟩
theorem i_append {l : Addr} {xs : List Val} {y : Val} {h : Hh} {Q : KQ} (e : h l = some (.lst xs)) (hl : xs.length < 16000000) (q : Q .non (hup h l (.lst (xs ++ [y])))) : mAppend (.ref l) [y] h Q := ⟨l, xs, y, rfl, rfl, e, hl, q⟩
theorem i_newF {xs : List Val} {h : Hh} {Q : KQ} (q : Q (.lst xs) h) : NewL xs h Q := .inr q
theorem i_newO {xs : List Val} {h : Hh} {Q : KQ} (q : ∀ a, h a = none → Q (.ref a) (hup h a (.lst xs))) : NewL xs h Q := .inl q
theorem i_ifdt {p : Prop} [Decidable p] {A B : Prop} (c : p) (h : A) : if decide p = true then A else B := by rw [decide_eq_true c]; exact iteT h
theorem i_ifdf {p : Prop} [Decidable p] {A B : Prop} (c : ¬ p) (h : B) : if decide p = true then A else B := by rw [decide_eq_false c]; exact iteF h
theorem i_ifnt {p : Prop} [Decidable p] {A B : Prop} (c : ¬ p) (h : A) : if (!decide p) = true then A else B := by rw [decide_eq_false c]; exact iteT h
theorem i_ifnf {p : Prop} [Decidable p] {A B : Prop} (c : p) (h : B) : if (!decide p) = true then A else B := by rw [decide_eq_true c]; exact iteF h
theorem i_ift {b : Bool} {A B : Prop} (c : b = true) (h : A) : if b = true then A else B := by rw [c]; exact iteT h
theorem i_iff {b : Bool} {A B : Prop} (c : b = false) (h : B) : if b = true then A else B := by rw [c]; exact iteF h
theorem i_itsF {xs : List Val} {h : Hh} {G : List Val → (Hh → Prop) → Hh → Prop} (q : G xs (fun _ => True) h) : Its h (.lst xs) G := .inl ⟨xs, .inl rfl, q⟩
theorem i_itsS {xs : List Val} {h : Hh} {G : List Val → (Hh → Prop) → Hh → Prop} (q : G xs (fun _ => True) h) : Its h (.scr xs) G := .inl ⟨xs, .inr rfl, q⟩
theorem i_itsR {a : Addr} {xs : List Val} {h : Hh} {G : List Val → (Hh → Prop) → Hh → Prop} (e : h a = some (.lst xs)) (q : G xs (fun h => h a = some (.lst xs)) h) : Its h (.ref a) G := .inr ⟨a, xs, rfl, e, q⟩
theorem i_itsT {xs : List Val} {h : Hh} {G : List Val → (Hh → Prop) → Hh → Prop} (q : G xs (fun _ => True) h) : ∃ ys, Val.tup xs = .tup ys ∧ G ys (fun _ => True) h := ⟨xs, rfl, q⟩
theorem i_lenF {xs : List Val} {h : Hh} {Q : KQ} (q : Q (.int (xs.length : Int)) h) : cLen [.lst xs] h Q := ⟨_, _, rfl, .lst (.lst xs), q⟩
theorem i_lenT {xs : List Val} {h : Hh} {Q : KQ} (q : Q (.int (xs.length : Int)) h) : cLen [.tup xs] h Q := ⟨_, _, rfl, .tup, q⟩
theorem i_lenR {a : Addr} {xs : List Val} {h : Hh} {Q : KQ} (e : h a = some (.lst xs)) (q : Q (.int (xs.length : Int)) h) : cLen [.ref a] h Q := ⟨_, _, rfl, .lst (.ref e), q⟩
theorem i_listF {xs : List Val} {h : Hh} {Q : KQ} (q : NewL xs h Q) : cList [.lst xs] h Q := ⟨_, _, rfl, .lst (.lst xs), q⟩
theorem i_listT {xs : List Val} {h : Hh} {Q : KQ} (q : NewL xs h Q) : cList [.tup xs] h Q := ⟨_, _, rfl, .tup xs, q⟩
theorem i_listR {a : Addr} {xs : List Val} {h : Hh} {Q : KQ} (e : h a = some (.lst xs)) (q : NewL xs h Q) : cList [.ref a] h Q := ⟨_, _, rfl, .lst (.ref e), q⟩
theorem i_tupF {xs : List Val} {h : Hh} {Q : KQ} (q : Q (.tup xs) h) : cTuple [.lst xs] h Q := ⟨_, _, rfl, .lst (.lst xs), q⟩
theorem i_tupR {a : Addr} {xs : List Val} {h : Hh} {Q : KQ} (e : h a = some (.lst xs)) (q : Q (.tup xs) h) : cTuple [.ref a] h Q := ⟨_, _, rfl, .lst (.ref e), q⟩
theorem i_max {i j : Int} {h : Hh} {Q : KQ} (q : Q (.int (if j > i then j else i)) h) : cMax2 [.int i, .int j] h Q := ⟨i, j, rfl, q⟩
theorem i_min {i j : Int} {h : Hh} {Q : KQ} (q : Q (.int (if j < i then j else i)) h) : cMin2 [.int i, .int j] h Q := ⟨i, j, rfl, q⟩
theorem i_isi {x : Val} {n T : String} {b : Bool} {h : Hh} {Q : KQ} (e : TyN h x n) (k : kitB n T = some b) (q : Q (.bl b) h) : cIsi [x, .ty T] h Q := ⟨x, n, T, b, rfl, e, k, q⟩
theorem i_wgtup {n : Nat} {t : WGs} {xs : List Val} {ρ h} {Q : EH} (e : xs.length = n) (q : t xs ρ h Q) : wgTup n t (.tup xs) ρ h Q := ⟨xs, rfl, e, q⟩
theorem i_wgcons {t : WG} {u : WGs} {v : Val} {r : List Val} {ρ h} {Q : EH} (q : t v ρ h fun ρ1 h1 => u r ρ1 h1 Q) : wgCons t u (v :: r) ρ h Q := ⟨v, r, rfl, q⟩
theorem i_wgnil {ρ h} {Q : EH} (q : Q ρ h) : wgNil [] ρ h Q := ⟨rfl, q⟩
theorem i_wslL {te : WE} {tl th : WO} {r : W3} {ρ h E} {Q : KQ} (q : te ρ h E fun x h1 => tl ρ h1 E fun l h2 => th ρ h2 E fun u h3 => r x l u h3 Q) : wSl r te tl th ρ h E Q := q
theorem i_nopart {ρ h E} {Q : Option Int → Hh → Prop} (q : Q none h) : wNoPart ρ h E Q := q
theorem i_part {t : WE} {ρ h E} {Q : Option Int → Hh → Prop} (q : t ρ h E fun x h1 => ∃ i, x = .int i ∧ Q (some i) h1) : wPart t ρ h E Q := q
theorem i_tg1_0 {c : Option Val} {v : Val} {r : Ev} {Q : Ev → Prop} (q : Q (some v :: r)) : tg1 0 v (wipeV (c :: r) [0]) Q := q
theorem i_tg1_1 {a0 : Option Val} {c : Option Val} {v : Val} {r : Ev} {Q : Ev → Prop} (q : Q (a0 :: some v :: r)) : tg1 1 v (wipeV (a0 :: c :: r) [1]) Q := q
theorem i_tg1_2 {a0 a1 : Option Val} {c : Option Val} {v : Val} {r : Ev} {Q : Ev → Prop} (q : Q (a0 :: a1 :: some v :: r)) : tg1 2 v (wipeV (a0 :: a1 :: c :: r) [2]) Q := q
theorem i_tg1_3 {a0 a1 a2 : Option Val} {c : Option Val} {v : Val} {r : Ev} {Q : Ev → Prop} (q : Q (a0 :: a1 :: a2 :: some v :: r)) : tg1 3 v (wipeV (a0 :: a1 :: a2 :: c :: r) [3]) Q := q
theorem i_tg1_4 {a0 a1 a2 a3 : Option Val} {c : Option Val} {v : Val} {r : Ev} {Q : Ev → Prop} (q : Q (a0 :: a1 :: a2 :: a3 :: some v :: r)) : tg1 4 v (wipeV (a0 :: a1 :: a2 :: a3 :: c :: r) [4]) Q := q
theorem i_tg1_5 {a0 a1 a2 a3 a4 : Option Val} {c : Option Val} {v : Val} {r : Ev} {Q : Ev → Prop} (q : Q (a0 :: a1 :: a2 :: a3 :: a4 :: some v :: r)) : tg1 5 v (wipeV (a0 :: a1 :: a2 :: a3 :: a4 :: c :: r) [5]) Q := q
theorem i_tg1_6 {a0 a1 a2 a3 a4 a5 : Option Val} {c : Option Val} {v : Val} {r : Ev} {Q : Ev → Prop} (q : Q (a0 :: a1 :: a2 :: a3 :: a4 :: a5 :: some v :: r)) : tg1 6 v (wipeV (a0 :: a1 :: a2 :: a3 :: a4 :: a5 :: c :: r) [6]) Q := q
theorem i_tg1_7 {a0 a1 a2 a3 a4 a5 a6 : Option Val} {c : Option Val} {v : Val} {r : Ev} {Q : Ev → Prop} (q : Q (a0 :: a1 :: a2 :: a3 :: a4 :: a5 :: a6 :: some v :: r)) : tg1 7 v (wipeV (a0 :: a1 :: a2 :: a3 :: a4 :: a5 :: a6 :: c :: r) [7]) Q := q
theorem i_tg1_8 {a0 a1 a2 a3 a4 a5 a6 a7 : Option Val} {c : Option Val} {v : Val} {r : Ev} {Q : Ev → Prop} (q : Q (a0 :: a1 :: a2 :: a3 :: a4 :: a5 :: a6 :: a7 :: some v :: r)) : tg1 8 v (wipeV (a0 :: a1 :: a2 :: a3 :: a4 :: a5 :: a6 :: a7 :: c :: r) [8]) Q := q
theorem i_tg1_9 {a0 a1 a2 a3 a4 a5 a6 a7 a8 : Option Val} {c : Option Val} {v : Val} {r : Ev} {Q : Ev → Prop} (q : Q (a0 :: a1 :: a2 :: a3 :: a4 :: a5 :: a6 :: a7 :: a8 :: some v :: r)) : tg1 9 v (wipeV (a0 :: a1 :: a2 :: a3 :: a4 :: a5 :: a6 :: a7 :: a8 :: c :: r) [9]) Q := q
theorem i_tg1_10 {a0 a1 a2 a3 a4 a5 a6 a7 a8 a9 : Option Val} {c : Option Val} {v : Val} {r : Ev} {Q : Ev → Prop} (q : Q (a0 :: a1 :: a2 :: a3 :: a4 :: a5 :: a6 :: a7 :: a8 :: a9 :: some v :: r)) : tg1 10 v (wipeV (a0 :: a1 :: a2 :: a3 :: a4 :: a5 :: a6 :: a7 :: a8 :: a9 :: c :: r) [10]) Q := q
theorem i_tg1_11 {a0 a1 a2 a3 a4 a5 a6 a7 a8 a9 a10 : Option Val} {c : Option Val} {v : Val} {r : Ev} {Q : Ev → Prop} (q : Q (a0 :: a1 :: a2 :: a3 :: a4 :: a5 :: a6 :: a7 :: a8 :: a9 :: a10 :: some v :: r)) : tg1 11 v (wipeV (a0 :: a1 :: a2 :: a3 :: a4 :: a5 :: a6 :: a7 :: a8 :: a9 :: a10 :: c :: r) [11]) Q := q
theorem i_tg1_12 {a0 a1 a2 a3 a4 a5 a6 a7 a8 a9 a10 a11 : Option Val} {c : Option Val} {v : Val} {r : Ev} {Q : Ev → Prop} (q : Q (a0 :: a1 :: a2 :: a3 :: a4 :: a5 :: a6 :: a7 :: a8 :: a9 :: a10 :: a11 :: some v :: r)) : tg1 12 v (wipeV (a0 :: a1 :: a2 :: a3 :: a4 :: a5 :: a6 :: a7 :: a8 :: a9 :: a10 :: a11 :: c :: r) [12]) Q := q
theorem i_tg1_13 {a0 a1 a2 a3 a4 a5 a6 a7 a8 a9 a10 a11 a12 : Option Val} {c : Option Val} {v : Val} {r : Ev} {Q : Ev → Prop} (q : Q (a0 :: a1 :: a2 :: a3 :: a4 :: a5 :: a6 :: a7 :: a8 :: a9 :: a10 :: a11 :: a12 :: some v :: r)) : tg1 13 v (wipeV (a0 :: a1 :: a2 :: a3 :: a4 :: a5 :: a6 :: a7 :: a8 :: a9 :: a10 :: a11 :: a12 :: c :: r) [13]) Q := q
theorem i_tg1_14 {a0 a1 a2 a3 a4 a5 a6 a7 a8 a9 a10 a11 a12 a13 : Option Val} {c : Option Val} {v : Val} {r : Ev} {Q : Ev → Prop} (q : Q (a0 :: a1 :: a2 :: a3 :: a4 :: a5 :: a6 :: a7 :: a8 :: a9 :: a10 :: a11 :: a12 :: a13 :: some v :: r)) : tg1 14 v (wipeV (a0 :: a1 :: a2 :: a3 :: a4 :: a5 :: a6 :: a7 :: a8 :: a9 :: a10 :: a11 :: a12 :: a13 :: c :: r) [14]) Q := q
theorem i_tg1_15 {a0 a1 a2 a3 a4 a5 a6 a7 a8 a9 a10 a11 a12 a13 a14 : Option Val} {c : Option Val} {v : Val} {r : Ev} {Q : Ev → Prop} (q : Q (a0 :: a1 :: a2 :: a3 :: a4 :: a5 :: a6 :: a7 :: a8 :: a9 :: a10 :: a11 :: a12 :: a13 :: a14 :: some v :: r)) : tg1 15 v (wipeV (a0 :: a1 :: a2 :: a3 :: a4 :: a5 :: a6 :: a7 :: a8 :: a9 :: a10 :: a11 :: a12 :: a13 :: a14 :: c :: r) [15]) Q := q
theorem i_tg1_16 {a0 a1 a2 a3 a4 a5 a6 a7 a8 a9 a10 a11 a12 a13 a14 a15 : Option Val} {c : Option Val} {v : Val} {r : Ev} {Q : Ev → Prop} (q : Q (a0 :: a1 :: a2 :: a3 :: a4 :: a5 :: a6 :: a7 :: a8 :: a9 :: a10 :: a11 :: a12 :: a13 :: a14 :: a15 :: some v :: r)) : tg1 16 v (wipeV (a0 :: a1 :: a2 :: a3 :: a4 :: a5 :: a6 :: a7 :: a8 :: a9 :: a10 :: a11 :: a12 :: a13 :: a14 :: a15 :: c :: r) [16]) Q := q
theorem i_tg1_17 {a0 a1 a2 a3 a4 a5 a6 a7 a8 a9 a10 a11 a12 a13 a14 a15 a16 : Option Val} {c : Option Val} {v : Val} {r : Ev} {Q : Ev → Prop} (q : Q (a0 :: a1 :: a2 :: a3 :: a4 :: a5 :: a6 :: a7 :: a8 :: a9 :: a10 :: a11 :: a12 :: a13 :: a14 :: a15 :: a16 :: some v :: r)) : tg1 17 v (wipeV (a0 :: a1 :: a2 :: a3 :: a4 :: a5 :: a6 :: a7 :: a8 :: a9 :: a10 :: a11 :: a12 :: a13 :: a14 :: a15 :: a16 :: c :: r) [17]) Q := q
theorem i_tg1_18 {a0 a1 a2 a3 a4 a5 a6 a7 a8 a9 a10 a11 a12 a13 a14 a15 a16 a17 : Option Val} {c : Option Val} {v : Val} {r : Ev} {Q : Ev → Prop} (q : Q (a0 :: a1 :: a2 :: a3 :: a4 :: a5 :: a6 :: a7 :: a8 :: a9 :: a10 :: a11 :: a12 :: a13 :: a14 :: a15 :: a16 :: a17 :: some v :: r)) : tg1 18 v (wipeV (a0 :: a1 :: a2 :: a3 :: a4 :: a5 :: a6 :: a7 :: a8 :: a9 :: a10 :: a11 :: a12 :: a13 :: a14 :: a15 :: a16 :: a17 :: c :: r) [18]) Q := q
theorem i_tg1_19 {a0 a1 a2 a3 a4 a5 a6 a7 a8 a9 a10 a11 a12 a13 a14 a15 a16 a17 a18 : Option Val} {c : Option Val} {v : Val} {r : Ev} {Q : Ev → Prop} (q : Q (a0 :: a1 :: a2 :: a3 :: a4 :: a5 :: a6 :: a7 :: a8 :: a9 :: a10 :: a11 :: a12 :: a13 :: a14 :: a15 :: a16 :: a17 :: a18 :: some v :: r)) : tg1 19 v (wipeV (a0 :: a1 :: a2 :: a3 :: a4 :: a5 :: a6 :: a7 :: a8 :: a9 :: a10 :: a11 :: a12 :: a13 :: a14 :: a15 :: a16 :: a17 :: a18 :: c :: r) [19]) Q := q
theorem i_tg1_20 {a0 a1 a2 a3 a4 a5 a6 a7 a8 a9 a10 a11 a12 a13 a14 a15 a16 a17 a18 a19 : Option Val} {c : Option Val} {v : Val} {r : Ev} {Q : Ev → Prop} (q : Q (a0 :: a1 :: a2 :: a3 :: a4 :: a5 :: a6 :: a7 :: a8 :: a9 :: a10 :: a11 :: a12 :: a13 :: a14 :: a15 :: a16 :: a17 :: a18 :: a19 :: some v :: r)) : tg1 20 v (wipeV (a0 :: a1 :: a2 :: a3 :: a4 :: a5 :: a6 :: a7 :: a8 :: a9 :: a10 :: a11 :: a12 :: a13 :: a14 :: a15 :: a16 :: a17 :: a18 :: a19 :: c :: r) [20]) Q := q
theorem i_tg1_21 {a0 a1 a2 a3 a4 a5 a6 a7 a8 a9 a10 a11 a12 a13 a14 a15 a16 a17 a18 a19 a20 : Option Val} {c : Option Val} {v : Val} {r : Ev} {Q : Ev → Prop} (q : Q (a0 :: a1 :: a2 :: a3 :: a4 :: a5 :: a6 :: a7 :: a8 :: a9 :: a10 :: a11 :: a12 :: a13 :: a14 :: a15 :: a16 :: a17 :: a18 :: a19 :: a20 :: some v :: r)) : tg1 21 v (wipeV (a0 :: a1 :: a2 :: a3 :: a4 :: a5 :: a6 :: a7 :: a8 :: a9 :: a10 :: a11 :: a12 :: a13 :: a14 :: a15 :: a16 :: a17 :: a18 :: a19 :: a20 :: c :: r) [21]) Q := q
theorem i_tg1_22 {a0 a1 a2 a3 a4 a5 a6 a7 a8 a9 a10 a11 a12 a13 a14 a15 a16 a17 a18 a19 a20 a21 : Option Val} {c : Option Val} {v : Val} {r : Ev} {Q : Ev → Prop} (q : Q (a0 :: a1 :: a2 :: a3 :: a4 :: a5 :: a6 :: a7 :: a8 :: a9 :: a10 :: a11 :: a12 :: a13 :: a14 :: a15 :: a16 :: a17 :: a18 :: a19 :: a20 :: a21 :: some v :: r)) : tg1 22 v (wipeV (a0 :: a1 :: a2 :: a3 :: a4 :: a5 :: a6 :: a7 :: a8 :: a9 :: a10 :: a11 :: a12 :: a13 :: a14 :: a15 :: a16 :: a17 :: a18 :: a19 :: a20 :: a21 :: c :: r) [22]) Q := q
theorem i_tg1_23 {a0 a1 a2 a3 a4 a5 a6 a7 a8 a9 a10 a11 a12 a13 a14 a15 a16 a17 a18 a19 a20 a21 a22 : Option Val} {c : Option Val} {v : Val} {r : Ev} {Q : Ev → Prop} (q : Q (a0 :: a1 :: a2 :: a3 :: a4 :: a5 :: a6 :: a7 :: a8 :: a9 :: a10 :: a11 :: a12 :: a13 :: a14 :: a15 :: a16 :: a17 :: a18 :: a19 :: a20 :: a21 :: a22 :: some v :: r)) : tg1 23 v (wipeV (a0 :: a1 :: a2 :: a3 :: a4 :: a5 :: a6 :: a7 :: a8 :: a9 :: a10 :: a11 :: a12 :: a13 :: a14 :: a15 :: a16 :: a17 :: a18 :: a19 :: a20 :: a21 :: a22 :: c :: r) [23]) Q := q
theorem g_tg1 {i j : Nat} {v : Val} {ρ : Ev} {Q : Ev → Prop} (q : tg1 i v (wipeV ρ [j]) Q) : tg1 i v (wipeV ρ [j]) Q := q
theorem i_yes {ρ h E} {Q : Bool → Hh → Prop} (q : Q true h) : wYes ρ h E Q := q
theorem g_isi {vs : List Val} {h : Hh} {Q : KQ} (q : cIsi vs h Q) : cIsi vs h Q := q
theorem i_isi_non_bool {h : Hh} {Q : KQ} (q : Q (.bl false) h) : cIsi [.non, .ty "bool"] h Q := i_isi (.non : TyN h (.non) "NoneType") (by decide +kernel) q
theorem i_isi_non_int {h : Hh} {Q : KQ} (q : Q (.bl false) h) : cIsi [.non, .ty "int"] h Q := i_isi (.non : TyN h (.non) "NoneType") (by decide +kernel) q
theorem i_isi_non_str {h : Hh} {Q : KQ} (q : Q (.bl false) h) : cIsi [.non, .ty "str"] h Q := i_isi (.non : TyN h (.non) "NoneType") (by decide +kernel) q
theorem i_isi_non_list {h : Hh} {Q : KQ} (q : Q (.bl false) h) : cIsi [.non, .ty "list"] h Q := i_isi (.non : TyN h (.non) "NoneType") (by decide +kernel) q
theorem i_isi_non_tuple {h : Hh} {Q : KQ} (q : Q (.bl false) h) : cIsi [.non, .ty "tuple"] h Q := i_isi (.non : TyN h (.non) "NoneType") (by decide +kernel) q
theorem i_isi_bl_bool {b : Bool} {h : Hh} {Q : KQ} (q : Q (.bl true) h) : cIsi [.bl b, .ty "bool"] h Q := i_isi (.bl b : TyN h (.bl b) "bool") (by decide +kernel) q
theorem i_isi_bl_int {b : Bool} {h : Hh} {Q : KQ} (q : Q (.bl true) h) : cIsi [.bl b, .ty "int"] h Q := i_isi (.bl b : TyN h (.bl b) "bool") (by decide +kernel) q
theorem i_isi_bl_str {b : Bool} {h : Hh} {Q : KQ} (q : Q (.bl false) h) : cIsi [.bl b, .ty "str"] h Q := i_isi (.bl b : TyN h (.bl b) "bool") (by decide +kernel) q
theorem i_isi_bl_list {b : Bool} {h : Hh} {Q : KQ} (q : Q (.bl false) h) : cIsi [.bl b, .ty "list"] h Q := i_isi (.bl b : TyN h (.bl b) "bool") (by decide +kernel) q
theorem i_isi_bl_tuple {b : Bool} {h : Hh} {Q : KQ} (q : Q (.bl false) h) : cIsi [.bl b, .ty "tuple"] h Q := i_isi (.bl b : TyN h (.bl b) "bool") (by decide +kernel) q
theorem i_isi_int_bool {i : Int} {h : Hh} {Q : KQ} (q : Q (.bl false) h) : cIsi [.int i, .ty "bool"] h Q := i_isi (.int i : TyN h (.int i) "int") (by decide +kernel) q
theorem i_isi_int_int {i : Int} {h : Hh} {Q : KQ} (q : Q (.bl true) h) : cIsi [.int i, .ty "int"] h Q := i_isi (.int i : TyN h (.int i) "int") (by decide +kernel) q
theorem i_isi_int_str {i : Int} {h : Hh} {Q : KQ} (q : Q (.bl false) h) : cIsi [.int i, .ty "str"] h Q := i_isi (.int i : TyN h (.int i) "int") (by decide +kernel) q
theorem i_isi_int_list {i : Int} {h : Hh} {Q : KQ} (q : Q (.bl false) h) : cIsi [.int i, .ty "list"] h Q := i_isi (.int i : TyN h (.int i) "int") (by decide +kernel) q
theorem i_isi_int_tuple {i : Int} {h : Hh} {Q : KQ} (q : Q (.bl false) h) : cIsi [.int i, .ty "tuple"] h Q := i_isi (.int i : TyN h (.int i) "int") (by decide +kernel) q
theorem i_isi_str_bool {z : Str} {h : Hh} {Q : KQ} (q : Q (.bl false) h) : cIsi [.str z, .ty "bool"] h Q := i_isi (.str z : TyN h (.str z) "str") (by decide +kernel) q
theorem i_isi_str_int {z : Str} {h : Hh} {Q : KQ} (q : Q (.bl false) h) : cIsi [.str z, .ty "int"] h Q := i_isi (.str z : TyN h (.str z) "str") (by decide +kernel) q
theorem i_isi_str_str {z : Str} {h : Hh} {Q : KQ} (q : Q (.bl true) h) : cIsi [.str z, .ty "str"] h Q := i_isi (.str z : TyN h (.str z) "str") (by decide +kernel) q
theorem i_isi_str_list {z : Str} {h : Hh} {Q : KQ} (q : Q (.bl false) h) : cIsi [.str z, .ty "list"] h Q := i_isi (.str z : TyN h (.str z) "str") (by decide +kernel) q
theorem i_isi_str_tuple {z : Str} {h : Hh} {Q : KQ} (q : Q (.bl false) h) : cIsi [.str z, .ty "tuple"] h Q := i_isi (.str z : TyN h (.str z) "str") (by decide +kernel) q
theorem i_isi_tup_bool {xs : List Val} {h : Hh} {Q : KQ} (q : Q (.bl false) h) : cIsi [.tup xs, .ty "bool"] h Q := i_isi (.tup xs : TyN h (.tup xs) "tuple") (by decide +kernel) q
theorem i_isi_tup_int {xs : List Val} {h : Hh} {Q : KQ} (q : Q (.bl false) h) : cIsi [.tup xs, .ty "int"] h Q := i_isi (.tup xs : TyN h (.tup xs) "tuple") (by decide +kernel) q
theorem i_isi_tup_str {xs : List Val} {h : Hh} {Q : KQ} (q : Q (.bl false) h) : cIsi [.tup xs, .ty "str"] h Q := i_isi (.tup xs : TyN h (.tup xs) "tuple") (by decide +kernel) q
theorem i_isi_tup_list {xs : List Val} {h : Hh} {Q : KQ} (q : Q (.bl false) h) : cIsi [.tup xs, .ty "list"] h Q := i_isi (.tup xs : TyN h (.tup xs) "tuple") (by decide +kernel) q
theorem i_isi_tup_tuple {xs : List Val} {h : Hh} {Q : KQ} (q : Q (.bl true) h) : cIsi [.tup xs, .ty "tuple"] h Q := i_isi (.tup xs : TyN h (.tup xs) "tuple") (by decide +kernel) q
theorem i_isi_lst_bool {xs : List Val} {h : Hh} {Q : KQ} (q : Q (.bl false) h) : cIsi [.lst xs, .ty "bool"] h Q := i_isi (.lst (.lst xs) : TyN h (.lst xs) "list") (by decide +kernel) q
theorem i_isi_lst_int {xs : List Val} {h : Hh} {Q : KQ} (q : Q (.bl false) h) : cIsi [.lst xs, .ty "int"] h Q := i_isi (.lst (.lst xs) : TyN h (.lst xs) "list") (by decide +kernel) q
theorem i_isi_lst_str {xs : List Val} {h : Hh} {Q : KQ} (q : Q (.bl false) h) : cIsi [.lst xs, .ty "str"] h Q := i_isi (.lst (.lst xs) : TyN h (.lst xs) "list") (by decide +kernel) q
theorem i_isi_lst_list {xs : List Val} {h : Hh} {Q : KQ} (q : Q (.bl true) h) : cIsi [.lst xs, .ty "list"] h Q := i_isi (.lst (.lst xs) : TyN h (.lst xs) "list") (by decide +kernel) q
theorem i_isi_lst_tuple {xs : List Val} {h : Hh} {Q : KQ} (q : Q (.bl false) h) : cIsi [.lst xs, .ty "tuple"] h Q := i_isi (.lst (.lst xs) : TyN h (.lst xs) "list") (by decide +kernel) q
theorem i_chain {r r' : W2} {ta tb tc : WE} {ρ h E} {Q : KQ} (q : ta ρ h E fun x h1 => tb ρ h1 E fun y h2 => r x y h2 fun z h3 => ∃ k, z = .bl k ∧ if k = true then tc ρ h3 E fun u h4 => r' y u h4 Q else Q (.bl false) h3) : wChain r r' ta tb tc ρ h E Q := q
theorem g_var {i : Nat} {ρ : Ev} {h E} {Q : KQ} (q : wVar i ρ h E Q) : wVar i ρ h E Q := q
theorem g_name {i : Nat} {v : Val} {ρ : Ev} {h} {Q : EH} (q : wgName i v ρ h Q) : wgName i v ρ h Q := q
theorem g_if {b : Bool} {A B : Prop} (q : if b = true then A else B) : if b = true then A else B := q
/-! loops -/
def ForI (xs : List Val) (chk : Hh → Prop) (g : WG) (tb : WS) (nx : EH) (rt : KQ) (xe : XS) (ρ : Ev) (h : Hh) : Prop := ∃ I : Nat → EH, I 0 ρ h ∧ ∀ i ρ h, I i ρ h → chk h ∧ (xs.length ≤ i → nx ρ h) ∧
  ∀ x, xs[i]? = some x → g x ρ h fun ρ2 h2 => tb (I (i + 1)) rt nx (I (i + 1)) xe ρ2 h2
theorem i_for {wi : WI} {g : WG} {tb : WS} {nx rt bk ct xe ρ h} (q : wi ρ h (atx xe ρ) fun xs chk h1 => ForI xs chk g tb nx rt xe ρ h1) : wFor wi g tb nx rt bk ct xe ρ h := q
theorem for_inv {xs : List Val} {chk : Hh → Prop} {g : WG} {tb : WS} {nx : EH} {rt : KQ} {xe : XS} {ρ : Ev} {h : Hh} (I : Nat → EH) (h0 : I 0 ρ h) (st : ∀ i ρ h, I i ρ h → chk h ∧ (xs.length ≤ i → nx ρ h) ∧
  ∀ x, xs[i]? = some x → g x ρ h fun ρ2 h2 => tb (I (i + 1)) rt nx (I (i + 1)) xe ρ2 h2) : ForI xs chk g tb nx rt xe ρ h := ⟨I, h0, st⟩
def WhileI (c : WT) (tb : WS) (nx : EH) (rt : KQ) (xe : XS) (ρ : Ev) (h : Hh) : Prop := ∃ I : Nat → EH, (∃ m, I m ρ h) ∧ ∀ m ρ h, I m ρ h → c ρ h (atx xe ρ) fun b h1 =>
  if b = true then tb (fun ρ2 h2 => ∃ m2, m2 < m ∧ I m2 ρ2 h2) rt nx (fun ρ2 h2 => ∃ m2, m2 < m ∧ I m2 ρ2 h2) xe ρ h1 else nx ρ h1
theorem i_while {c : WT} {tb : WS} {nx rt bk ct xe ρ h} (q : WhileI c tb nx rt xe ρ h) : wWhile c tb nx rt bk ct xe ρ h := q
theorem while_inv {c : WT} {tb : WS} {nx : EH} {rt : KQ} {xe : XS} {ρ : Ev} {h : Hh} (I : Nat → EH) (m0 : Nat) (h0 : I m0 ρ h) (st : ∀ m ρ h, I m ρ h → c ρ h (atx xe ρ) fun b h1 =>
  if b = true then tb (fun ρ2 h2 => ∃ m2, m2 < m ∧ I m2 ρ2 h2) rt nx (fun ρ2 h2 => ∃ m2, m2 < m ∧ I m2 ρ2 h2) xe ρ h1 else nx ρ h1) : WhileI c tb nx rt xe ρ h := ⟨I, ⟨m0, h0⟩, st⟩
theorem lc_inv {tg : Val → Ev → (Ev → Prop) → Prop} {xs : List Val} {chk : Hh → Prop} {tt : WT} {te : WE} {vs : List Nat} {ρ : Ev} {h : Hh} {Q : KQ} (I : Nat → List Val → Hh → Prop) (h0 : I 0 [] h)
    (st : ∀ i acc h, I i acc h → chk h ∧ (xs.length ≤ i → NewL acc h Q) ∧ ∀ x, xs[i]? = some x → tg x (wipeV ρ vs) fun ρ2 =>
      tt ρ2 h (fun _ _ _ => False) fun b h3 => if b = true then te ρ2 h3 (fun _ _ _ => False) (fun y h4 => acc.length < 16000000 ∧ I (i + 1) (acc ++ [y]) h4) else I (i + 1) acc h3) : wLcB tg xs chk tt te vs ρ h Q := ⟨I, h0, st⟩
theorem i_rngB {n : Int} {A : Prop} (a : 0 ≤ n) (b : n < 4611686018427387904) (q : A) : -(2 ^ 62) ≤ n ∧ n < 2 ^ 62 ∧ A := ⟨by omega, by omega, q⟩
theorem map_get {α : Type} {f : α → Val} {xs : List α} {i : Nat} {z : Val} (h : (xs.map f)[i]? = some z) : ∃ c, xs[i]? = some c ∧ z = f c := by
  rw [List.getElem?_map] at h
  cases e : xs[i]? with
  | none => rw [e] at h; cases h
  | some c => rw [e] at h; exact ⟨c, rfl, (Option.some.inj h).symm⟩
/-- data of ints -/
theorem dvs_ints {h : Hh} : ∀ ns : List Int, Dvs h (ns.map Val.int) (ns.map PyData.int)
  | [] => .nil
  | n :: ns => .cons (.int n) (dvs_ints ns)
theorem canLay_ints : ∀ ns : List Int, PyData.canLayAll0 (ns.map PyData.int) = true
  | [] => by simp [PyData.canLayAll0]
  | n :: ns => by simp [PyData.canLayAll0, PyData.canLay0, canLay_ints ns]
/-! ZA -/
/-! len of an own instance -/
section
variable {X : Cx} {W : WX} {pos : Pos}
def rLenO (C : Addr) (sp : L2.Sp) : List V → Hp → VK → Prop := fun xs H Q => ∃ a dx fs, xs = [V.ref a] ∧ H a = some (.ins C dx fs) ∧ sp [.ref a] H (fun v H' => ∃ n : Int, v = .int n ∧ (0 ≤ n ∧ n < 2 ^ 63) ∧ Q (.int n) H') (fun _ _ _ => False)
theorem call_lenO {k : Nat} {C f : Addr} {fd : FuncData} {ps : List Str} {sp : L2.Sp} {ds : List Value} (F : FnOk X.prog X.w X.K X.mg X.base (L2.CX X.prog X.w) k f fd ps sp) (hm : Meth X.K C "__len__" f) (hb : Binds X.K fd ps []) (hr : Room (k + 1) X.A) : CallR X (.builtin "len") (rLenO C sp) := by
  intro pins s σ H xs us Q I r h
  obtain ⟨a, dx, fs, rfl, ha, hsp⟩ := h
  cases r with
  | cons ra rr =>
    cases rr
    cases ra
    obtain ⟨mA, J, _⟩ := ins_get I.hok ha
    obtain ⟨od, J, _⟩ := J.look
    obtain ⟨m, hF⟩ := I.fr
    refine PySem.W.len_K hF I.ok.mod.kin J hm.at_ hm.fn ?_
    have hl := F.len _ _ _ _ hsp
    have r2 : Vals [V.ref a] [Value.ref a] := .cons rfl .nil
    refine wpAny_call (codeAny_mono (F.run X.A.in1 X.stack s H ⟨[.ref a], []⟩ [.ref a] [.ref a] _ _ hr.in1 I.env0.in1 (by
      have := hb s [.ref a] I.kIn (by simpa using hl)
      simpa using this) r2 hsp) fun r s' hq => ?_)
    cases r with
    | error e => exact passL pins σ H s e s' I hq
    | ok fl =>
      cases fl with
      | ret w =>
        obtain ⟨z, H', I', rz, n, ez, b, q⟩ := I.after hq
        subst ez
        obtain ⟨t, rfl⟩ := rz
        exact ⟨b, .int n, H', I'.tok _, ⟨_, rfl⟩, q⟩
      | next => exact False.elim hq
      | brk => exact False.elim hq
      | cont => exact False.elim hq
def cLenO (C : Addr) (fs : FS) : WC := fun vs h Q => ∃ x fl, vs = [x] ∧ Ins h x C fl ∧ fs.sp [x] h (fun _ _ _ => False) (fun v h' => ∃ n : Int, v = .int n ∧ (0 ≤ n ∧ n < 2 ^ 63) ∧ Q (.int n) h')
theorem s_lenO {K : Fr} {C : Addr} {fs : FS} : SndC K (cLenO C fs) (rLenO C (lSp K fs)) := fun S F H h xs vs Q' Q r rx q lq => by
  obtain ⟨x, fl, rfl, q1, q⟩ := q
  obtain ⟨w, rfl, x1⟩ := rels_1 rx
  obtain ⟨a, dx, gs, e1, e2, e3⟩ := q1.l r x1
  subst e1
  refine ⟨a, dx, gs, rfl, e2, S, F, _, h, _, _, r, rx, q, fun v h' S' w H' q1 s1 r1 x2 => ?_, fun _ _ _ _ _ _ _ z => z.elim⟩
  obtain ⟨n, rfl, b, q1⟩ := q1
  exact ⟨n, rel_int.mp x2, b, lq _ _ _ _ _ q1 s1 r1 (rel_int.mpr rfl)⟩
theorem zlenO {k : Nat} {C : Addr} {ps : List Str} {fs : FS} {p : Pos} {e : Expr} {t : WA} (G : Mt X.prog X.w X.K X.mg X.base C "__len__" k ps [] fs) (hr : Room (k + 1) X.A) (hg : Gl X "len") (hm : X.mg "len" = none) (ha : ZA X W [e] t)
    (he : starEach [e] X.env = (false, eval e X.env) :: starEach [] X.env := by rfl) (hpl : (backTo pos (starEach [] X.env)).any (·.1) = false := by rfl) : ZE X W (.Call (.Name "len" p) [e] [] pos) (wCB (cLenO C fs) t) := by
  obtain ⟨f, fd, dvs, ds, F, hmm, hd, hdv, hb⟩ := G.ex
  have e0 : dvs = [] := rels_nil.mp (hdv fun _ => none)
  subst e0
  cases hd
  exact zcallB (call_lenO (ds := []) F hmm hb hr) s_lenO hg hm PySem.boot_len ha (by decide) (by decide) he hpl
theorem i_lenO {C : Addr} {fs : FS} {fl : List (Str × Val)} {h : Hh} {Q : KQ} (q : fs.sp [.obj C fl] h (fun _ _ _ => False) (fun v h' => ∃ n : Int, v = .int n ∧ (0 ≤ n ∧ n < 2 ^ 63) ∧ Q (.int n) h')) : cLenO C fs [.obj C fl] h Q := ⟨_, _, rfl, .obj C fl, q⟩
theorem i_lenOR {C a : Addr} {fs : FS} {fl : List (Str × Val)} {h : Hh} {Q : KQ} (e : h a = some (.ins C fl)) (q : fs.sp [.ref a] h (fun _ _ _ => False) (fun v h' => ∃ n : Int, v = .int n ∧ (0 ≤ n ∧ n < 2 ^ 63) ∧ Q (.int n) h')) : cLenO C fs [.ref a] h Q := ⟨_, _, rfl, .ref e, q⟩
/-! ### raise of an own class whose __init__ stores what -/
theorem R.sup {K : Fr} {S F H H' : Hp} {h : Hh} (r : R K S F H h) (e : ∀ b o, H b = some o → H' b = some o) : R K S F H' h :=
  ⟨fun a o q => e _ _ (r.sub a o q), fun a o q => ⟨e _ _ (r.frm a o q).1, (r.frm a o q).2⟩, fun a o q => by
    obtain ⟨h1, u, h2, h3⟩ := r.own a o q
    exact ⟨h1, u, e _ _ h2, h3⟩, r.ntp⟩
def spWhat (K : Fr) : L2.Sp := fun vs H Q _ => ∃ a C v, vs = [.ref a, v] ∧ OexC K C ∧ PySem.W.findIn K (.ref C) "what" = some none ∧ H a = some (exo a C none) ∧ ∀ dx, H dx = none → dx ≠ a → Q .non (upd (upd H dx (exd dx [("what", v)])) a (exo a C (some dx)))
structure Ex (P : Program) (w : World) (K : Fr) (mg : Str → Option Value) (base : Heap) (x : Str) (C : Addr) : Prop where
  ex : ∃ (fI : Addr) (fd : FuncData), FnOk P w K mg base CX0 1 fI fd ["self", "what"] (spWhat K) ∧ mg x = some (.ref C) ∧ OexC K C ∧ PySem.W.findIn K (.ref C) "__init__" = some (some (.ref fI)) ∧ PySem.W.typeIn K (.ref fI) = some (.type "function") ∧ Binds K fd ["self", "what"] [] ∧ PySem.W.findIn K (.ref C) "what" = some none
def wRaise (C : Addr) (te : WE) : WS := fun _ _ _ _ xe ρ h => te ρ h (atx xe ρ) fun v h1 => xe C v ρ h1
theorem zs_raise {x : Str} {C : Addr} {e : Expr} {te : WE} {p pos' : Pos} (tk : Takes X W) (hc : X.calm = true) (G : Ex X.prog X.w X.K X.mg X.base x C) (hr : Room 2 X.A) (hg : Gl X x) (ha : ZE X W e te) (hdb : (x == ("__debug__" : Str)) = false := by decide)
    (he : starEach [e] X.env = (false, eval e X.env) :: starEach [] X.env := by rfl) (hpl : (backTo pos (starEach [] X.env)).any (·.1) = false := by rfl) : ZS X W (.Raise (some (.Call (.Name x p) [e] [] pos)) none pos') (wRaise C te) := by
  obtain ⟨fI, fd, F, hm, T, iC, tI, hb, hn⟩ := G.ex
  refine ⟨ps_imp (ps_raise hc tk (pmk_oex T iC tI F hr hb .nil pass0 hg hm (L2.pa_cons ha.pe pa_nil he) hdb he hpl)) fun D σ H ⟨S, Fr, ρ, h, nx, rt, bk, ct, xe, r, rl, q, ln, lr, lb, lc, lx⟩ => ?_⟩
  refine ⟨S, Fr, ρ, h, _, _, r, rl, q, fun v h1 S1 w H1 q1 s1 r1 x1 => ⟨by simp, fun a na => ⟨a, C, w, rfl, T, hn, upd_same, fun dx hdx ne => ⟨rfl, dx, [("what", w)], upd_same, ?_, ?_, ?_⟩⟩⟩, lx.at rl⟩
  · rw [upd_ne ne, upd_same]
  · rw [upd_ne ne] at hdx; exact hdx
  · rw [upd_ne ne] at hdx
    obtain ⟨rF, sF⟩ := r1.frozen (p := dx) (u := .xd [("what", w)]) hdx
    refine lx _ _ _ _ _ w dx σ _ q1 (s1.trans sF) (rF.sup fun b o e => ?_) ((rl.mono s1).mono sF) (Rel.mono sF _ _ x1) upd_same
    by_cases c : b = dx
    · subst c
      rw [upd_same] at e ⊢
      exact e
    · rw [upd_ne c] at e
      have ba : b ≠ a := ne_of_none e na
      rw [upd_ne c, L2.del_ne ba, upd_ne ba, upd_ne c, upd_ne ba]
      exact e
theorem i_raise {C : Addr} {te : WE} {nx rt bk ct xe ρ h} (q : te ρ h (atx xe ρ) fun v h1 => xe C v ρ h1) : wRaise C te nx rt bk ct xe ρ h := q
end
/-- the def __init__(self, what): self.what = what of an error -/
theorem ok_what {P : Program} {w : World} {K : Fr} {mg : Str → Option Value} {base : Heap} {x qual : Str} {params : Arguments} {scope : Scope} {dvs : List V} {kws : List (Str × V)} {f : Addr} {fd : FuncData} {p1 p2 p3 p4 : Pos}
    (F : FunD K x qual params [.Assign [.Attribute (.Name "self" p1) "what" p2] (.Name "what" p3) p4] scope dvs kws f fd) (Sc : FnScope ["self", "what"] ["self", "what"] scope) (k1 : scope.names.lookup ("self" : Str) = some .local) (k2 : scope.names.lookup ("what" : Str) = some .local) : FnOk P w K mg base CX0 1 f fd ["self", "what"] (spWhat K) := by
  refine F.ok Sc (fun vs H Q E ⟨a, C, v, e, _⟩ => by subst e; rfl) fun cdv A outer s H vs Q E hr h => ?_
  obtain ⟨a, C, v, rfl, T, hn, ha, k⟩ := h
  refine ⟨_, pss_one (ps_ost (pv 0 rfl (Or.inl k1)) (pv 1 rfl (Or.inl k2))), ?_⟩
  exact ⟨v, rfl, _, rfl, a, C, rfl, T, hn, .inl ⟨ha, fun dx h1 h2 => k dx h1 h2⟩⟩
/-! ZB -/
/-! calls with keywords -/
/-- the values in the parameters' order: the i-th written one, the j-th keyword's -/
def arr {α : Type} : List (Sum Nat Nat) → List α → List α → List α
  | [], _, _ => []
  | .inl i :: p, vs, zs => (match vs[i]? with
    | some v => v :: arr p vs zs
    | none => arr p vs zs)
  | .inr i :: p, vs, zs => (match zs[i]? with
    | some v => v :: arr p vs zs
    | none => arr p vs zs)
structure FnK (P : Program) (w : World) (K : Fr) (mg : Str → Option Value) (base : Heap) (x : Str) (k : Nat) (ps : List Str) (n : Nat) (ks : List Str) (perm : List (Sum Nat Nat)) (fs : FS) : Prop where
  ex : ∃ (f : Addr) (fd : FuncData), FnOk P w K mg base (L2.CX P w) k f fd ps (lSp K fs) ∧ mg x = some (.ref f) ∧ PySem.W.keepIn K (.ref f) = true ∧ KBn K fd ps n ks (arr perm) (arr perm)
structure CkK (P : Program) (w : World) (K : Fr) (mg : Str → Option Value) (base : Heap) (x : Str) (C : Addr) (k : Nat) (ps : List Str) (n : Nat) (ks : List Str) (perm : List (Sum Nat Nat)) (fs : FS) : Prop where
  ex : ∃ (f : Addr) (fd : FuncData), FnOk P w K mg base (L2.CX P w) k f fd ps (lSp K fs) ∧ mg x = some (.ref C) ∧ Mk K C f ∧ KBn K fd ps (n + 1) ks (arr (.inl 0 :: perm.map fun | .inl i => .inl (i + 1) | .inr j => .inr j)) (arr (.inl 0 :: perm.map fun | .inl i => .inl (i + 1) | .inr j => .inr j))
section
variable {X : Cx} {W : WX} {pos : Pos} {k n : Nat} {x m : Str} {ps ks : List Str} {perm : List (Sum Nat Nat)} {fs : FS} {C : Addr} {p apos : Pos} {e o : Expr} {es : List Expr} {kws : List Keyword} {t tk0 : WA} {ta : WE}
structure ZK (X : Cx) (W : WX) (es : List Keyword) (t : WA) : Prop where
  pk : PK X es (lA X.K W t)
def wCallK (fs : FS) (n m : Nat) (perm : List (Sum Nat Nat)) (t tk : WA) : WE := fun ρ h E Q => t ρ h E fun vs h1 => tk ρ h1 E fun zs h2 => vs.length = n ∧ zs.length = m ∧ fs.sp (arr perm vs zs) h2 E Q
theorem i_callK {fs : FS} {n m : Nat} {perm : List (Sum Nat Nat)} {t tk : WA} {ρ h E} {Q : KQ} (q : t ρ h E fun vs h1 => tk ρ h1 E fun zs h2 => vs.length = n ∧ zs.length = m ∧ fs.sp (arr perm vs zs) h2 E Q) : wCallK fs n m perm t tk ρ h E Q := q
theorem i_l2 {a b c d : Nat} {A : Prop} (x : a = b) (y : c = d) (q : A) : a = b ∧ c = d ∧ A := ⟨x, y, q⟩
/-- C(k = v, ..) -/
def wMakeK (C : Addr) (fs : FS) (n m : Nat) (perm : List (Sum Nat Nat)) (t tk : WA) : WE := fun ρ h E Q => t ρ h E fun vs h1 => tk ρ h1 E fun zs h2 => vs.length = n ∧ zs.length = m ∧ ∀ a, h2 a = none → fs.sp (.ref a :: arr perm vs zs) (hup h2 a (.ins C [])) E (fun v h3 => v = .non ∧ MkEnd C a h3 Q)
theorem i_makeK {C : Addr} {fs : FS} {n m : Nat} {perm : List (Sum Nat Nat)} {t tk : WA} {ρ h E} {Q : KQ} (q : t ρ h E fun vs h1 => tk ρ h1 E fun zs h2 => vs.length = n ∧ zs.length = m ∧ ∀ a, h2 a = none → fs.sp (.ref a :: arr perm vs zs) (hup h2 a (.ins C [])) E (fun v h3 => v = .non ∧ MkEnd C a h3 Q)) : wMakeK C fs n m perm t tk ρ h E Q := q
end
/-! ZC -/
/-! the head's facts: errors too -/
def oexB (K : Fr) (C : Addr) : Bool := match K.lookup C with
  | some ⟨.type c, _, .cls cd, sl⟩ => (match cd.mro, sl.toList with
    | .ref C' :: bm, [_, _, _, _, some (.builtin n), _] => decide (c = "type") && (decide (C' = C) && (decide (n = "ValueError.__new__") && (!cd.hasDel && (cd.hasDict && PySem.HandSPX.refsVE bm))))
    | _, _ => false)
  | _ => false
/-- an error x whose __init__ is y's -/
def exB (K : Fr) (x y : Str) : Bool :=
  oexB K (He.ga K x) && (decide (PySem.W.findIn K (.ref (He.ga K x)) "__setattr__" = some (some (.builtin "object.__setattr__"))) &&
  (decide (PySem.W.subIn K (.ref (He.ga K x)) (.type "BaseException") = some true) && (decide (PySem.W.typeIn K (.ref (He.ga K x)) = some (.type "type")) &&
  (PySem.W.keepIn K (.ref (He.ga K x)) && (decide (PySem.W.findIn K (.ref (He.ga K x)) "__init__" = some (some (.ref (He.fAd K (y, some "__init__"))))) &&
  (decide (PySem.W.typeIn K (.ref (He.fAd K (y, some "__init__"))) = some (.type "function")) && decide (PySem.W.findIn K (.ref (He.ga K x)) "what" = some none)))))))
theorem oexB_ok {K : Fr} {C : Addr} (q : oexB K C = true) : ∃ nm q N bs bm sn sub ab col dd k0 k1 k2 k3 k5, K.lookup C = some (excClassObj nm q C N bs bm true sn sub ab col dd k0 k1 k2 k3 k5 "ValueError.__new__") ∧ PySem.HandSPX.refsVE bm = true := by
  unfold oexB at q
  split at q
  · rename_i c dd cd sl ho
    split at q
    · rename_i C' bm k0 k1 k2 k3 n k5 hm hs
      simp only [Bool.and_eq_true, decide_eq_true_eq, Bool.not_eq_true'] at q
      obtain ⟨rfl, rfl, rfl, hdel, hh, ht⟩ := q
      obtain ⟨nm, bs, mro, ns, qn, hd, sn, sub, ab, col, del⟩ := cd
      dsimp only at hm hdel hh
      subst hm hdel hh
      have hsl : sl = #[k0, k1, k2, k3, some (.builtin "ValueError.__new__"), k5] := by
        obtain ⟨l⟩ := sl
        simp only at hs
        rw [hs]
      subst hsl
      exact ⟨nm, qn, ns, bs, bm, sn, sub, ab, col, dd, k0, k1, k2, k3, k5, ho, ht⟩
    · cases q
  · cases q
structure ExB (K : Fr) (x y : Str) : Prop where
  oex : OexC K (He.ga K x)
  ini : PySem.W.findIn K (.ref (He.ga K x)) "__init__" = some (some (.ref (He.fAd K (y, some "__init__"))))
  typ : PySem.W.typeIn K (.ref (He.fAd K (y, some "__init__"))) = some (.type "function")
  wh : PySem.W.findIn K (.ref (He.ga K x)) "what" = some none
theorem exB_ok {K : Fr} {x y : Str} (q : exB K x y = true) : ExB K x y := by
  unfold exB at q
  simp only [Bool.and_eq_true, decide_eq_true_eq] at q
  obtain ⟨a, b, c, d, e, f, g, h⟩ := q
  exact ⟨⟨oexB_ok a, b, c, d, e⟩, f, g, h⟩
theorem ex_of {P : Program} {w : World} {K : Fr} {mg : Str → Option Value} {base : Heap} {x y : Str} {fd : FuncData} (F : FnOk P w K mg base CX0 1 (He.fAd K (y, some "__init__")) fd ["self", "what"] (spWhat K)) (hm : mg x = some (.ref (He.ga K x))) (e : ExB K x y) (hb : Binds K fd ["self", "what"] []) : Ex P w K mg base x (He.ga K x) :=
  ⟨_, fd, F, hm, e.oex, e.ini, e.typ, hb, e.wh⟩
/-! ### tables of the module: text keys, each value a tuple of texts -/
abbrev TabX : Type := Str × List (Str × List Str)
def tupA (K : Fr) (a : Addr) (zs : List Str) : Bool := match K.lookup a with
  | some ⟨.type c, _, .seq its _, _⟩ => decide (c = "tuple") && (decide (its.size ≤ sizeLine) && He.relAll (zs.map V.str) its.toList)
  | _ => false
theorem tupA_ok {K : Fr} {a : Addr} {zs : List Str} (h : tupA K a zs = true) (H : Hp) : SqT K H a (zs.map V.str) := by
  unfold tupA at h
  split at h
  · rename_i c od its n osl q
    simp only [Bool.and_eq_true, decide_eq_true_eq] at h
    obtain ⟨h1, h2, h3⟩ := h
    exact .inr ⟨_, its, n, q, congrArg Value.type h1, rfl, h2, He.relAll_ok h3⟩
  · cases h
def tabB (K : Fr) (t : TabX) : Bool := t.2.all fun q => match PySem.W.nsIn K (He.ga K t.1) q.1 with
  | some (some (.ref a)) => tupA K a q.2
  | _ => false
structure TabOk (K : Fr) (w : World) (mg : Str → Option Value) (x : Str) (tab : List (Str × List Str)) : Prop where
  ex : ∃ d, mg x = some (.ref d) ∧ ∀ q ∈ tab, ∃ a, KDct K w d q.1 (.ref a) ∧ ∀ S, SqT K S a (q.2.map V.str)
theorem tab_ok {K : Fr} {w : World} {mg : Str → Option Value} {x : Str} {tab : List (Str × List Str)} (hm : mg x = some (.ref (He.ga K x))) (hd : ∃ es n, KDict K w (He.ga K x) es n) (h : tabB K (x, tab) = true) : TabOk K w mg x tab := by
  obtain ⟨es, n, D⟩ := hd
  refine ⟨_, hm, fun q hq => ?_⟩
  have h2 := List.all_eq_true.mp h q hq
  split at h2
  · rename_i a e
    exact ⟨a, ⟨es, n, .ref a, D.at_, D.lit, e, rfl⟩, tupA_ok h2⟩
  · cases h2
/-- what an error's class must say -/
structure ErrC (K : Fr) (C : Addr) : Prop where
  g1 : PySem.W.findIn K (.ref C) "__getattribute__" = some (some (.builtin "BaseException.__getattribute__"))
  g2 : PySem.W.findIn K (.ref C) "__getattr__" = some none
  g3 : PySem.W.subIn K (.ref C) (.type "BaseException") = some true
  g4 : PySem.W.hasDictIn K C = true
  g5 : PySem.W.findIn K (.ref C) "__class__" = some (some (.builtin "object.__class__"))
  g6 : PySem.W.specialIn K (.builtin "object.__class__") "__get__" = some (some (.builtin "getset_descriptor.__get__"))
  g7 : PySem.W.takesIn K (.builtin "object.__class__") = some true
  g8 : PySem.W.mroIn K C (.type "object") = some true
  g9 : PySem.W.findIn K (.ref C) "what" = some none
def errB (K : Fr) (C : Addr) : Bool :=
  decide (PySem.W.findIn K (.ref C) "__getattribute__" = some (some (.builtin "BaseException.__getattribute__"))) && (decide (PySem.W.findIn K (.ref C) "__getattr__" = some none) &&
  (decide (PySem.W.subIn K (.ref C) (.type "BaseException") = some true) && (PySem.W.hasDictIn K C && (decide (PySem.W.findIn K (.ref C) "__class__" = some (some (.builtin "object.__class__"))) &&
  (decide (PySem.W.specialIn K (.builtin "object.__class__") "__get__" = some (some (.builtin "getset_descriptor.__get__"))) && (decide (PySem.W.takesIn K (.builtin "object.__class__") = some true) &&
  (decide (PySem.W.mroIn K C (.type "object") = some true) && decide (PySem.W.findIn K (.ref C) "what" = some none))))))))
theorem errB_ok {K : Fr} {C : Addr} (q : errB K C = true) : ErrC K C := by
  unfold errB at q
  simp only [Bool.and_eq_true, decide_eq_true_eq] at q
  obtain ⟨a, b, c, d, e, f, g, h, i⟩ := q
  exact ⟨a, b, c, d, e, f, g, h, i⟩
/-- more facts: an error's class, isinstance of errors -/
inductive Fb where
  | err (x : Str)
  | kit (x y : Str) (b : Bool)
  | kitT (x : Str) (n : String) (b : Bool)
  | any (p : Fr → Bool)
def Fb.ok (K : Fr) : Fb → Bool
  | .err x => errB K (He.ga K x)
  | .kit x y b => decide (PySem.W.kitOne K (.ref (He.ga K x)) (.ref (He.ga K y)) = some b)
  | .kitT x n b => decide (PySem.W.kitOne K (.ref (He.ga K x)) (.type n) = some b)
  | .any p => p K
/-! ### the Hook -/
abbrev AlE : Type := He.AlT × Bool
def tabsE (tb : List TabX) : List He.Tab := tb.map fun t => (fun K => He.ga K t.1, t.2.map (·.1))
def obsE (fa : List He.Fa) (fn : List He.DefD) (tb : List TabX) (xs : List (Str × Str)) (fb : List Fb) (K : Fr) : AlE := (He.obsT fa fn (tabsE tb) K, ((xs.all fun q => exB K q.1 q.2) && tb.all fun t => tabB K t) && fb.all (Fb.ok K))
def valE (fn : List He.DefD) (tb : List TabX) (w : World) : AlE := (He.valT fn (tabsE tb) w, true)
def SaysE (fa : List He.Fa) (fn : List He.DefD) (tb : List TabX) (xs : List (Str × Str)) (fb : List Fb) (w : World) (K : Fr) : Prop := obsE fa fn tb xs fb K = valE fn tb w
def obsEG (n : Nat) (fa : List He.Fa) (fn : List He.DefD) (tb : List TabX) (xs : List (Str × Str)) (fb : List Fb) (g : Addr → Option Obj) : AlE := obsE fa fn tb xs fb (He.frG g (He.asD g n))
def hookE (n : Nat) (fa : List He.Fa) (fn : List He.DefD) (tb : List TabX) (xs : List (Str × Str)) (fb : List Fb) : PySem.W.Hook where
  α := AlE
  obs := fun s => obsEG n fa fn tb xs fb s.heap.get?
  val := fun w => valE fn tb w
  says := fun w h => ∃ K : PySem.W.Frag, K.In h ∧ SaysE fa fn tb xs fb w K
  of := fun _ _ e => ⟨_, He.frG_in, e⟩
  keeps := fun _ _ _ ⟨K, hK, c⟩ k => ⟨K, PySem.W.Frag.In.keeps hK k, c⟩
omit [Wrl] in
theorem obsEG_eq {n : Nat} {fa : List He.Fa} {fn : List He.DefD} {tb : List TabX} {xs : List (Str × Str)} {fb : List Fb} {g : Addr → Option Obj} {s : Shared} (h : ∀ a, g a = s.heap.get? a) : obsEG n fa fn tb xs fb g = (hookE n fa fn tb xs fb).obs s := by
  have e : g = s.heap.get? := funext h
  rw [e] <;> rfl
section
variable {fa : List He.Fa} {fn : List He.DefD} {tb : List TabX} {xs : List (Str × Str)} {fb : List Fb} {w : World} {K : Fr}
theorem SaysE.t (c : SaysE fa fn tb xs fb w K) : He.SaysT fa fn (tabsE tb) w K := congrArg (fun z : AlE => z.1) c
theorem SaysE.d (c : SaysE fa fn tb xs fb w K) : He.SaysD fa fn K := c.t.d
theorem SaysE.b0 (c : SaysE fa fn tb xs fb w K) : ((xs.all fun q => exB K q.1 q.2) && tb.all fun t => tabB K t) = true ∧ fb.all (Fb.ok K) = true := Bool.and_eq_true_iff.mp (congrArg (fun z : AlE => z.2) c)
theorem SaysE.b (c : SaysE fa fn tb xs fb w K) : (xs.all fun q => exB K q.1 q.2) = true ∧ (tb.all fun t => tabB K t) = true := Bool.and_eq_true_iff.mp c.b0.1
theorem SaysE.fbk (c : SaysE fa fn tb xs fb w K) (i : Nat) {q : Fb} (h : fb[i]? = some q := by rfl) : q.ok K = true := List.all_eq_true.mp c.b0.2 q (List.mem_of_getElem? h)
theorem SaysE.err (c : SaysE fa fn tb xs fb w K) (i : Nat) {x : Str} (h : fb[i]? = some (.err x) := by rfl) : ErrC K (He.ga K x) := errB_ok (c.fbk i h)
theorem SaysE.kit (c : SaysE fa fn tb xs fb w K) (i : Nat) {x y : Str} {b : Bool} (h : fb[i]? = some (.kit x y b) := by rfl) : PySem.W.kitOne K (.ref (He.ga K x)) (.ref (He.ga K y)) = some b := of_decide_eq_true (c.fbk i h)
theorem SaysE.kitT (c : SaysE fa fn tb xs fb w K) (i : Nat) {x : Str} {n : String} {b : Bool} (h : fb[i]? = some (.kitT x n b) := by rfl) : PySem.W.kitOne K (.ref (He.ga K x)) (.type n) = some b := of_decide_eq_true (c.fbk i h)
theorem SaysE.any (c : SaysE fa fn tb xs fb w K) (i : Nat) {p : Fr → Bool} (h : fb[i]? = some (.any p) := by rfl) : p K = true := c.fbk i h
theorem SaysE.ex (c : SaysE fa fn tb xs fb w K) (i : Nat) {q : Str × Str} (h : xs[i]? = some q := by rfl) : ExB K q.1 q.2 := exB_ok (List.all_eq_true.mp c.b.1 q (List.mem_of_getElem? h))
theorem SaysE.tab (c : SaysE fa fn tb xs fb w K) {mg : Str → Option Value} (i : Nat) {t : TabX} (hm : mg t.1 = some (.ref (He.ga K t.1))) (h : tb[i]? = some t := by rfl) : TabOk K w mg t.1 t.2 :=
  tab_ok hm (c.t.tab i (t := (fun K => He.ga K t.1, t.2.map (·.1))) (by unfold tabsE; rw [List.getElem?_map, h]; rfl)) (List.all_eq_true.mp c.b.2 t (List.mem_of_getElem? h))
end
/-!  -/
end Z
/-! EARLY -/
namespace Z
open PySem PySem.Spec L2
variable [Wrl]
namespace K05
abbrev Pw : Program := PySem.Challenge.pw_sentahead_k05_texts_of_no_world
def top (i : Nat) : Stmt := Pw.main.body.getD i (.Pass ⟨0, 0, 0, 0⟩)
abbrev cl (K : Fr) : Str → Addr := He.ga K
abbrev s_law_alike : Stmt := top 44
abbrev s_law_draw : Stmt := top 38
abbrev s_law_figures : Stmt := top 52
abbrev s_law_ref_of : Stmt := top 53
abbrev s_law_thing_of : Stmt := top 54
abbrev s_law_houses_of : Stmt := top 55
abbrev s_law_odd : Stmt := top 56
abbrev s_law_ref_shown : Stmt := top 46
abbrev s_law_thing_shown : Stmt := top 47
abbrev s_law_shown : Stmt := top 48
abbrev s_law_shorter : Stmt := top 49
abbrev s_law_sign : Stmt := top 50
abbrev s_law_word : Stmt := top 57
abbrev s_law_spoilt : Stmt := top 58
abbrev s_World___len__ : Stmt := inClass (top 30) 3
abbrev s_World_house : Stmt := inClass (top 30) 1
abbrev s_law_told : Stmt := top 45
abbrev s_law_tray : Stmt := top 37
abbrev s_law_sizes : Stmt := top 40
abbrev s_law_any : Stmt := top 39
abbrev s_law_ref : Stmt := top 41
abbrev s_law_thing : Stmt := top 42
abbrev s_law_world : Stmt := top 43
abbrev s_is_there : Stmt := top 28
abbrev s_refs_of : Stmt := top 27
abbrev s_is_good : Stmt := top 29
abbrev s_World___init__ : Stmt := inClass (top 30) 0
abbrev s_is_number : Stmt := top 17
abbrev s_is_signed : Stmt := top 18
abbrev s_ref_in : Stmt := top 20
abbrev s_shelf_in : Stmt := top 32
abbrev s_thing_in : Stmt := top 33
abbrev s_house_in : Stmt := top 34
abbrev s_read_world : Stmt := top 35
abbrev s_law : Stmt := top 59
abbrev s_SentError___init__ : Stmt := inClass (top 1) 0
theorem sc_law_alike : FnScope ["found", "due", "k"] ["found", "due"] (defScope s_law_alike) := ⟨rfl, rfl, rfl, by decide +kernel, rfl, by decide +kernel, by decide +kernel⟩
theorem sc_law_draw : FnScope ["tray", "many", "found", "mixed"] ["tray", "many"] (defScope s_law_draw) := ⟨rfl, rfl, rfl, by decide +kernel, rfl, by decide +kernel, by decide +kernel⟩
theorem sc_law_figures : FnScope ["word", "sign"] ["word"] (defScope s_law_figures) := ⟨rfl, rfl, rfl, by decide +kernel, rfl, by decide +kernel, by decide +kernel⟩
theorem sc_law_ref_of : FnScope ["word", "sizes", "parts", "house", "number"] ["word", "sizes"] (defScope s_law_ref_of) := ⟨rfl, rfl, rfl, by decide +kernel, rfl, by decide +kernel, by decide +kernel⟩
theorem sc_law_thing_of : FnScope ["word", "sizes", "head", "rest", "below", "part", "refs"] ["word", "sizes"] (defScope s_law_thing_of) := ⟨rfl, rfl, rfl, by decide +kernel, rfl, by decide +kernel, by decide +kernel⟩
theorem sc_law_houses_of : FnScope ["text", "part", "parts", "sizes", "houses", "things", "word"] ["text"] (defScope s_law_houses_of) := ⟨rfl, rfl, rfl, by decide +kernel, rfl, by decide +kernel, by decide +kernel⟩
theorem sc_law_odd : FnScope ["tray", "some"] ["tray"] (defScope s_law_odd) := ⟨rfl, rfl, rfl, by decide +kernel, rfl, by decide +kernel, by decide +kernel⟩
theorem sc_law_ref_shown : FnScope ["ref"] ["ref"] (defScope s_law_ref_shown) := ⟨rfl, rfl, rfl, by decide +kernel, rfl, by decide +kernel, by decide +kernel⟩
theorem sc_law_thing_shown : FnScope ["thing", "ref"] ["thing"] (defScope s_law_thing_shown) := ⟨rfl, rfl, rfl, by decide +kernel, rfl, by decide +kernel, by decide +kernel⟩
theorem sc_law_shown : FnScope ["houses", "parts", "things", "thing", "part"] ["houses"] (defScope s_law_shown) := ⟨rfl, rfl, rfl, by decide +kernel, rfl, by decide +kernel, by decide +kernel⟩
theorem sc_law_shorter : FnScope ["houses", "found", "things", "some", "thing"] ["houses"] (defScope s_law_shorter) := ⟨rfl, rfl, rfl, by decide +kernel, rfl, by decide +kernel, by decide +kernel⟩
theorem sc_law_sign : FnScope ["tray", "some"] ["tray"] (defScope s_law_sign) := ⟨rfl, rfl, rfl, by decide +kernel, rfl, by decide +kernel, by decide +kernel⟩
theorem sc_law_word : FnScope ["tray", "kind", "nine", "some"] ["tray"] (defScope s_law_word) := ⟨rfl, rfl, rfl, by decide +kernel, rfl, by decide +kernel, by decide +kernel⟩
theorem sc_law_spoilt : FnScope ["tray", "text", "way", "at", "words", "parts", "some"] ["tray", "text"] (defScope s_law_spoilt) := ⟨rfl, rfl, rfl, by decide +kernel, rfl, by decide +kernel, by decide +kernel⟩
theorem sc_World___len__ : FnScope ["self"] ["self"] (defScope s_World___len__) := ⟨rfl, rfl, rfl, by decide +kernel, rfl, by decide +kernel, by decide +kernel⟩
theorem sc_World_house : FnScope ["self", "number"] ["self", "number"] (defScope s_World_house) := ⟨rfl, rfl, rfl, by decide +kernel, rfl, by decide +kernel, by decide +kernel⟩
theorem sc_law_told : FnScope ["world", "houses", "k"] ["world", "houses"] (defScope s_law_told) := ⟨rfl, rfl, rfl, by decide +kernel, rfl, by decide +kernel, by decide +kernel⟩
theorem sc_law_tray : FnScope ["script", "fold", "great", "cell", "size"] ["script"] (defScope s_law_tray) := ⟨rfl, rfl, rfl, by decide +kernel, rfl, by decide +kernel, by decide +kernel⟩
theorem sc_law_sizes : FnScope ["tray", "wide", "bounds", "many", "k"] ["tray"] (defScope s_law_sizes) := ⟨rfl, rfl, rfl, by decide +kernel, rfl, by decide +kernel, by decide +kernel⟩
theorem sc_law_any : FnScope ["tray", "kind", "found", "k"] ["tray"] (defScope s_law_any) := ⟨rfl, rfl, rfl, by decide +kernel, rfl, by decide +kernel, by decide +kernel⟩
theorem sc_law_ref : FnScope ["tray", "sizes", "at", "house", "size"] ["tray", "sizes"] (defScope s_law_ref) := ⟨rfl, rfl, rfl, by decide +kernel, rfl, by decide +kernel, by decide +kernel⟩
theorem sc_law_thing : FnScope ["tray", "sizes", "kind", "many", "k"] ["tray", "sizes"] (defScope s_law_thing) := ⟨rfl, rfl, rfl, by decide +kernel, rfl, by decide +kernel, by decide +kernel⟩
theorem sc_law_world : FnScope ["tray", "sizes", "houses", "size", "k"] ["tray"] (defScope s_law_world) := ⟨rfl, rfl, rfl, by decide +kernel, rfl, by decide +kernel, by decide +kernel⟩
theorem sc_is_there : FnScope ["houses", "ref"] ["houses", "ref"] (defScope s_is_there) := ⟨rfl, rfl, rfl, by decide +kernel, rfl, by decide +kernel, by decide +kernel⟩
theorem sc_refs_of : FnScope ["thing"] ["thing"] (defScope s_refs_of) := ⟨rfl, rfl, rfl, by decide +kernel, rfl, by decide +kernel, by decide +kernel⟩
theorem sc_is_good : FnScope ["houses", "things", "thing", "refs", "ref"] ["houses", "things"] (defScope s_is_good) := ⟨rfl, rfl, rfl, by decide +kernel, rfl, by decide +kernel, by decide +kernel⟩
theorem sc_World___init__ : FnScope ["self", "houses", "things"] ["self", "houses"] (defScope s_World___init__) := ⟨rfl, rfl, rfl, by decide +kernel, rfl, by decide +kernel, by decide +kernel⟩
theorem sc_is_number : FnScope ["word", "sign"] ["word"] (defScope s_is_number) := ⟨rfl, rfl, rfl, by decide +kernel, rfl, by decide +kernel, by decide +kernel⟩
theorem sc_is_signed : FnScope ["word"] ["word"] (defScope s_is_signed) := ⟨rfl, rfl, rfl, by decide +kernel, rfl, by decide +kernel, by decide +kernel⟩
theorem sc_ref_in : FnScope ["word", "house", "point", "number"] ["word"] (defScope s_ref_in) := ⟨rfl, rfl, rfl, by decide +kernel, rfl, by decide +kernel, by decide +kernel⟩
theorem sc_shelf_in : FnScope ["text", "word", "refs"] ["text"] (defScope s_shelf_in) := ⟨rfl, rfl, rfl, by decide +kernel, rfl, by decide +kernel, by decide +kernel⟩
theorem sc_thing_in : FnScope ["word"] ["word"] (defScope s_thing_in) := ⟨rfl, rfl, rfl, by decide +kernel, rfl, by decide +kernel, by decide +kernel⟩
theorem sc_house_in : FnScope ["text", "word"] ["text"] (defScope s_house_in) := ⟨rfl, rfl, rfl, by decide +kernel, rfl, by decide +kernel, by decide +kernel⟩
theorem sc_read_world : FnScope ["text", "part", "houses", "things"] ["text"] (defScope s_read_world) := ⟨rfl, rfl, rfl, by decide +kernel, rfl, by decide +kernel, by decide +kernel⟩
theorem sc_law : FnScope ["script", "tray", "k", "spoils", "odd", "text", "j", "due", "found", "refused", "e"] ["script"] (defScope s_law) := ⟨rfl, rfl, rfl, by decide +kernel, rfl, by decide +kernel, by decide +kernel⟩
theorem sc_SentError___init__ : FnScope ["self", "what"] ["self", "what"] (defScope s_SentError___init__) := ⟨rfl, rfl, rfl, by decide +kernel, rfl, by decide +kernel, by decide +kernel⟩
def d_law_alike : He.DefD := ⟨("_law_alike", none), "_law_alike", "_law_alike", defArgs s_law_alike, defBody s_law_alike, defScope s_law_alike, [], []⟩
def d_law_draw : He.DefD := ⟨("_law_draw", none), "_law_draw", "_law_draw", defArgs s_law_draw, defBody s_law_draw, defScope s_law_draw, [], []⟩
def d_law_figures : He.DefD := ⟨("_law_figures", none), "_law_figures", "_law_figures", defArgs s_law_figures, defBody s_law_figures, defScope s_law_figures, [], []⟩
def d_law_ref_of : He.DefD := ⟨("_law_ref_of", none), "_law_ref_of", "_law_ref_of", defArgs s_law_ref_of, defBody s_law_ref_of, defScope s_law_ref_of, [], []⟩
def d_law_thing_of : He.DefD := ⟨("_law_thing_of", none), "_law_thing_of", "_law_thing_of", defArgs s_law_thing_of, defBody s_law_thing_of, defScope s_law_thing_of, [], []⟩
def d_law_houses_of : He.DefD := ⟨("_law_houses_of", none), "_law_houses_of", "_law_houses_of", defArgs s_law_houses_of, defBody s_law_houses_of, defScope s_law_houses_of, [], []⟩
def d_law_odd : He.DefD := ⟨("_law_odd", none), "_law_odd", "_law_odd", defArgs s_law_odd, defBody s_law_odd, defScope s_law_odd, [], []⟩
def d_law_ref_shown : He.DefD := ⟨("_law_ref_shown", none), "_law_ref_shown", "_law_ref_shown", defArgs s_law_ref_shown, defBody s_law_ref_shown, defScope s_law_ref_shown, [], []⟩
def d_law_thing_shown : He.DefD := ⟨("_law_thing_shown", none), "_law_thing_shown", "_law_thing_shown", defArgs s_law_thing_shown, defBody s_law_thing_shown, defScope s_law_thing_shown, [], []⟩
def d_law_shown : He.DefD := ⟨("_law_shown", none), "_law_shown", "_law_shown", defArgs s_law_shown, defBody s_law_shown, defScope s_law_shown, [], []⟩
def d_law_shorter : He.DefD := ⟨("_law_shorter", none), "_law_shorter", "_law_shorter", defArgs s_law_shorter, defBody s_law_shorter, defScope s_law_shorter, [], []⟩
def d_law_sign : He.DefD := ⟨("_law_sign", none), "_law_sign", "_law_sign", defArgs s_law_sign, defBody s_law_sign, defScope s_law_sign, [], []⟩
def d_law_word : He.DefD := ⟨("_law_word", none), "_law_word", "_law_word", defArgs s_law_word, defBody s_law_word, defScope s_law_word, [], []⟩
def d_law_spoilt : He.DefD := ⟨("_law_spoilt", none), "_law_spoilt", "_law_spoilt", defArgs s_law_spoilt, defBody s_law_spoilt, defScope s_law_spoilt, [], []⟩
def d_World___len__ : He.DefD := ⟨("World", some "__len__"), "__len__", "World.__len__", defArgs s_World___len__, defBody s_World___len__, defScope s_World___len__, [], []⟩
def d_World_house : He.DefD := ⟨("World", some "house"), "house", "World.house", defArgs s_World_house, defBody s_World_house, defScope s_World_house, [], []⟩
def d_law_told : He.DefD := ⟨("_law_told", none), "_law_told", "_law_told", defArgs s_law_told, defBody s_law_told, defScope s_law_told, [], []⟩
def d_law_tray : He.DefD := ⟨("_law_tray", none), "_law_tray", "_law_tray", defArgs s_law_tray, defBody s_law_tray, defScope s_law_tray, [], []⟩
def d_law_sizes : He.DefD := ⟨("_law_sizes", none), "_law_sizes", "_law_sizes", defArgs s_law_sizes, defBody s_law_sizes, defScope s_law_sizes, [], []⟩
def d_law_any : He.DefD := ⟨("_law_any", none), "_law_any", "_law_any", defArgs s_law_any, defBody s_law_any, defScope s_law_any, [], []⟩
def d_law_ref : He.DefD := ⟨("_law_ref", none), "_law_ref", "_law_ref", defArgs s_law_ref, defBody s_law_ref, defScope s_law_ref, [], []⟩
def d_law_thing : He.DefD := ⟨("_law_thing", none), "_law_thing", "_law_thing", defArgs s_law_thing, defBody s_law_thing, defScope s_law_thing, [], []⟩
def d_law_world : He.DefD := ⟨("_law_world", none), "_law_world", "_law_world", defArgs s_law_world, defBody s_law_world, defScope s_law_world, [], []⟩
def d_is_there : He.DefD := ⟨("is_there", none), "is_there", "is_there", defArgs s_is_there, defBody s_is_there, defScope s_is_there, [], []⟩
def d_refs_of : He.DefD := ⟨("refs_of", none), "refs_of", "refs_of", defArgs s_refs_of, defBody s_refs_of, defScope s_refs_of, [], []⟩
def d_is_good : He.DefD := ⟨("is_good", none), "is_good", "is_good", defArgs s_is_good, defBody s_is_good, defScope s_is_good, [], []⟩
def d_World___init__ : He.DefD := ⟨("World", some "__init__"), "__init__", "World.__init__", defArgs s_World___init__, defBody s_World___init__, defScope s_World___init__, [], []⟩
def d_is_number : He.DefD := ⟨("is_number", none), "is_number", "is_number", defArgs s_is_number, defBody s_is_number, defScope s_is_number, [], []⟩
def d_is_signed : He.DefD := ⟨("is_signed", none), "is_signed", "is_signed", defArgs s_is_signed, defBody s_is_signed, defScope s_is_signed, [], []⟩
def d_ref_in : He.DefD := ⟨("ref_in", none), "ref_in", "ref_in", defArgs s_ref_in, defBody s_ref_in, defScope s_ref_in, [], []⟩
def d_shelf_in : He.DefD := ⟨("shelf_in", none), "shelf_in", "shelf_in", defArgs s_shelf_in, defBody s_shelf_in, defScope s_shelf_in, [], []⟩
def d_thing_in : He.DefD := ⟨("thing_in", none), "thing_in", "thing_in", defArgs s_thing_in, defBody s_thing_in, defScope s_thing_in, [], []⟩
def d_house_in : He.DefD := ⟨("house_in", none), "house_in", "house_in", defArgs s_house_in, defBody s_house_in, defScope s_house_in, [], []⟩
def d_read_world : He.DefD := ⟨("read_world", none), "read_world", "read_world", defArgs s_read_world, defBody s_read_world, defScope s_read_world, [], []⟩
def d_law : He.DefD := ⟨("law", none), "law", "law", defArgs s_law, defBody s_law, defScope s_law, [], []⟩
def d_SentError___init__ : He.DefD := ⟨("SentError", some "__init__"), "__init__", "SentError.__init__", defArgs s_SentError___init__, defBody s_SentError___init__, defScope s_SentError___init__, [], []⟩
def fn : List He.DefD := [d_law_alike, d_law_draw, d_law_figures, d_law_ref_of, d_law_thing_of, d_law_houses_of, d_law_odd, d_law_ref_shown, d_law_thing_shown, d_law_shown, d_law_shorter, d_law_sign, d_law_word, d_law_spoilt, d_World___len__, d_World_house, d_law_told, d_law_tray, d_law_sizes, d_law_any, d_law_ref, d_law_thing, d_law_world, d_is_there, d_refs_of, d_is_good, d_World___init__, d_is_number, d_is_signed, d_ref_in, d_shelf_in, d_thing_in, d_house_in, d_read_world, d_law, d_SentError___init__]
def fa : List He.Fa := [.cls "World", .free "ValueError", .free "bool", .free "int", .free "isinstance", .free "len", .free "list", .free "max", .free "range", .free "str", .free "sum", .free "tuple", .glo "NoAsker", .glo "NoHouse", .glo "NoLog", .glo "NoRow", .glo "NoScript", .glo "NoStep", .glo "NoText", .glo "NoThing", .glo "NoWorld", .glo "NotSettled", .glo "SentError", .glo "TooMany", .glo "Twice", .int "MOST_FIGURES" 60, .int "MOST_HOUSES" 8, .int "MOST_REFS" 12, .int "MOST_THINGS" 12, .noat "World" "houses_kept", .str "FIGURES" "0123456789", .exm "NoText" "NoText" true, .exm "NoWorld" "NoWorld" true, .exm "NoWorld" "NoText" false, .glo "_law_alike", .glo "_law_figures", .glo "_law_ref_of", .glo "_law_thing_of", .glo "_law_draw", .glo "_law_ref_shown", .glo "_law_thing_shown", .glo "_law_shown", .glo "_law_sign", .glo "_law_word", .meth "World" "__len__", .meth "World" "house", .glo "_law_any", .glo "_law_ref", .glo "_law_sizes", .glo "_law_thing", .glo "is_there", .glo "refs_of", .glo "is_good", .glo "is_number", .glo "ref_in", .glo "is_signed", .glo "shelf_in", .glo "thing_in", .glo "World", .mkr "World", .glo "house_in", .glo "_law_houses_of", .glo "_law_odd", .glo "_law_shorter", .glo "_law_spoilt", .glo "_law_told", .glo "_law_tray", .glo "_law_world", .glo "read_world", .glo "law"]
def xs : List (Str × Str) := [("NoHouse", "SentError"), ("NoText", "SentError"), ("NoWorld", "SentError")]
def fb : List Fb := [.err "NoText", .kit "NoText" "NoAsker" false, .kit "NoText" "NoHouse" false, .kit "NoText" "NoLog" false, .kit "NoText" "NoRow" false, .kit "NoText" "NoScript" false, .kit "NoText" "NoStep" false, .kit "NoText" "NoThing" false, .kit "NoText" "NoWorld" false, .kit "NoText" "NotSettled" false, .kit "NoText" "TooMany" false, .kit "NoText" "Twice" false, .kit "NoText" "SentError" true, .kitT "NoText" "ValueError" true]
def tb : List TabX := []
abbrev R : PySem.W.OpenRow := PySem.W.OpenLaw.row PySem.Challenge.rw_sentahead_k05_texts_of_no_world
abbrev hk : PySem.W.Hook := hookE 4 fa fn tb xs fb
def ob (s : PySem.W.SharedT) : AlE := obsEG 4 fa fn tb xs fb (HandSHeadRun.getT s)
omit [Wrl] in
theorem ob_eq (s : PySem.W.SharedT) : ob s = hk.obs s.abs := obsEG_eq (HandSHeadRun.getT_eq s)
abbrev nms0 : List Str := ["__name__", "SentError", "NoWorld", "NoHouse", "NoThing", "NoText", "Twice", "NoScript", "NoLog", "NoStep", "NoAsker", "NoRow", "NotSettled", "TooMany", "FIGURES", "MOST_FIGURES", "is_number", "is_signed", "ref_text", "ref_in"]
abbrev nms1 : List Str := ["thing_text", "house_text", "MOST_HOUSES", "MOST_THINGS", "MOST_REFS", "refs_of", "is_there", "is_good", "World", "shelf_in", "thing_in", "house_in", "read_world", "_law_tray", "_law_draw", "_law_any", "_law_sizes", "_law_ref", "_law_thing", "_law_world"]
abbrev nms2 : List Str := ["_law_alike", "_law_told", "_law_ref_shown", "_law_thing_shown", "_law_shown", "_law_shorter", "_law_sign", "_law_great", "_law_figures", "_law_ref_of", "_law_thing_of", "_law_houses_of", "_law_odd", "_law_word", "_law_spoilt"]
abbrev nms : List Str := nms0 ++ nms1 ++ nms2
omit [Wrl] in
theorem run (w : World) : HandSHeadRun.RunEq R (PySem.W.view R.prog [59]) hk ob 9000 nms w := by
  intro os
  kernel_rfl
/-- what the walk has to show -/
def FactsT : Prop := ∀ [Wrl] {w : World}, w = Wrl.w → ∀ {K : PySem.W.Frag} {h : Heap} {mg : Str → Option Value} {f : Addr}, K.In h → h.Ns mainGlobals mg → mg ("law" : Str) = some (.ref f) → SaysE fa fn tb xs fb w K → ∃ fd : FuncData, (∀ (s : Shared) (v : Value), BindsTo s fd ⟨[v], []⟩ [("script", v)]) ∧ ∀ base : Heap, FnOk (PySem.Challenge.rw_sentahead_k05_texts_of_no_world).prog w K mg base CX0 10 f fd ["script"] (lSp K ⟨Unit, fun _ => preL, fun _ _ v _ => v = .bl true, fun _ _ _ _ _ => False⟩)
end K05
end Z
open PySem PySem.W PySem.Calls PyProof.Rows in
theorem Z.K05.pre (F : Z.K05.FactsT) : PySem.Challenge.rw_sentahead_k05_texts_of_no_world.Holds := by
  w_on; o_law
  refine HandSHeadRun.head_any (r := OpenLaw.row PySem.Challenge.rw_sentahead_k05_texts_of_no_world) (q := view (OpenLaw.row PySem.Challenge.rw_sentahead_k05_texts_of_no_world).prog [59]) (H := Z.K05.hk) (ob := Z.K05.ob) (M := 9000) (loose := Z.K05.nms) (d := HandSHeadRun.topDef (OpenLaw.row PySem.Challenge.rw_sentahead_k05_texts_of_no_world).prog 59) (kwd := []) Z.K05.ob_eq
    (by kernel_rfl) (fun s => by kernel_rfl) Z.K05.run (by kernel_rfl) (by kernel_rfl) (by kernel_rfl) (by rfl) (by first | assumption | decide +kernel) (by decide +kernel) ⟨rfl, rfl, rfl, rfl, rfl, by decide +kernel⟩ ?hw ?hc
  case hw => w_witness2
  case hc =>
    refine L2.walk_ofE (l := PySem.Challenge.rw_sentahead_k05_texts_of_no_world) (n := 63) (k := 10) (x := "script") (CX := L2.CX0) rfl (by decide) (by kernel_rfl) ⟨rfl, by decide, by decide⟩ ?F (fun _ _ _ _ z => z)
    intro w mg fa h Y G hmg0
    obtain ⟨K, KX, c⟩ := Y
    have hmg : mg ("law" : PySem.Str) = some (.ref fa) := by
      have e : (HandSHeadRun.topDef (OpenLaw.row PySem.Challenge.rw_sentahead_k05_texts_of_no_world).prog 59).name = ("law" : PySem.Str) := by kernel_rfl
      rw [← e]
      exact hmg0
    letI : Z.Wrl := ⟨w⟩
    obtain ⟨fd, hb, hF⟩ := F (w := w) rfl KX G hmg c
    exact ⟨K, fd, _, KX, hb, fun H a ns hl _ hS => Z.law_sp hl hS, fun base _ _ => hF base⟩
/-!  -/
namespace Z
/-! ZD -/
/-! more words: in a range, in a flat list; a table of the module -/
open PySem PySem.Spec PyProof.Rows L2
variable [Wrl]
section
variable {X : Cx} {W : WX} {pos : Pos}
/-! ### in a range -/
def wRgIn (neg : Bool) (ta : WE) (t : WA) : WE := fun ρ h E Q => ta ρ h E fun x h1 => t ρ h1 E fun vs h2 => ∃ i n, x = .int i ∧ vs = [.int n] ∧ Q (.bl (if neg then !decide (0 ≤ i ∧ i < n) else decide (0 ≤ i ∧ i < n))) h2
variable {a e : Expr} {ta : WE} {t : WA} {p p2 : Pos}
theorem i_rgin {neg : Bool} {ta : WE} {t : WA} {ρ h E} {Q : KQ} (q : ta ρ h E fun x h1 => t ρ h1 E fun vs h2 => ∃ i n, x = .int i ∧ vs = [.int n] ∧ Q (.bl (if neg then !decide (0 ≤ i ∧ i < n) else decide (0 ≤ i ∧ i < n))) h2) : wRgIn neg ta t ρ h E Q := q
/-! ### in a list or tuple of flat values -/
def fv : Val → V
  | .bl b => .bl b
  | .int i => .int i
  | .str z => .str z
  | _ => .non
def flX : Val → Bool
  | .non => true
  | .bl _ => true
  | .int _ => true
  | .str _ => true
  | _ => false
theorem rel_fl {K : Fr} {S : Hp} {x : Val} {v : V} (r : Rel K S x v) (f : flX x = true) : v = fv x ∧ flatV v = true := by
  cases x with
  | non => rw [rel_non] at r; subst r; exact ⟨rfl, rfl⟩
  | bl b => rw [rel_bl] at r; subst r; exact ⟨rfl, rfl⟩
  | int b => rw [rel_int] at r; subst r; exact ⟨rfl, rfl⟩
  | str b => rw [rel_str] at r; subst r; exact ⟨rfl, rfl⟩
  | _ => cases f
theorem rels_fl {K : Fr} {S : Hp} : ∀ {xs : List Val} {vs : List V}, Rels K S xs vs → xs.all flX = true → vs = xs.map fv ∧ vs.all flatV = true
  | [], _, r, _ => by rw [rels_nil] at r; subst r; exact ⟨rfl, rfl⟩
  | x :: xs, _, r, f => by
    rw [rels_cons] at r
    obtain ⟨w, us, rfl, r1, r2⟩ := r
    rw [List.all_cons, Bool.and_eq_true] at f
    obtain ⟨e1, e2⟩ := rel_fl r1 f.1
    obtain ⟨e3, e4⟩ := rels_fl r2 f.2
    refine ⟨by rw [e1, e3]; rfl, ?_⟩
    rw [List.all_cons, e2, e4]; rfl
def wInF (neg : Bool) : W2 := fun x y h Q => ∃ xs, SeqT h y xs ∧ flX x = true ∧ xs.all flX = true ∧ Q (.bl (if neg then !inV (fv x) (xs.map fv) else inV (fv x) (xs.map fv))) h
theorem s_inF {K : Fr} {neg : Bool} : Snd2 K (wInF neg) (rIn K neg) := fun S F H h x y v w Q' Q r rx ry q lq => by
  obtain ⟨xs, h1, f1, f2, q⟩ := q
  obtain ⟨p, ws, rfl, g1, g2⟩ := h1.l r ry
  obtain ⟨e1, e2⟩ := rel_fl rx f1
  obtain ⟨e3, e4⟩ := rels_fl g2 f2
  refine ⟨p, ws, rfl, g1, e2, e4, ?_⟩
  rw [e1, e3]
  exact lq _ _ S _ _ q (Sub.refl S) r (rel_bl.mpr rfl)
/-! ### in a table's tuple -/
def wTabIn (neg : Bool) (tab : List (Str × List Str)) (ta te : WE) : WE := fun ρ h E Q => ta ρ h E fun x h1 => te ρ h1 E fun y h2 => ∃ z zs, y = .str z ∧ tab.lookup z = some zs ∧ flX x = true ∧ Q (.bl (if neg then !inV (fv x) (zs.map V.str) else inV (fv x) (zs.map V.str))) h2
theorem i_tabin {neg : Bool} {tab : List (Str × List Str)} {ta te : WE} {ρ h E} {Q : KQ} (q : ta ρ h E fun x h1 => te ρ h1 E fun y h2 => ∃ z zs, y = .str z ∧ tab.lookup z = some zs ∧ flX x = true ∧ Q (.bl (if neg then !inV (fv x) (zs.map V.str) else inV (fv x) (zs.map V.str))) h2) : wTabIn neg tab ta te ρ h E Q := q
end
/-! ZF0 -/
/-! dicts whose keys are tuples of any depth: reading, writing -/
/-- what a dict that stands at a does with the key y: r, what it holds there -/
structure DictR (X : Cx) (H : Hp) (a : Addr) (y : V) (r : Option V) : Prop where
  ty : ∀ {pins : List (Addr × Obj)} {σ : L2.St} {s : Shared}, Inv X pins σ H s → s.TypeIs (.ref a) "dict"
  get : ∀ {pins : List (Addr × Obj)} {σ : L2.St} {s : Shared} {u : Value} {A : Around} {E : Value → Shared → Prop} {Q : Value → Shared → Prop} {v : V}, A.units + 10 < cLine → Inv X pins σ H s → RelV y u → r = some v → (∀ w' s', Inv X pins σ H s' → RelV v w' → Q w' s') →
    wpAny (model X.prog X.w) A (getItem (.ref a) u) Q E s
  in_ : ∀ {pins : List (Addr × Obj)} {σ : L2.St} {s : Shared} {u : Value} {A : Around} {E : Value → Shared → Prop} {Q : Value → Shared → Prop}, A.units + 10 < cLine → Inv X pins σ H s → RelV y u → (∀ s', Inv X pins σ H s' → Q (.bool r.isSome) s') →
    wpAny (model X.prog X.w) A (compareOp .In u (.ref a)) Q E s
  out : ∀ {pins : List (Addr × Obj)} {σ : L2.St} {s : Shared} {u : Value} {A : Around} {E : Value → Shared → Prop} {Q : Value → Shared → Prop}, A.units + 10 < cLine → Inv X pins σ H s → RelV y u → (∀ s', Inv X pins σ H s' → Q (.bool (!r.isSome)) s') →
    wpAny (model X.prog X.w) A (compareOp .NotIn u (.ref a)) Q E s
theorem DictR.of {X : Cx} {H : Hp} {a : Addr} {y : V} {r : Option V} (g : DGet H a y r) : DictR X H a y r where
  ty := fun I => dict_typeIs I g
  get := fun hu I ry e h => by subst e; exact d_getItem (by omega) I g ry h
  in_ := fun hu I ry h => d_in (by omega) I g ry h
  out := fun hu I ry h => d_notIn (by omega) I g ry h
/-- a store: G, the heaps that may be behind it -/
def PutR (X : Cx) (H : Hp) (a : Addr) (y v : V) (G : Hp → Prop) : Prop :=
  ∀ {pins : List (Addr × Obj)} {σ : L2.St} {s : Shared} {u r : Value} {A : Around} {E : Value → Shared → Prop} {Q : Unit → Shared → Prop}, A.units + 10 < cLine → Inv X pins σ H s → RelV y u → RelV v r → (∀ H' s', G H' → Inv X pins σ H' s' → Q () s') →
    wpAny (model X.prog X.w) A (setItem (.ref a) u r) Q E s
theorem PutR.of {X : Cx} {H H' : Hp} {a : Addr} {y v : V} (g : DPut H a y v H') : PutR X H a y v (· = H') := fun hu I ry rv h => d_setItem (by omega) I g ry rv fun s' I' => h _ s' rfl I'
section
variable {X : Cx} {o i e value : Expr} {pos pos' tpos : Pos} {td ty tv : L2.TE}
end
/-! ### nested keys over the layer's heap -/
mutual
theorem keyN_is {X : Cx} {pins : List (Addr × Obj)} {σ : L2.St} {S H : Hp} {s : Shared} (I : Inv X pins σ H s) (e : Sub S H) : ∀ (k : NestedKey) (v : V) (u : Value), Rel X.K S (keyN k) v → RelV v u → NestedIs s.heap k u
  | .none, v, u, r, q => by
    rw [show keyN .none = .non by rw [keyN], rel_non] at r
    subst r
    cases q
    exact .none
  | .num i, v, u, r, q => by
    rw [show keyN (.num i) = .int i by rw [keyN], rel_int] at r
    subst r
    obtain ⟨t, rfl⟩ := q
    exact .int i t
  | .text x, v, u, r, q => by
    rw [show keyN (.text x) = .str x by rw [keyN], rel_str] at r
    subst r
    obtain ⟨t, rfl⟩ := q
    exact .text x t
  | .tup ks, v, u, r, q => by
    rw [show keyN (.tup ks) = .tup (keysN ks) by rw [keyN], rel_tup] at r
    obtain ⟨a, ws, rfl, h1, h2⟩ := r
    obtain rfl : u = Value.ref a := q
    obtain ⟨_, its, rv, o, ho, hc, n, hd⟩ := I.hok a _ (e a _ h1)
    exact .tup ho hc hd (keysN_is I e ks ws its.toArray.toList h2 (by simpa using rv))
theorem keysN_is {X : Cx} {pins : List (Addr × Obj)} {σ : L2.St} {S H : Hp} {s : Shared} (I : Inv X pins σ H s) (e : Sub S H) : ∀ (ks : List NestedKey) (vs : List V) (us : List Value), Rels X.K S (keysN ks) vs → Vals vs us → NestedAll s.heap ks us
  | [], vs, us, r, q => by
    rw [show keysN [] = [] by rw [keysN], rels_nil] at r
    subst r
    cases q
    exact .nil
  | k :: ks, vs, us, r, q => by
    rw [show keysN (k :: ks) = keyN k :: keysN ks by rw [keysN], rels_cons] at r
    obtain ⟨w, ws, rfl, h1, h2⟩ := r
    cases q with
    | cons q1 q2 => exact .cons (keyN_is I e k w _ h1 q1) (keysN_is I e ks ws _ h2 q2)
end
/-- where such a dict stands -/
theorem dNo_at {X : Cx} {pins : List (Addr × Obj)} {σ : L2.St} {H : Hp} {s : Shared} {a d : Addr} {es : Array DictEntry} {ep : Nat} (I : Inv X pins σ H s) (e : H a = some (dNo d es ep)) :
    d = a ∧ (a == sysModules) = false ∧ ∃ o, s.heap.get? a = some o ∧ o.ExactDict ∧ o.data = .dict es ep := by
  obtain ⟨⟨lo, o, ho, hx, hdt⟩, ⟨oa, ha⟩, st⟩ := I.hok a _ e
  by_cases c : d = a
  · subst c
    exact ⟨rfl, lo, o, ho, hx, hdt⟩
  · exfalso
    obtain ⟨_, o2, h2, _, h3⟩ := st s.heap (s.heap.update d fun _ => { cls := .none, data := .fields #[] }) ⟨lo, o, ho, hx, hdt⟩ fun o' q => (Heap.get?_update_other _ _ (Ne.symm (fun z => c z.symm))).trans q
    rw [Heap.get?_update_self _ ho rfl] at h2
    cases h2
    cases h3
theorem dNo_ok {P : Program} {w : World} {H : Hp} {h : Heap} {a : Addr} {es : Array DictEntry} {ep : Nat} {o : Obj} (lo : (a == sysModules) = false) (ho : h.get? a = some o) (hx : o.ExactDict) (hd : o.data = .dict es ep) : ObjOk P w H h a (dNo a es ep) :=
  ⟨⟨lo, o, ho, hx, hd⟩, ⟨o, ho⟩, fun h1 h2 ⟨lo, o, e1, e2, e3⟩ k => ⟨lo, o, k o e1, e2, e3⟩⟩
theorem entN_eq {P : Program} {w : World} (hw : w = Wrl.w) (x : NestedKey × Addr × Value) : entN x = entryOfKey (nestedKind P w) x := by subst hw; rfl
/-- a dict with nested keys, as the model has it -/
theorem dctN_of {X : Cx} {pins : List (Addr × Obj)} {σ : L2.St} {S H : Hp} {s : Shared} {a d : Addr} {kvs : List (NestedKey × Val)} {es : Array DictEntry} {ep : Nat} {xs : List (NestedKey × Addr × Value)} (hw : X.w = Wrl.w) (I : Inv X pins σ H s) (sub : Sub S H) (e : H a = some (dNo d es ep))
    (he : es.toList = xs.map entN) (pr : Paired (RelN X.K S) kvs xs) (nd : (xs.map (·.1)).Nodup) : (a == sysModules) = false ∧ d = a ∧ s.heap.DictOfH (nestedKind X.prog X.w) a xs := by
  obtain ⟨rfl, lo, o, ho, hx, hdt⟩ := dNo_at I e
  refine ⟨lo, rfl, o, es, ep, ho, hx, hdt, ?_, fun q hq => ?_, nd⟩
  · rw [he]; exact List.map_congr_left fun x _ => entN_eq hw x
  · obtain ⟨j, hj⟩ := List.mem_iff_getElem?.mp hq
    obtain ⟨p, hp, e1, e2, e3, _⟩ := DX.pget pr hj
    rw [← e1]
    exact ⟨keyN_is I sub _ _ _ e3 rfl, e2⟩
/-! ZF -/
/-! dicts -/
/-! ### keys and lookups -/
def keyX : Key → Val
  | .inl i => .int i
  | .inr z => .str z
theorem rel_key {K : Fr} {S : Hp} {k : Key} {v : V} (r : Rel K S (keyX k) v) : v = kV k := by
  cases k with
  | inl i => exact rel_int.mp r
  | inr z => exact rel_str.mp r
theorem rels_keys {K : Fr} {S : Hp} : ∀ {ks : List Key} {vs : List V}, Rels K S (ks.map keyX) vs → vs = ks.map kV
  | [], _, r => by rw [List.map_nil, rels_nil] at r; subst r; rfl
  | k :: ks, _, r => by
    rw [List.map_cons, rels_cons] at r
    obtain ⟨w, us, rfl, r1, r2⟩ := r
    rw [rel_key r1, rels_keys r2]; rfl
section
variable {κ : Type} [DecidableEq κ]
def valX (kvs : List (κ × Val)) (k : κ) : Option Val := (kvs.find? fun kv => decide (kv.1 = k)).map (·.2)
def putX (kvs : List (κ × Val)) (k : κ) (v : Val) : List (κ × Val) :=
  if (kvs.any fun kv => decide (kv.1 = k)) = true then kvs.map (fun kv => if kv.1 = k then (kv.1, v) else kv) else kvs ++ [(k, v)]
theorem valX_pos {p : κ × Val} {r : List (κ × Val)} {k : κ} (e : p.1 = k) : valX (p :: r) k = some p.2 := by simp [valX, List.find?_cons, e]
theorem valX_neg {p : κ × Val} {r : List (κ × Val)} {k : κ} (e : ¬ p.1 = k) : valX (p :: r) k = valX r k := by simp [valX, List.find?_cons, e]
theorem valX_any (k : κ) : ∀ kvs : List (κ × Val), (kvs.any fun kv => decide (kv.1 = k)) = (valX kvs k).isSome
  | [] => rfl
  | p :: r => by
    rw [List.any_cons]
    by_cases e : p.1 = k
    · rw [valX_pos e, decide_eq_true e]; rfl
    · rw [valX_neg e, decide_eq_false e, Bool.false_or]; exact valX_any k r
theorem kv_val {K : Fr} {S : Hp} {k : κ} : ∀ {kvs : List (κ × Val)} {ws : List (κ × V)}, RelKV K S kvs ws → (∀ v, valX kvs k = some v → ∃ w, valV ws k = some w ∧ Rel K S v w) ∧ (valX kvs k = none → valV ws k = none)
  | _, _, .nil => ⟨fun v h => (nomatch (show (none : Option Val) = some v from h)), fun _ => rfl⟩
  | p :: ps, q :: qs, .cons hpq t => by
    obtain ⟨i1, i2⟩ := kv_val (k := k) t
    by_cases e : p.1 = k
    · have e2 : q.1 = k := hpq.1.symm.trans e
      rw [valX_pos e, valV_pos e2]
      exact ⟨fun v h => by cases h; exact ⟨q.2, rfl, hpq.2⟩, fun h => by cases h⟩
    · have e2 : ¬ q.1 = k := fun z => e (hpq.1.trans z)
      rw [valX_neg e, valV_neg e2]
      exact ⟨i1, i2⟩
theorem kv_any {K : Fr} {S : Hp} {k : κ} : ∀ {kvs : List (κ × Val)} {ws : List (κ × V)}, RelKV K S kvs ws → (kvs.any fun kv => decide (kv.1 = k)) = ws.any fun kv => decide (kv.1 = k)
  | _, _, .nil => rfl
  | p :: ps, q :: qs, .cons hpq t => by
    rw [List.any_cons, List.any_cons, kv_any t, hpq.1]
theorem kv_map {K : Fr} {S : Hp} {k : κ} {v : Val} {w : V} (r : Rel K S v w) : ∀ {kvs : List (κ × Val)} {ws : List (κ × V)}, RelKV K S kvs ws → RelKV K S (kvs.map fun kv => if kv.1 = k then (kv.1, v) else kv) (ws.map fun kv => if kv.1 = k then (kv.1, w) else kv)
  | _, _, .nil => .nil
  | p :: ps, q :: qs, .cons hpq t => by
    refine .cons ?_ (kv_map r t)
    show (if p.1 = k then (p.1, v) else p).1 = (if q.1 = k then (q.1, w) else q).1 ∧ Rel K S (if p.1 = k then (p.1, v) else p).2 (if q.1 = k then (q.1, w) else q).2
    by_cases e : p.1 = k
    · have e2 : q.1 = k := hpq.1.symm.trans e
      rw [if_pos e, if_pos e2]
      exact ⟨hpq.1, r⟩
    · have e2 : ¬ q.1 = k := fun z => e (hpq.1.trans z)
      rw [if_neg e, if_neg e2]
      exact hpq
theorem kv_snoc {K : Fr} {S : Hp} {k : κ} {v : Val} {w : V} (r : Rel K S v w) : ∀ {kvs : List (κ × Val)} {ws : List (κ × V)}, RelKV K S kvs ws → RelKV K S (kvs ++ [(k, v)]) (ws ++ [(k, w)])
  | _, _, .nil => .cons ⟨rfl, r⟩ .nil
  | p :: ps, q :: qs, .cons hpq t => .cons hpq (kv_snoc r t)
theorem kv_put {K : Fr} {S : Hp} {k : κ} {v : Val} {w : V} {kvs : List (κ × Val)} {ws : List (κ × V)} (h : RelKV K S kvs ws) (r : Rel K S v w) : RelKV K S (putX kvs k v) (putK ws k w) := by
  unfold putX putK
  rw [kv_any h]
  split
  · exact kv_map r h
  · exact kv_snoc r h
theorem kv_len {K : Fr} {S : Hp} {kvs : List (κ × Val)} {ws : List (κ × V)} (h : RelKV K S kvs ws) : kvs.length = ws.length := Paired.length h
theorem putX_len (kvs : List (κ × Val)) (k : κ) (v : Val) : (putX kvs k v).length ≤ kvs.length + 1 := by
  unfold putX
  split <;> simp
end
/-! ### nested keys: reading, writing -/
theorem valN {K : Fr} {S : Hp} {k : NestedKey} : ∀ {kvs : List (NestedKey × Val)} {xs : List (NestedKey × Addr × Value)}, Paired (RelN K S) kvs xs →
    (∀ v, valX kvs k = some v → ∃ p w, atKey xs k = some p ∧ Rel K S v w ∧ RelV w p.2) ∧ (valX kvs k = none → atKey xs k = none)
  | _, _, .nil => ⟨fun v h => (nomatch (show (none : Option Val) = some v from h)), fun _ => rfl⟩
  | p :: ps, q :: qs, .cons hpq t => by
    obtain ⟨i1, i2⟩ := valN (k := k) t
    obtain ⟨e1, _, _, w, r1, r2⟩ := hpq
    have step : ∀ b : Bool, decide (q.1 = k) = b → atKey (q :: qs) k = if b = true then some q.2 else atKey qs k := fun b hb => by
      unfold atKey
      rw [List.find?_cons, hb]
      cases b <;> rfl
    by_cases e : p.1 = k
    · have e2 : q.1 = k := e1.symm.trans e
      rw [valX_pos e, step true (decide_eq_true e2), if_pos rfl]
      exact ⟨fun v h => by cases h; exact ⟨q.2, w, rfl, r1, r2⟩, fun h => by cases h⟩
    · have e2 : ¬ q.1 = k := fun z => e (e1.trans z)
      rw [valX_neg e, step false (decide_eq_false e2), if_neg (by simp)]
      exact ⟨i1, i2⟩
theorem mapN {K : Fr} {S : Hp} {k : NestedKey} {v : Val} {w : V} {u : Value} (r : Rel K S v w) (rv : RelV w u) : ∀ {kvs : List (NestedKey × Val)} {xs : List (NestedKey × Addr × Value)}, Paired (RelN K S) kvs xs →
    Paired (RelN K S) (kvs.map fun kv => if kv.1 = k then (kv.1, v) else kv) (xs.map (putAt k u))
  | _, _, .nil => .nil
  | p :: ps, q :: qs, .cons hpq t => by
    refine .cons ?_ (mapN r rv t)
    obtain ⟨e1, e2, e3, e4⟩ := hpq
    show RelN K S (if p.1 = k then (p.1, v) else p) (if q.1 = k then (q.1, q.2.1, u) else q)
    by_cases e : p.1 = k
    · rw [if_pos e, if_pos (e1.symm.trans e)]
      exact ⟨e1, e2, e3, w, r, rv⟩
    · rw [if_neg e, if_neg fun z => e (e1.trans z)]
      exact ⟨e1, e2, e3, e4⟩
theorem paired_app {α β : Type} {P : α → β → Prop} {a : α} {b : β} (h : P a b) : ∀ {xs : List α} {ys : List β}, Paired P xs ys → Paired P (xs ++ [a]) (ys ++ [b])
  | _, _, .nil => .cons h .nil
  | _, _, .cons p t => .cons p (paired_app h t)
theorem putN {K : Fr} {S : Hp} {k : NestedKey} {b : Addr} {v : Val} {w : V} {u : Value} {kvs : List (NestedKey × Val)} {xs : List (NestedKey × Addr × Value)} (r : Rel K S v w) (rv : RelV w u) (rk : Rel K S (keyN k) (.ref b)) (hd : k.depth ≤ 8) (pr : Paired (RelN K S) kvs xs) :
    Paired (RelN K S) (putX kvs k v) (storedH xs k b u) := by
  obtain ⟨i1, i2⟩ := valN (k := k) pr
  unfold putX storedH
  rw [valX_any]
  cases h : valX kvs k with
  | none =>
    rw [i2 h]
    exact paired_app ⟨rfl, hd, rk, w, r, rv⟩ pr
  | some y =>
    obtain ⟨p, _, e, _⟩ := i1 y h
    rw [e]
    exact mapN r rv pr
theorem nodupN {xs : List (NestedKey × Addr × Value)} {k : NestedKey} {b : Addr} {u : Value} (nd : (xs.map (·.1)).Nodup) : ((storedH xs k b u).map (·.1)).Nodup := by
  unfold storedH
  split
  · rw [keys_map_putAt]; exact nd
  · rename_i h
    have : atKey xs k = none := by
      cases q : atKey xs k with
      | none => rfl
      | some p => rw [q] at h; exact absurd rfl h
    rw [List.map_append, List.nodup_append]
    refine ⟨nd, by simp, fun x hx y hy e => ?_⟩
    simp at hy
    subst hy e
    obtain ⟨z, hz, ez⟩ := List.mem_map.mp hx
    obtain ⟨j, hj⟩ := List.mem_iff_getElem?.mp hz
    rw [atKey_of_get nd (i := j) (k := x) (p := z.2) (by rw [hj, ← ez])] at this
    cases this
/-! ### reading, writing -/
/-- a dict with nested keys, walked or not -/
def DctAt (h : Hh) (a : Addr) (kvs : List (NestedKey × Val)) : Prop := h a = some (.dN kvs) ∨ ∃ u, h a = some (.lk u kvs)
inductive DG (h : Hh) : Val → Val → Option Val → Prop
  | k {a kvs} (k : Key) : h a = some (.dK kvs) → DG h (.ref a) (keyX k) (valX kvs k)
  | t {a kvs} (k : List Key) : h a = some (.dT kvs) → DG h (.ref a) (.tup (k.map keyX)) (valX kvs k)
  | n {a kvs} (ks : List NestedKey) : DctAt h a kvs → NestedKey.depth (.tup ks) ≤ 8 → DG h (.ref a) (.tup (keysN ks)) (valX kvs (.tup ks))
inductive DP (h : Hh) : Val → Val → Val → Hh → Prop
  | k {a kvs v} (k : Key) : h a = some (.dK kvs) → kvs.length < 16000000 → DP h (.ref a) (keyX k) v (hup h a (.dK (putX kvs k v)))
  | t {a kvs v} (k : List Key) : h a = some (.dT kvs) → kvs.length < 16000000 → DP h (.ref a) (.tup (k.map keyX)) v (hup h a (.dT (putX kvs k v)))
  | n {a kvs v} (ks : List NestedKey) : h a = some (.dN kvs) → NestedKey.depth (.tup ks) ≤ 8 → kvs.length < 16000000 → DP h (.ref a) (.tup (keysN ks)) v (hup h a (.dN (putX kvs (.tup ks) v)))
theorem keyN_tup (ks : List NestedKey) : keyN (.tup ks) = .tup (keysN ks) := by rw [keyN]
theorem DctAt.own {K : Fr} {S F H : Hp} {h : Hh} {a : Addr} {kvs : List (NestedKey × Val)} (q : DctAt h a kvs) (r : R K S F H h) : ∃ u, H a = some u ∧ DctN K S kvs u := by
  rcases q with q | ⟨u, q⟩
  · obtain ⟨_, o, h1, h2⟩ := r.own _ _ q
    exact ⟨o, h1, h2⟩
  · obtain ⟨_, o, h1, h2⟩ := r.own _ _ q
    exact ⟨o, h1, h2.2⟩
theorem dictR_n {X : Cx} {S F H : Hp} {h : Hh} {a : Addr} {kvs : List (NestedKey × Val)} {ks : List NestedKey} {w : V} (hw : X.w = Wrl.w) (q : DctAt h a kvs) (hd : NestedKey.depth (.tup ks) ≤ 8) (r : R X.K S F H h) (y1 : Rel X.K S (.tup (keysN ks)) w) :
    ∃ ov, DictR X H a w ov ∧ (∀ v, valX kvs (.tup ks) = some v → ∃ u, ov = some u ∧ Rel X.K S v u) ∧ (valX kvs (.tup ks) = none → ov = none) := by
  obtain ⟨u, h1, d, es, ep, xs, rfl, hl, he, pr, nd⟩ := q.own r
  obtain ⟨b, ws, rfl, h3, h4⟩ := rel_tup.mp y1
  have key : ∀ {pins : List (Addr × Obj)} {σ : L2.St} {s : Shared}, Inv X pins σ H s → (nestedKind X.prog X.w).is s.heap (.tup ks) b := fun I => ⟨keyN_is I r.sub (.tup ks) (.ref b) _ (by rw [keyN_tup]; exact y1) rfl, hd⟩
  have room : ∀ {A : Around}, A.units + 10 < cLine → (nestedKind X.prog X.w).room A.in1 := fun {A} hu => by
    show A.in1.units + 8 < cLine
    have : A.in1.units ≤ A.units + 1 := Nat.le_refl _
    omega
  have mk : ∀ ov : Option V, (∀ v, ov = some v → ∃ p, atKey xs (.tup ks) = some p ∧ RelV v p.2) → (atKey xs (.tup ks)).isSome = ov.isSome → DictR X H a (.ref b) ov := fun ov h1' h2' => by
    refine ⟨fun I => ?_, fun hu I ry e h => ?_, fun hu I ry h => ?_, fun hu I ry h => ?_⟩
    · obtain ⟨lo, _, dd⟩ := dctN_of hw I r.sub h1 he pr nd
      exact dd.typeIs
    · obtain ⟨lo, _, dd⟩ := dctN_of hw I r.sub h1 he pr nd
      cases (show _ = Value.ref b from ry)
      obtain ⟨p, hp, rv⟩ := h1' _ e
      exact wpAny_getItem_heap (room hu) (key I) dd hp (h _ _ (I.tok _) rv)
    · obtain ⟨lo, _, dd⟩ := dctN_of hw I r.sub h1 he pr nd
      cases (show _ = Value.ref b from ry)
      refine wpAny_in_heap (room hu) (key I) lo dd ?_
      rw [h2']
      exact h _ (I.tok _)
    · obtain ⟨lo, _, dd⟩ := dctN_of hw I r.sub h1 he pr nd
      cases (show _ = Value.ref b from ry)
      refine wpAny_notIn_heap (room hu) (key I) lo dd ?_
      rw [h2']
      exact h _ (I.tok _)
  cases hv : valX kvs (.tup ks) with
  | none => exact ⟨none, mk none (fun v e => by cases e) (by rw [(valN pr).2 hv]; rfl), (fun v e => by cases e), (fun _ => rfl)⟩
  | some v =>
    obtain ⟨p, u1, e5, e6, e7⟩ := (valN pr).1 v hv
    exact ⟨some u1, mk (some u1) (fun v e => by cases e; exact ⟨p, e5, e7⟩) (by rw [e5]; rfl), (fun y e => by cases e; exact ⟨u1, rfl, e6⟩), (fun e => by cases e)⟩
/-- a store -/
theorem putR_n {X : Cx} {S F H : Hp} {h : Hh} {a : Addr} {kvs : List (NestedKey × Val)} {ks : List NestedKey} {v : Val} {w u : V} (hw : X.w = Wrl.w) (q : h a = some (.dN kvs)) (hd : NestedKey.depth (.tup ks) ≤ 8) (hl : kvs.length < 16000000) (r : R X.K S F H h) (y1 : Rel X.K S (.tup (keysN ks)) w) (z1 : Rel X.K S v u) :
    PutR X H a w u fun H' => R X.K S F H' (hup h a (.dN (putX kvs (.tup ks) v))) := by
  obtain ⟨_, o, h1, d, es, ep, xs, rfl, hl2, he, pr, nd⟩ := r.own _ _ q
  obtain ⟨b, ws, rfl, h3, h4⟩ := rel_tup.mp y1
  intro pins σ s ru rr A E Q hu I ry rv k
  have key : (nestedKind X.prog X.w).is s.heap (.tup ks) b := ⟨keyN_is I r.sub (.tup ks) (.ref b) _ (by rw [keyN_tup]; exact y1) rfl, hd⟩
  have room : (nestedKind X.prog X.w).room A.in1 := by
    show A.in1.units + 8 < cLine
    have : A.in1.units ≤ A.units + 1 := Nat.le_refl _
    omega
  obtain ⟨lo, _, dd⟩ := dctN_of hw I r.sub h1 he pr nd
  cases (show _ = Value.ref b from ry)
  have hz := sizeLine_eq
  have lx : xs.length = kvs.length := (Paired.length pr).symm
  refine wpAny_setItem_heap (hsz := by omega) room key dd fun h' dd' hs => ?_
  obtain ⟨q2, es2, ep2, hq, k2, k3, k4, _, k5⟩ := dd'
  have he2 : es2.toList = (storedH xs (.tup ks) b rr).map entN := by
    rw [k4]; exact List.map_congr_left fun x _ => (entN_eq hw x).symm
  have pr2 := putN (k := .tup ks) z1 rv (by rw [keyN_tup]; exact y1) hd pr
  have new := dNo_ok (P := X.prog) (w := X.w) (H := upd H a (dNo a es2 ep2)) lo hq k2 k3
  refine k (upd H a (dNo a es2 ep2)) _ (r.store q ⟨a, es2, ep2, _, rfl, ?_, he2, pr2, nodupN nd⟩) (d_write I (by rw [h1]; exact True.intro) hs ⟨q2, hq⟩ new)
  have := putX_len kvs (.tup ks) v
  omega
theorem DG.l {X : Cx} {S F H : Hp} {h : Hh} {x y : Val} {o : Option Val} {v w : V} (hw : X.w = Wrl.w) (q : DG h x y o) (r : R X.K S F H h) (x1 : Rel X.K S x v) (y1 : Rel X.K S y w) : ∃ a ov, v = .ref a ∧ DictR X H a w ov ∧ (∀ u, o = some u → ∃ u', ov = some u' ∧ Rel X.K S u u') ∧ (o = none → ov = none) := by
  cases q with
  | k k e =>
    rw [rel_ref] at x1
    obtain ⟨_, u, h1, ws, rfl, h2⟩ := r.own _ _ e
    rw [rel_key y1]
    obtain ⟨i1, i2⟩ := kv_val (k := k) h2
    exact ⟨_, _, x1, .of (.k h1), i1, i2⟩
  | t k e =>
    rw [rel_ref] at x1
    obtain ⟨_, u, h1, ws, rfl, h2⟩ := r.own _ _ e
    rw [rel_tup] at y1
    obtain ⟨b, us, rfl, h3, h4⟩ := y1
    rw [rels_keys h4] at h3
    obtain ⟨i1, i2⟩ := kv_val (k := k) h2
    exact ⟨_, _, x1, .of (.t h1 (r.sub _ _ h3)), i1, i2⟩
  | n ks e hd =>
    rw [rel_ref] at x1
    obtain ⟨ov, d, i1, i2⟩ := dictR_n hw e hd r y1
    exact ⟨_, ov, x1, d, i1, i2⟩
theorem DP.l {X : Cx} {S F H : Hp} {h h' : Hh} {x y z : Val} {v w u : V} (hw : X.w = Wrl.w) (q : DP h x y z h') (r : R X.K S F H h) (x1 : Rel X.K S x v) (y1 : Rel X.K S y w) (z1 : Rel X.K S z u) : ∃ a G, v = .ref a ∧ PutR X H a w u G ∧ ∀ H', G H' → R X.K S F H' h' := by
  have hz := sizeLine_eq
  cases q with
  | k k e hl =>
    rw [rel_ref] at x1
    obtain ⟨_, o, h1, ws, rfl, h2⟩ := r.own _ _ e
    rw [rel_key y1]
    exact ⟨_, _, x1, PutR.of (.k h1 (by rw [← kv_len h2]; omega)), fun H' e2 => by subst e2; exact r.store e ⟨_, rfl, kv_put h2 z1⟩⟩
  | t k e hl =>
    rw [rel_ref] at x1
    obtain ⟨_, o, h1, ws, rfl, h2⟩ := r.own _ _ e
    rw [rel_tup] at y1
    obtain ⟨b, us, rfl, h3, h4⟩ := y1
    rw [rels_keys h4] at h3
    exact ⟨_, _, x1, PutR.of (.t h1 (r.sub _ _ h3) (by rw [← kv_len h2]; omega)), fun H' e2 => by subst e2; exact r.store e ⟨_, rfl, kv_put h2 z1⟩⟩
  | n ks e hd hl =>
    rw [rel_ref] at x1
    exact ⟨_, _, x1, putR_n hw e hd hl r y1 z1, fun H' g => g⟩
section
variable {X : Cx} {W : WX} {pos pos' apos cpos : Pos} {o i e f value : Expr} {td ty tx tv : WE}
def wDGet (td ty : WE) : WE := fun ρ h E Q => td ρ h E fun x h1 => ty ρ h1 E fun y h2 => ∃ v, DG h2 x y (some v) ∧ Q v h2
def wDIn (neg : Bool) (ty td : WE) : WE := fun ρ h E Q => ty ρ h E fun y h1 => td ρ h1 E fun x h2 => ∃ o, DG h2 x y o ∧ Q (.bl (if neg then !o.isSome else o.isSome)) h2
/-- d[y] = v -/
def wDPut (td ty tv : WE) : WS := fun nx _ _ _ xe ρ h => tv ρ h (atx xe ρ) fun v h1 => td ρ h1 (atx xe ρ) fun x h2 => ty ρ h2 (atx xe ρ) fun y h3 => ∃ h4, DP h3 x y v h4 ∧ nx ρ h4
/-! ### displays -/
def wPairs : List (Key × WE) → Ev → Hh → XQ → (List (Key × Val) → Hh → Prop) → Prop
  | [], _, h, _, Q => Q [] h
  | (k, t) :: r, ρ, h, E, Q => t ρ h E fun y h1 => wPairs r ρ h1 E fun ps h2 => Q ((k, y) :: ps) h2
def wDisp (trs : List (Key × WE)) : WE := fun ρ h E Q => wPairs trs ρ h E fun kvs h1 => ∀ a, h1 a = none → Q (.ref a) (hup h1 a (.dK kvs))
structure ZPs (X : Cx) (W : WX) (pos : Pos) (ks : List (Option Expr)) (vs : List Expr) (trs : List (Key × WE)) : Prop where
  pps : PPs X pos ks vs (trs.map fun p => (tC (kV p.1), lE X.K W p.2))
/-! an empty one, by its keys' kind -/
/-! steps -/
theorem i_disp {trs : List (Key × WE)} {ρ h E} {Q : KQ} (q : wPairs trs ρ h E fun kvs h1 => ∀ a, h1 a = none → Q (.ref a) (hup h1 a (.dK kvs))) : wDisp trs ρ h E Q := q
theorem i_pcons {k : Key} {t : WE} {r : List (Key × WE)} {ρ h E} {Q : List (Key × Val) → Hh → Prop} (q : t ρ h E fun y h1 => wPairs r ρ h1 E fun ps h2 => Q ((k, y) :: ps) h2) : wPairs ((k, t) :: r) ρ h E Q := q
theorem i_pnil {ρ h E} {Q : List (Key × Val) → Hh → Prop} (q : Q [] h) : wPairs [] ρ h E Q := q
theorem i_dget {td ty : WE} {ρ h E} {Q : KQ} (q : td ρ h E fun x h1 => ty ρ h1 E fun y h2 => ∃ v, DG h2 x y (some v) ∧ Q v h2) : wDGet td ty ρ h E Q := q
theorem i_din {neg : Bool} {ty td : WE} {ρ h E} {Q : KQ} (q : ty ρ h E fun y h1 => td ρ h1 E fun x h2 => ∃ o, DG h2 x y o ∧ Q (.bl (if neg then !o.isSome else o.isSome)) h2) : wDIn neg ty td ρ h E Q := q
theorem i_dput {td ty tv : WE} {nx : EH} {rt bk ct xe ρ h} (q : tv ρ h (atx xe ρ) fun v h1 => td ρ h1 (atx xe ρ) fun x h2 => ty ρ h2 (atx xe ρ) fun y h3 => ∃ h4, DP h3 x y v h4 ∧ nx ρ h4) : wDPut td ty tv nx rt bk ct xe ρ h := q
end
/-! ZH -/
/-! try, except: what is held of an error, its class asked, its field read -/
open PySem.Calls
/-! ### the class of an error that has fields of its own -/
theorem find_bind {K : Fr} {C : Addr} {od : Option Obj} {nm : Str} {at' gt : Value} (c : (PySem.W.clsIn K C).isSome = true) (f1 : PySem.W.findIn K (.ref C) nm = some (some at')) (f2 : PySem.W.specialIn K at' "__get__" = some (some gt)) (f3 : PySem.W.takesIn K at' = some true) :
    PySem.W.findObj K C od nm = some (.bind gt at') := by
  obtain ⟨cd, c2⟩ := Option.isSome_iff_exists.mp c
  unfold PySem.W.findObj
  rw [c2, Option.bind_some, f1, Option.bind_some]
  simp [f2, f3]
theorem cls_there {K : Fr} {C : Addr} (q : PySem.W.hasDictIn K C = true) : ∃ cd, PySem.W.clsIn K C = some cd := by
  unfold PySem.W.hasDictIn at q
  cases e : PySem.W.clsIn K C with
  | none => rw [e] at q; cases q
  | some cd => exact ⟨cd, rfl⟩
/-- e.__class__ -/
theorem err_class {prog : Program} {w : World} {Ar : Around} {Ex : Value → Shared → Prop} {st : Shared} {K : Fr} {y C : Addr} {oy : Obj} {od : Option Obj} {Q : Option Value → Shared → Prop} (c : ErrC K C)
    (Kh : K.In st.heap) (Iy : PySem.W.InstAt st.heap y oy C od) (h : Q (some (.ref C)) { st with toks := st.toks + 1 }) : wpAny (model prog w) Ar (getAttr? (.ref y) "__class__") Q Ex st := by
  obtain ⟨cd, hc⟩ := cls_there c.g4
  have hf := find_bind (od := od) (by rw [hc]; rfl) c.g5 c.g6 c.g7
  obtain ⟨hp, gl, dr, tk, os⟩ := st
  have l0 := Iy.type (M := model prog w)
  have l1 := PySem.W.looks_findIn (M := model prog w) Kh c.g1
  have l2 := PySem.W.looks_findIn (M := model prog w) Kh c.g2
  have l3 := PySem.W.looks_find (M := model prog w) Kh Iy hf
  have ls : PySem.W.Looks (model prog w) hp (isInstance (.ref y) (.type "BaseException")) true := l0.andThen (PySem.W.looks_subIn Kh c.g3)
  have n0 : (false && onTheHeap (Value.builtin "BaseException.__getattribute__")) = false := rfl
  have n2 : (Value.builtin "BaseException.__getattribute__" == Value.builtin "object.__getattribute__") = false := by decide +kernel
  have n1 : (onTheHeap (Value.ref C) && Value.builtin "BaseException.__getattribute__" == Value.builtin "object.__getattribute__") = false := by rw [n2]; rfl
  unfold getAttr? getAttrBy? getAttrBy
  refine wpAny_bind (wpAny_mkText (wpAny_bind (wpAny_attempt (wpAny_holding (wpAny_bind (l0.at (wpAny_bind (l1.at ?_))))))))
  show wpAny _ _ (if (onTheHeap (Value.ref C) && Value.builtin "BaseException.__getattribute__" == Value.builtin "object.__getattribute__") = true then _ else _) _ _ _
  rw [n1, if_neg Bool.false_ne_true]
  unfold getAttrByItsOwn hookBefore
  refine wpAny_bind ?_
  rw [if_pos (show onTheHeap (Value.ref C) = true from rfl)]
  refine l2.at (wpAny_bind (wpAny_attempt (wpAny_holding ?_)))
  unfold callGetattribute
  rw [n0, if_neg Bool.false_ne_true]
  unfold boundAndCalled
  rw [PySem.F.excAttr_ValueError.ga.bind (.ref y)]
  refine wpAny_bind (wpAny_pure ?_)
  show wpAny _ _ (call (.builtin "BaseException.__getattribute__") [.ref y, .str "__class__" tk]) _ _ _
  refine wpAny_call (codeAny_call_builtin PySem.F.excAttr_ValueError.ga.plain PySem.F.entry_bexc_ga ?_)
  refine @PySem.W.check_slot (model prog w) _ _ ⟨hp, gl, dr, tk + 1, os⟩ "BaseException.__getattribute__" "BaseException" "__getattribute__" (.ref y) [.str "__class__" tk] [] _ (by decide +kernel) (by decide +kernel) ls (PySem.F.args_bexc_ga (.ref y) (.str "__class__" tk)) ?_
  unfold Builtin.«object.__getattribute__»
  refine wpAny_bind (wpAny_of_eq (a := ((Value.ref y : Value), [Value.str "__class__" tk])) (by first | rfl | (simp only [slotArgs]; rfl)) ?_)
  refine wpAny_bind (wpAny_pure (wpAny_bind (l0.at (wpAny_bind (l3.at ?_)))))
  show wpAny _ _ (holding [Value.builtin "object.__class__"] (call (.builtin "getset_descriptor.__get__") [.builtin "object.__class__", .ref y, .ref C]) >>= ret) _ _ _
  refine wpAny_bind (wpAny_holding (wpAny_call (PySem.W.class_get (s := ⟨hp, gl, dr, tk + 1, os⟩) (ox := oy) (od := od) Kh Iy c.g8 ?_)))
  refine wpAny_pure ?_
  show wpAny _ _ (handedOut (.ref C)) _ _ _
  rw [PySem.W.handedOut_of (v := .ref C) rfl]
  first
    | exact wpAny_pure (wpAny_pure h)
    | exact wpAny_pure h
    | exact wpAny_pure (wpAny_bind (wpAny_pure (wpAny_pure h)))
theorem kitx_err {K : Fr} {y C : Addr} {oy : Obj} {od : Option Obj} (c : ErrC K C) : PySem.W.KitX K (.ref y) (.ref C) (fun h => PySem.W.InstAt h y oy C od) := by
  obtain ⟨cd, hc⟩ := cls_there c.g4
  unfold PySem.W.clsIn at hc
  split at hc
  · rename_i oc' od' cd' sl' ho
    refine ⟨fun _ _ _ I => I.type, fun M h X _ => ?_, fun h tp dd its n sl X htp => ?_, fun X I k => err_class c X I k⟩
    · intro A' Q' E' s' k q
      unfold isType loadHead
      exact wpAny_bind (wpAny_loadPart (k _ _ (X _ _ ho)) (wpAny_pure q))
    · refine Bool.eq_false_iff.mpr fun q => ?_
      have e : C = tp := Value.ref.inj (beq_iff_eq.mp q)
      subst e
      have z := (X _ _ ho).symm.trans htp
      cases z
  · cases hc
/-- isinstance(e, c): e the error that the suite holds -/
def rErr (K : Fr) (C a dd : Addr) : List V → Hp → VK → Prop := fun xs H Q => ∃ (c : V) (u : Value) (fs : List (Str × V)) (b : Bool), xs = [.ref a, c] ∧ H dd = some (.xd fs) ∧ ClsV c u ∧ PySem.W.kitOne K (.ref C) u = some b ∧ Q (.bl b) H
def rErrT (K : Fr) (C a dd : Addr) : List V → Hp → VK → Prop := fun xs H Q => ∃ (tp : Addr) (cs : List V) (us : List Value) (fs : List (Str × V)) (b : Bool), xs = [.ref a, .ref tp] ∧ H dd = some (.xd fs) ∧ H tp = some (.tup cs) ∧ Paired ClsV cs us ∧ PySem.W.kitAny K (.ref C) us = some b ∧ Q (.bl b) H
section
variable {X : Cx} {a C dd : Addr} {oe : Obj} {pn : List (Addr × Obj)}
theorem err_at {pins : List (Addr × Obj)} {σ : L2.St} {H : Hp} {s : Shared} {fs : List (Str × V)} (hz : Zc (.ref C) (some dd) oe) (hf : ∃ vs, oe.data = .fields vs) (I : L2.Inv (X.suite a ((a, oe) :: pn)) pins σ H s) (ea : H dd = some (.xd fs)) :
    ∃ od, PySem.W.InstAt s.heap a oe C (some od) := by
  obtain ⟨ha, _⟩ := I.pin (a, oe) (List.mem_append_left _ List.mem_cons_self)
  obtain ⟨vs, hd⟩ := hf
  have hx : ObjOk X.prog X.w H s.heap dd (.xd fs) := I.hok dd _ ea
  obtain ⟨mA, hns, hr⟩ := hx
  obtain ⟨od, ho, hl⟩ := lookIn_ns hns
  exact ⟨od, ⟨ha, hz.1, by unfold PySem.W.notCls; rw [hd] <;> rfl, by rw [hz.2]; exact ho⟩⟩
theorem call_err (c : ErrC X.K C) (hz : Zc (.ref C) (some dd) oe) (hf : ∃ vs, oe.data = .fields vs) : CallR (X.suite a ((a, oe) :: pn)) (.builtin "isinstance") (rErr X.K C a dd) := by
  intro pins s σ H xs us Q I r h
  obtain ⟨x, u, fs, b, rfl, ea, k, e, q⟩ := h
  obtain ⟨u1, u2, rfl, r1, r2⟩ := vals2 r
  have e2 := k.eq r2
  subst e2
  cases (show u1 = Value.ref a from r1)
  obtain ⟨od, J⟩ := err_at hz hf I ea
  exact PySem.W.kia_one (kitx_err c) I.kIn J e (fun z => nomatch z) fun tk => ⟨.bl b, H, I.tok tk, rfl, q⟩
theorem call_errT (c : ErrC X.K C) (hz : Zc (.ref C) (some dd) oe) (hf : ∃ vs, oe.data = .fields vs) : CallR (X.suite a ((a, oe) :: pn)) (.builtin "isinstance") (rErrT X.K C a dd) := by
  intro pins s σ H xs us Q I r h
  obtain ⟨tp, cs, ws, fs, b, rfl, ea, hT, k, e, q⟩ := h
  obtain ⟨u1, u2, rfl, r1, r2⟩ := vals2 r
  cases (show u2 = Value.ref tp from r2)
  cases (show u1 = Value.ref a from r1)
  obtain ⟨od, J⟩ := err_at hz hf I ea
  obtain ⟨_, its, rv, o, h1, h2, n, h3⟩ := (show ObjOk X.prog X.w H s.heap tp (.tup cs) from I.hok tp _ hT)
  have e3 := ClsV.all k rv
  subst e3
  obtain ⟨oc, oo, dt, sl⟩ := o
  simp only at h2 h3
  subst h2 h3
  exact PySem.W.kia_tup (kitx_err c) I.kIn J h1 e (fun z => nomatch z) fun tk => ⟨.bl b, H, I.tok tk, rfl, q⟩
end
/-! ### classes as values -/
/-- a class: a built-in type, or the class object at C -/
def clsOf (K : Fr) : Val → Option Value
  | .ty n => some (.type n)
  | .ref C => some (.ref C)
  | _ => none
theorem clsV_of {K : Fr} {S : Hp} {x : Val} {w : V} {u : Value} (r : Rel K S x w) (h : clsOf K x = some u) : ClsV w u := by
  cases x with
  | ty n => rw [rel_ty] at r; subst r; cases h; exact .ty n
  | ref C => rw [rel_ref] at r; subst r; cases h; exact .own C
  | _ => cases h
def clsAll (K : Fr) : List Val → Option (List Value)
  | [] => some []
  | x :: xs => (clsOf K x).bind fun u => (clsAll K xs).bind fun us => some (u :: us)
theorem clsVs_of {K : Fr} {S : Hp} : ∀ {xs : List Val} {ws : List V} {us : List Value}, Rels K S xs ws → clsAll K xs = some us → Paired ClsV ws us
  | [], _, _, r, h => by rw [rels_nil] at r; subst r; cases h; exact .nil
  | x :: xs, _, _, r, h => by
    rw [rels_cons] at r
    obtain ⟨w, ws, rfl, r1, r2⟩ := r
    unfold clsAll at h
    obtain ⟨u, e1, h⟩ := Option.bind_eq_some_iff.mp h
    obtain ⟨us, e2, h⟩ := Option.bind_eq_some_iff.mp h
    cases h
    exact .cons (clsV_of r1 e1) (clsVs_of r2 e2)
/-- the readings of isinstance(e, c), isinstance(e, (c1, c2, ..)) -/
def cErr (K : Fr) (C a dd : Addr) : WC := fun vs h Q => ∃ v x u b, vs = [.exc a dd v, x] ∧ clsOf K x = some u ∧ PySem.W.kitOne K (.ref C) u = some b ∧ Q (.bl b) h
def cErrT (K : Fr) (C a dd : Addr) : WC := fun vs h Q => ∃ v xs us b, vs = [.exc a dd v, .tup xs] ∧ clsAll K xs = some us ∧ PySem.W.kitAny K (.ref C) us = some b ∧ Q (.bl b) h
theorem s_err {K : Fr} {C a dd : Addr} : SndC K (cErr K C a dd) (rErr K C a dd) := fun S F H h xs vs Q' Q r rx q lq => by
  obtain ⟨v, x, u, b, rfl, e, k, q⟩ := q
  rw [rels_cons] at rx
  obtain ⟨w, ws, rfl, r1, rx⟩ := rx
  rw [rels_cons] at rx
  obtain ⟨w2, ws2, rfl, r2, rx⟩ := rx
  rw [rels_nil] at rx
  subst rx
  rw [rel_exc] at r1
  obtain ⟨rfl, y, hy, _⟩ := r1
  exact ⟨w2, u, _, b, rfl, r.sub _ _ hy, clsV_of r2 e, k, lq _ _ S _ _ q (Sub.refl S) r (rel_bl.mpr rfl)⟩
theorem s_errT {K : Fr} {C a dd : Addr} : SndC K (cErrT K C a dd) (rErrT K C a dd) := fun S F H h xs vs Q' Q r rx q lq => by
  obtain ⟨v, x, u, b, rfl, e, k, q⟩ := q
  rw [rels_cons] at rx
  obtain ⟨w, ws, rfl, r1, rx⟩ := rx
  rw [rels_cons] at rx
  obtain ⟨w2, ws2, rfl, r2, rx⟩ := rx
  rw [rels_nil] at rx
  subst rx
  rw [rel_exc] at r1
  obtain ⟨rfl, y, hy, _⟩ := r1
  rw [rel_tup] at r2
  obtain ⟨tp, cs, rfl, ht, r3⟩ := r2
  exact ⟨tp, cs, u, _, b, rfl, r.sub _ _ hy, r.sub _ _ ht, clsVs_of r3 e, k, lq _ _ S _ _ q (Sub.refl S) r (rel_bl.mpr rfl)⟩
/-! ### e.what -/
section
variable {X : Cx} {W : WX} {pos : Pos} {a C dd : Addr} {oe : Obj} {pn : List (Addr × Obj)} {e : Expr} {te : WE}
def wXf (a dd : Addr) (te : WE) : WE := fun ρ h E Q => te ρ h E fun x h1 => ∃ v, x = .exc a dd v ∧ Q v h1
theorem zxf (c : ErrC X.K C) (hz : Zc (.ref C) (some dd) oe) (hf : ∃ vs, oe.data = .fields vs) (he : ZE (X.suite a ((a, oe) :: pn)) W e te) (hb : attributeBase e "what" X.env (eval e X.env) = eval e X.env := by rfl) :
    ZE (X.suite a ((a, oe) :: pn)) W (.Attribute e "what" pos) (wXf a dd te) :=
  ⟨pe_imp (pe_xf (te := lE X.K W te) ⟨c.g1, c.g2, c.g3, c.g4⟩ c.g9 hz hf he.pe hb) fun σ H Q ⟨S, F, ρ, h, E', Q', r, rl, q, lq, lx⟩ =>
    ⟨S, F, ρ, h, E', _, r, rl, q, fun x h1 S1 w H1 q1 s1 r1 x1 => by
      obtain ⟨v, rfl, q1⟩ := q1
      rw [rel_exc] at x1
      obtain ⟨rfl, u, hu, ru⟩ := x1
      exact ⟨rfl, rfl, dd, _, u, rfl, r1.sub _ _ hu, by simp, lq _ _ _ _ _ q1 s1 r1 ru⟩, lx⟩⟩
end
/-! ### try -/
section
variable {X : Cx} {W : WX} {x n : Str} {c : Addr} {i : Nat} {body suite : List Stmt} {b₀ : Stmt} {np pos pos' : Pos} {tb : WS} {ts : Addr → Addr → Addr → WS} {subs nots : List Addr}
/-- try: tb / except of subs as slot i: ts (of nots: not caught) -/
def wTryAs (subs nots : List Addr) (i : Nat) (tb : WS) (ts : Addr → Addr → Addr → WS) : WS := fun nx rt bk ct xe ρ h =>
  tb nx rt bk ct (fun C v ρ1 h1 => (C ∈ subs ∧ ∀ a dd, h1 a = none → ts a C dd (fun ρ2 h2 => nx (ρ2.set i none) h2) rt (fun ρ2 h2 => bk (ρ2.set i none) h2) (fun ρ2 h2 => ct (ρ2.set i none) h2) (fun _ _ _ _ => False) (ρ1.set i (some (.exc a dd v))) h1) ∨ (C ∈ nots ∧ xe C v ρ1 h1)) ρ h
theorem ln_unset {K : Fr} {S F : Hp} {nx : EH} {N : L2.St → Hp → Prop} (i : Nat) (l : LN K S F nx N) : LN K S F (fun ρ h => nx (ρ.set i none) h) (fun σ H => N (σ.set i none) H) := fun ρ h' S' σ H' q s r rl => l _ _ _ _ _ q s r (rl.unset i)
theorem lxs_no {K : Fr} {S F : Hp} {W : WX} : LXS K S F (fun _ _ _ _ => False) W := fun _ _ _ _ _ _ _ _ _ z => z.elim
theorem zs_try_as (hs : X.stack = X.env :: X.outer) (hf : X.env.frame = some X.env.locals) (hN : X.N.Nodup) (hi : X.N[i]? = some n) (hln : X.env.kindOf n = some .local) (hc : Names X x (.ref c)) (tk : Takes X W)
    (hsub : ∀ C ∈ subs, PySem.W.exmOne X.K (.ref C) (.ref c) = some true) (hnot : ∀ C ∈ nots, PySem.W.exmOne X.K (.ref C) (.ref c) = some false)
    (hb : ∀ (W' : WX) (pn : List (Addr × Obj)) (xe : Value → Shared → Prop), Takes (X.tr pn xe) W' → PassesOwn (model X.prog X.w) X.A X.env xe → ZB (X.tr pn xe) W' body tb)
    (hsu : ∀ (a : Addr) (oe : Obj) (C dd : Addr) (pn : List (Addr × Obj)), C ∈ subs → Zc (.ref C) (some dd) oe → (∃ vs, oe.data = .fields vs) → ZB (X.suite a ((a, oe) :: pn)) WF (b₀ :: suite) (ts a C dd)) :
    ZS X W (.Try body [.ExceptHandler (some (.Name x np)) (some n) (b₀ :: suite) pos'] [] [] pos) (wTryAs subs nots i tb ts) :=
  ⟨ps_imp (ps_try_as (tb := fun W' => lS X.K W' tb) (ts := fun a cls d D σ H => ∃ C dd, C ∈ subs ∧ cls = .ref C ∧ d = some dd ∧ lS X.K WF (ts a C dd) D σ H) (Wout := W) hs hf hN hi hln hc tk (fun W' pn xe tk' ps' => (hb W' pn xe tk' ps').pss)
      (fun a oe cls d pn hz hv => ⟨fun pins s σ H D I ⟨C, dd, hC, e1, e2, h⟩ => by
        subst e1 e2
        exact (hsu a oe C dd pn hC hz hv).pss.run pins s σ H D I h⟩))
    fun D σ H ⟨S, F, ρ, h, nx, rt, bk, ct, xe, r, rl, q, ln, lr, lb, lc, lx⟩ => ⟨S, F, ρ, h, nx, rt, bk, ct, _, r, rl, q, ln, lr, lb, lc, fun C v ρ1 h1 S1 w d σ1 H1 q1 s1 r1 rl1 rv hd => by
      rcases q1 with ⟨hC, q1⟩ | ⟨hC, q1⟩
      · refine ⟨true, hsub C hC, fun _ a na => ⟨C, d, hC, rfl, rfl, S1, F, _, h1, _, rt, _, _, _, r1, rl1.set i (rel_exc.mpr ⟨rfl, w, hd, rv⟩), q1 a d (r1.fresh na), ln_unset i (ln.mono s1), lr.mono s1, ln_unset i (lb.mono s1), ln_unset i (lc.mono s1), lxs_no⟩, (fun z => by cases z)⟩
      · exact ⟨false, hnot C hC, (fun z => by cases z), fun _ => lx C v ρ1 h1 S1 w d σ1 H1 q1 s1 r1 rl1 rv hd⟩⟩⟩
end
theorem all_nil {α : Type} {P : α → Prop} : ∀ x ∈ ([] : List α), P x := fun _ h => by simp at h
theorem all_cons {α : Type} {P : α → Prop} {a : α} {l : List α} (h : P a) (r : ∀ x ∈ l, P x) : ∀ x ∈ a :: l, P x := fun x hx => by
  rcases List.mem_cons.mp hx with rfl | hx
  · exact h
  · exact r x hx
theorem ze_imp {X : Cx} {W : WX} {e : Expr} {t t' : WE} (h : ZE X W e t) (i : ∀ ρ h E Q, t' ρ h E Q → t ρ h E Q) : ZE X W e t' :=
  ⟨pe_imp h.pe fun σ H Q ⟨S, F, ρ, h, E', Q', r, rl, q, lq, lx⟩ => ⟨S, F, ρ, h, E', Q', r, rl, i _ _ _ _ q, lq, lx⟩⟩
/-- an own class as a value -/
theorem zcls {X : Cx} {W : WX} {x : Str} {C : Addr} {pos : Pos} (hg : Gl X x) (hm : X.mg x = some (.ref C)) (hd : (x == ("__debug__" : Str)) = false := by decide) : ZE X W (.Name x pos) (wC (.ref C)) :=
  zglob (w := .ref C) hg hm rfl (fun _ => rel_ref.mpr rfl) hd
/-- isinstance of the held error: the answer is known -/
def wErrIs (b : Bool) (a dd : Addr) (i : Nat) : WE := fun ρ h E Q => ∃ v, ρ[i]? = some (some (.exc a dd v)) ∧ Q (.bl b) h
/-- classes, none of which is the error's -/
inductive ZNo (X : Cx) (W : WX) (K : Fr) (C : Addr) : List Expr → List Val → List Value → Prop where
  | nil : ZNo X W K C [] [] []
  | cons {e : Expr} {es : List Expr} {D : Addr} {xs : List Val} {us : List Value} (h : ZE X W e (wC (.ref D))) (k : PySem.W.kitOne K (.ref C) (.ref D) = some false) (r : ZNo X W K C es xs us)
      (hs : starEach (e :: es) X.env = (false, eval e X.env) :: starEach es X.env := by rfl) : ZNo X W K C (e :: es) (.ref D :: xs) (.ref D :: us)
def wVals : List Val → WA
  | [] => wNil
  | x :: xs => wCons (wC x) (wVals xs)
theorem wVals_of : ∀ (xs : List Val) {ρ h E} {Q : List Val → Hh → Prop}, Q xs h → wVals xs ρ h E Q
  | [], _, _, _, _, q => q
  | x :: xs, ρ, h, E, Q, q => wVals_of xs (Q := fun ys h2 => Q (x :: ys) h2) q
theorem ZNo.za {X : Cx} {W : WX} {K : Fr} {C : Addr} : ∀ {es : List Expr} {xs : List Val} {us : List Value}, ZNo X W K C es xs us → ZA X W es (wVals xs)
  | _, _, _, .nil => za_nil
  | _, _, _, .cons h k r hs => za_cons h r.za hs
theorem ZNo.cls {X : Cx} {W : WX} {K : Fr} {C : Addr} : ∀ {es : List Expr} {xs : List Val} {us : List Value}, ZNo X W K C es xs us → clsAll K xs = some us
  | _, _, _, .nil => rfl
  | _, _, _, .cons h k r hs => by
    unfold clsAll
    rw [r.cls]
    rfl
theorem ZNo.kit {X : Cx} {W : WX} {K : Fr} {C : Addr} : ∀ {es : List Expr} {xs : List Val} {us : List Value}, ZNo X W K C es xs us → PySem.W.kitAny K (.ref C) us = some false
  | _, _, _, .nil => kitAny_nil
  | _, _, _, .cons h k r hs => kitAny_cons k (fun _ => r.kit) (fun z => by cases z)
theorem ZNo.len {X : Cx} {W : WX} {K : Fr} {C : Addr} : ∀ {es : List Expr} {xs : List Val} {us : List Value}, ZNo X W K C es xs us → xs.length = es.length
  | _, _, _, .nil => rfl
  | _, _, _, .cons h k r hs => by simp [r.len]
section
variable {X : Cx} {W : WX} {pos p : Pos} {a C dd : Addr} {oe : Obj} {pn : List (Addr × Obj)} {e x : Expr} {i : Nat} {u : Value} {b : Bool} {cv : Val}
theorem zerr_is (c : ErrC X.K C) (hz : Zc (.ref C) (some dd) oe) (hf : ∃ vs, oe.data = .fields vs) (hg : Gl (X.suite a ((a, oe) :: pn)) "isinstance") (hm : X.mg "isinstance" = none) (ha : ZA (X.suite a ((a, oe) :: pn)) W [e, x] (wCons (wVar i) (wCons (wC cv) wNil))) (hu : clsOf X.K cv = some u) (k : PySem.W.kitOne X.K (.ref C) u = some b)
    (he : starEach [e, x] X.env = (false, eval e X.env) :: starEach [x] X.env := by rfl) (hpl : (backTo pos (starEach [x] X.env)).any (·.1) = false := by rfl) :
    ZE (X.suite a ((a, oe) :: pn)) W (.Call (.Name "isinstance" p) [e, x] [] pos) (wErrIs b a dd i) :=
  ze_imp (zcallB (X := X.suite a ((a, oe) :: pn)) (call_err c hz hf) s_err hg hm (by decide +kernel) ha (he := he) (hpl := hpl)) fun ρ h E Q ⟨v, ev, q⟩ => ⟨_, ev, v, cv, u, b, rfl, hu, k, q⟩
theorem zerr_no {es : List Expr} {xs : List Val} {us : List Value} {x1 : Pos} (c : ErrC X.K C) (hz : Zc (.ref C) (some dd) oe) (hf : ∃ vs, oe.data = .fields vs) (hg : Gl (X.suite a ((a, oe) :: pn)) "isinstance") (hm : X.mg "isinstance" = none) (hv : ZE (X.suite a ((a, oe) :: pn)) W e (wVar i)) (zn : ZNo (X.suite a ((a, oe) :: pn)) W X.K C es xs us) (hl : xs.length ≤ 1000)
    (he : starEach [e, .Tuple es c0 x1] X.env = (false, eval e X.env) :: starEach [.Tuple es c0 x1] X.env := by rfl) (he2 : starEach [.Tuple es c0 x1] X.env = (false, eval (.Tuple es c0 x1) X.env) :: starEach [] X.env := by rfl) (hpl : (backTo pos (starEach [.Tuple es c0 x1] X.env)).any (·.1) = false := by rfl) :
    ZE (X.suite a ((a, oe) :: pn)) W (.Call (.Name "isinstance" p) [e, .Tuple es c0 x1] [] pos) (wErrIs false a dd i) :=
  ze_imp (zcallB (X := X.suite a ((a, oe) :: pn)) (call_errT c hz hf) s_errT hg hm (by decide +kernel) (za_cons hv (za_cons (ztup zn.za) za_nil he2) he) (he := he) (hpl := hpl)) fun ρ h E Q ⟨v, ev, q⟩ =>
    ⟨_, ev, wVals_of xs (Q := fun ys h2 => small ys.length ∧ _) ⟨by unfold small; omega, v, xs, us, false, rfl, zn.cls, zn.kit, q⟩⟩
end
/-! ZI -/
/-! more of lists: extend, insert, clear, times -/
/-- a list whose items can be read: owned, or never changed again -/
inductive Lsq (h : Hh) : Val → List Val → Prop where
  | lst (xs) : Lsq h (.lst xs) xs
  | ref {a xs} : h a = some (.lst xs) → Lsq h (.ref a) xs
theorem Lsq.l {K : Fr} {S F H : Hp} {h : Hh} {x : Val} {xs : List Val} {v : V} (q : Lsq h x xs) (r : R K S F H h) (rx : Rel K S x v) : ∃ b ws, v = .ref b ∧ H b = some (.lst ws) ∧ Rels K S xs ws := by
  cases q with
  | lst =>
    rw [rel_lst] at rx
    obtain ⟨a, ws, rfl, h1, h2⟩ := rx
    exact ⟨a, ws, rfl, r.sub _ _ h1, h2⟩
  | ref e =>
    rw [rel_ref] at rx
    obtain ⟨_, u, h1, ws, rfl, h2⟩ := r.own _ _ e
    exact ⟨_, ws, rx, h1, h2⟩
def mInsert : WM := fun x vs h Q => ∃ l xs i y, x = .ref l ∧ vs = [.int i, y] ∧ h l = some (.lst xs) ∧ xs.length < 16000000 ∧ 0 ≤ i ∧ i < 2 ^ 63 ∧ Q .non (hup h l (.lst (xs.take i.toNat ++ [y] ++ xs.drop i.toNat)))
theorem s_insert {K : Fr} : SndM K mInsert (fun x vs H Q => ∃ (l : Addr) (xs : List V) (i : Int) (y : V), x = .ref l ∧ vs = [.int i, y] ∧ H l = some (.lst xs) ∧ xs.length < sizeLine ∧ 0 ≤ i ∧ i < 2 ^ 63 ∧
    Q .non (upd H l (.lst (xs.take i.toNat ++ [y] ++ xs.drop i.toNat)))) := fun S F H h x v xs vs Q' Q r rx rxs q lq => by
  obtain ⟨l, ys, i, y, rfl, rfl, e, hl, b1, b2, q⟩ := q
  rw [rels_cons] at rxs
  obtain ⟨w1, r1, rfl, x1, rxs⟩ := rxs
  obtain ⟨w2, rfl, x2⟩ := rels_1 rxs
  rw [rel_ref] at rx
  rw [rel_int] at x1
  subst x1
  obtain ⟨_, u, h1, ws, rfl, h2⟩ := r.own _ _ e
  have hz := sizeLine_eq
  exact ⟨l, ws, i, w2, rx, rfl, h1, by rw [← h2.length]; omega, b1, b2, lq _ _ S _ _ q (Sub.refl S) (r.store e ⟨_, rfl, ((h2.take _).app (Rels.one x2)).app (h2.drop _)⟩) (rel_non.mpr rfl)⟩
/-- [..] * n -/
def wRep : W2 := fun x y h Q => ∃ xs k, Lsq h x xs ∧ y = .int k ∧ -(2 ^ 63) ≤ k ∧ k < 2 ^ 63 ∧ small (xs.length * k.toNat) ∧ NewL (List.replicate k.toNat xs).flatten h Q
theorem rels_rep {K : Fr} {S : Hp} {xs : List Val} {ws : List V} (r : Rels K S xs ws) : ∀ n : Nat, Rels K S (List.replicate n xs).flatten (List.replicate n ws).flatten
  | 0 => rels_nil.mpr rfl
  | n + 1 => by
    rw [List.replicate_succ, List.replicate_succ, List.flatten_cons, List.flatten_cons]
    exact r.app (rels_rep r n)
theorem s_rep {K : Fr} : Snd2 K wRep rRep := fun S F H h x y v w Q' Q r rx ry q lq => by
  obtain ⟨xs, k, sq, rfl, b1, b2, hs, q⟩ := q
  obtain ⟨b, ws, rfl, h1, h2⟩ := sq.l r rx
  rw [rel_int] at ry
  exact ⟨b, k, ws, rfl, ry, h1, b1, b2, by rw [← h2.length]; exact hs.line, fun p hp => newl r (rels_rep h2 _) q lq hp⟩
theorem i_insert {l : Addr} {xs : List Val} {i : Int} {y : Val} {h : Hh} {Q : KQ} (e : h l = some (.lst xs)) (hs : xs.length < 16000000) (b1 : 0 ≤ i) (b2 : i < 2 ^ 63) (q : Q .non (hup h l (.lst (xs.take i.toNat ++ [y] ++ xs.drop i.toNat)))) : mInsert (.ref l) [.int i, y] h Q := ⟨l, xs, i, y, rfl, rfl, e, hs, b1, b2, q⟩
theorem i_rep {x : Val} {xs : List Val} {k : Int} {h : Hh} {Q : KQ} (sq : Lsq h x xs) (b1 : -(2 ^ 63) ≤ k) (b2 : k < 2 ^ 63) (hs : xs.length * k.toNat ≤ 16000000) (q : NewL (List.replicate k.toNat xs).flatten h Q) : wRep x (.int k) h Q := ⟨xs, k, sq, rfl, b1, b2, hs, q⟩
/-! ### a list of lists, each owned -/
structure Nest (h : Hh) (a : Addr) (bs : List Addr) (xss : List (List Val)) : Prop where
  top : h a = some (.lst (bs.map Val.ref))
  len : bs.length = xss.length
  each : ∀ (i : Nat) (b : Addr) (xs : List Val), bs[i]? = some b → xss[i]? = some xs → h b = some (.lst xs)
  nd : (a :: bs).Nodup
section
variable {h h' : Hh} {a b : Addr} {bs : List Addr} {xss : List (List Val)} {xs : List Val} {i : Nat}
theorem Nest.keep (N : Nest h a bs xss) (k : ∀ c, c ∈ a :: bs → h' c = h c) : Nest h' a bs xss :=
  ⟨by rw [k a (by simp)]; exact N.top, N.len, fun i b xs e1 e2 => by rw [k b (List.mem_cons_of_mem _ (List.mem_of_getElem? e1))]; exact N.each i b xs e1 e2, N.nd⟩
theorem Nest.at (N : Nest h a bs xss) (e : xss[i]? = some xs) : ∃ b, bs[i]? = some b ∧ h b = some (.lst xs) ∧ b ≠ a := by
  have hi : i < bs.length := by rw [N.len]; exact (List.getElem?_eq_some_iff.mp e).1
  refine ⟨bs[i], List.getElem?_eq_getElem hi, N.each i _ xs (List.getElem?_eq_getElem hi) e, fun z => ?_⟩
  have := (List.nodup_cons.mp N.nd).1
  exact this (z ▸ List.getElem_mem hi)
theorem Nest.val (N : Nest h a bs xss) (e : bs[i]? = some b) : (bs.map Val.ref)[i]? = some (.ref b) := by rw [List.getElem?_map, e]; rfl
/-- an inner list is changed -/
theorem Nest.inner (N : Nest h a bs xss) (e : bs[i]? = some b) (ys : List Val) : Nest (hup h b (.lst ys)) a bs (xss.set i ys) := by
  have nd := List.nodup_cons.mp N.nd
  have hba : a ≠ b := fun z => nd.1 (z ▸ List.mem_of_getElem? e)
  refine ⟨by rw [hup_ne hba]; exact N.top, by rw [List.length_set]; exact N.len, fun j c xs e1 e2 => ?_, N.nd⟩
  by_cases hj : j = i
  · subst hj
    rw [e] at e1
    cases e1
    have hj2 : j < xss.length := by rw [← N.len]; exact (List.getElem?_eq_some_iff.mp e).1
    rw [List.getElem?_set_self hj2] at e2
    cases e2
    exact hup_same
  · rw [List.getElem?_set_ne (Ne.symm hj)] at e2
    have hcb : c ≠ b := fun z => by
      subst z
      have h1 := (List.getElem?_eq_some_iff.mp e1).1
      have h2 := (List.getElem?_eq_some_iff.mp e).1
      exact hj ((List.getElem?_inj h1 nd.2).mp (e1.trans e.symm))
    rw [hup_ne hcb]
    exact N.each j c xs e1 e2
/-- the outer list is changed -/
theorem Nest.outer {bs' : List Addr} {xss' : List (List Val)} (hl : bs'.length = xss'.length) (he : ∀ (i : Nat) (b : Addr) (xs : List Val), bs'[i]? = some b → xss'[i]? = some xs → h b = some (.lst xs)) (hn : (a :: bs').Nodup) : Nest (hup h a (.lst (bs'.map Val.ref))) a bs' xss' := by
  have nd := List.nodup_cons.mp hn
  refine ⟨hup_same, hl, fun j c xs e1 e2 => ?_, hn⟩
  rw [hup_ne (fun z => by subst z; exact nd.1 (List.mem_of_getElem? e1))]
  exact he j c xs e1 e2
theorem Nest.erase (N : Nest h a bs xss) (i : Nat) : Nest (hup h a (.lst ((bs.map Val.ref).eraseIdx i))) a (bs.eraseIdx i) (xss.eraseIdx i) := by
  have nd := List.nodup_cons.mp N.nd
  rw [show (bs.map Val.ref).eraseIdx i = (bs.eraseIdx i).map Val.ref by rw [List.eraseIdx_eq_take_drop_succ, List.eraseIdx_eq_take_drop_succ, List.map_append, List.map_take, List.map_drop]]
  refine Nest.outer (by rw [List.length_eraseIdx, List.length_eraseIdx, N.len]) (fun j b xs e1 e2 => ?_) (List.nodup_cons.mpr ⟨fun z => nd.1 (List.mem_of_mem_eraseIdx z), nd.2.eraseIdx i⟩)
  rw [List.getElem?_eraseIdx] at e1 e2
  split at e1
  · rename_i hj
    rw [if_pos hj] at e2
    exact N.each j b xs e1 e2
  · rename_i hj
    rw [if_neg hj] at e2
    exact N.each (j + 1) b xs e1 e2
theorem Nest.clear : Nest (hup h a (.lst [])) a [] [] := ⟨hup_same, rfl, fun i b xs e => by simp at e, by simp⟩
/-- a new inner list is put somewhere -/
theorem Nest.app (N : Nest h a bs xss) (hb : h b = none) : Nest (hup (hup h b (.lst xs)) a (.lst (bs.map Val.ref ++ [.ref b]))) a (bs ++ [b]) (xss ++ [xs]) := by
  have nd := List.nodup_cons.mp N.nd
  have e : bs.map Val.ref ++ [.ref b] = (bs ++ [b]).map Val.ref := by simp
  have hnb : b ∉ bs := fun z => by
    obtain ⟨i, hi, rfl⟩ := List.getElem_of_mem z
    have := N.each i bs[i] (xss[i]'(N.len ▸ hi)) (List.getElem?_eq_getElem hi) (List.getElem?_eq_getElem _)
    rw [hb] at this
    cases this
  have hba : b ≠ a := fun z => by subst z; rw [N.top] at hb; cases hb
  rw [e]
  refine Nest.outer (by simp [N.len]) (fun j c ys e1 e2 => ?_) ?_
  · by_cases hj : j < bs.length
    · rw [List.getElem?_append_left hj] at e1
      rw [List.getElem?_append_left (N.len ▸ hj)] at e2
      rw [hup_ne (fun z => by subst z; exact hnb (List.mem_of_getElem? e1))]
      exact N.each j c ys e1 e2
    · rw [List.getElem?_append_right (by omega)] at e1
      rw [List.getElem?_append_right (by rw [← N.len]; omega), ← N.len] at e2
      cases hz : j - bs.length with
      | zero =>
        rw [hz] at e1 e2
        simp at e1 e2
        subst e1 e2
        exact hup_same
      | succ n =>
        rw [hz] at e1
        simp at e1
  · rw [List.nodup_cons]
    refine ⟨by simp [nd.1, hba.symm], ?_⟩
    rw [List.nodup_append]
    exact ⟨nd.2, by simp, fun x hx y hy => by simp at hy; subst hy; exact fun z => hnb (z ▸ hx)⟩
/-- one of the addresses is new beside the others -/
theorem Nest.fresh (N : Nest h a bs xss) {c : Addr} (hc : h c = none) : c ∉ a :: bs := fun z => by
  rcases List.mem_cons.mp z with rfl | z
  · rw [N.top] at hc; cases hc
  · obtain ⟨i, hi, rfl⟩ := List.getElem_of_mem z
    have := N.each i bs[i] (xss[i]'(N.len ▸ hi)) (List.getElem?_eq_getElem hi) (List.getElem?_eq_getElem _)
    rw [hc] at this
    cases this
end
def hdelL (L : List Addr) (h : Hh) : Hh := fun b => if b ∈ L then none else h b
theorem hdelL_nil {h : Hh} : hdelL [] h = h := by funext b; simp [hdelL]
theorem hdelL_cons {h : Hh} {a : Addr} {L : List Addr} : hdelL (a :: L) h = hdelL L (hdel h a) := by
  funext b
  unfold hdelL hdel
  by_cases e : b = a
  · subst e
    simp
  · simp [e]
theorem hdelL_snoc {h : Hh} {a : Addr} {L : List Addr} : hdelL (a :: L) h = hdel (hdelL L h) a := by
  funext b
  unfold hdelL hdel
  by_cases e : b = a
  · subst e
    simp
  · simp [e]
theorem hdelL_out {h : Hh} {b : Addr} {L : List Addr} (n : b ∉ L) : hdelL L h b = h b := by unfold hdelL; rw [if_neg n]
theorem hdelL_in {h : Hh} {b : Addr} {L : List Addr} (n : b ∈ L) : hdelL L h b = none := by unfold hdelL; rw [if_pos n]
theorem R.freezeL {K : Fr} {S F H : Hp} : ∀ (bs : List Addr) {h : Hh} {S : Hp}, R K S F H h → bs.Nodup → (∀ b ∈ bs, ∃ xs, h b = some (.lst xs)) →
    ∃ S2, Sub S S2 ∧ R K S2 F H (hdelL bs h) ∧ ∀ b ∈ bs, ∀ xs, h b = some (.lst xs) → ∃ ws, S2 b = some (.lst ws) ∧ Rels K S2 xs ws
  | [], h, S, r, _, _ => ⟨S, Sub.refl S, by rw [hdelL_nil]; exact r, fun b hb => by simp at hb⟩
  | b :: bs, h, S, r, nd, hx => by
    obtain ⟨xs, e⟩ := hx b (by simp)
    obtain ⟨u, ⟨ws, rfl, x2⟩, r2, s2⟩ := r.freeze e
    have nd2 := List.nodup_cons.mp nd
    obtain ⟨S3, s3, r3, h3⟩ := R.freezeL (F := F) (H := H) (S := S) bs r2 nd2.2 (fun c hc => by
      have hcb : c ≠ b := fun z => nd2.1 (z ▸ hc)
      rw [hdel_ne hcb]
      exact hx c (by simp [hc]))
    refine ⟨S3, s2.trans s3, by rw [hdelL_cons]; exact r3, fun c hc ys ec => ?_⟩
    rcases List.mem_cons.mp hc with rfl | hc
    · rw [e] at ec
      cases ec
      exact ⟨ws, s3 _ _ upd_same, Rels.mono (s2.trans s3) _ _ x2⟩
    · have hcb : c ≠ b := fun z => nd2.1 (z ▸ hc)
      exact h3 c hc ys (by rw [hdel_ne hcb]; exact ec)
theorem rels_refs {K : Fr} {S : Hp} : ∀ {bs : List Addr} {ws : List V}, Rels K S (bs.map Val.ref) ws → ws = bs.map V.ref
  | [], ws, h => by simpa using rels_nil.mp h
  | b :: bs, ws, h => by
    rw [List.map_cons, rels_cons] at h
    obtain ⟨w, r, rfl, h1, h2⟩ := h
    rw [rel_ref] at h1
    rw [rels_refs h2, h1]
    rfl
theorem rels_lists {K : Fr} {S : Hp} : ∀ {bs : List Addr} {xss : List (List Val)}, bs.length = xss.length → (∀ (i : Nat) (b : Addr) (xs : List Val), bs[i]? = some b → xss[i]? = some xs → ∃ ws, S b = some (.lst ws) ∧ Rels K S xs ws) → Rels K S (xss.map Val.lst) (bs.map V.ref)
  | [], [], _, _ => rels_nil.mpr rfl
  | [], _ :: _, h, _ => by cases h
  | _ :: _, [], h, _ => by cases h
  | b :: bs, xs :: xss, hl, h => by
    rw [List.map_cons, List.map_cons, rels_cons]
    obtain ⟨ws, e1, e2⟩ := h 0 b xs rfl rfl
    exact ⟨_, _, rfl, rel_lst.mpr ⟨b, ws, rfl, e1, e2⟩, rels_lists (by simpa using hl) fun i c ys e1 e2 => h (i + 1) c ys (by simpa using e1) (by simpa using e2)⟩
theorem Good.nest {K : Fr} {Q : KQ} (g : Good K Q) {a : Addr} {bs : List Addr} {xss : List (List Val)} {h : Hh} (N : Nest h a bs xss) (q : Q (.lst (xss.map Val.lst)) (hdelL (a :: bs) h)) : Q (.ref a) h :=
  g _ _ _ _ (fun S F H w r x => by
    have nd := List.nodup_cons.mp N.nd
    obtain ⟨S2, s2, r2, h2⟩ := R.freezeL (S := S) bs r nd.2 fun b hb => by
      obtain ⟨i, hi, rfl⟩ := List.getElem_of_mem hb
      exact ⟨_, N.each i bs[i] (xss[i]'(N.len ▸ hi)) (List.getElem?_eq_getElem hi) (List.getElem?_eq_getElem _)⟩
    have ha : hdelL bs h a = some (.lst (bs.map Val.ref)) := by rw [hdelL_out nd.1]; exact N.top
    obtain ⟨u, ⟨ws, rfl, x3⟩, r3, s3⟩ := r2.freeze ha
    rw [rel_ref] at x
    refine ⟨_, s2.trans s3, by rw [hdelL_snoc]; exact r3, rel_lst.mpr ⟨a, _, x, upd_same, ?_⟩⟩
    have e4 := rels_refs x3
    subst e4
    refine Rels.mono s3 _ _ (rels_lists N.len fun i b xs e1 e2 => ?_)
    exact h2 b (List.mem_of_getElem? e1) xs (N.each i b xs e1 e2)) q
/-! ### steps -/
theorem i_tryAs {subs nots : List Addr} {i : Nat} {tb : WS} {ts : Addr → Addr → Addr → WS} {nx : EH} {rt : KQ} {bk ct : EH} {xe : XS} {ρ : Ev} {h : Hh}
    (q : tb nx rt bk ct (fun C v ρ1 h1 => (C ∈ subs ∧ ∀ a dd, h1 a = none → ts a C dd (fun ρ2 h2 => nx (ρ2.set i none) h2) rt (fun ρ2 h2 => bk (ρ2.set i none) h2) (fun ρ2 h2 => ct (ρ2.set i none) h2) (fun _ _ _ _ => False) (ρ1.set i (some (.exc a dd v))) h1) ∨ (C ∈ nots ∧ xe C v ρ1 h1)) ρ h) : wTryAs subs nots i tb ts nx rt bk ct xe ρ h := q
theorem i_xf {a dd : Addr} {i : Nat} {v : Val} {ρ : Ev} {h : Hh} {E : XQ} {Q : KQ} (e : ρ[i]? = some (some (.exc a dd v))) (q : Q v h) : wXf a dd (wVar i) ρ h E Q := ⟨_, e, v, rfl, q⟩
theorem i_errIs {b : Bool} {a dd : Addr} {i : Nat} {v : Val} {ρ : Ev} {h : Hh} {E : XQ} {Q : KQ} (e : ρ[i]? = some (some (.exc a dd v))) (q : Q (.bl b) h) : wErrIs b a dd i ρ h E Q := ⟨v, e, q⟩
theorem i_bm0 {T : String} {r : WM} {to : WE} {ρ : Ev} {h : Hh} {E : XQ} {Q : KQ} (q : to ρ h E fun x h1 => TyM h1 T x ∧ r x [] h1 Q) : wBM0 T r to ρ h E Q := q
theorem i_intB {k : Bool} {h : Hh} {Q : KQ} (q : Q (.int (if k then 1 else 0)) h) : cInt [.bl k] h Q := .inr ⟨k, rfl, q⟩
theorem i_intI {k : Int} {h : Hh} {Q : KQ} (q : Q (.int k) h) : cInt [.int k] h Q := .inl ⟨k, rfl, q⟩
/-! ### a list unpacked -/
def wgUnl (n : Nat) (t : WGs) : WG := fun v ρ h Q => ∃ xs, Seqq h v xs ∧ xs.length = n ∧ t xs ρ h Q
theorem i_wgunl {n : Nat} {t : WGs} {xs : List Val} {ρ h} {Q : EH} (e : xs.length = n) (q : t xs ρ h Q) : wgUnl n t (.lst xs) ρ h Q := ⟨xs, .lst xs, e, q⟩
/-! LC1 -/
/-! the steps: one macro -/
local macro_rules | `(tactic| walk_at "hlk") => `(tactic| first | assumption | with_reducible exact hup_same | ((with_reducible refine' (hup_ne ?nn).trans ?tt); (case nn => first | assumption | (refine Ne.symm ?_; assumption)); (case tt => walk_at "hlk")))
local macro_rules | `(tactic| walk_at "zgo") => `(tactic| repeat (first
  | with_reducible refine i_seq ?_
  | with_reducible refine i_op ?_
  | ((with_reducible refine g_var ?_); first
    | with_reducible refine i_var0 ?_
    | with_reducible refine i_var1 ?_
    | with_reducible refine i_var2 ?_
    | with_reducible refine i_var3 ?_
    | with_reducible refine i_var4 ?_
    | with_reducible refine i_var5 ?_
    | with_reducible refine i_var6 ?_
    | with_reducible refine i_var7 ?_
    | with_reducible refine i_var8 ?_
    | with_reducible refine i_var9 ?_
    | with_reducible refine i_var10 ?_
    | with_reducible refine i_var11 ?_
    | with_reducible refine i_var12 ?_
    | with_reducible refine i_var13 ?_
    | with_reducible refine i_var14 ?_
    | with_reducible refine i_var15 ?_
    | with_reducible refine i_var16 ?_
    | with_reducible refine i_var17 ?_
    | with_reducible refine i_var18 ?_
    | with_reducible refine i_var19 ?_
    | with_reducible refine i_var20 ?_
    | with_reducible refine i_var21 ?_
    | with_reducible refine i_var22 ?_
    | with_reducible refine i_var23 ?_
    | with_reducible refine i_var24 ?_
    | with_reducible refine i_var25 ?_)
  | with_reducible refine i_c ?_
  | with_reducible refine i_cons ?_
  | with_reducible refine i_nil ?_
  | with_reducible refine i_asg ?_
  | ((with_reducible refine g_name ?_); first
    | with_reducible refine i_name0 ?_
    | with_reducible refine i_name1 ?_
    | with_reducible refine i_name2 ?_
    | with_reducible refine i_name3 ?_
    | with_reducible refine i_name4 ?_
    | with_reducible refine i_name5 ?_
    | with_reducible refine i_name6 ?_
    | with_reducible refine i_name7 ?_
    | with_reducible refine i_name8 ?_
    | with_reducible refine i_name9 ?_
    | with_reducible refine i_name10 ?_
    | with_reducible refine i_name11 ?_
    | with_reducible refine i_name12 ?_
    | with_reducible refine i_name13 ?_
    | with_reducible refine i_name14 ?_
    | with_reducible refine i_name15 ?_
    | with_reducible refine i_name16 ?_
    | with_reducible refine i_name17 ?_
    | with_reducible refine i_name18 ?_
    | with_reducible refine i_name19 ?_
    | with_reducible refine i_name20 ?_
    | with_reducible refine i_name21 ?_
    | with_reducible refine i_name22 ?_
    | with_reducible refine i_name23 ?_
    | with_reducible refine i_name24 ?_
    | with_reducible refine i_name25 ?_)
  | ((with_reducible refine g_tg1 ?_); first
    | with_reducible refine i_tg1_0 ?_
    | with_reducible refine i_tg1_1 ?_
    | with_reducible refine i_tg1_2 ?_
    | with_reducible refine i_tg1_3 ?_
    | with_reducible refine i_tg1_4 ?_
    | with_reducible refine i_tg1_5 ?_
    | with_reducible refine i_tg1_6 ?_
    | with_reducible refine i_tg1_7 ?_
    | with_reducible refine i_tg1_8 ?_
    | with_reducible refine i_tg1_9 ?_
    | with_reducible refine i_tg1_10 ?_
    | with_reducible refine i_tg1_11 ?_
    | with_reducible refine i_tg1_12 ?_
    | with_reducible refine i_tg1_13 ?_
    | with_reducible refine i_tg1_14 ?_
    | with_reducible refine i_tg1_15 ?_
    | with_reducible refine i_tg1_16 ?_
    | with_reducible refine i_tg1_17 ?_
    | with_reducible refine i_tg1_18 ?_
    | with_reducible refine i_tg1_19 ?_
    | with_reducible refine i_tg1_20 ?_
    | with_reducible refine i_tg1_21 ?_
    | with_reducible refine i_tg1_22 ?_
    | with_reducible refine i_tg1_23 ?_)
  | with_reducible refine i_yes ?_
  | with_reducible refine i_if ?_
  | with_reducible refine i_tv ?_
  | with_reducible refine i_bl ?_
  | with_reducible refine i_blV ?_
  | ((with_reducible refine g_if ?_); first
    | with_reducible refine iteT ?_
    | with_reducible refine iteF ?_
    | ((with_reducible refine' i_ifdt ?cc ?_); (case cc => first | decide | omega | assumption | decide +kernel))
    | ((with_reducible refine' i_ifdf ?cc ?_); (case cc => first | decide | omega | assumption | decide +kernel))
    | ((with_reducible refine' i_ifnt ?cc ?_); (case cc => first | decide | omega | assumption | decide +kernel))
    | ((with_reducible refine' i_ifnf ?cc ?_); (case cc => first | decide | omega | assumption | decide +kernel))
    | ((with_reducible refine' i_ift ?cc ?_); (case cc => first | assumption | rfl))
    | ((with_reducible refine' i_iff ?cc ?_); (case cc => first | assumption | rfl)))
  | with_reducible refine i_eqT ?_
  | with_reducible refine i_neT ?_
  | with_reducible refine i_eqI ?_
  | with_reducible refine i_neI ?_
  | with_reducible refine i_eqB ?_
  | with_reducible refine i_neB ?_
  | with_reducible refine i_lt ?_
  | with_reducible refine i_le ?_
  | with_reducible refine i_gt ?_
  | with_reducible refine i_ge ?_
  | with_reducible refine i_add ?_
  | with_reducible refine i_sub ?_
  | with_reducible refine i_and ?_
  | with_reducible refine i_or ?_
  | with_reducible refine i_not ?_
  | with_reducible refine i_andV ?_
  | with_reducible refine i_orV ?_
  | with_reducible refine i_notV ?_
  | with_reducible refine i_ifE ?_
  | with_reducible refine i_isN ?_
  | with_reducible refine i_notN ?_
  | with_reducible refine i_un ?_
  | with_reducible refine i_int1 ?_
  | with_reducible refine i_tup ?_
  | with_reducible refine i_lst ?_
  | ((with_reducible refine' i_small ?ss ?_); (case ss => first | decide | (simp only [List.length_cons, List.length_nil, List.length_map, List.length_append]; omega)))
  | with_reducible refine i_cb ?_
  | with_reducible refine i_call0 ?_
  | with_reducible refine i_call ?_
  | with_reducible refine i_meth0 ?_
  | with_reducible refine i_make0 ?_
  | with_reducible refine i_fld ?_
  | ((with_reducible refine' i_fldO ?ll ?_); (case ll => repeat (first | exact lk_hd | exact lk_nil | (refine lk_tl (by decide +kernel) ?_))))
  | ((with_reducible refine' i_fldR ?ee ?ll ?_); (case ee => walk_at "hlk"); (case ll => repeat (first | exact lk_hd | exact lk_nil | (refine lk_tl (by decide +kernel) ?_))))
  | ((with_reducible refine' i_mO ?ll ?_); (case ll => repeat (first | exact lk_hd | exact lk_nil | (refine lk_tl (by decide +kernel) ?_))))
  | ((with_reducible refine' i_mR ?ee ?ll ?_); (case ee => walk_at "hlk"); (case ll => repeat (first | exact lk_hd | exact lk_nil | (refine lk_tl (by decide +kernel) ?_))))
  | ((with_reducible refine' i_ixT ?at_ ?_); (case at_ => first | exact rfl | exact L2.atI_nat (j := 0) rfl | exact L2.atI_nat (j := 1) rfl))
  | ((with_reducible refine' i_ixL ?at_ ?_); (case at_ => first | exact rfl | exact L2.atI_nat (j := 0) rfl | exact L2.atI_nat (j := 1) rfl))
  | ((with_reducible refine' i_ixR ?hh ?at_ ?_); (case hh => walk_at "hlk"); (case at_ => first | exact rfl | exact L2.atI_nat (j := 0) rfl | exact L2.atI_nat (j := 1) rfl))
  | with_reducible refine i_fldS ?_
  | with_reducible refine i_bm ?_
  | ((with_reducible refine' i_tyL ?hh ?_); (case hh => walk_at "hlk"))
  | ((with_reducible refine' i_l2 ?xx ?yy ?_); (case xx => exact rfl); (case yy => exact rfl))
  | with_reducible refine i_callK ?_
  | with_reducible refine i_makeK ?_
  | with_reducible refine i_chain ?_
  | with_reducible refine i_raise ?_
  | with_reducible refine i_atx ?_
  | with_reducible refine i_lenO ?_
  | with_reducible refine i_sub_ ?_
  | with_reducible refine i_expr ?_
  | with_reducible refine i_ret ?_
  | with_reducible refine i_next ?_
  | with_reducible refine i_lc ?_
  | with_reducible refine i_r1 ?_
  | with_reducible refine i_iL ?_
  | with_reducible refine i_iT ?_
  | with_reducible refine i_itsF ?_
  | with_reducible refine i_itsS ?_
  | with_reducible refine i_itsT ?_
  | ((with_reducible refine' i_itsR ?hh ?_); (case hh => walk_at "hlk"))
  | with_reducible refine i_lenF ?_
  | with_reducible refine i_lenT ?_
  | ((with_reducible refine' i_lenR ?hh ?_); (case hh => walk_at "hlk"))
  | with_reducible refine i_listF ?_
  | with_reducible refine i_listT ?_
  | ((with_reducible refine' i_listR ?hh ?_); (case hh => walk_at "hlk"))
  | with_reducible refine i_tupF ?_
  | ((with_reducible refine' i_lenOR ?hh ?_); (case hh => walk_at "hlk"))
  | ((with_reducible refine' i_tupR ?hh ?_); (case hh => walk_at "hlk"))
  | ((with_reducible refine g_isi ?_); first
    | with_reducible refine i_isi_non_bool ?_
    | with_reducible refine i_isi_non_int ?_
    | with_reducible refine i_isi_non_str ?_
    | with_reducible refine i_isi_non_list ?_
    | with_reducible refine i_isi_non_tuple ?_
    | with_reducible refine i_isi_bl_bool ?_
    | with_reducible refine i_isi_bl_int ?_
    | with_reducible refine i_isi_bl_str ?_
    | with_reducible refine i_isi_bl_list ?_
    | with_reducible refine i_isi_bl_tuple ?_
    | with_reducible refine i_isi_int_bool ?_
    | with_reducible refine i_isi_int_int ?_
    | with_reducible refine i_isi_int_str ?_
    | with_reducible refine i_isi_int_list ?_
    | with_reducible refine i_isi_int_tuple ?_
    | with_reducible refine i_isi_str_bool ?_
    | with_reducible refine i_isi_str_int ?_
    | with_reducible refine i_isi_str_str ?_
    | with_reducible refine i_isi_str_list ?_
    | with_reducible refine i_isi_str_tuple ?_
    | with_reducible refine i_isi_tup_bool ?_
    | with_reducible refine i_isi_tup_int ?_
    | with_reducible refine i_isi_tup_str ?_
    | with_reducible refine i_isi_tup_list ?_
    | with_reducible refine i_isi_tup_tuple ?_
    | with_reducible refine i_isi_lst_bool ?_
    | with_reducible refine i_isi_lst_int ?_
    | with_reducible refine i_isi_lst_str ?_
    | with_reducible refine i_isi_lst_list ?_
    | with_reducible refine i_isi_lst_tuple ?_)
  | with_reducible refine i_max ?_
  | with_reducible refine i_min ?_
  | ((with_reducible refine' i_wgtup ?nn ?_); (case nn => exact rfl))
  | ((with_reducible refine' i_rngB ?aa ?bb ?_); (case aa => first | decide | omega); (case bb => first | decide | omega))
  | with_reducible refine i_for ?_
  | with_reducible refine i_while ?_
  | with_reducible refine i_wgcons ?_
  | with_reducible refine i_wgnil ?_
  | with_reducible refine i_wslL ?_
  | with_reducible refine i_nopart ?_
  | with_reducible refine i_part ?_
  ))

/-! ### the draws -/
/-- the tray at t, its great cells at g; at most n draws were mixed -/
structure Tray (h : Hh) (t g : Addr) (n : Int) : Prop where
  ne : t ≠ g
  at_ : ∃ (gs : List Int) (a fold c : Int), h t = some (.lst [.ref g, .int a, .int fold, .int c]) ∧ h g = some (.lst (gs.map Val.int)) ∧ (∀ x ∈ gs, 0 ≤ x) ∧ gs.length ≤ 63 ∧ 0 ≤ a ∧ 0 ≤ fold ∧ fold < 2305843009213693951 ∧ 0 ≤ c ∧ c ≤ n
/-- nothing but the tray is changed -/
def Keep (t g : Addr) (h h' : Hh) : Prop := ∀ b, b ≠ t → b ≠ g → h' b = h b
theorem Keep.refl {t g : Addr} {h : Hh} : Keep t g h h := fun _ _ _ => rfl
theorem Keep.trans {t g : Addr} {h h1 h2 : Hh} (a : Keep t g h h1) (b : Keep t g h1 h2) : Keep t g h h2 := fun c x y => (b c x y).trans (a c x y)
theorem Tray.more {h : Hh} {t g : Addr} {n m : Int} (T : Tray h t g n) (l : n ≤ m) : Tray h t g m := by
  obtain ⟨ne, gs, a, fold, c, h1, h2, h3, h4, h5, h6, h7, h8, h9⟩ := T
  exact ⟨ne, gs, a, fold, c, h1, h2, h3, h4, h5, h6, h7, h8, by omega⟩
def fs_law_draw : FS where
  P := Addr × Addr × Int × Int
  pre := fun (t, g, n, m) vs h => vs = [.ref t, .int m] ∧ Tray h t g n ∧ n ≤ 1000000000000000 ∧ 0 < m ∧ m ≤ 1000000000000000000
  post := fun (t, g, n, m) h v h' => ∃ r : Int, v = .int r ∧ 0 ≤ r ∧ r < m ∧ Tray h' t g (n + 1) ∧ Keep t g h h'
theorem c_law_draw {t g : Addr} {n m : Int} {h : Hh} {E : XQ} {Q : KQ} (T : Tray h t g n) (hn : n ≤ 1000000000000000) (hm : 0 < m) (hm2 : m ≤ 1000000000000000000) (k : ∀ (r : Int) h', 0 ≤ r → r < m → Tray h' t g (n + 1) → Keep t g h h' → Q (.int r) h') : fs_law_draw.sp [.ref t, .int m] h E Q :=
  ⟨(t, g, n, m), ⟨rfl, T, hn, hm, hm2⟩, fun v h' ⟨r, e, a, b, c, d⟩ => by subst e; exact k r h' a b c d, fun _ _ _ z => z.elim⟩
def r_law_draw : WS :=
  wSeq (wWhile (wAnd (wTv (wOp wLt (wOp wIx (wVar 0) (wC (.int 1))) (wC (.int 2)))) (wTv (wOp wNeD (wOp wIx (wVar 0) (wC (.int 0))) (wLst (wNil)))))
  (wAsg (wBM "list" mPopAt (wOp wIx (wVar 0) (wC (.int 0))) (wCons (wC (.int 0)) (wNil))) (wgSub (wVar 0) (wC (.int 1)) wSetL (fun _ _ _ => False))))
  (wSeq (wIf (wTv (wOp wGe (wOp wIx (wVar 0) (wC (.int 1))) (wC (.int 2)))) (wSeq (wAsg (wOp wMod (wOp wIx (wVar 0) (wC (.int 1))) (wVar 1)) (wgName 2))
  (wSeq (wAsg (wOp wDivW (wOp wIx (wVar 0) (wC (.int 1))) (wVar 1)) (wgSub (wVar 0) (wC (.int 1)) wSetL (fun _ _ _ => False)))
  (wRet (wVar 2)))) (wNext))
  (wSeq (wAsg (wOp wAdd (wOp wIx (wVar 0) (wC (.int 3))) (wC (.int 1))) (wgSub (wVar 0) (wC (.int 3)) wSetL (fun _ _ _ => False)))
  (wSeq (wAsg (wOp wMod (wOp wAdd (wOp wMul (wOp wAdd (wOp wIx (wVar 0) (wC (.int 2))) (wC (.int 5))) (wOp wPow (wOp wAdd (wOp wIx (wVar 0) (wC (.int 3))) (wC (.int 2))) (wC (.int 3)))) (wOp wMul (wC (.int 1000003)) (wOp wIx (wVar 0) (wC (.int 3))))) (wOp wSub (wOp wPow (wC (.int 2)) (wC (.int 61))) (wC (.int 1)))) (wgName 3))
  (wRet (wOp wMod (wOp wDivW (wOp wMod (wOp wPow (wVar 3) (wC (.int 5))) (wOp wAdd (wOp wPow (wC (.int 10)) (wC (.int 18))) (wC (.int 9)))) (wC (.int 64))) (wVar 1))))))

theorem shaped_ints (ns : List Int) : SeqAt.shaped (.list (ns.map PyData.int)) = true := by
  unfold SeqAt.shaped
  have e : ∀ ns : List Int, PyData.depthAll (ns.map PyData.int) ≤ 1 := fun ns => by
    induction ns with
    | nil => simp [PyData.depthAll]
    | cons n ns ih => simp [PyData.depthAll, PyData.depth]; omega
  have := e ns
  simp [PyData.canLay0, canLay_ints, PyData.depth]
  omega
theorem rd_law_draw {K : Fr} {p vs h Q} {X : XQ} (gd : Good K Q) (q : fs_law_draw.pre p vs h) (hp : ∀ v h', fs_law_draw.post p h v h' → Q v h') :
    r_law_draw (fun _ h' => Q .non h') Q (fun _ _ => False) (fun _ _ => False) (fun C v _ h' => X C v h') (startV ["tray", "many", "found", "mixed"] vs) h := by
  obtain ⟨t, g, n, m⟩ := p
  obtain ⟨rfl, T, hn, hm, hm2⟩ := q
  show r_law_draw _ _ _ _ _ [some (.ref t), some (.int m), none, none] h
  unfold r_law_draw
  obtain ⟨ne, gs, a, fold, c, h1, h2, h3, h4, h5, h6, h7, h8, h9⟩ := T
  have hp' : ∀ (r : Int) h', 0 ≤ r → r < m → Tray h' t g (n + 1) → Keep t g h h' → Q (.int r) h' := fun r h' a b c d => hp _ _ ⟨r, rfl, a, b, c, d⟩
  clear hp
  walk_at "zgo"
  refine while_inv (fun k ρ h' => ρ = [some (.ref t), some (.int m), none, none] ∧ Keep t g h h' ∧ ∃ (gs : List Int) (a : Int), k = gs.length ∧ h' t = some (.lst [.ref g, .int a, .int fold, .int c]) ∧ h' g = some (.lst (gs.map Val.int)) ∧ (∀ x ∈ gs, 0 ≤ x) ∧ gs.length ≤ 63 ∧ 0 ≤ a) _ ⟨rfl, Keep.refl, gs, a, rfl, h1, h2, h3, h4, h5⟩ ?_
  clear h1 h2 h3 h4 h5
  rintro k ρ h' ⟨rfl, kp, gs, a, rfl, h1, h2, h3, h4, h5⟩
  walk_at "zgo"
  refine i_ifd (fun ha => ?_) (fun ha => ?_)
  · walk_at "zgo"
    refine i_newF ⟨.list (gs.map .int), .list [], .ref h2 (dvs_ints gs), .lst .nil, shaped_ints gs, shaped_ints [], ?_⟩
    cases gs with
    | nil =>
      refine i_blV ?_
      refine iteF ?_
      walk_at "zgo"
      refine i_setL h1 rfl ?_
      have h1' : hup h' t (Ob.lst [Val.ref g, Val.int a, Val.int fold, Val.int (c + 1)]) t = some (.lst [Val.ref g, Val.int a, Val.int fold, Val.int (c + 1)]) := hup_same
      walk_at "zgo"
      refine i_pow (by refine ⟨by omega, by omega, ?_⟩; omega) ?_
      refine i_mul (.inl ⟨by omega, by omega⟩) ?_
      walk_at "zgo"
      refine i_mul (.inl ⟨by omega, by omega⟩) ?_
      walk_at "zgo"
      refine i_pow (by refine ⟨by omega, by omega, ?_⟩; omega) ?_
      walk_at "zgo"
      refine i_mod (by decide) ?_
      walk_at "zgo"
      have b0 : 0 ≤ ((fold + 5) * (c + 1 + 2) ^ (3 : Int).toNat + 1000003 * (c + 1)) % (2 ^ (61 : Int).toNat - 1) := Int.emod_nonneg _ (by decide)
      have b1 : ((fold + 5) * (c + 1 + 2) ^ (3 : Int).toNat + 1000003 * (c + 1)) % (2 ^ (61 : Int).toNat - 1) < 2 ^ (61 : Int).toNat - 1 := Int.emod_lt_of_pos _ (by decide)
      generalize ((fold + 5) * (c + 1 + 2) ^ (3 : Int).toNat + 1000003 * (c + 1)) % (2 ^ (61 : Int).toNat - 1) = mx at b0 b1 ⊢
      have e61 : (2 : Int) ^ (61 : Int).toNat - 1 = 2305843009213693951 := by decide
      rw [e61] at b1
      refine i_pow (by refine ⟨by omega, by omega, ?_⟩; omega) ?_
      walk_at "zgo"
      refine i_pow (by refine ⟨by omega, by omega, ?_⟩; omega) ?_
      walk_at "zgo"
      refine i_mod (by decide) ?_
      walk_at "zgo"
      refine i_divW ⟨by decide, by decide⟩ ?_
      walk_at "zgo"
      refine i_mod hm ?_
      refine hp' _ _ (Int.emod_nonneg _ (by omega)) (Int.emod_lt_of_pos _ hm) ⟨ne, [], a, fold, c + 1, hup_same, by rw [hup_ne ne.symm]; exact h2, h3, h4, h5, h6, h7, by omega, by omega⟩ fun b b1 b2 => by rw [hup_ne b1]; exact kp b b1 b2
    | cons x gs =>
      refine i_blV ?_
      refine iteT ?_
      walk_at "zgo"
      refine ⟨g, _, 0, 0, .int x, rfl, rfl, h2, by decide, by decide, ?_, rfl, ?_⟩
      · simp [seqIndex?]
      · have h1' : hup h' g (.lst (List.eraseIdx (List.map Val.int (x :: gs)) 0)) t = some (.lst [.ref g, .int a, .int fold, .int c]) := by rw [hup_ne ne]; exact h1
        walk_at "zgo"
        refine i_setL h1' rfl ?_
        refine ⟨gs.length, by simp, rfl, fun b b1 b2 => by rw [hup_ne b1, hup_ne b2]; exact kp b b1 b2, gs, x, rfl, hup_same, by rw [hup_ne ne.symm, hup_same]; rfl, fun y hy => h3 y (by simp [hy]), by simp at h4; omega, h3 x (by simp)⟩
  · walk_at "zgo"
    refine i_mod hm ?_
    walk_at "zgo"
    refine i_divW (wide_div hm (b := 60) (by omega) (by decide) (by decide)) ?_
    walk_at "zgo"
    refine i_setL h1 rfl ?_
    walk_at "zgo"
    refine hp' _ _ (Int.emod_nonneg _ (by omega)) (Int.emod_lt_of_pos _ hm) ⟨ne, gs, a / m, fold, c, hup_same, by rw [hup_ne ne.symm]; exact h2, h3, h4, Int.ediv_nonneg h5 (by omega), h6, h7, by omega, by omega⟩ fun b b1 b2 => by rw [hup_ne b1]; exact kp b b1 b2
def fs_law_tray : FS where
  P := List Int
  pre := fun ns vs h => vs = [.scr (ns.map Val.int)] ∧ ns.length ≤ 63
  post := fun _ h v h' => ∃ t g, v = .ref t ∧ h t = none ∧ h g = none ∧ Tray h' t g 0 ∧ Keep t g h h'
theorem c_law_tray {ns : List Int} {h : Hh} {E : XQ} {Q : KQ} (hl : ns.length ≤ 63) (k : ∀ t g h', h t = none → h g = none → Tray h' t g 0 → Keep t g h h' → Q (.ref t) h') : fs_law_tray.sp [.scr (ns.map Val.int)] h E Q :=
  ⟨ns, ⟨rfl, hl⟩, fun v h' ⟨t, g, e, a, b, c, d⟩ => by subst e; exact k t g h' a b c d, fun _ _ _ z => z.elim⟩
def fs_law_any : FS where
  P := Addr × Addr × Int
  pre := fun (t, g, n) vs h => vs = [.ref t] ∧ Tray h t g n ∧ n ≤ 100000000000000
  post := fun (t, g, n) h v h' => ∃ r : Int, v = .int r ∧ -(10 ^ 60) < r ∧ r < 10 ^ 60 ∧ Tray h' t g (n + 6) ∧ Keep t g h h'
theorem c_law_any {t g : Addr} {n : Int} {h : Hh} {E : XQ} {Q : KQ} (T : Tray h t g n) (hn : n ≤ 100000000000000) (k : ∀ (r : Int) h', -(10 ^ 60) < r → r < 10 ^ 60 → Tray h' t g (n + 6) → Keep t g h h' → Q (.int r) h') : fs_law_any.sp [.ref t] h E Q :=
  ⟨(t, g, n), ⟨rfl, T, hn⟩, fun v h' ⟨r, e, a, b, c, d⟩ => by subst e; exact k r h' a b c d, fun _ _ _ z => z.elim⟩
def r_law_tray : WS :=
  wSeq (wAsg (wC (.int 314159265358979)) (wgName 1))
  (wSeq (wAsg (wLst (wNil)) (wgName 2))
  (wSeq (wFor (wiL (wVar 0)) (wgName 3)
  (wSeq (wAsg (wOp wMod (wOp wAdd (wOp wMul (wVar 1) (wC (.int 1000003))) (wVar 3)) (wOp wSub (wOp wPow (wC (.int 2)) (wC (.int 61))) (wC (.int 1)))) (wgName 1))
  (wSeq (wAsg (wCB cMax2 (wCons (wVar 3) (wCons (wOp wSub (wC (.int 0)) (wVar 3)) (wNil)))) (wgName 4))
  (wIf (wTv (wOp wGe (wVar 4) (wOp wPow (wC (.int 10)) (wC (.int 18))))) (wExpr (wBM "list" mAppend (wVar 2) (wCons (wOp wSub (wVar 4) (wOp wPow (wC (.int 10)) (wC (.int 18)))) (wNil)))) (wNext)))))
  (wRet (wLst (wCons (wVar 2) (wCons (wC (.int 0)) (wCons (wVar 1) (wCons (wC (.int 0)) (wNil)))))))))

def r_law_any : WS :=
  wSeq (wAsg (wCall fs_law_draw [] (wCons (wVar 0) (wCons (wC (.int 4)) (wNil)))) (wgName 1))
  (wSeq (wIf (wTv (wOp wLt (wVar 1) (wC (.int 2)))) (wRet (wOp wSub (wCall fs_law_draw [] (wCons (wVar 0) (wCons (wC (.int 17)) (wNil)))) (wC (.int 3)))) (wNext))
  (wSeq (wAsg (wCall fs_law_draw [] (wCons (wVar 0) (wCons (wOp wPow (wC (.int 10)) (wC (.int 15))) (wNil)))) (wgName 2))
  (wSeq (wFor (wiR1 (wC (.int 3))) (wgName 3)
  (wAsg (wOp wAdd (wOp wMul (wVar 2) (wOp wPow (wC (.int 10)) (wC (.int 15)))) (wCall fs_law_draw [] (wCons (wVar 0) (wCons (wOp wPow (wC (.int 10)) (wC (.int 15))) (wNil))))) (wgName 2)))
  (wRet (wOp wMul (wVar 2) (wOp wSub (wC (.int 5)) (wOp wMul (wC (.int 2)) (wVar 1))))))))

theorem rd_law_tray {K : Fr} {p vs h Q} {X : XQ} (gd : Good K Q) (q : fs_law_tray.pre p vs h) (hp : ∀ v h', fs_law_tray.post p h v h' → Q v h') :
    r_law_tray (fun _ h' => Q .non h') Q (fun _ _ => False) (fun _ _ => False) (fun C v _ h' => X C v h') (startV ["script", "fold", "great", "cell", "size"] vs) h := by
  obtain ⟨rfl, hl⟩ := q
  show r_law_tray _ _ _ _ _ [some (.scr (p.map Val.int)), none, none, none, none] h
  unfold r_law_tray
  walk_at "zgo"
  refine i_newO fun g hg => ?_
  walk_at "zgo"
  refine for_inv (fun i ρ h' => ∃ (fold : Int) (gs : List Int) (x y : Option Val), ρ = [some (.scr (p.map Val.int)), some (.int fold), some (.ref g), x, y] ∧ 0 ≤ fold ∧ fold < 2305843009213693951 ∧ h' g = some (.lst (gs.map Val.int)) ∧ (∀ x ∈ gs, 0 ≤ x) ∧ gs.length ≤ i ∧ i ≤ p.length ∧ ∀ b, b ≠ g → h' b = h b)
    ⟨_, [], none, none, rfl, by decide, by decide, hup_same, by simp, by simp, by simp, fun b hb => hup_ne hb⟩ ?_
  rintro i ρ h' ⟨fold, gs, x, y, rfl, f0, f1, hg1, hg2, hg3, hi, kp⟩
  refine ⟨trivial, fun hi2 => ?_, fun z hz => ?_⟩
  · walk_at "zgo"
    refine i_newO fun t ht => ?_
    have ne : t ≠ g := fun e => by subst e; rw [hg1] at ht; cases ht
    have ht0 : h t = none := by rw [← kp t ne]; exact ht
    refine hp _ _ ⟨t, g, rfl, ht0, hg, ⟨ne, gs, 0, fold, 0, hup_same, by rw [hup_ne ne.symm]; exact hg1, hg2, Nat.le_trans hg3 (Nat.le_trans hi hl), by decide, f0, f1, by decide, by decide⟩, fun b b1 b2 => by rw [hup_ne b1]; exact kp b b2⟩
  · obtain ⟨c, hc, rfl⟩ := map_get hz
    have hil : i < p.length := (List.getElem?_eq_some_iff.mp hc).1
    walk_at "zgo"
    refine i_mul (.inl ⟨by omega, by omega⟩) ?_
    walk_at "zgo"
    refine i_pow (by refine ⟨by omega, by omega, ?_⟩; omega) ?_
    walk_at "zgo"
    refine i_mod (by decide) ?_
    walk_at "zgo"
    refine i_pow (by refine ⟨by omega, by omega, ?_⟩; omega) ?_
    walk_at "zgo"
    have m0 : 0 ≤ (fold * 1000003 + c) % (2 ^ (61 : Int).toNat - 1) := Int.emod_nonneg _ (by decide)
    have m1 : (fold * 1000003 + c) % (2 ^ (61 : Int).toNat - 1) < 2305843009213693951 := Int.emod_lt_of_pos _ (by decide)
    refine i_ifd (fun hs => ?_) (fun hs => ?_)
    · walk_at "zgo"
      refine i_pow (by refine ⟨by omega, by omega, ?_⟩; omega) ?_
      walk_at "zgo"
      refine i_append hg1 (by simp; omega) ?_
      refine ⟨_, gs ++ [(if 0 - c > c then 0 - c else c) - 10 ^ (18 : Int).toNat], _, _, rfl, m0, m1, by rw [hup_same]; simp, ?_, ?_, hil, fun b b1 => by rw [hup_ne b1]; exact kp b b1⟩
      · intro x hx
        rcases List.mem_append.mp hx with hx | hx
        · exact hg2 x hx
        · simp only [List.mem_singleton] at hx
          subst hx
          omega
      · simp; omega
    · walk_at "zgo"
      exact ⟨_, gs, _, _, rfl, m0, m1, hg1, hg2, by omega, hil, kp⟩
theorem rd_law_any {K : Fr} {p vs h Q} {X : XQ} (gd : Good K Q) (q : fs_law_any.pre p vs h) (hp : ∀ v h', fs_law_any.post p h v h' → Q v h') :
    r_law_any (fun _ h' => Q .non h') Q (fun _ _ => False) (fun _ _ => False) (fun C v _ h' => X C v h') (startV ["tray", "kind", "found", "k"] vs) h := by
  obtain ⟨t, g, n⟩ := p
  obtain ⟨rfl, T, hn⟩ := q
  show r_law_any _ _ _ _ _ [some (.ref t), none, none, none] h
  unfold r_law_any
  walk_at "zgo"
  refine c_law_draw T (by omega) (by decide) (by decide) fun kind h1 k0 k1 T1 kp1 => ?_
  walk_at "zgo"
  refine i_ifd (fun hk => ?_) (fun hk => ?_)
  · walk_at "zgo"
    refine c_law_draw T1 (by omega) (by decide) (by decide) fun r h2 r0 r1 T2 kp2 => ?_
    walk_at "zgo"
    exact hp _ _ ⟨r - 3, rfl, by omega, by omega, T2.more (by omega), kp1.trans kp2⟩
  · walk_at "zgo"
    refine i_pow (by refine ⟨by omega, by omega, ?_⟩; omega) ?_
    refine c_law_draw T1 (by omega) (by decide) (by decide) fun f h2 r0 r1 T2 kp2 => ?_
    have e15 : (10 : Int) ^ (15 : Int).toNat = 1000000000000000 := by decide
    rw [e15] at r1
    walk_at "zgo"
    refine for_inv (fun i ρ h' => i ≤ 3 ∧ ∃ (f : Int) (x : Option Val), ρ = [some (.ref t), some (.int kind), some (.int f), x] ∧ 0 ≤ f ∧ f < (10 ^ 15) ^ (i + 1) ∧ Tray h' t g (n + 2 + i) ∧ Keep t g h h') ⟨by omega, f, none, rfl, r0, by omega, T2.more (by omega), kp1.trans kp2⟩ ?_
    rintro i ρ h3 ⟨hi, f, x, rfl, f0, f1, T3, kp3⟩
    refine ⟨trivial, fun hi2 => ?_, fun z hz => ?_⟩
    · rw [rng_len] at hi2
      have hi3 : i = 3 := by simp at hi2; omega
      subst hi3
      walk_at "zgo"
      refine i_mul (.inl ⟨by omega, by omega⟩) ?_
      walk_at "zgo"
      refine i_mul (.inr ⟨by omega, by omega⟩) ?_
      have kk : kind = 2 ∨ kind = 3 := by omega
      refine hp _ _ ⟨_, rfl, ?_, ?_, T3.more (by omega), kp3⟩
      · rcases kk with rfl | rfl <;> omega
      · rcases kk with rfl | rfl <;> omega
    · obtain ⟨hi3, rfl⟩ := rng_get hz
      have hi4 : i < 3 := by simpa using hi3
      walk_at "zgo"
      refine i_pow (by refine ⟨by omega, by omega, ?_⟩; omega) ?_
      refine i_mul (.inr ⟨by decide, by decide⟩) ?_
      walk_at "zgo"
      refine i_pow (by refine ⟨by omega, by omega, ?_⟩; omega) ?_
      refine c_law_draw T3 (by omega) (by decide) (by decide) fun r h4 r0 r1 T4 kp4 => ?_
      walk_at "zgo"
      have e15 : (10 : Int) ^ (15 : Int).toNat = 1000000000000000 := by decide
      refine ⟨by omega, _, _, rfl, ?_, ?_, T4.more (by omega), kp3.trans kp4⟩
      · rw [e15] at r1 ⊢
        omega
      · rw [e15] at r1 ⊢
        rw [Int.pow_succ]
        have : f ≤ (10 ^ 15) ^ (i + 1) - 1 := by omega
        have := Int.mul_le_mul_of_nonneg_right this (show (0 : Int) ≤ 10 ^ 15 by decide)
        omega
/-! LC2 -/


/-! ### data of worlds -/
inductive RefD where
  | thing (h n : Int) | made (h a r : Int)
  deriving DecidableEq
def RefD.v : RefD → Val
  | .thing h n => .tup [.str "thing", .int h, .int n]
  | .made h a r => .tup [.str "made", .int h, .int a, .int r]
inductive Thing where
  | box (w : Int) | shelf (rs : List RefD) | relay (r : RefD) | maker | stone
  deriving DecidableEq
def Thing.v : Thing → Val
  | .box w => .tup [.str "box", .int w]
  | .shelf rs => .tup [.str "shelf", .tup (rs.map RefD.v)]
  | .relay r => .tup [.str "relay", r.v]
  | .maker => .tup [.str "maker"]
  | .stone => .tup [.str "stone"]
abbrev Rooms := List (List Thing)
def houseV (hs : List Thing) : Val := .lst (hs.map Thing.v)
abbrev roomsV (ws : Rooms) : Val := .lst (ws.map houseV)
/-- a ref names a thing of houses of these sizes -/
def In (ns : List Nat) : RefD → Prop
  | .thing h n => ∃ k : Nat, 0 ≤ h ∧ ns[h.toNat]? = some k ∧ 0 ≤ n ∧ n < (k : Int)
  | .made _ _ _ => False
def Thing.Ok (ns : List Nat) : Thing → Prop
  | .box w => -(10 ^ 60) < w ∧ w < 10 ^ 60
  | .shelf rs => rs.length ≤ 12 ∧ ∀ r ∈ rs, In ns r
  | .relay r => In ns r
  | .maker => True
  | .stone => True
structure WorldOk (ws : Rooms) : Prop where
  pos : 1 ≤ ws.length
  most : ws.length ≤ 8
  house : ∀ hs ∈ ws, hs.length ≤ 12
  ok : ∀ hs ∈ ws, ∀ th ∈ hs, th.Ok (ws.map List.length)
def natsV (ns : List Nat) : List Val := ns.map fun (n : Nat) => Val.int (n : Int)
theorem natsV_ints (ns : List Nat) : natsV ns = (ns.map fun (n : Nat) => (n : Int)).map Val.int := by simp [natsV]
theorem sum_cast (ns : List Nat) : (ns.map fun (n : Nat) => (n : Int)).sum = (ns.sum : Int) := by
  induction ns with
  | nil => rfl
  | cons n ns ih => simp only [List.map_cons, List.sum_cons, ih]; omega
def fs_law_sizes : FS where
  P := Addr × Addr × Int
  pre := fun (t, g, n) vs h => vs = [.ref t] ∧ Tray h t g n ∧ n ≤ 100000000000000
  post := fun (t, g, n) h v h' => ∃ ns : List Nat, v = .lst (natsV ns) ∧ 1 ≤ ns.length ∧ ns.length ≤ 8 ∧ (∀ k ∈ ns, k ≤ 12) ∧ Tray h' t g (n + 10) ∧ Keep t g h h'
theorem c_law_sizes {t g : Addr} {n : Int} {h : Hh} {E : XQ} {Q : KQ} (T : Tray h t g n) (hn : n ≤ 100000000000000) (k : ∀ (ns : List Nat) h', 1 ≤ ns.length → ns.length ≤ 8 → (∀ k ∈ ns, k ≤ 12) → Tray h' t g (n + 10) → Keep t g h h' → Q (.lst (natsV ns)) h') : fs_law_sizes.sp [.ref t] h E Q :=
  ⟨(t, g, n), ⟨rfl, T, hn⟩, fun v h' ⟨ns, e, a, b, b2, c, d⟩ => by subst e; exact k ns h' a b b2 c d, fun _ _ _ z => z.elim⟩
def fs_law_ref : FS where
  P := Addr × Addr × Int × List Nat
  pre := fun (t, g, n, ns) vs h => vs = [.ref t, .lst (natsV ns)] ∧ Tray h t g n ∧ n ≤ 100000000000000 ∧ 0 < ns.sum ∧ ns.sum ≤ 1000
  post := fun (t, g, n, ns) h v h' => ∃ r : RefD, v = r.v ∧ In ns r ∧ Tray h' t g (n + 1) ∧ Keep t g h h'
theorem c_law_ref {t g : Addr} {n : Int} {ns : List Nat} {h : Hh} {E : XQ} {Q : KQ} (T : Tray h t g n) (hn : n ≤ 100000000000000) (hs : 0 < ns.sum) (hs2 : ns.sum ≤ 1000) (k : ∀ (r : RefD) h', In ns r → Tray h' t g (n + 1) → Keep t g h h' → Q r.v h') : fs_law_ref.sp [.ref t, .lst (natsV ns)] h E Q :=
  ⟨(t, g, n, ns), ⟨rfl, T, hn, hs, hs2⟩, fun v h' ⟨r, e, a, b, c⟩ => by subst e; exact k r h' a b c, fun _ _ _ z => z.elim⟩
def fs_law_thing : FS where
  P := Addr × Addr × Int × List Nat
  pre := fun (t, g, n, ns) vs h => vs = [.ref t, .lst (natsV ns)] ∧ Tray h t g n ∧ n ≤ 10000000000000 ∧ 0 < ns.sum ∧ ns.sum ≤ 1000
  post := fun (t, g, n, ns) h v h' => ∃ th : Thing, v = th.v ∧ th.Ok ns ∧ Tray h' t g (n + 20) ∧ Keep t g h h'
theorem c_law_thing {t g : Addr} {n : Int} {ns : List Nat} {h : Hh} {E : XQ} {Q : KQ} (T : Tray h t g n) (hn : n ≤ 10000000000000) (hs : 0 < ns.sum) (hs2 : ns.sum ≤ 1000) (k : ∀ (th : Thing) h', th.Ok ns → Tray h' t g (n + 20) → Keep t g h h' → Q th.v h') : fs_law_thing.sp [.ref t, .lst (natsV ns)] h E Q :=
  ⟨(t, g, n, ns), ⟨rfl, T, hn, hs, hs2⟩, fun v h' ⟨r, e, a, b, c⟩ => by subst e; exact k r h' a b c, fun _ _ _ z => z.elim⟩
def r_law_sizes : WS :=
  wSeq (wAsg (wCall fs_law_draw [] (wCons (wVar 0) (wCons (wC (.int 8)) (wNil)))) (wgName 1))
  (wSeq (wAsg (wLst (wCons (wC (.int 4)) (wCons (wC (.int 5)) (wNil)))) (wgName 2))
  (wSeq (wIf (wTv (wOp wEqS (wVar 1) (wC (.int 7)))) (wAsg (wLst (wCons (wC (.int 8)) (wCons (wC (.int 13)) (wNil)))) (wgName 2)) (wNext))
  (wSeq (wAsg (wOp wAdd (wC (.int 1)) (wCall fs_law_draw [] (wCons (wVar 0) (wCons (wOp wIx (wVar 2) (wC (.int 0))) (wNil))))) (wgName 3))
  (wRet (wLc (wiR1 (wVar 3)) (tg1 4) wYes (wCall fs_law_draw [] (wCons (wVar 0) (wCons (wOp wIx (wVar 2) (wC (.int 1))) (wNil)))) [4])))))

def r_law_ref : WS :=
  wSeq (wAsg (wCall fs_law_draw [] (wCons (wVar 0) (wCons (wCB cSum (wCons (wVar 1) (wNil))) (wNil)))) (wgName 2))
  (wSeq (wAsg (wC (.int 0)) (wgName 3))
  (wSeq (wFor (wiL (wVar 1)) (wgName 4)
  (wSeq (wIf (wTv (wOp wLt (wVar 2) (wVar 4))) (wRet (wTup (wCons (wC (.str "thing")) (wCons (wVar 3) (wCons (wVar 2) (wNil)))))) (wNext))
  (wSeq (wAsg (wOp wSub (wVar 2) (wVar 4)) (wgName 2))
  (wAsg (wOp wAdd (wVar 3) (wC (.int 1))) (wgName 3)))))
  (wRet (wC .non))))

def r_law_thing : WS :=
  wSeq (wAsg (wCall fs_law_draw [] (wCons (wVar 0) (wCons (wC (.int 9)) (wNil)))) (wgName 2))
  (wSeq (wIf (wTv (wOp wLt (wVar 2) (wC (.int 3)))) (wRet (wTup (wCons (wC (.str "box")) (wCons (wCall fs_law_any [] (wCons (wVar 0) (wNil))) (wNil))))) (wNext))
  (wSeq (wIf (wTv (wOp wLt (wVar 2) (wC (.int 5)))) (wSeq (wAsg (wCall fs_law_draw [] (wCons (wVar 0) (wCons (wOp wIx (wLst (wCons (wC (.int 5)) (wCons (wC (.int 13)) (wNil)))) (wOp wDivW (wCall fs_law_draw [] (wCons (wVar 0) (wCons (wC (.int 8)) (wNil)))) (wC (.int 7)))) (wNil)))) (wgName 3))
  (wRet (wTup (wCons (wC (.str "shelf")) (wCons (wCB cTuple (wCons (wLc (wiR1 (wVar 3)) (tg1 4) wYes (wCall fs_law_ref [] (wCons (wVar 0) (wCons (wVar 1) (wNil)))) [4]) (wNil))) (wNil)))))) (wNext))
  (wSeq (wIf (wTv (wOp wLt (wVar 2) (wC (.int 7)))) (wRet (wTup (wCons (wC (.str "relay")) (wCons (wCall fs_law_ref [] (wCons (wVar 0) (wCons (wVar 1) (wNil)))) (wNil))))) (wNext))
  (wRet (wOp wIx (wLst (wCons (wTup (wCons (wC (.str "maker")) (wNil))) (wCons (wTup (wCons (wC (.str "stone")) (wNil))) (wNil)))) (wOp wSub (wVar 2) (wC (.int 7))))))))

theorem rd_law_sizes {K : Fr} {p vs h Q} {X : XQ} (gd : Good K Q) (q : fs_law_sizes.pre p vs h) (hp : ∀ v h', fs_law_sizes.post p h v h' → Q v h') :
    r_law_sizes (fun _ h' => Q .non h') Q (fun _ _ => False) (fun _ _ => False) (fun C v _ h' => X C v h') (startV ["tray", "wide", "bounds", "many", "k"] vs) h := by
  obtain ⟨t, g, n⟩ := p
  obtain ⟨rfl, T, hn⟩ := q
  show r_law_sizes _ _ _ _ _ [some (.ref t), none, none, none, none] h
  unfold r_law_sizes
  walk_at "zgo"
  refine c_law_draw T (by omega) (by decide) (by decide) fun wide h1 k0 k1 T1 kp1 => ?_
  walk_at "zgo"
  refine i_newF ?_
  walk_at "zgo"
  have rest : ∀ b0 b1 : Int, 0 < b0 → b0 ≤ 8 → 0 < b1 → b1 ≤ 13 → 
      wSeq (wAsg (wOp wAdd (wC (.int 1)) (wCall fs_law_draw [] (wCons (wVar 0) (wCons (wOp wIx (wVar 2) (wC (.int 0))) (wNil))))) (wgName 3))
        (wRet (wLc (wiR1 (wVar 3)) (tg1 4) wYes (wCall fs_law_draw [] (wCons (wVar 0) (wCons (wOp wIx (wVar 2) (wC (.int 1))) (wNil)))) [4]))
        (fun _ h' => Q .non h') Q (fun _ _ => False) (fun _ _ => False) (fun C v _ h' => X C v h') [some (.ref t), some (.int wide), some (.lst [.int b0, .int b1]), none, none] h1 := fun b0 b1 p0 p1 p2 p3 => by
    walk_at "zgo"
    refine c_law_draw T1 (by omega) p0 (by omega) fun m h2 m0 m1 T2 kp2 => ?_
    walk_at "zgo"
    refine lc_inv (fun i acc h' => i ≤ (1 + m).toNat ∧ (∃ ns : List Nat, acc = natsV ns ∧ ns.length = i ∧ ∀ k ∈ ns, k ≤ 12) ∧ Tray h' t g (n + 2 + i) ∧ Keep t g h h') ⟨Nat.zero_le _, ⟨[], rfl, rfl, by simp⟩, T2.more (by omega), kp1.trans kp2⟩ ?_
    rintro i acc h3 ⟨hi, ⟨ns, rfl, hl, hb⟩, T3, kp3⟩
    refine ⟨trivial, fun hl2 => ?_, fun x hx => ?_⟩
    · rw [rng_len] at hl2
      exact i_newF (hp _ _ ⟨ns, rfl, by omega, by omega, hb, T3.more (by omega), kp3⟩)
    · obtain ⟨hi3, rfl⟩ := rng_get hx
      walk_at "zgo"
      refine c_law_draw T3 (by omega) p2 (by omega) fun r h4 r0 r1 T4 kp4 => ?_
      refine ⟨by simp [natsV]; omega, by omega, ⟨ns ++ [r.toNat], by simp [natsV, Int.toNat_of_nonneg r0], by simp [hl], fun k hk => ?_⟩, T4.more (by omega), kp3.trans kp4⟩
      rcases List.mem_append.mp hk with hk | hk
      · exact hb k hk
      · simp at hk; omega
  refine i_ifd (fun e => ?_) (fun e => ?_)
  · walk_at "zgo"
    refine i_newF ?_
    refine i_name2 ?_
    exact rest 8 13 (by decide) (by decide) (by decide) (by decide)
  · refine i_next ?_
    exact rest 4 5 (by decide) (by decide) (by decide) (by decide)
theorem sum_drop {ns : List Nat} {i k : Nat} (h : ns[i]? = some k) : (ns.drop i).sum = k + (ns.drop (i + 1)).sum := by
  obtain ⟨hi, rfl⟩ := List.getElem?_eq_some_iff.mp h
  rw [List.drop_eq_getElem_cons hi, List.sum_cons]
theorem rd_law_ref {K : Fr} {p vs h Q} {X : XQ} (gd : Good K Q) (q : fs_law_ref.pre p vs h) (hp : ∀ v h', fs_law_ref.post p h v h' → Q v h') :
    r_law_ref (fun _ h' => Q .non h') Q (fun _ _ => False) (fun _ _ => False) (fun C v _ h' => X C v h') (startV ["tray", "sizes", "at", "house", "size"] vs) h := by
  obtain ⟨t, g, n, ns⟩ := p
  obtain ⟨rfl, T, hn, hs, hs2⟩ := q
  show r_law_ref _ _ _ _ _ [some (.ref t), some (.lst (natsV ns)), none, none, none] h
  unfold r_law_ref
  walk_at "zgo"
  rw [natsV_ints]
  refine ⟨_, _, rfl, .lst _, ?_⟩
  rw [sum_cast]
  refine c_law_draw T (by omega) (by omega) (by omega) fun at0 h1 a0 a1 T1 kp1 => ?_
  walk_at "zgo"
  refine for_inv (fun i ρ h' => h' = h1 ∧ ∃ (at0 : Int) (x : Option Val), ρ = [some (.ref t), some (.lst ((ns.map fun (n : Nat) => (n : Int)).map Val.int)), some (.int at0), some (.int (i : Int)), x] ∧ 0 ≤ at0 ∧ at0 < ((ns.drop i).sum : Int)) ⟨rfl, at0, none, rfl, a0, by simpa using a1⟩ ?_
  rintro i ρ h' ⟨rfl, at0, x, rfl, a0, a1⟩
  refine ⟨trivial, fun hi => ?_, fun z hz => ?_⟩
  · have : ns.length ≤ i := by simpa using hi
    rw [List.drop_of_length_le this] at a1
    simp at a1; omega
  · obtain ⟨c, hc, rfl⟩ := map_get hz
    rw [List.getElem?_map] at hc
    obtain ⟨k, hk, rfl⟩ : ∃ k, ns[i]? = some k ∧ c = (k : Int) := by
      cases e : ns[i]? with
      | none => rw [e] at hc; cases hc
      | some k => rw [e] at hc; exact ⟨k, rfl, (Option.some.inj hc).symm⟩
    have sd := sum_drop hk
    walk_at "zgo"
    refine i_ifd (fun e => ?_) (fun e => ?_)
    · walk_at "zgo"
      exact hp _ _ ⟨.thing i at0, rfl, ⟨k, by omega, by simpa using hk, a0, by omega⟩, T1, kp1⟩
    · walk_at "zgo"
      refine ⟨rfl, _, _, rfl, by omega, by omega⟩
/-! LC3 -/


theorem rd_law_thing {K : Fr} {p vs h Q} {X : XQ} (gd : Good K Q) (q : fs_law_thing.pre p vs h) (hp : ∀ v h', fs_law_thing.post p h v h' → Q v h') :
    r_law_thing (fun _ h' => Q .non h') Q (fun _ _ => False) (fun _ _ => False) (fun C v _ h' => X C v h') (startV ["tray", "sizes", "kind", "many", "k"] vs) h := by
  obtain ⟨t, g, n, ns⟩ := p
  obtain ⟨rfl, T, hn, hs, hs2⟩ := q
  show r_law_thing _ _ _ _ _ [some (.ref t), some (.lst (natsV ns)), none, none, none] h
  unfold r_law_thing
  walk_at "zgo"
  refine c_law_draw T (by omega) (by decide) (by decide) fun kind h1 k0 k1 T1 kp1 => ?_
  walk_at "zgo"
  refine i_ifd (fun e1 => ?_) (fun e1 => ?_)
  · walk_at "zgo"
    refine c_law_any T1 (by omega) fun r h2 r0 r1 T2 kp2 => ?_
    walk_at "zgo"
    exact hp _ _ ⟨.box r, rfl, ⟨r0, r1⟩, T2.more (by omega), kp1.trans kp2⟩
  walk_at "zgo"
  refine i_ifd (fun e2 => ?_) (fun e2 => ?_)
  · walk_at "zgo"
    refine i_newF ?_
    walk_at "zgo"
    refine c_law_draw T1 (by omega) (by decide) (by decide) fun c h2 c0 c1 T2 kp2 => ?_
    refine i_c ?_
    refine i_divW ⟨by decide, by decide⟩ ?_
    have em : ∃ m : Int, L2.atI [Val.int 5, Val.int 13] (c / 7) = some (.int m) ∧ 0 < m ∧ m ≤ 13 := by
      have : c / 7 = 0 ∨ c / 7 = 1 := by omega
      rcases this with e | e
      · exact ⟨5, by rw [e]; rfl, by decide, by decide⟩
      · exact ⟨13, by rw [e]; rfl, by decide, by decide⟩
    obtain ⟨m, em, m0, m1⟩ := em
    refine i_ixL em ?_
    walk_at "zgo"
    refine c_law_draw T2 (by omega) m0 (by omega) fun many h3 b0 b1 T3 kp3 => ?_
    walk_at "zgo"
    refine lc_inv (fun i acc h' => i ≤ many.toNat ∧ (∃ rs : List RefD, acc = rs.map RefD.v ∧ rs.length = i ∧ ∀ r ∈ rs, In ns r) ∧ Tray h' t g (n + 3 + i) ∧ Keep t g h h') ⟨Nat.zero_le _, ⟨[], rfl, rfl, by simp⟩, T3.more (by omega), (kp1.trans kp2).trans kp3⟩ ?_
    rintro i acc h4 ⟨hi, ⟨rs, rfl, hl, hb⟩, T4, kp4⟩
    refine ⟨trivial, fun hl2 => ?_, fun x hx => ?_⟩
    · rw [rng_len] at hl2
      refine i_newF ?_
      walk_at "zgo"
      exact hp _ _ ⟨.shelf rs, rfl, ⟨by omega, hb⟩, T4.more (by omega), kp4⟩
    · obtain ⟨hi3, rfl⟩ := rng_get hx
      walk_at "zgo"
      refine c_law_ref T4 (by omega) hs hs2 fun r h5 hr T5 kp5 => ?_
      refine ⟨by simp; omega, by omega, ⟨rs ++ [r], by simp, by simp [hl], fun k hk => ?_⟩, T5.more (by omega), kp4.trans kp5⟩
      rcases List.mem_append.mp hk with hk | hk
      · exact hb k hk
      · simp at hk; subst hk; exact hr
  walk_at "zgo"
  refine i_ifd (fun e3 => ?_) (fun e3 => ?_)
  · walk_at "zgo"
    refine c_law_ref T1 (by omega) hs hs2 fun r h5 hr T5 kp5 => ?_
    walk_at "zgo"
    exact hp _ _ ⟨.relay r, rfl, hr, T5.more (by omega), kp1.trans kp5⟩
  walk_at "zgo"
  refine i_newF ?_
  walk_at "zgo"
  have ek : kind = 7 ∨ kind = 8 := by omega
  rcases ek with rfl | rfl
  · refine i_ixL rfl ?_
    exact hp _ _ ⟨.maker, rfl, trivial, T1.more (by omega), kp1⟩
  · refine i_ixL rfl ?_
    exact hp _ _ ⟨.stone, rfl, trivial, T1.more (by omega), kp1⟩
/-- an owned list is told as one that is never changed again -/
theorem Good.frz {K : Fr} {Q : KQ} (g : Good K Q) {a : Addr} {xs : List Val} {h : Hh} (e : h a = some (.lst xs)) (q : Q (.lst xs) (hdel h a)) : Q (.ref a) h :=
  g _ _ _ _ (fun S F H w r x => by
    obtain ⟨u, x2, r2, s2⟩ := r.freeze e
    obtain ⟨ws, rfl, x3⟩ := x2
    rw [rel_ref] at x
    exact ⟨_, s2, r2, rel_lst.mpr ⟨a, ws, x, upd_same, Rels.mono s2 _ _ x3⟩⟩) q
theorem Good.drop {K : Fr} {Q : KQ} (g : Good K Q) {v : Val} {h h' : Hh} (e : ∀ a o, h' a = some o → h a = some o) (q : Q v h') : Q v h :=
  g _ _ _ _ (fun S F H w r x => ⟨S, Sub.refl S, r.drop e, x⟩) q
theorem sum_le {ns : List Nat} (h : ∀ k ∈ ns, k ≤ 12) : ns.sum ≤ 12 * ns.length := by
  induction ns with
  | nil => simp
  | cons n ns ih =>
    have h1 := h n (by simp)
    have h2 := ih fun k hk => h k (by simp [hk])
    simp only [List.sum_cons, List.length_cons]; omega
theorem sum_pos {ns : List Nat} {k : Nat} (h : k ∈ ns) (p : 0 < k) : 0 < ns.sum := by
  induction ns with
  | nil => simp at h
  | cons n ns ih =>
    simp only [List.sum_cons]
    rcases List.mem_cons.mp h with rfl | h
    · omega
    · have := ih h; omega
/-! LC4 -/


/-- values of tuples and lists of this depth -/
inductive PureV : Nat → Val → Prop
  | non (d) : PureV d .non
  | bl (d b) : PureV d (.bl b)
  | int (d i) : PureV d (.int i)
  | str (d z) : PureV d (.str z)
  | tup {d xs} : xs.length ≤ 1000000 → (∀ x ∈ xs, PureV d x) → PureV (d + 1) (.tup xs)
  | lst {d xs} : xs.length ≤ 1000000 → (∀ x ∈ xs, PureV d x) → PureV (d + 1) (.lst xs)
theorem PureV.up : ∀ {d : Nat} {x : Val}, PureV d x → PureV (d + 1) x
  | _, _, .non d => .non _
  | _, _, .bl d b => .bl _ b
  | _, _, .int d b => .int _ b
  | _, _, .str d b => .str _ b
  | _, _, .tup l h => .tup l fun x hx => (h x hx).up
  | _, _, .lst l h => .lst l fun x hx => (h x hx).up
theorem PureV.le {d e : Nat} {x : Val} (p : PureV d x) (h : d ≤ e) : PureV e x := by
  induction h with
  | refl => exact p
  | step _ ih => exact ih.up
/-- a list whose items can be read -/
inductive LsqA (h : Hh) : Val → List Val → Prop where
  | lst (xs) : LsqA h (.lst xs) xs
  | ref {a xs} : h a = some (.lst xs) → LsqA h (.ref a) xs
/-- alike, of this depth: lists may be owned -/
inductive DEq (h : Hh) : Nat → Val → Val → Prop where
  | non (d) : DEq h d .non .non
  | bl (d b) : DEq h d (.bl b) (.bl b)
  | int (d i) : DEq h d (.int i) (.int i)
  | str (d z) : DEq h d (.str z) (.str z)
  | tup {d : Nat} {xs ys : List Val} : xs.length ≤ 1000000 → xs.length = ys.length → (∀ (i : Nat) (x y : Val), xs[i]? = some x → ys[i]? = some y → DEq h d x y) → DEq h (d + 1) (.tup xs) (.tup ys)
  | lst {d : Nat} {x y : Val} {xs ys : List Val} : LsqA h x xs → LsqA h y ys → xs.length ≤ 1000000 → xs.length = ys.length → (∀ (i : Nat) (x y : Val), xs[i]? = some x → ys[i]? = some y → DEq h d x y) → DEq h (d + 1) x y
theorem PureV.deq {h : Hh} : ∀ {d : Nat} {x : Val}, PureV d x → DEq h d x x
  | _, _, .non d => .non _
  | _, _, .bl d b => .bl _ b
  | _, _, .int d b => .int _ b
  | _, _, .str d b => .str _ b
  | _, _, .tup l h => .tup l rfl fun i x y e1 e2 => by
    rw [e1] at e2
    cases e2
    exact (h x (List.mem_of_getElem? e1)).deq
  | _, _, .lst l h => .lst (.lst _) (.lst _) l rfl fun i x y e1 e2 => by
    rw [e1] at e2
    cases e2
    exact (h x (List.mem_of_getElem? e1)).deq
def fs_bot : FS where
  P := Unit
  pre := fun _ _ _ => False
  post := fun _ _ _ _ => True
theorem ok_bot {P : Program} {w : World} {K : Fr} {mg : Str → Option Value} {base : Heap} {CX : CXT} {f : Addr} {fd : FuncData} {ps : List Str} : FnOk P w K mg base CX 0 f fd ps (lSp K fs_bot) :=
  ⟨fun _ _ _ _ ⟨_, _, _, _, _, _, _, _, ⟨_, q, _⟩, _⟩ => q.elim, fun _ _ _ _ _ _ _ _ _ _ _ _ _ ⟨_, _, _, _, _, _, _, _, ⟨_, q, _⟩, _⟩ => q.elim⟩
def fs_law_alike : Nat → FS
  | 0 => fs_bot
  | d + 1 => {
    P := Val × Val
    pre := fun (x, y) vs h => vs = [x, y] ∧ DEq h d x y
    post := fun _ h v h' => v = .bl true ∧ h' = h }
theorem c_law_alike_deq {d : Nat} {x y : Val} {h : Hh} {E : XQ} {Q : KQ} (p : DEq h d x y) (k : Q (.bl true) h) : (fs_law_alike (d + 1)).sp [x, y] h E Q :=
  ⟨(x, y), ⟨rfl, p⟩, fun v h' ⟨a, b⟩ => by subst a b; exact k, fun _ _ _ z => z.elim⟩
theorem c_law_alike {d : Nat} {x : Val} {h : Hh} {E : XQ} {Q : KQ} (p : PureV d x) (k : Q (.bl true) h) : (fs_law_alike (d + 1)).sp [x, x] h E Q := c_law_alike_deq p.deq k
theorem c_law_alike_ref {d : Nat} {a : Addr} {xs : List Val} {h : Hh} {E : XQ} {Q : KQ} (p : PureV d (.lst xs)) (e : h a = some (.lst xs)) (k : Q (.bl true) h) : (fs_law_alike (d + 1)).sp [.lst xs, .ref a] h E Q := by
  cases p with
  | lst l hx => exact c_law_alike_deq (.lst (.lst _) (.ref e) l rfl fun i x y e1 e2 => by
      rw [e1] at e2
      cases e2
      exact (hx x (List.mem_of_getElem? e1)).deq) k
def r_law_alike (d : Nat) : WS :=
  wSeq (wIf (wTv (wIsN (wVar 1))) (wRet (wIsN (wVar 0))) (wNext))
  (wSeq (wIf (wTv (wCB cIsi (wCons (wVar 1) (wCons (wC (.ty "bool")) (wNil))))) (wRet (wAndV (wCB cIsi (wCons (wVar 0) (wCons (wC (.ty "bool")) (wNil)))) (wOp wEqS (wVar 0) (wVar 1)))) (wNext))
  (wSeq (wIf (wTv (wCB cIsi (wCons (wVar 1) (wCons (wC (.ty "int")) (wNil))))) (wRet (wAndV (wCB cIsi (wCons (wVar 0) (wCons (wC (.ty "int")) (wNil)))) (wAndV (wNotV (wCB cIsi (wCons (wVar 0) (wCons (wC (.ty "bool")) (wNil))))) (wOp wEqS (wVar 0) (wVar 1))))) (wNext))
  (wSeq (wIf (wTv (wCB cIsi (wCons (wVar 1) (wCons (wC (.ty "str")) (wNil))))) (wRet (wAndV (wCB cIsi (wCons (wVar 0) (wCons (wC (.ty "str")) (wNil)))) (wOp wEqS (wVar 0) (wVar 1)))) (wNext))
  (wSeq (wIf (wOr (wTv (wOp wNeS (wCB cIsi (wCons (wVar 0) (wCons (wC (.ty "list")) (wNil)))) (wCB cIsi (wCons (wVar 1) (wCons (wC (.ty "list")) (wNil)))))) (wTv (wOp wNeS (wCB cIsi (wCons (wVar 0) (wCons (wC (.ty "tuple")) (wNil)))) (wCB cIsi (wCons (wVar 1) (wCons (wC (.ty "tuple")) (wNil))))))) (wRet (wC (.bl false))) (wNext))
  (wSeq (wIf (wTv (wOp wNeS (wCB cLen (wCons (wVar 0) (wNil))) (wCB cLen (wCons (wVar 1) (wNil))))) (wRet (wC (.bl false))) (wNext))
  (wSeq (wFor (wiR1 (wCB cLen (wCons (wVar 1) (wNil)))) (wgName 2)
  (wIf (wNot (wTv (wCall (fs_law_alike d) [] (wCons (wOp wIx (wVar 0) (wVar 2)) (wCons (wOp wIx (wVar 1) (wVar 2)) (wNil)))))) (wRet (wC (.bl false))) (wNext)))
  (wRet (wC (.bl true)))))))))

theorem eqB_rfl {b : Bool} : decide (b = b) = true := decide_eq_true rfl
theorem atI_nat' {xs : List Val} {i : Nat} {v : Val} (h : xs[i]? = some v) : L2.atI xs (0 + (i : Int)) = some v := by
  rw [Int.zero_add]; exact L2.atI_nat h
theorem rd_law_alike {K : Fr} {d : Nat} {p vs h Q} {X : XQ} (gd : Good K Q) (q : (fs_law_alike (d + 1)).pre p vs h) (hp : ∀ v h', (fs_law_alike (d + 1)).post p h v h' → Q v h') :
    r_law_alike d (fun _ h' => Q .non h') Q (fun _ _ => False) (fun _ _ => False) (fun C v _ h' => X C v h') (startV ["found", "due", "k"] vs) h := by
  obtain ⟨p, y⟩ := p
  obtain ⟨rfl, pv⟩ := q
  have hq : Q (.bl true) h := hp _ _ ⟨rfl, rfl⟩
  clear hp
  show r_law_alike _ _ _ _ _ _ [some p, some y, none] h
  unfold r_law_alike
  cases pv with
  | non => 
    walk_at "zgo"
    exact hq
  | bl _ b =>
    walk_at "zgo"
    rw [eqB_rfl]
    exact hq
  | int _ b =>
    walk_at "zgo"
    simp only [decide_true]
    exact hq
  | str _ b =>
    walk_at "zgo"
    simp only [decide_true]
    exact hq
  | @tup e xs ys hl hle hx =>
    walk_at "zgo"
    refine for_inv (fun i ρ h' => h' = h ∧ ∃ x : Option Val, ρ = [some (.tup xs), some (.tup ys), x]) ⟨rfl, none, rfl⟩ ?_
    rintro i ρ h' ⟨rfl, x, rfl⟩
    refine ⟨trivial, fun _ => ?_, fun z hz => ?_⟩
    · walk_at "zgo"
      exact hq
    · obtain ⟨hi, rfl⟩ := rng_get hz
      have hi' : i < ys.length := by simpa using hi
      have hg : xs[i]? = some (xs[i]'(by omega)) := List.getElem?_eq_getElem (by omega)
      have hg2 : ys[i]? = some ys[i] := List.getElem?_eq_getElem hi'
      walk_at "zgo"
      refine i_ixT (atI_nat' hg) ?_
      walk_at "zgo"
      refine i_ixT (atI_nat' hg2) ?_
      walk_at "zgo"
      refine c_law_alike_deq (hx i _ _ hg hg2) ?_
      walk_at "zgo"
      exact ⟨rfl, _, rfl⟩
  | @lst e x y xs ys sx sy hl hle hx =>
    cases sx with
    | lst =>
      cases sy with
      | lst =>
        walk_at "zgo"
        refine for_inv (fun i ρ h' => h' = h ∧ ∃ x : Option Val, ρ = [some (.lst xs), some (.lst ys), x]) ⟨rfl, none, rfl⟩ ?_
        rintro i ρ h' ⟨rfl, x, rfl⟩
        refine ⟨trivial, fun _ => ?_, fun z hz => ?_⟩
        · walk_at "zgo"
          exact hq
        · obtain ⟨hi, rfl⟩ := rng_get hz
          have hi' : i < ys.length := by simpa using hi
          have hg : xs[i]? = some (xs[i]'(by omega)) := List.getElem?_eq_getElem (by omega)
          have hg2 : ys[i]? = some ys[i] := List.getElem?_eq_getElem hi'
          walk_at "zgo"
          refine i_ixL (atI_nat' hg) ?_
          walk_at "zgo"
          refine i_ixL (atI_nat' hg2) ?_
          walk_at "zgo"
          refine c_law_alike_deq (hx i _ _ hg hg2) ?_
          walk_at "zgo"
          exact ⟨rfl, _, rfl⟩
      | @ref b _ eb =>
        walk_at "zgo"
        iterate 5 ((first | refine i_isi (b := false) (.lst (.ref eb)) (by decide +kernel) ?_ | refine i_isi (b := true) (.lst (.ref eb)) (by decide +kernel) ?_); walk_at "zgo")
        refine for_inv (fun i ρ h' => h' = h ∧ ∃ x : Option Val, ρ = [some (.lst xs), some (.ref b), x]) ⟨rfl, none, rfl⟩ ?_
        rintro i ρ h' ⟨rfl, x, rfl⟩
        refine ⟨trivial, fun _ => ?_, fun z hz => ?_⟩
        · walk_at "zgo"
          exact hq
        · obtain ⟨hi, rfl⟩ := rng_get hz
          have hi' : i < ys.length := by simpa using hi
          have hg : xs[i]? = some (xs[i]'(by omega)) := List.getElem?_eq_getElem (by omega)
          have hg2 : ys[i]? = some ys[i] := List.getElem?_eq_getElem hi'
          walk_at "zgo"
          refine i_ixL (atI_nat' hg) ?_
          walk_at "zgo"
          refine i_ixR eb (atI_nat' hg2) ?_
          walk_at "zgo"
          refine c_law_alike_deq (hx i _ _ hg hg2) ?_
          walk_at "zgo"
          exact ⟨rfl, _, rfl⟩
    | @ref a _ ea =>
      cases sy with
      | lst =>
        walk_at "zgo"
        iterate 2 ((first | refine i_isi (b := false) (.lst (.ref ea)) (by decide +kernel) ?_ | refine i_isi (b := true) (.lst (.ref ea)) (by decide +kernel) ?_); walk_at "zgo")
        refine for_inv (fun i ρ h' => h' = h ∧ ∃ x : Option Val, ρ = [some (.ref a), some (.lst ys), x]) ⟨rfl, none, rfl⟩ ?_
        rintro i ρ h' ⟨rfl, x, rfl⟩
        refine ⟨trivial, fun _ => ?_, fun z hz => ?_⟩
        · walk_at "zgo"
          exact hq
        · obtain ⟨hi, rfl⟩ := rng_get hz
          have hi' : i < ys.length := by simpa using hi
          have hg : xs[i]? = some (xs[i]'(by omega)) := List.getElem?_eq_getElem (by omega)
          have hg2 : ys[i]? = some ys[i] := List.getElem?_eq_getElem hi'
          walk_at "zgo"
          refine i_ixR ea (atI_nat' hg) ?_
          walk_at "zgo"
          refine i_ixL (atI_nat' hg2) ?_
          walk_at "zgo"
          refine c_law_alike_deq (hx i _ _ hg hg2) ?_
          walk_at "zgo"
          exact ⟨rfl, _, rfl⟩
      | @ref b _ eb =>
        walk_at "zgo"
        iterate 7 ((first | refine i_isi (b := false) (.lst (.ref eb)) (by decide +kernel) ?_ | refine i_isi (b := true) (.lst (.ref eb)) (by decide +kernel) ?_ | refine i_isi (b := false) (.lst (.ref ea)) (by decide +kernel) ?_ | refine i_isi (b := true) (.lst (.ref ea)) (by decide +kernel) ?_); walk_at "zgo")
        refine for_inv (fun i ρ h' => h' = h ∧ ∃ x : Option Val, ρ = [some (.ref a), some (.ref b), x]) ⟨rfl, none, rfl⟩ ?_
        rintro i ρ h' ⟨rfl, x, rfl⟩
        refine ⟨trivial, fun _ => ?_, fun z hz => ?_⟩
        · walk_at "zgo"
          exact hq
        · obtain ⟨hi, rfl⟩ := rng_get hz
          have hi' : i < ys.length := by simpa using hi
          have hg : xs[i]? = some (xs[i]'(by omega)) := List.getElem?_eq_getElem (by omega)
          have hg2 : ys[i]? = some ys[i] := List.getElem?_eq_getElem hi'
          walk_at "zgo"
          refine i_ixR ea (atI_nat' hg) ?_
          walk_at "zgo"
          refine i_ixR eb (atI_nat' hg2) ?_
          walk_at "zgo"
          refine c_law_alike_deq (hx i _ _ hg hg2) ?_
          walk_at "zgo"
          exact ⟨rfl, _, rfl⟩
/-! ZP1 -/


/-! ### worlds -/
def Thing.refs : Thing → List RefD
  | .shelf rs => rs
  | .relay r => [r]
  | _ => []
def isThere (ws : Rooms) : RefD → Bool
  | .thing h n => decide (0 ≤ h ∧ h < (ws.length : Int) ∧ 0 ≤ n ∧ n < (((ws[h.toNat]?).getD []).length : Int))
  | .made _ _ _ => false
def isGood (ws : Rooms) (hs : List Thing) : Bool := decide (hs.length ≤ 12) && hs.all fun th => decide (th.refs.length ≤ 12) && th.refs.all (isThere ws)
def okWorld (ws : Rooms) : Bool := decide (1 ≤ ws.length) && decide (ws.length ≤ 8) && ws.all (isGood ws)
/-- a list of lists of things -/
def HsAt (h : Hh) (v : Val) (ws : Rooms) : Prop := ∃ xs, Seqq h v xs ∧ Paired (fun x hs => Seqq h x (hs.map Thing.v)) xs ws
/-- no list is long -/
structure SmallW (ws : Rooms) : Prop where
  len : ws.length ≤ 100000
  house : ∀ hs ∈ ws, hs.length ≤ 100000
def fs_refs_of : FS where
  P := Thing
  pre := fun th vs h => vs = [th.v]
  post := fun th h v h' => v = .lst (th.refs.map RefD.v) ∧ h' = h
theorem c_refs_of {th : Thing} {h : Hh} {E : XQ} {Q : KQ} (k : Q (.lst (th.refs.map RefD.v)) h) : fs_refs_of.sp [th.v] h E Q :=
  ⟨th, rfl, fun v h' ⟨a, b⟩ => by subst a b; exact k, fun _ _ _ z => z.elim⟩
def fs_is_there : FS where
  P := Val × Rooms × RefD
  pre := fun (x, ws, r) vs h => vs = [x, r.v] ∧ HsAt h x ws ∧ SmallW ws
  post := fun (x, ws, r) h v h' => v = .bl (isThere ws r) ∧ h' = h
theorem c_is_there {x : Val} {ws : Rooms} {r : RefD} {h : Hh} {E : XQ} {Q : KQ} (a : HsAt h x ws) (b : SmallW ws) (k : Q (.bl (isThere ws r)) h) : fs_is_there.sp [x, r.v] h E Q :=
  ⟨(x, ws, r), ⟨rfl, a, b⟩, fun v h' ⟨a, b⟩ => by subst a b; exact k, fun _ _ _ z => z.elim⟩
def fs_is_good : FS where
  P := Val × Rooms × Val × List Thing
  pre := fun (x, ws, y, hs) vs h => vs = [x, y] ∧ HsAt h x ws ∧ SmallW ws ∧ Seqq h y (hs.map Thing.v) ∧ hs.length ≤ 100000
  post := fun (x, ws, y, hs) h v h' => v = .bl (isGood ws hs) ∧ h' = h
theorem c_is_good {x y : Val} {ws : Rooms} {hs : List Thing} {h : Hh} {E : XQ} {Q : KQ} (a : HsAt h x ws) (b : SmallW ws) (c : Seqq h y (hs.map Thing.v)) (d : hs.length ≤ 100000) (k : Q (.bl (isGood ws hs)) h) : fs_is_good.sp [x, y] h E Q :=
  ⟨(x, ws, y, hs), ⟨rfl, a, b, c, d⟩, fun v h' ⟨a, b⟩ => by subst a b; exact k, fun _ _ _ z => z.elim⟩
def r_refs_of : WS :=
  wSeq (wIf (wTv (wOp wEqS (wOp wIx (wVar 0) (wC (.int 0))) (wC (.str "shelf")))) (wRet (wCB cList (wCons (wOp wIx (wVar 0) (wC (.int 1))) (wNil)))) (wNext))
  (wSeq (wIf (wTv (wOp wEqS (wOp wIx (wVar 0) (wC (.int 0))) (wC (.str "relay")))) (wRet (wLst (wCons (wOp wIx (wVar 0) (wC (.int 1))) (wNil)))) (wNext))
  (wRet (wLst (wNil))))

def r_is_there : WS :=
  wSeq (wIf (wOr (wTv (wOp wNeS (wOp wIx (wVar 1) (wC (.int 0))) (wC (.str "thing")))) (wOr (wTv (wOp wLt (wOp wIx (wVar 1) (wC (.int 1))) (wC (.int 0)))) (wTv (wOp wGe (wOp wIx (wVar 1) (wC (.int 1))) (wCB cLen (wCons (wVar 0) (wNil))))))) (wRet (wC (.bl false))) (wNext))
  (wRet (wChain wLe wLt (wC (.int 0)) (wOp wIx (wVar 1) (wC (.int 2))) (wCB cLen (wCons (wOp wIx (wVar 0) (wOp wIx (wVar 1) (wC (.int 1)))) (wNil)))))

def r_is_good : WS :=
  wSeq (wIf (wTv (wOp wGt (wCB cLen (wCons (wVar 1) (wNil))) (wC (.int 12)))) (wRet (wC (.bl false))) (wNext))
  (wSeq (wFor (wiL (wVar 1)) (wgName 2)
  (wSeq (wAsg (wCall fs_refs_of [] (wCons (wVar 2) (wNil))) (wgName 3))
  (wSeq (wIf (wTv (wOp wGt (wCB cLen (wCons (wVar 3) (wNil))) (wC (.int 12)))) (wRet (wC (.bl false))) (wNext))
  (wFor (wiL (wVar 3)) (wgName 4)
  (wIf (wNot (wTv (wCall fs_is_there [] (wCons (wVar 0) (wCons (wVar 4) (wNil)))))) (wRet (wC (.bl false))) (wNext))))))
  (wRet (wC (.bl true))))

theorem len_seqq {h : Hh} {x : Val} {xs : List Val} {Q : KQ} (q : Seqq h x xs) (k : Q (.int (xs.length : Int)) h) : cLen [x] h Q := ⟨_, _, rfl, .lst q, k⟩
theorem ix_seqq {h : Hh} {x : Val} {xs : List Val} {i : Int} {v : Val} {Q : KQ} (q : Seqq h x xs) (e : L2.atI xs i = some v) (k : Q v h) : wIx x (.int i) h Q := ⟨i, v, rfl, .lst q e, k⟩
theorem list_seqq {h : Hh} {x : Val} {xs : List Val} {Q : KQ} (q : Seqq h x xs) (k : NewL xs h Q) : cList [x] h Q := ⟨_, _, rfl, .lst q, k⟩
theorem its_seqq {h : Hh} {x : Val} {xs : List Val} {G : List Val → (Hh → Prop) → Hh → Prop} (q : Seqq h x xs) (k : ∀ chk, chk h → (∀ h', (∀ b, h' b = h b) → chk h') → G xs chk h) : Its h x G := by
  cases q with
  | lst => exact .inl ⟨xs, .inl rfl, k _ trivial fun _ _ => trivial⟩
  | scr => exact .inl ⟨xs, .inr rfl, k _ trivial fun _ _ => trivial⟩
  | ref e => exact .inr ⟨_, xs, rfl, e, k _ e fun h' z => by rw [z]; exact e⟩
theorem HsAt.len {h : Hh} {v : Val} {ws : Rooms} (q : HsAt h v ws) : ∃ xs, Seqq h v xs ∧ xs.length = ws.length := by
  obtain ⟨xs, a, b⟩ := q
  exact ⟨xs, a, Paired.length b⟩
theorem paired_get {α β : Type} {F : α → β → Prop} : ∀ {xs : List α} {ys : List β} {i : Nat} {y : β}, Paired F xs ys → ys[i]? = some y → ∃ x, xs[i]? = some x ∧ F x y
  | _, _, _, _, .nil, e => by simp at e
  | _, _, 0, _, .cons r _, e => by simp at e; subst e; exact ⟨_, rfl, r⟩
  | _, _, i + 1, y, .cons _ t, e => by
    obtain ⟨x, h1, h2⟩ := paired_get (i := i) (y := y) t (by simpa using e)
    exact ⟨x, by simpa using h1, h2⟩
theorem HsAt.at {h : Hh} {v : Val} {ws : Rooms} {i : Nat} {hs : List Thing} (q : HsAt h v ws) (e : ws[i]? = some hs) : ∃ xs x, Seqq h v xs ∧ xs[i]? = some x ∧ Seqq h x (hs.map Thing.v) ∧ xs.length = ws.length := by
  obtain ⟨xs, a, b⟩ := q
  obtain ⟨x, h1, h2⟩ := paired_get b e
  exact ⟨xs, x, a, h1, h2, Paired.length b⟩
theorem rd_refs_of {K : Fr} {p vs h Q} {X : XQ} (gd : Good K Q) (q : fs_refs_of.pre p vs h) (hp : ∀ v h', fs_refs_of.post p h v h' → Q v h') :
    r_refs_of (fun _ h' => Q .non h') Q (fun _ _ => False) (fun _ _ => False) (fun C v _ h' => X C v h') (startV ["thing"] vs) h := by
  obtain rfl := q
  have hq : Q (.lst ((p : Thing).refs.map RefD.v)) h := hp _ _ ⟨rfl, rfl⟩
  clear hp
  show r_refs_of _ _ _ _ _ [some (p : Thing).v] h
  unfold r_refs_of
  cases (p : Thing) with
  | box w => unfold Thing.v; walk_at "zgo"; exact i_newF hq
  | shelf rs => unfold Thing.v; walk_at "zgo"; exact i_newF hq
  | relay r => unfold Thing.v; walk_at "zgo"; exact i_newF hq
  | maker => unfold Thing.v; walk_at "zgo"; exact i_newF hq
  | stone => unfold Thing.v; walk_at "zgo"; exact i_newF hq
theorem rd_is_there {K : Fr} {p vs h Q} {X : XQ} (gd : Good K Q) (q : fs_is_there.pre p vs h) (hp : ∀ v h', fs_is_there.post p h v h' → Q v h') :
    r_is_there (fun _ h' => Q .non h') Q (fun _ _ => False) (fun _ _ => False) (fun C v _ h' => X C v h') (startV ["houses", "ref"] vs) h := by
  obtain ⟨x, ws, r⟩ := p
  obtain ⟨rfl, ha, sm⟩ := q
  have hq : Q (.bl (isThere ws r)) h := hp _ _ ⟨rfl, rfl⟩
  clear hp
  show r_is_there _ _ _ _ _ [some x, some r.v] h
  unfold r_is_there
  cases r with
  | made a b c => unfold RefD.v; walk_at "zgo"; exact hq
  | thing hh n =>
    unfold RefD.v
    simp only [isThere] at hq
    obtain ⟨xs, sx, hl⟩ := ha.len
    walk_at "zgo"
    refine i_ifd (fun e1 => ?_) (fun e1 => ?_)
    · walk_at "zgo"
      rw [decide_eq_false (by omega)] at hq
      exact hq
    walk_at "zgo"
    refine len_seqq sx ?_
    rw [hl]
    walk_at "zgo"
    refine i_ifd (fun e2 => ?_) (fun e2 => ?_)
    · walk_at "zgo"
      rw [decide_eq_false (by omega)] at hq
      exact hq
    have h0 : 0 ≤ hh := by omega
    have hlt : hh.toNat < ws.length := by omega
    have hw : ws[hh.toNat]? = some ws[hh.toNat] := List.getElem?_eq_getElem hlt
    obtain ⟨ys, y, sy, hy, hy2, hl2⟩ := ha.at hw
    have hsm := sm.house _ (List.getElem_mem hlt)
    rw [hw] at hq
    simp only [Option.getD_some] at hq
    walk_at "zgo"
    refine i_ifd (fun e3 => ?_) (fun e3 => ?_)
    · walk_at "zgo"
      refine ix_seqq sy (v := y) ?_ ?_
      · have : hh = ((hh.toNat : Nat) : Int) := by omega
        rw [this]
        exact L2.atI_nat hy
      walk_at "zgo"
      refine len_seqq hy2 ?_
      walk_at "zgo"
      rw [List.length_map]
      have e : decide (0 ≤ hh ∧ hh < (List.length ws : Int) ∧ 0 ≤ n ∧ n < (ws[hh.toNat].length : Int)) = decide (n < (ws[hh.toNat].length : Int)) := by
        by_cases q : n < (ws[hh.toNat].length : Int)
        · rw [decide_eq_true q, decide_eq_true ⟨h0, by omega, e3, q⟩]
        · rw [decide_eq_false q, decide_eq_false (fun z => q z.2.2.2)]
      rw [e] at hq
      exact hq
    · rw [decide_eq_false (by omega)] at hq
      exact hq
theorem isGood_step {ws : Rooms} {hs : List Thing} {i : Nat} {th : Thing} (e : hs[i]? = some th) (f : (decide (th.refs.length ≤ 12) && th.refs.all (isThere ws)) = false) : isGood ws hs = false := by
  unfold isGood
  cases q : hs.all fun th => decide (th.refs.length ≤ 12) && th.refs.all (isThere ws) with
  | false => simp
  | true =>
    rw [List.all_eq_true] at q
    rw [q th (List.mem_of_getElem? e)] at f
    cases f
theorem rd_is_good {K : Fr} {p vs h Q} {X : XQ} (gd : Good K Q) (q : fs_is_good.pre p vs h) (hp : ∀ v h', fs_is_good.post p h v h' → Q v h') :
    r_is_good (fun _ h' => Q .non h') Q (fun _ _ => False) (fun _ _ => False) (fun C v _ h' => X C v h') (startV ["houses", "things", "thing", "refs", "ref"] vs) h := by
  obtain ⟨x, ws, y, hs⟩ := p
  obtain ⟨rfl, ha, sm, sy, hl⟩ := q
  have hq : Q (.bl (isGood ws hs)) h := hp _ _ ⟨rfl, rfl⟩
  clear hp
  show r_is_good _ _ _ _ _ [some x, some y, none, none, none] h
  unfold r_is_good
  walk_at "zgo"
  refine len_seqq sy ?_
  rw [List.length_map]
  walk_at "zgo"
  refine i_ifd (fun e1 => ?_) (fun e1 => ?_)
  · walk_at "zgo"
    have e : isGood ws hs = false := by unfold isGood; rw [decide_eq_false (by omega)]; rfl
    rw [e] at hq
    exact hq
  walk_at "zgo"
  refine its_seqq sy fun chk hc hc2 => ?_
  refine for_inv (fun i ρ h' => h' = h ∧ i ≤ hs.length ∧ (∀ j th, j < i → hs[j]? = some th → (decide (th.refs.length ≤ 12) && th.refs.all (isThere ws)) = true) ∧ ∃ a b c : Option Val, ρ = [some x, some y, a, b, c]) ⟨rfl, Nat.zero_le _, fun _ _ z => absurd z (Nat.not_lt_zero _), none, none, none, rfl⟩ ?_
  rintro i ρ h' ⟨rfl, hi, ok, a, b, c, rfl⟩
  refine ⟨hc, fun hi2 => ?_, fun z hz => ?_⟩
  · have : i = hs.length := by rw [List.length_map] at hi2; omega
    subst this
    walk_at "zgo"
    have e : isGood ws hs = true := by
      unfold isGood
      rw [decide_eq_true (by omega), Bool.true_and, List.all_eq_true]
      intro th hth
      obtain ⟨j, hj⟩ := List.getElem?_of_mem hth
      exact ok j th (List.getElem?_eq_some_iff.mp hj).1 hj
    rw [e] at hq
    exact hq
  · obtain ⟨th, hth, rfl⟩ := map_get hz
    have hil : i < hs.length := (List.getElem?_eq_some_iff.mp hth).1
    walk_at "zgo"
    refine c_refs_of ?_
    walk_at "zgo"
    rw [List.length_map]
    refine i_ifd (fun e2 => ?_) (fun e2 => ?_)
    · walk_at "zgo"
      rw [isGood_step hth (by rw [decide_eq_false (by omega)]; rfl)] at hq
      exact hq
    walk_at "zgo"
    refine for_inv (fun k ρ h2 => h2 = h' ∧ k ≤ th.refs.length ∧ (∀ r, r ∈ th.refs.take k → isThere ws r = true) ∧ ∃ a : Option Val, ρ = [some x, some y, some th.v, some (.lst (th.refs.map RefD.v)), a]) ⟨rfl, Nat.zero_le _, by simp, _, rfl⟩ ?_
    rintro k ρ h2 ⟨rfl, hk, ok2, a, rfl⟩
    refine ⟨trivial, fun hk2 => ?_, fun z hz => ?_⟩
    · have : k = th.refs.length := by rw [List.length_map] at hk2; omega
      subst this
      rw [List.take_length] at ok2
      refine ⟨rfl, hil, fun j u hj hu => ?_, _, _, _, rfl⟩
      by_cases ej : j = i
      · subst ej
        rw [hth] at hu; cases hu
        rw [decide_eq_true (by omega), Bool.true_and, List.all_eq_true]
        exact ok2
      · exact ok j u (by omega) hu
    · obtain ⟨r, hr, rfl⟩ := map_get hz
      have hkl : k < th.refs.length := (List.getElem?_eq_some_iff.mp hr).1
      walk_at "zgo"
      refine c_is_there ha sm ?_
      walk_at "zgo"
      cases er : isThere ws r with
      | true =>
        walk_at "zgo"
        refine ⟨rfl, hkl, fun u hu => ?_, _, rfl⟩
        rw [List.take_succ, hr] at hu
        rcases List.mem_append.mp hu with hu | hu
        · exact ok2 u hu
        · simp at hu; subst hu; exact er
      | false =>
        walk_at "zgo"
        have e3 : th.refs.all (isThere ws) = false := by
          cases q : th.refs.all (isThere ws) with
          | false => rfl
          | true =>
            rw [List.all_eq_true] at q
            rw [q r (List.mem_of_getElem? hr)] at er
            cases er
        rw [isGood_step hth (by rw [e3, Bool.and_false])] at hq
        exact hq
/-! ZP2 -/


abbrev worldV (cl : Str → Addr) (ws : Rooms) : Val := .obj (cl "World") [("houses_kept", roomsV ws)]
def fs_World___init__ (cl : Str → Addr) : FS where
  P := Addr × Val × Rooms
  pre := fun (a, v, ws) vs h => vs = [.ref a, v] ∧ h a = some (.ins (cl "World") []) ∧ HsAt h v ws ∧ SmallW ws
  post := fun (a, v, ws) h r h' => okWorld ws = true ∧ r = .non ∧ h' = hup h a (.ins (cl "World") [("houses_kept", roomsV ws)])
  xpost := fun (a, v, ws) h C r h' => okWorld ws = false ∧ C = cl "NoWorld" ∧ r = .non ∧ h' = h
def fs_World_house (cl : Str → Addr) : FS where
  P := Rooms × Int × Bool
  pre := fun (ws, n, fz) vs h => vs = [worldV cl ws, .int n] ∧ SmallW ws
  post := fun (ws, n, fz) h r h' => 0 ≤ n ∧ ∃ hs, ws[n.toNat]? = some hs ∧ if fz then r = houseV hs ∧ h' = h else ∃ a, h a = none ∧ r = .ref a ∧ h' = hup h a (.lst (hs.map Thing.v))
  xpost := fun (ws, n, fz) h C r h' => (n < 0 ∨ (ws.length : Int) ≤ n) ∧ C = cl "NoHouse" ∧ r = .int n ∧ h' = h
def fs_World___len__ (cl : Str → Addr) : FS where
  P := Rooms
  pre := fun ws vs h => vs = [worldV cl ws] ∧ SmallW ws
  post := fun ws h r h' => r = .int (ws.length : Int) ∧ h' = h
theorem c_World_len {cl : Str → Addr} {ws : Rooms} {h : Hh} {E : XQ} {Q : KQ} (s : SmallW ws) (k : Q (.int (ws.length : Int)) h) : (fs_World___len__ cl).sp [worldV cl ws] h E Q :=
  ⟨ws, ⟨rfl, s⟩, fun v h' ⟨a, b⟩ => by subst a b; exact k, fun _ _ _ z => z.elim⟩
/-- a told house, never changed -/
theorem c_World_house {cl : Str → Addr} {ws : Rooms} {n : Int} {hs : List Thing} {h : Hh} {E : XQ} {Q : KQ} (s : SmallW ws) (h0 : 0 ≤ n) (e : ws[n.toNat]? = some hs) (k : Q (houseV hs) h) : (fs_World_house cl).sp [worldV cl ws, .int n] h E Q :=
  ⟨(ws, n, true), ⟨rfl, s⟩, fun v h' ⟨_, hs2, e2, a⟩ => by
    rw [e] at e2; cases e2
    obtain ⟨a, b⟩ := a
    subst a b; exact k, fun C v h' ⟨z, _⟩ => by
    have := (List.getElem?_eq_some_iff.mp e).1
    omega⟩
def r_World___init__ (cl : Str → Addr) : WS :=
  wSeq (wIf (wOr (wTv (wOp wLt (wCB cLen (wCons (wVar 1) (wNil))) (wC (.int 1)))) (wTv (wOp wGt (wCB cLen (wCons (wVar 1) (wNil))) (wC (.int 8))))) (wRaise (cl "NoWorld") (wC .non)) (wNext))
  (wSeq (wFor (wiL (wVar 1)) (wgName 2)
  (wIf (wNot (wTv (wCall fs_is_good [] (wCons (wVar 1) (wCons (wVar 2) (wNil)))))) (wRaise (cl "NoWorld") (wC .non)) (wNext)))
  (wFldS (cl "World") (wVar 0) (wLc (wiL (wVar 1)) (tg1 2) wYes (wCB cList (wCons (wVar 2) (wNil))) [2]) "houses_kept"))

def r_World_house (cl : Str → Addr) : WS :=
  wSeq (wIf (wOr (wTv (wOp wLt (wVar 1) (wC (.int 0)))) (wTv (wOp wGe (wVar 1) (wCB cLen (wCons (wFld (cl "World") (wVar 0) "houses_kept") (wNil)))))) (wRaise (cl "NoHouse") (wVar 1)) (wNext))
  (wRet (wCB cList (wCons (wOp wIx (wFld (cl "World") (wVar 0) "houses_kept") (wVar 1)) (wNil))))

def r_World___len__ (cl : Str → Addr) : WS :=
  wRet (wCB cLen (wCons (wFld (cl "World") (wVar 0) "houses_kept") (wNil)))

theorem atI_toNat {xs : List Val} {n : Int} {v : Val} (h0 : 0 ≤ n) (h : xs[n.toNat]? = some v) : L2.atI xs n = some v := by
  have e : n = ((n.toNat : Nat) : Int) := by omega
  rw [e]
  exact L2.atI_nat h
theorem small_of {ws : Rooms} {hs : List Thing} {i : Nat} (s : SmallW ws) (e : ws[i]? = some hs) : hs.length ≤ 100000 := s.house _ (List.mem_of_getElem? e)
theorem rd_World___len__ {K : Fr} {cl : Str → Addr} {p : Rooms} {vs h Q} {X : XQ} (gd : Good K Q) (q : (fs_World___len__ cl).pre p vs h) (hp : ∀ v h', (fs_World___len__ cl).post p h v h' → Q v h') :
    r_World___len__ cl (fun _ h' => Q .non h') Q (fun _ _ => False) (fun _ _ => False) (fun C v _ h' => X C v h') (startV ["self"] vs) h := by
  obtain ⟨rfl, sm⟩ := q
  have hq := hp _ _ ⟨rfl, rfl⟩
  clear hp
  show r_World___len__ _ _ _ _ _ _ [some (.obj (cl "World") [("houses_kept", .lst ((p : Rooms).map houseV))])] h
  unfold r_World___len__
  walk_at "zgo"
  rw [List.length_map]
  exact hq
theorem rd_World_house {K : Fr} {cl : Str → Addr} {p vs h Q} {X : XQ} (gd : Good K Q) (q : (fs_World_house cl).pre p vs h) (hp : ∀ v h', (fs_World_house cl).post p h v h' → Q v h') (hx : ∀ C v h', (fs_World_house cl).xpost p h C v h' → X C v h') :
    r_World_house cl (fun _ h' => Q .non h') Q (fun _ _ => False) (fun _ _ => False) (fun C v _ h' => X C v h') (startV ["self", "number"] vs) h := by
  obtain ⟨ws, n, fz⟩ := p
  obtain ⟨rfl, sm⟩ := q
  show r_World_house _ _ _ _ _ _ [some (.obj (cl "World") [("houses_kept", .lst (ws.map houseV))]), some (.int n)] h
  unfold r_World_house
  walk_at "zgo"
  refine i_ifd (fun e1 => ?_) (fun e1 => ?_)
  · walk_at "zgo"
    exact hx _ _ _ ⟨.inl e1, rfl, rfl, rfl⟩
  walk_at "zgo"
  rw [List.length_map]
  refine i_ifd (fun e2 => ?_) (fun e2 => ?_)
  · walk_at "zgo"
    exact hx _ _ _ ⟨.inr e2, rfl, rfl, rfl⟩
  walk_at "zgo"
  have hlt : n.toNat < ws.length := by omega
  have hw : ws[n.toNat]? = some ws[n.toNat] := List.getElem?_eq_getElem hlt
  refine i_ixL (v := houseV ws[n.toNat]) ?_ ?_
  · refine atI_toNat (by omega) ?_
    rw [List.getElem?_map, hw]; rfl
  unfold houseV
  walk_at "zgo"
  cases fz with
  | true => exact i_newF (hp _ _ ⟨by omega, _, hw, rfl, rfl⟩)
  | false => exact i_newO fun a ha => hp _ _ ⟨by omega, _, hw, a, ha, rfl, rfl⟩
theorem rd_World___init__ {K : Fr} {cl : Str → Addr} {p vs h Q} {X : XQ} (gd : Good K Q) (q : (fs_World___init__ cl).pre p vs h) (hp : ∀ v h', (fs_World___init__ cl).post p h v h' → Q v h') (hx : ∀ C v h', (fs_World___init__ cl).xpost p h C v h' → X C v h') :
    r_World___init__ cl (fun _ h' => Q .non h') Q (fun _ _ => False) (fun _ _ => False) (fun C v _ h' => X C v h') (startV ["self", "houses", "things"] vs) h := by
  obtain ⟨a, v, ws⟩ := p
  obtain ⟨rfl, ha, hs, sm⟩ := q
  show r_World___init__ _ _ _ _ _ _ [some (.ref a), some v, none] h
  unfold r_World___init__
  obtain ⟨xs, sv, pr⟩ := id hs
  have hl := Paired.length pr
  have hsm := sm.len
  have bad : okWorld ws = false → X (cl "NoWorld") .non h := fun e => hx _ _ _ ⟨e, rfl, rfl, rfl⟩
  walk_at "zgo"
  refine len_seqq sv ?_
  walk_at "zgo"
  rw [hl]
  refine i_ifd (fun e1 => ?_) (fun e1 => ?_)
  · walk_at "zgo"
    exact bad (by unfold okWorld; rw [decide_eq_false (by omega)]; rfl)
  walk_at "zgo"
  refine len_seqq sv ?_
  walk_at "zgo"
  rw [hl]
  refine i_ifd (fun e2 => ?_) (fun e2 => ?_)
  · walk_at "zgo"
    exact bad (by unfold okWorld; rw [decide_eq_false (p := ws.length ≤ 8) (by omega), Bool.and_false]; rfl)
  walk_at "zgo"
  refine its_seqq sv fun chk hc hc2 => ?_
  refine for_inv (fun i ρ h' => h' = h ∧ i ≤ ws.length ∧ (∀ hs, hs ∈ ws.take i → isGood ws hs = true) ∧ ∃ x : Option Val, ρ = [some (.ref a), some v, x]) ⟨rfl, Nat.zero_le _, by simp, _, rfl⟩ ?_
  rintro i ρ h2 ⟨rfl, hi, ok, x, rfl⟩
  refine ⟨hc, fun hi2 => ?_, fun z hz => ?_⟩
  · have : i = ws.length := by omega
    subst this
    rw [List.take_length] at ok
    have okw : okWorld ws = true := by
      unfold okWorld
      rw [decide_eq_true (by omega), decide_eq_true (by omega), Bool.true_and, Bool.true_and, List.all_eq_true]
      exact ok
    walk_at "zgo"
    refine its_seqq sv fun chk hc hc2 => ?_
    refine lc_inv (fun i acc h3 => h3 = h2 ∧ i ≤ ws.length ∧ acc = (ws.take i).map houseV) ⟨rfl, Nat.zero_le _, by simp⟩ ?_
    rintro i acc h3 ⟨rfl, hi3, rfl⟩
    refine ⟨hc, fun hi4 => ?_, fun z hz => ?_⟩
    · have : i = ws.length := by omega
      subst this
      rw [List.take_length]
      refine i_newF ?_
      walk_at "zgo"
      exact ⟨a, [], rfl, ha, by decide, hp _ _ ⟨okw, rfl, rfl⟩⟩
    · have hiw : i < ws.length := by rw [← hl]; exact (List.getElem?_eq_some_iff.mp hz).1
      obtain ⟨y, hy, fy⟩ := paired_get pr (List.getElem?_eq_getElem hiw)
      rw [hz] at hy; cases hy
      walk_at "zgo"
      refine list_seqq fy (i_newF ⟨by simp; omega, rfl, hiw, ?_⟩)
      rw [List.take_succ, List.getElem?_eq_getElem hiw, List.map_append]
      rfl
  · have hiw : i < ws.length := by rw [← hl]; exact (List.getElem?_eq_some_iff.mp hz).1
    have hw := List.getElem?_eq_getElem hiw
    obtain ⟨y, hy, fy⟩ := paired_get pr hw
    rw [hz] at hy; cases hy
    walk_at "zgo"
    refine c_is_good hs sm fy (small_of sm hw) ?_
    walk_at "zgo"
    cases eg : isGood ws ws[i] with
    | true =>
      walk_at "zgo"
      refine ⟨rfl, hiw, fun u hu => ?_, _, rfl⟩
      rw [List.take_succ, hw] at hu
      rcases List.mem_append.mp hu with hu | hu
      · exact ok u hu
      · simp at hu; subst hu; exact eg
    | false =>
      walk_at "zgo"
      refine bad ?_
      unfold okWorld
      cases q : ws.all (isGood ws) with
      | false => simp
      | true =>
        rw [List.all_eq_true] at q
        rw [q _ (List.getElem_mem hiw)] at eg
        cases eg
/-! ZE -/
/-! ### worlds as data -/
def RefD.d : RefD → PyData
  | .thing h n => .tuple [.str "thing", .int h, .int n]
  | .made h a r => .tuple [.str "made", .int h, .int a, .int r]
def Thing.d : Thing → PyData
  | .box w => .tuple [.str "box", .int w]
  | .shelf rs => .tuple [.str "shelf", .tuple (rs.map RefD.d)]
  | .relay r => .tuple [.str "relay", r.d]
  | .maker => .tuple [.str "maker"]
  | .stone => .tuple [.str "stone"]
def houseD (hs : List Thing) : PyData := .list (hs.map Thing.d)
def roomsD (ws : Rooms) : PyData := .list (ws.map houseD)
theorem dvs_map {α : Type} {h : Hh} {f : α → Val} {g : α → PyData} (k : ∀ x, Dv h (f x) (g x)) : ∀ xs : List α, Dvs h (xs.map f) (xs.map g)
  | [] => .nil
  | x :: xs => .cons (k x) (dvs_map k xs)
theorem RefD.dv {h : Hh} : ∀ r : RefD, Dv h r.v r.d
  | .thing a n => .tup (.cons (.str _) (.cons (.int _) (.cons (.int _) .nil)))
  | .made a b c => .tup (.cons (.str _) (.cons (.int _) (.cons (.int _) (.cons (.int _) .nil))))
theorem Thing.dv {h : Hh} : ∀ t : Thing, Dv h t.v t.d
  | .box w => .tup (.cons (.str _) (.cons (.int _) .nil))
  | .shelf rs => .tup (.cons (.str _) (.cons (.tup (dvs_map RefD.dv rs)) .nil))
  | .relay r => .tup (.cons (.str _) (.cons r.dv .nil))
  | .maker => .tup (.cons (.str _) .nil)
  | .stone => .tup (.cons (.str _) .nil)
theorem houseV_dv {h : Hh} (hs : List Thing) : Dv h (houseV hs) (houseD hs) := .lst (dvs_map Thing.dv hs)
/-- may be laid, of at most this depth -/
def LayD (n : Nat) (d : PyData) : Prop := d.canLay0 = true ∧ d.depth ≤ n
theorem lay_list {n : Nat} {ds : List PyData} (h : ∀ d ∈ ds, LayD n d) : PyData.canLayAll0 ds = true ∧ PyData.depthAll ds ≤ n := by
  induction ds with
  | nil => exact ⟨by simp [PyData.canLayAll0], by simp [PyData.depthAll]⟩
  | cons d ds ih =>
    obtain ⟨a, b⟩ := h d (by simp)
    obtain ⟨c, e⟩ := ih fun x hx => h x (by simp [hx])
    exact ⟨by simp [PyData.canLayAll0, a, c], by simp [PyData.depthAll]; omega⟩
theorem LayD.list {n : Nat} {ds : List PyData} (h : ∀ d ∈ ds, LayD n d) : LayD (n + 1) (.list ds) := by
  obtain ⟨a, b⟩ := lay_list h
  exact ⟨by simp [PyData.canLay0, a], by simp [PyData.depth]; omega⟩
theorem LayD.tuple {n : Nat} {ds : List PyData} (h : ∀ d ∈ ds, LayD n d) : LayD (n + 1) (.tuple ds) := by
  obtain ⟨a, b⟩ := lay_list h
  exact ⟨by simp [PyData.canLay0, a], by simp [PyData.depth]; omega⟩
theorem LayD.le {n m : Nat} {d : PyData} (h : LayD n d) (l : n ≤ m) : LayD m d := ⟨h.1, Nat.le_trans h.2 l⟩
theorem LayD.int (n : Nat) (i : Int) : LayD n (.int i) := ⟨by simp [PyData.canLay0], by simp [PyData.depth]⟩
theorem LayD.bool (n : Nat) (i : Bool) : LayD n (.bool i) := ⟨by simp [PyData.canLay0], by simp [PyData.depth]⟩
theorem LayD.none (n : Nat) : LayD n .none := ⟨by simp [PyData.canLay0], by simp [PyData.depth]⟩
theorem LayD.str (n : Nat) {z : Str} (h : PyData.strOk z = true) : LayD n (.str z) := ⟨by simp [PyData.canLay0, h], by simp [PyData.depth]⟩
theorem LayD.shaped {n : Nat} {d : PyData} (h : LayD n d) (l : n ≤ 64) : SeqAt.shaped d = true := by
  unfold SeqAt.shaped
  rw [h.1, decide_eq_true (Nat.le_trans h.2 l)]; rfl
theorem RefD.lay (r : RefD) : LayD 1 r.d := by
  cases r with
  | thing h n =>
    refine LayD.tuple (n := 0) fun d hd => ?_
    simp only [List.mem_cons, List.not_mem_nil, or_false] at hd
    rcases hd with rfl | rfl | rfl
    · exact .str 0 (by decide +kernel)
    · exact .int 0 _
    · exact .int 0 _
  | made h a n =>
    refine LayD.tuple (n := 0) fun d hd => ?_
    simp only [List.mem_cons, List.not_mem_nil, or_false] at hd
    rcases hd with rfl | rfl | rfl | rfl
    · exact .str 0 (by decide +kernel)
    · exact .int 0 _
    · exact .int 0 _
    · exact .int 0 _
theorem Thing.lay (t : Thing) : LayD 3 t.d := by
  cases t with
  | box w =>
    refine LayD.tuple (n := 2) fun d hd => ?_
    simp only [List.mem_cons, List.not_mem_nil, or_false] at hd
    rcases hd with rfl | rfl
    · exact .str 2 (by decide +kernel)
    · exact .int 2 _
  | shelf rs =>
    refine LayD.tuple (n := 2) fun d hd => ?_
    simp only [List.mem_cons, List.not_mem_nil, or_false] at hd
    rcases hd with rfl | rfl
    · exact .str 2 (by decide +kernel)
    · refine LayD.tuple (n := 1) fun d hd => ?_
      obtain ⟨r, _, rfl⟩ := List.mem_map.mp hd
      exact r.lay
  | relay r =>
    refine LayD.tuple (n := 2) fun d hd => ?_
    simp only [List.mem_cons, List.not_mem_nil, or_false] at hd
    rcases hd with rfl | rfl
    · exact .str 2 (by decide +kernel)
    · exact r.lay.le (by decide)
  | maker =>
    refine LayD.tuple (n := 2) fun d hd => ?_
    simp only [List.mem_cons, List.not_mem_nil, or_false] at hd
    subst hd
    exact .str 2 (by decide +kernel)
  | stone =>
    refine LayD.tuple (n := 2) fun d hd => ?_
    simp only [List.mem_cons, List.not_mem_nil, or_false] at hd
    subst hd
    exact .str 2 (by decide +kernel)
theorem house_lay (hs : List Thing) : LayD 4 (houseD hs) := LayD.list fun d hd => by
  obtain ⟨t, _, rfl⟩ := List.mem_map.mp hd
  exact t.lay
/-! as values of tuples and lists -/
theorem RefD.pure (r : RefD) : PureV 1 r.v := by
  cases r with
  | thing h n =>
    refine .tup (by simp) fun d hd => ?_
    simp only [List.mem_cons, List.not_mem_nil, or_false] at hd
    rcases hd with rfl | rfl | rfl
    · exact .str _ _
    · exact .int _ _
    · exact .int _ _
  | made h a n =>
    refine .tup (by simp) fun d hd => ?_
    simp only [List.mem_cons, List.not_mem_nil, or_false] at hd
    rcases hd with rfl | rfl | rfl | rfl
    · exact .str _ _
    · exact .int _ _
    · exact .int _ _
    · exact .int _ _
theorem Thing.pure {t : Thing} (hl : t.refs.length ≤ 1000) : PureV 3 t.v := by
  cases t with
  | box w =>
    refine .tup (by simp) fun d hd => ?_
    simp only [List.mem_cons, List.not_mem_nil, or_false] at hd
    rcases hd with rfl | rfl
    · exact .str _ _
    · exact .int _ _
  | shelf rs =>
    refine .tup (by simp) fun d hd => ?_
    simp only [List.mem_cons, List.not_mem_nil, or_false] at hd
    rcases hd with rfl | rfl
    · exact .str _ _
    · refine .tup (by rw [List.length_map]; exact Nat.le_trans hl (by decide)) fun d hd => ?_
      obtain ⟨r, _, rfl⟩ := List.mem_map.mp hd
      exact r.pure
  | relay r =>
    refine .tup (by simp) fun d hd => ?_
    simp only [List.mem_cons, List.not_mem_nil, or_false] at hd
    rcases hd with rfl | rfl
    · exact .str _ _
    · exact r.pure.le (by decide)
  | maker =>
    refine .tup (by simp) fun d hd => ?_
    simp only [List.mem_cons, List.not_mem_nil, or_false] at hd
    subst hd
    exact .str _ _
  | stone =>
    refine .tup (by simp) fun d hd => ?_
    simp only [List.mem_cons, List.not_mem_nil, or_false] at hd
    subst hd
    exact .str _ _
theorem house_pure {hs : List Thing} (hl : hs.length ≤ 1000) (h : ∀ t ∈ hs, t.refs.length ≤ 1000) : PureV 4 (houseV hs) := .lst (by rw [List.length_map]; omega) fun d hd => by
  obtain ⟨t, ht, rfl⟩ := List.mem_map.mp hd
  exact Thing.pure (h t ht)
theorem refs_ok {ns : List Nat} {t : Thing} (h : t.Ok ns) : t.refs.length ≤ 12 := by
  cases t with
  | shelf rs => exact h.1
  | _ => simp [Thing.refs]
theorem WorldOk.small {ws : Rooms} (h : WorldOk ws) : SmallW ws := ⟨by have := h.most; omega, fun hs hh => by have := h.house hs hh; omega⟩
theorem In.there {ws : Rooms} {r : RefD} (h : In (ws.map List.length) r) : isThere ws r = true := by
  cases r with
  | made a b c => exact h.elim
  | thing a n =>
    obtain ⟨k, h0, h1, h2, h3⟩ := h
    rw [List.getElem?_map] at h1
    cases e : ws[a.toNat]? with
    | none => rw [e] at h1; cases h1
    | some hs =>
      rw [e] at h1
      have e1 : hs.length = k := Option.some.inj h1
      have hl := (List.getElem?_eq_some_iff.mp e).1
      unfold isThere
      simp only [e, Option.getD_some]
      exact decide_eq_true ⟨h0, by omega, h2, by omega⟩
theorem WorldOk.good {ws : Rooms} (h : WorldOk ws) : okWorld ws = true := by
  unfold okWorld
  rw [decide_eq_true h.pos, decide_eq_true h.most, Bool.true_and, Bool.true_and, List.all_eq_true]
  intro hs hh
  unfold isGood
  rw [decide_eq_true (h.house hs hh), Bool.true_and, List.all_eq_true]
  intro t ht
  have ok := h.ok hs hh t ht
  rw [decide_eq_true (refs_ok ok), Bool.true_and, List.all_eq_true]
  intro r hr
  cases t with
  | shelf rs => exact (ok.2 r hr).there
  | relay q =>
    simp only [Thing.refs, List.mem_singleton] at hr
    subst hr
    exact In.there ok
  | box _ => simp [Thing.refs] at hr
  | maker => simp [Thing.refs] at hr
  | stone => simp [Thing.refs] at hr
theorem HsAt.frozen {h : Hh} (ws : Rooms) : HsAt h (roomsV ws) ws := by
  refine ⟨_, .lst _, ?_⟩
  induction ws with
  | nil => exact .nil
  | cons w ws ih => exact .cons (.lst _) ih
/-! LK1 -/


theorem Seqq.up {h : Hh} {x : Val} {xs : List Val} {a : Addr} {o : Ob} (q : Seqq h x xs) (ha : h a = none) : Seqq (hup h a o) x xs := by
  cases q with
  | lst => exact .lst _
  | scr => exact .scr _
  | ref e => exact .ref (by rw [hup_ne (fun z => by subst z; rw [ha] at e; cases e)]; exact e)
theorem paired_imp {α β : Type} {F G : α → β → Prop} (k : ∀ x y, F x y → G x y) : ∀ {xs : List α} {ys : List β}, Paired F xs ys → Paired G xs ys
  | _, _, .nil => .nil
  | _, _, .cons r t => .cons (k _ _ r) (paired_imp k t)
theorem HsAt.up {h : Hh} {v : Val} {ws : Rooms} {a : Addr} {o : Ob} (q : HsAt h v ws) (ha : h a = none) : HsAt (hup h a o) v ws := by
  obtain ⟨xs, sv, pr⟩ := q
  exact ⟨xs, sv.up ha, paired_imp (fun _ _ z => z.up ha) pr⟩
theorem WorldOk.pure {ws : Rooms} (w : WorldOk ws) {hs : List Thing} (h : hs ∈ ws) : PureV 4 (houseV hs) :=
  house_pure (by have := w.house hs h; omega) fun t ht => by have := refs_ok (w.ok hs h t ht); omega
/-! LW1 -/
/-! the steps: one macro -/
local macro_rules | `(tactic| walk_at "hlk") => `(tactic| first | assumption | with_reducible exact hup_same | ((with_reducible refine' (hup_ne ?nn).trans ?tt); (case nn => first | assumption | (refine Ne.symm ?_; assumption)); (case tt => walk_at "hlk")))
local macro_rules | `(tactic| walk_at "zgo") => `(tactic| repeat (first
  | with_reducible refine i_seq ?_
  | with_reducible refine i_op ?_
  | ((with_reducible refine g_var ?_); first
    | with_reducible refine i_var0 ?_
    | with_reducible refine i_var1 ?_
    | with_reducible refine i_var2 ?_
    | with_reducible refine i_var3 ?_
    | with_reducible refine i_var4 ?_
    | with_reducible refine i_var5 ?_
    | with_reducible refine i_var6 ?_
    | with_reducible refine i_var7 ?_
    | with_reducible refine i_var8 ?_
    | with_reducible refine i_var9 ?_
    | with_reducible refine i_var10 ?_
    | with_reducible refine i_var11 ?_
    | with_reducible refine i_var12 ?_
    | with_reducible refine i_var13 ?_
    | with_reducible refine i_var14 ?_
    | with_reducible refine i_var15 ?_
    | with_reducible refine i_var16 ?_
    | with_reducible refine i_var17 ?_
    | with_reducible refine i_var18 ?_
    | with_reducible refine i_var19 ?_
    | with_reducible refine i_var20 ?_
    | with_reducible refine i_var21 ?_
    | with_reducible refine i_var22 ?_
    | with_reducible refine i_var23 ?_
    | with_reducible refine i_var24 ?_
    | with_reducible refine i_var25 ?_)
  | with_reducible refine i_c ?_
  | with_reducible refine i_cons ?_
  | with_reducible refine i_nil ?_
  | with_reducible refine i_asg ?_
  | ((with_reducible refine g_name ?_); first
    | with_reducible refine i_name0 ?_
    | with_reducible refine i_name1 ?_
    | with_reducible refine i_name2 ?_
    | with_reducible refine i_name3 ?_
    | with_reducible refine i_name4 ?_
    | with_reducible refine i_name5 ?_
    | with_reducible refine i_name6 ?_
    | with_reducible refine i_name7 ?_
    | with_reducible refine i_name8 ?_
    | with_reducible refine i_name9 ?_
    | with_reducible refine i_name10 ?_
    | with_reducible refine i_name11 ?_
    | with_reducible refine i_name12 ?_
    | with_reducible refine i_name13 ?_
    | with_reducible refine i_name14 ?_
    | with_reducible refine i_name15 ?_
    | with_reducible refine i_name16 ?_
    | with_reducible refine i_name17 ?_
    | with_reducible refine i_name18 ?_
    | with_reducible refine i_name19 ?_
    | with_reducible refine i_name20 ?_
    | with_reducible refine i_name21 ?_
    | with_reducible refine i_name22 ?_
    | with_reducible refine i_name23 ?_
    | with_reducible refine i_name24 ?_
    | with_reducible refine i_name25 ?_)
  | ((with_reducible refine g_tg1 ?_); first
    | with_reducible refine i_tg1_0 ?_
    | with_reducible refine i_tg1_1 ?_
    | with_reducible refine i_tg1_2 ?_
    | with_reducible refine i_tg1_3 ?_
    | with_reducible refine i_tg1_4 ?_
    | with_reducible refine i_tg1_5 ?_
    | with_reducible refine i_tg1_6 ?_
    | with_reducible refine i_tg1_7 ?_
    | with_reducible refine i_tg1_8 ?_
    | with_reducible refine i_tg1_9 ?_
    | with_reducible refine i_tg1_10 ?_
    | with_reducible refine i_tg1_11 ?_
    | with_reducible refine i_tg1_12 ?_
    | with_reducible refine i_tg1_13 ?_
    | with_reducible refine i_tg1_14 ?_
    | with_reducible refine i_tg1_15 ?_
    | with_reducible refine i_tg1_16 ?_
    | with_reducible refine i_tg1_17 ?_
    | with_reducible refine i_tg1_18 ?_
    | with_reducible refine i_tg1_19 ?_
    | with_reducible refine i_tg1_20 ?_
    | with_reducible refine i_tg1_21 ?_
    | with_reducible refine i_tg1_22 ?_
    | with_reducible refine i_tg1_23 ?_)
  | with_reducible refine i_yes ?_
  | with_reducible refine i_if ?_
  | with_reducible refine i_tv ?_
  | with_reducible refine i_bl ?_
  | with_reducible refine i_blV ?_
  | ((with_reducible refine g_if ?_); first
    | with_reducible refine iteT ?_
    | with_reducible refine iteF ?_
    | ((with_reducible refine' i_ifdt ?cc ?_); (case cc => first | decide | omega | assumption | decide +kernel))
    | ((with_reducible refine' i_ifdf ?cc ?_); (case cc => first | decide | omega | assumption | decide +kernel))
    | ((with_reducible refine' i_ifnt ?cc ?_); (case cc => first | decide | omega | assumption | decide +kernel))
    | ((with_reducible refine' i_ifnf ?cc ?_); (case cc => first | decide | omega | assumption | decide +kernel))
    | ((with_reducible refine' i_ift ?cc ?_); (case cc => first | assumption | rfl))
    | ((with_reducible refine' i_iff ?cc ?_); (case cc => first | assumption | rfl)))
  | with_reducible refine i_eqT ?_
  | with_reducible refine i_neT ?_
  | with_reducible refine i_eqI ?_
  | with_reducible refine i_neI ?_
  | with_reducible refine i_eqB ?_
  | with_reducible refine i_neB ?_
  | with_reducible refine i_lt ?_
  | with_reducible refine i_le ?_
  | with_reducible refine i_gt ?_
  | with_reducible refine i_ge ?_
  | with_reducible refine i_add ?_
  | with_reducible refine i_sub ?_
  | with_reducible refine i_and ?_
  | with_reducible refine i_or ?_
  | with_reducible refine i_not ?_
  | with_reducible refine i_andV ?_
  | with_reducible refine i_orV ?_
  | with_reducible refine i_notV ?_
  | with_reducible refine i_ifE ?_
  | with_reducible refine i_isN ?_
  | with_reducible refine i_notN ?_
  | with_reducible refine i_un ?_
  | with_reducible refine i_int1 ?_
  | with_reducible refine i_tup ?_
  | with_reducible refine i_lst ?_
  | ((with_reducible refine' i_small ?ss ?_); (case ss => first | decide | (simp only [List.length_cons, List.length_nil, List.length_map, List.length_append]; omega)))
  | with_reducible refine i_cb ?_
  | with_reducible refine i_call0 ?_
  | with_reducible refine i_call ?_
  | with_reducible refine i_meth0 ?_
  | with_reducible refine i_make0 ?_
  | with_reducible refine i_fld ?_
  | ((with_reducible refine' i_fldO ?ll ?_); (case ll => repeat (first | exact lk_hd | exact lk_nil | (refine lk_tl (by decide +kernel) ?_))))
  | ((with_reducible refine' i_fldR ?ee ?ll ?_); (case ee => walk_at "hlk"); (case ll => repeat (first | exact lk_hd | exact lk_nil | (refine lk_tl (by decide +kernel) ?_))))
  | ((with_reducible refine' i_mO ?ll ?_); (case ll => repeat (first | exact lk_hd | exact lk_nil | (refine lk_tl (by decide +kernel) ?_))))
  | ((with_reducible refine' i_mR ?ee ?ll ?_); (case ee => walk_at "hlk"); (case ll => repeat (first | exact lk_hd | exact lk_nil | (refine lk_tl (by decide +kernel) ?_))))
  | ((with_reducible refine' i_ixT ?at_ ?_); (case at_ => first | exact rfl | exact L2.atI_nat (j := 0) rfl | exact L2.atI_nat (j := 1) rfl))
  | ((with_reducible refine' i_ixL ?at_ ?_); (case at_ => first | exact rfl | exact L2.atI_nat (j := 0) rfl | exact L2.atI_nat (j := 1) rfl))
  | ((with_reducible refine' i_ixR ?hh ?at_ ?_); (case hh => walk_at "hlk"); (case at_ => first | exact rfl | exact L2.atI_nat (j := 0) rfl | exact L2.atI_nat (j := 1) rfl))
  | with_reducible refine i_fldS ?_
  | with_reducible refine i_bm ?_
  | ((with_reducible refine' i_tyL ?hh ?_); (case hh => walk_at "hlk"))
  | ((with_reducible refine' i_l2 ?xx ?yy ?_); (case xx => exact rfl); (case yy => exact rfl))
  | with_reducible refine i_callK ?_
  | with_reducible refine i_makeK ?_
  | with_reducible refine i_chain ?_
  | with_reducible refine i_raise ?_
  | with_reducible refine i_atx ?_
  | with_reducible refine i_lenO ?_
  | with_reducible refine i_sub_ ?_
  | with_reducible refine i_expr ?_
  | with_reducible refine i_ret ?_
  | with_reducible refine i_next ?_
  | with_reducible refine i_lc ?_
  | with_reducible refine i_r1 ?_
  | with_reducible refine i_iL ?_
  | with_reducible refine i_iT ?_
  | with_reducible refine i_itsF ?_
  | with_reducible refine i_itsS ?_
  | with_reducible refine i_itsT ?_
  | ((with_reducible refine' i_itsR ?hh ?_); (case hh => walk_at "hlk"))
  | with_reducible refine i_lenF ?_
  | with_reducible refine i_lenT ?_
  | ((with_reducible refine' i_lenR ?hh ?_); (case hh => walk_at "hlk"))
  | with_reducible refine i_listF ?_
  | with_reducible refine i_listT ?_
  | ((with_reducible refine' i_listR ?hh ?_); (case hh => walk_at "hlk"))
  | with_reducible refine i_tupF ?_
  | ((with_reducible refine' i_lenOR ?hh ?_); (case hh => walk_at "hlk"))
  | ((with_reducible refine' i_tupR ?hh ?_); (case hh => walk_at "hlk"))
  | ((with_reducible refine g_isi ?_); first
    | with_reducible refine i_isi_non_bool ?_
    | with_reducible refine i_isi_non_int ?_
    | with_reducible refine i_isi_non_str ?_
    | with_reducible refine i_isi_non_list ?_
    | with_reducible refine i_isi_non_tuple ?_
    | with_reducible refine i_isi_bl_bool ?_
    | with_reducible refine i_isi_bl_int ?_
    | with_reducible refine i_isi_bl_str ?_
    | with_reducible refine i_isi_bl_list ?_
    | with_reducible refine i_isi_bl_tuple ?_
    | with_reducible refine i_isi_int_bool ?_
    | with_reducible refine i_isi_int_int ?_
    | with_reducible refine i_isi_int_str ?_
    | with_reducible refine i_isi_int_list ?_
    | with_reducible refine i_isi_int_tuple ?_
    | with_reducible refine i_isi_str_bool ?_
    | with_reducible refine i_isi_str_int ?_
    | with_reducible refine i_isi_str_str ?_
    | with_reducible refine i_isi_str_list ?_
    | with_reducible refine i_isi_str_tuple ?_
    | with_reducible refine i_isi_tup_bool ?_
    | with_reducible refine i_isi_tup_int ?_
    | with_reducible refine i_isi_tup_str ?_
    | with_reducible refine i_isi_tup_list ?_
    | with_reducible refine i_isi_tup_tuple ?_
    | with_reducible refine i_isi_lst_bool ?_
    | with_reducible refine i_isi_lst_int ?_
    | with_reducible refine i_isi_lst_str ?_
    | with_reducible refine i_isi_lst_list ?_
    | with_reducible refine i_isi_lst_tuple ?_)
  | with_reducible refine i_max ?_
  | with_reducible refine i_min ?_
  | with_reducible refine i_rgin ?_
  | with_reducible refine i_tabin ?_
  | with_reducible refine i_disp ?_
  | with_reducible refine i_pcons ?_
  | with_reducible refine i_pnil ?_
  | with_reducible refine i_dget ?_
  | with_reducible refine i_din ?_
  | with_reducible refine i_dput ?_
  | ((with_reducible refine' i_wgtup ?nn ?_); (case nn => exact rfl))
  | ((with_reducible refine' i_rngB ?aa ?bb ?_); (case aa => first | decide | omega); (case bb => first | decide | omega))
  | with_reducible refine i_for ?_
  | with_reducible refine i_while ?_
  | with_reducible refine i_wgcons ?_
  | with_reducible refine i_wgnil ?_
  | with_reducible refine i_wslL ?_
  | with_reducible refine i_nopart ?_
  | with_reducible refine i_part ?_
  | ((with_reducible refine' i_wgunl ?nn ?_); (case nn => exact rfl))
  | ((with_reducible refine' i_xf ?ee ?_); (case ee => exact rfl))
  | ((with_reducible refine' i_errIs ?ee ?_); (case ee => exact rfl))
  | with_reducible refine i_bm0 ?_
  | with_reducible refine i_intB ?_
  | with_reducible refine i_intI ?_
  ))

/-! ### worlds whose houses are owned -/
def thV (hs : List Thing) : List Val := hs.map Thing.v
abbrev thsV (ws : Rooms) : List (List Val) := ws.map thV
/-- but the tray and what is new -/
structure KeepN (t g : Addr) (L : List Addr) (h h' : Hh) : Prop where
  old : ∀ b, b ≠ t → b ≠ g → b ∉ L → h' b = h b
  new : ∀ b ∈ L, h b = none
def fs_law_world_v1 : FS where
  P := Addr × Addr × Int × Bool
  pre := fun (t, g, n, o) vs h => vs = [.ref t] ∧ Tray h t g n ∧ n ≤ 1000000000000
  post := fun (t, g, n, o) h v h' => ∃ ws : Rooms, WorldOk ws ∧ Tray h' t g (n + 2500) ∧ if o then ∃ a bs, v = .ref a ∧ Nest h' a bs (thsV ws) ∧ KeepN t g (a :: bs) h h' else v = roomsV ws ∧ Keep t g h h'
theorem c_law_world_v1 {t g : Addr} {n : Int} {h : Hh} {E : XQ} {Q : KQ} (T : Tray h t g n) (hn : n ≤ 1000000000000) (k : ∀ (ws : Rooms) h', WorldOk ws → Tray h' t g (n + 2500) → Keep t g h h' → Q (roomsV ws) h') : fs_law_world_v1.sp [.ref t] h E Q :=
  ⟨(t, g, n, false), ⟨rfl, T, hn⟩, fun v h' ⟨ws, a, b, c⟩ => by
    obtain ⟨rfl, c⟩ := c
    exact k ws h' a b c, fun _ _ _ z => z.elim⟩
/-- a list of lists of things, told in the heap: no script -/
def HsL (h : Hh) (v : Val) (ws : Rooms) : Prop := ∃ xs, Lsq h v xs ∧ Paired (fun x hs => Lsq h x (hs.map Thing.v)) xs ws
def fs_law_told_v1 (cl : Str → Addr) : FS where
  P := Rooms × Val
  pre := fun (ws, x) vs h => vs = [worldV cl ws, x] ∧ HsL h x ws ∧ SmallW ws ∧ ∀ hs ∈ ws, PureV 4 (houseV hs)
  post := fun _ h v h' => v = .bl true ∧ h' = h
theorem c_law_told_v1 {cl : Str → Addr} {ws : Rooms} {x : Val} {h : Hh} {E : XQ} {Q : KQ} (a : HsL h x ws) (s : SmallW ws) (p : ∀ hs ∈ ws, PureV 4 (houseV hs)) (k : Q (.bl true) h) : (fs_law_told_v1 cl).sp [worldV cl ws, x] h E Q :=
  ⟨(ws, x), ⟨rfl, a, s, p⟩, fun v h' ⟨a, b⟩ => by subst a b; exact k, fun _ _ _ z => z.elim⟩
def r_law_world_v1 : WS :=
  wSeq (wAsg (wCall fs_law_sizes [] (wCons (wVar 0) (wNil))) (wgName 1))
  (wSeq (wAsg (wLst (wNil)) (wgName 2))
  (wSeq (wFor (wiL (wVar 1)) (wgName 3)
  (wExpr (wBM "list" mAppend (wVar 2) (wCons (wLc (wiR1 (wVar 3)) (tg1 4) wYes (wCall fs_law_thing [] (wCons (wVar 0) (wCons (wVar 1) (wNil)))) [4]) (wNil)))))
  (wRet (wVar 2))))

def r_law_told_v1 (cl : Str → Addr) : WS :=
  wSeq (wIf (wTv (wOp wNeS (wCB (cLenO (cl "World") (fs_World___len__ cl)) (wCons (wVar 0) (wNil))) (wCB cLen (wCons (wVar 1) (wNil))))) (wRet (wC (.bl false))) (wNext))
  (wSeq (wFor (wiR1 (wCB cLen (wCons (wVar 1) (wNil)))) (wgName 2)
  (wIf (wNot (wTv (wCall (fs_law_alike 5) [] (wCons (wMeth (cl "World") "house" (fs_World_house cl) [] (wVar 0) (wCons (wVar 2) (wNil))) (wCons (wOp wIx (wVar 1) (wVar 2)) (wNil)))))) (wRet (wC (.bl false))) (wNext)))
  (wRet (wC (.bl true))))

theorem Tray.hup {h : Hh} {t g a : Addr} {n : Int} {o : Ob} (T : Tray h t g n) (at' : a ≠ t) (ag : a ≠ g) : Tray (hup h a o) t g n := by
  obtain ⟨ne, gs, b, fold, c, ht, hg, r⟩ := T
  exact ⟨ne, gs, b, fold, c, by rw [hup_ne at'.symm]; exact ht, by rw [hup_ne ag.symm]; exact hg, r⟩
theorem Tray.new {h : Hh} {t g a : Addr} {n : Int} (T : Tray h t g n) (ha : h a = none) : a ≠ t ∧ a ≠ g := by
  obtain ⟨ne, gs, b, fold, c, ht, hg, r⟩ := T
  exact ⟨fun z => (by subst z; rw [ht] at ha; cases ha), fun z => (by subst z; rw [hg] at ha; cases ha)⟩
theorem Tray.same {h h' : Hh} {t g : Addr} {n : Int} (T : Tray h t g n) (e1 : h' t = h t) (e2 : h' g = h g) : Tray h' t g n := by
  obtain ⟨ne, gs, b, fold, c, ht, hg, r⟩ := T
  exact ⟨ne, gs, b, fold, c, by rw [e1]; exact ht, by rw [e2]; exact hg, r⟩
theorem rd_law_world_v1 {K : Fr} {p vs h Q} {X : XQ} (gd : Good K Q) (q : fs_law_world_v1.pre p vs h) (hp : ∀ v h', fs_law_world_v1.post p h v h' → Q v h') :
    r_law_world_v1 (fun _ h' => Q .non h') Q (fun _ _ => False) (fun _ _ => False) (fun C v _ h' => X C v h') (startV ["tray", "sizes", "houses", "size", "k"] vs) h := by
  obtain ⟨t, g, n, o⟩ := p
  obtain ⟨rfl, T, hn⟩ := q
  have fin : ∀ (ws : Rooms) a bs h', WorldOk ws → Tray h' t g (n + 2500) → Nest h' a bs (thsV ws) → KeepN t g (a :: bs) h h' → Q (.ref a) h' := fun ws a bs h' ok T1 N kn => by
    cases o with
    | true => exact hp _ _ ⟨ws, ok, T1, a, bs, rfl, N, kn⟩
    | false =>
      refine gd.nest N ?_
      have e : (thsV ws).map Val.lst = ws.map houseV := by simp [thsV, thV, houseV]
      rw [e]
      have nt : t ∉ a :: bs := fun z => by
        obtain ⟨ne, gs, b, fold, c, ht, hg, r⟩ := T
        have := kn.new t z
        rw [ht] at this; cases this
      have ng : g ∉ a :: bs := fun z => by
        obtain ⟨ne, gs, b, fold, c, ht, hg, r⟩ := T
        have := kn.new g z
        rw [hg] at this; cases this
      refine hp _ _ ⟨ws, ok, T1.same (hdelL_out nt) (hdelL_out ng), rfl, fun b b1 b2 => ?_⟩
      by_cases hb : b ∈ a :: bs
      · rw [hdelL_in hb, kn.new b hb]
      · rw [hdelL_out hb, kn.old b b1 b2 hb]
  show r_law_world_v1 _ _ _ _ _ [some (.ref t), none, none, none, none] h
  unfold r_law_world_v1
  walk_at "zgo"
  refine c_law_sizes T (by omega) fun ns h1 n1 n8 nb T1 kp1 => ?_
  have hsum := sum_le nb
  walk_at "zgo"
  refine i_newO fun rr hr => ?_
  walk_at "zgo"
  obtain ⟨rt, rg⟩ := T1.new hr
  refine for_inv (fun i ρ h' => ∃ (ws : Rooms) (bs : List Addr) (x y : Option Val), ρ = [some (.ref t), some (.lst (natsV ns)), some (.ref rr), x, y] ∧ Nest h' rr bs (thsV ws) ∧ ws.map List.length = ns.take i ∧ i ≤ ns.length ∧ (∀ hs ∈ ws, ∀ th ∈ hs, th.Ok ns) ∧ Tray h' t g (n + 10 + 250 * i) ∧ KeepN t g (rr :: bs) h h')
    ⟨[], [], none, none, rfl, ⟨hup_same, rfl, fun i b xs e => by simp at e, by simp⟩, by simp, by simp, by simp, (T1.hup rt rg).more (by omega), fun b b1 b2 b3 => by rw [hup_ne (by simpa using b3)]; exact kp1 b b1 b2, fun b hb => by simp at hb; subst hb; rw [← kp1 b rt rg]; exact hr⟩ ?_
  rintro i ρ h' ⟨ws, bs, x, y, rfl, N, hl, hi, ok, T3, kp3⟩
  refine ⟨trivial, fun hi2 => ?_, fun z hz => ?_⟩
  · have hi3 : i = ns.length := by simp [natsV] at hi2; omega
    subst hi3
    rw [List.take_length] at hl
    walk_at "zgo"
    refine fin ws rr bs h' ?_ (T3.more (by omega)) N kp3
    have hwl : ws.length = ns.length := by rw [← hl, List.length_map]
    refine ⟨by omega, by omega, fun hs hh => ?_, fun hs hh th hth => by rw [hl]; exact ok hs hh th hth⟩
    have : hs.length ∈ ws.map List.length := List.mem_map.mpr ⟨hs, hh, rfl⟩
    rw [hl] at this
    exact nb _ this
  · obtain ⟨k, hk, rfl⟩ := map_get hz
    have hk12 : k ≤ 12 := nb k (List.mem_of_getElem? hk)
    have hil : i < ns.length := (List.getElem?_eq_some_iff.mp hk).1
    have ntop := N.top
    walk_at "zgo"
    refine lc_inv (fun j acc h4 => j ≤ k ∧ (∃ hs : List Thing, acc = hs.map Thing.v ∧ hs.length = j ∧ ∀ th ∈ hs, th.Ok ns) ∧ Tray h4 t g (n + 10 + 250 * i + 20 * j) ∧ Keep t g h' h4) ⟨Nat.zero_le _, ⟨[], rfl, rfl, by simp⟩, T3.more (by omega), Keep.refl⟩ ?_
    rintro j acc h4 ⟨hj, ⟨hs, rfl, hl2, hb⟩, T4, kp4⟩
    refine ⟨trivial, fun hj2 => ?_, fun x hx => ?_⟩
    · rw [rng_len] at hj2
      have hjk : j = k := by omega
      subst hjk
      have nt : ∀ c ∈ rr :: bs, c ≠ t ∧ c ≠ g := fun c hc => by
        obtain ⟨ne, gs, b, fold, cc, ht, hg, r⟩ := T
        have := kp3.new c hc
        exact ⟨fun z => (by subst z; rw [ht] at this; cases this), fun z => (by subst z; rw [hg] at this; cases this)⟩
      have N4 : Nest h4 rr bs (thsV ws) := N.keep fun c hc => kp4 c (nt c hc).1 (nt c hc).2
      refine i_newO fun nb hnb => ?_
      obtain ⟨n1, n2⟩ := T4.new hnb
      have n3 : nb ≠ rr := fun z => N4.fresh hnb (by rw [z]; simp)
      walk_at "zgo"
      refine i_append (by rw [hup_ne n3.symm]; exact N4.top) (by rw [List.length_map, N.len, List.length_map]; have := congrArg List.length hl; simp at this ⊢; omega) ?_
      have N5 := N4.app (xs := hs.map Thing.v) hnb
      refine ⟨ws ++ [hs], bs ++ [nb], _, _, rfl, by simpa [thsV, thV] using N5, ?_, by omega, ?_, ?_, fun b b1 b2 b3 => ?_, fun b hb => ?_⟩
      · rw [List.map_append, hl, List.take_succ, hk, ← hl2]; rfl
      · intro hs2 hh th hth
        rcases List.mem_append.mp hh with hh | hh
        · exact ok hs2 hh th hth
        · simp at hh; subst hh; exact hb th hth
      · exact ((T4.hup n1 n2).hup (nt rr (by simp)).1 (nt rr (by simp)).2).more (by omega)
      · have b4 : b ≠ nb := fun z => b3 (by simp [z])
        have b5 : b ≠ rr := fun z => b3 (by simp [z])
        rw [hup_ne b5, hup_ne b4, kp4 b b1 b2]
        exact kp3.old b b1 b2 fun z => b3 (by simp at z ⊢; rcases z with z | z; exact .inl z; exact .inr (.inl z))
      · by_cases hb2 : b ∈ rr :: bs
        · exact kp3.new b hb2
        · have e : b = nb := by simp at hb hb2; rcases hb with hb | hb | hb; exact absurd hb hb2.1; exact absurd hb hb2.2; exact hb
          subst e
          rw [← kp3.old b n1 n2 hb2, ← kp4 b n1 n2]
          exact hnb
    · obtain ⟨hj3, rfl⟩ := rng_get hx
      walk_at "zgo"
      refine c_law_thing T4 (by omega) (sum_pos (List.mem_of_getElem? hk) (by omega)) (by omega) fun th h5 hth T5 kp5 => ?_
      refine ⟨by simp; omega, by omega, ⟨hs ++ [th], by simp, by simp [hl2], fun u hu => ?_⟩, T5.more (by omega), kp4.trans kp5⟩
      rcases List.mem_append.mp hu with hu | hu
      · exact hb u hu
      · simp at hu; subst hu; exact hth
theorem Lsq.seqq {h : Hh} {x : Val} {xs : List Val} (q : Lsq h x xs) : Seqq h x xs := by
  cases q with
  | lst => exact .lst _
  | ref e => exact .ref e
theorem HsL.at {h : Hh} {v : Val} {ws : Rooms} (q : HsL h v ws) : HsAt h v ws := by
  obtain ⟨xs, a, b⟩ := q
  exact ⟨xs, a.seqq, paired_imp (fun _ _ z => z.seqq) b⟩
theorem paired_len {α β : Type} {P : α → β → Prop} : ∀ {xs : List α} {ys : List β}, Paired P xs ys → xs.length = ys.length
  | _, _, .nil => rfl
  | _, _, .cons _ r => by simp [paired_len r]
theorem c_law_alike_lsq {d : Nat} {y : Val} {xs : List Val} {h : Hh} {E : XQ} {Q : KQ} (p : PureV d (.lst xs)) (e : Lsq h y xs) (k : Q (.bl true) h) : (fs_law_alike (d + 1)).sp [.lst xs, y] h E Q := by
  cases e with
  | lst => exact c_law_alike p k
  | ref e => exact c_law_alike_ref p e k
theorem rd_law_told_v1 {K : Fr} {cl : Str → Addr} {p : Rooms × Val} {vs h Q} {X : XQ} (gd : Good K Q) (q : (fs_law_told_v1 cl).pre p vs h) (hp : ∀ v h', (fs_law_told_v1 cl).post p h v h' → Q v h') :
    r_law_told_v1 cl (fun _ h' => Q .non h') Q (fun _ _ => False) (fun _ _ => False) (fun C v _ h' => X C v h') (startV ["world", "houses", "k"] vs) h := by
  obtain ⟨p, x⟩ := p
  obtain ⟨rfl, ⟨xs, sq, pr⟩, sm, ok⟩ := q
  have hq : Q (.bl true) h := hp _ _ ⟨rfl, rfl⟩
  clear hp
  show r_law_told_v1 _ _ _ _ _ _ [some (.obj (cl "World") [("houses_kept", .lst (List.map houseV p))]), some x, none] h
  unfold r_law_told_v1
  have hlw := sm.len
  have hlx := paired_len pr
  walk_at "zgo"
  refine c_World_len sm ⟨_, rfl, ⟨by omega, by omega⟩, ?_⟩
  walk_at "zgo"
  refine len_seqq sq.seqq ?_
  rw [hlx]
  walk_at "zgo"
  refine len_seqq sq.seqq ?_
  rw [hlx]
  walk_at "zgo"
  refine for_inv (fun i ρ h' => h' = h ∧ ∃ z : Option Val, ρ = [some (.obj (cl "World") [("houses_kept", .lst (List.map houseV p))]), some x, z]) ⟨rfl, none, rfl⟩ ?_
  rintro i ρ h' ⟨rfl, z, rfl⟩
  refine ⟨trivial, fun _ => ?_, fun z hz => ?_⟩
  · walk_at "zgo"
    exact hq
  · obtain ⟨hi, rfl⟩ := rng_get hz
    have hi' : i < p.length := by simpa using hi
    have hg : p[i]? = some p[i] := List.getElem?_eq_getElem hi'
    obtain ⟨y, hy, sy⟩ := paired_get pr hg
    walk_at "zgo"
    refine c_World_house (hs := p[i]) sm (by omega) (by rw [show (0 + (i : Int)).toNat = i by omega]; exact hg) ?_
    walk_at "zgo"
    refine ix_seqq sq.seqq (atI_nat' hy) ?_
    walk_at "zgo"
    refine c_law_alike_lsq (PureV.le (ok _ (List.getElem_mem hi')) (by decide)) sy ?_
    walk_at "zgo"
    exact ⟨rfl, _, rfl⟩
/-! LW2 -/


theorem i_neNil {h : Hh} {x : Val} {d : PyData} {ds : List PyData} {n : Nat} {Q : KQ} (a : Dv h x (.list (d :: ds))) (l : LayD n (.list (d :: ds))) (ln : n ≤ 64) (k : Q (.bl true) h) : wNeD x (.lst []) h Q := by
  refine ⟨_, .list [], a, .lst .nil, l.shaped ln, by decide +kernel, ?_⟩
  simp only [PyData.eqv, PyData.eqvAll]
  exact k
theorem i_neNil0 {h : Hh} {x : Val} {Q : KQ} (a : Dv h x (.list [])) (k : Q (.bl false) h) : wNeD x (.lst []) h Q := by
  refine ⟨_, .list [], a, .lst .nil, by decide +kernel, by decide +kernel, ?_⟩
  simp only [PyData.eqv, PyData.eqvAll]
  exact k
theorem i_eqNil {h : Hh} {x : Val} {d : PyData} {ds : List PyData} {n : Nat} {Q : KQ} (a : Dv h x (.list (d :: ds))) (l : LayD n (.list (d :: ds))) (ln : n ≤ 64) (k : Q (.bl false) h) : wEqD x (.lst []) h Q := by
  refine ⟨_, .list [], a, .lst .nil, l.shaped ln, by decide +kernel, ?_⟩
  simp only [PyData.eqv, PyData.eqvAll]
  exact k
theorem i_eqNil0 {h : Hh} {x : Val} {Q : KQ} (a : Dv h x (.list [])) (k : Q (.bl true) h) : wEqD x (.lst []) h Q := by
  refine ⟨_, .list [], a, .lst .nil, by decide +kernel, by decide +kernel, ?_⟩
  simp only [PyData.eqv, PyData.eqvAll]
  exact k
theorem Lsq.dv {h : Hh} {x : Val} {xs : List Val} {ds : List PyData} (q : Lsq h x xs) (p : Dvs h xs ds) : Dv h x (.list ds) := by
  cases q with
  | lst => exact .lst p
  | ref e => exact .ref e p
theorem lsq_house {h : Hh} {x : Val} {hs : List Thing} (q : Lsq h x (hs.map Thing.v)) : Dv h x (houseD hs) := q.dv (dvs_map Thing.dv hs)
theorem paired_dvs {h : Hh} : ∀ {xs : List Val} {ws : Rooms}, Paired (fun x hs => Lsq h x (hs.map Thing.v)) xs ws → Dvs h xs (ws.map houseD)
  | _, _, .nil => .nil
  | _, _, .cons a r => .cons (lsq_house a) (paired_dvs r)
theorem HsL.dv {h : Hh} {x : Val} {ws : Rooms} (q : HsL h x ws) : Dv h x (roomsD ws) := by
  obtain ⟨xs, a, b⟩ := q
  exact a.dv (paired_dvs b)
/-- the tray, and houses that are owned -/
structure Own (t g : Addr) (h : Hh) (a : Addr) (bs : List Addr) (ws : Rooms) : Prop where
  N : Nest h a bs (thsV ws)
  nt : t ∉ a :: bs
  ng : g ∉ a :: bs
theorem Own.keep {t g a : Addr} {h h' : Hh} {bs : List Addr} {ws : Rooms} (o : Own t g h a bs ws) (k : Keep t g h h') : Own t g h' a bs ws :=
  ⟨o.N.keep fun c hc => k c (fun z => o.nt (z ▸ hc)) (fun z => o.ng (z ▸ hc)), o.nt, o.ng⟩
theorem paired_of {α β : Type} {P : α → β → Prop} : ∀ {xs : List α} {ys : List β}, xs.length = ys.length → (∀ (i : Nat) (x : α) (y : β), xs[i]? = some x → ys[i]? = some y → P x y) → Paired P xs ys
  | [], [], _, _ => .nil
  | [], _ :: _, h, _ => by cases h
  | _ :: _, [], h, _ => by cases h
  | x :: xs, y :: ys, hl, h => .cons (h 0 x y rfl rfl) (paired_of (by simpa using hl) fun i x y e1 e2 => h (i + 1) x y (by simpa using e1) (by simpa using e2))
theorem Nest.hs {h : Hh} {a : Addr} {bs : List Addr} {ws : Rooms} (N : Nest h a bs (thsV ws)) : HsL h (.ref a) ws :=
  ⟨_, .ref N.top, paired_of (by have := N.len; simp at this ⊢; exact this) fun i x hs e1 e2 => by
    rw [List.getElem?_map] at e1
    cases e : bs[i]? with
    | none => rw [e] at e1; cases e1
    | some b =>
      rw [e] at e1
      cases e1
      exact .ref (N.each i b (thV hs) e (by rw [List.getElem?_map, e2]; rfl))⟩
theorem HsL.len {h : Hh} {x : Val} {ws : Rooms} {Q : KQ} (q : HsL h x ws) (k : Q (.int (ws.length : Int)) h) : cLen [x] h Q := by
  obtain ⟨xs, a, b⟩ := q
  refine len_seqq a.seqq ?_
  rw [paired_len b]
  exact k
/-- refs of things only -/
def Thing.Plain (th : Thing) : Prop := ∀ r ∈ th.refs, ∃ a b, r = .thing a b
structure Bd (k : Nat) (ws : Rooms) : Prop where
  len : ws.length ≤ 9 + k
  house : ∀ hs ∈ ws, hs.length ≤ 13
  refs : ∀ hs ∈ ws, ∀ th ∈ hs, th.refs.length ≤ 13 + k ∧ th.Plain
/-! LW3 -/


theorem i_popAt {l : Addr} {xs : List Val} {i : Int} {y : Val} {h : Hh} {Q : KQ} (e : h l = some (.lst xs)) (i0 : 0 ≤ i) (il : i < (xs.length : Int)) (b : xs.length ≤ 16000000) (hy : xs[i.toNat]? = some y) (q : Q y (hup h l (.lst (xs.eraseIdx i.toNat)))) : mPopAt (.ref l) [.int i] h Q :=
  ⟨l, xs, i, i.toNat, y, rfl, rfl, e, by omega, by omega, by
    unfold seqIndex?
    rw [if_neg (show ¬ i < 0 by omega)]
    simp [i0, il], hy, q⟩
theorem ixN_of {n : Nat} {i : Int} (i0 : 0 ≤ i) (il : i < (n : Int)) : L2.ixN n i = some i.toNat := by
  unfold L2.ixN
  rw [if_pos i0, if_pos il]
theorem Bd.up {k : Nat} {ws : Rooms} (b : Bd k ws) : Bd (k + 1) ws := ⟨by have := b.len; omega, b.house, fun hs hh th ht => ⟨by have := (b.refs hs hh th ht).1; omega, (b.refs hs hh th ht).2⟩⟩
/-- a house is exchanged -/
theorem Bd.set {k : Nat} {ws : Rooms} {hs : List Thing} (b : Bd k ws) (i : Nat) (h1 : hs.length ≤ 13) (h2 : ∀ th ∈ hs, th.refs.length ≤ 13 + k ∧ th.Plain) : Bd k (ws.set i hs) :=
  ⟨by rw [List.length_set]; exact b.len, fun us hu => by
    rcases List.mem_or_eq_of_mem_set hu with hu | rfl
    · exact b.house us hu
    · exact h1, fun us hu => by
    rcases List.mem_or_eq_of_mem_set hu with hu | rfl
    · exact b.refs us hu
    · exact h2⟩
theorem Own.inner {t g a b : Addr} {h : Hh} {bs : List Addr} {ws : Rooms} (o : Own t g h a bs ws) {i : Nat} (e : bs[i]? = some b) (hs : List Thing) : Own t g (hup h b (.lst (hs.map Thing.v))) a bs (ws.set i hs) :=
  ⟨by have := o.N.inner e (hs.map Thing.v); rwa [show (thsV ws).set i (hs.map Thing.v) = thsV (ws.set i hs) by simp [thsV, thV, List.map_set]] at this, o.nt, o.ng⟩
theorem Own.tray {t g a b : Addr} {h : Hh} {bs : List Addr} {ws : Rooms} {n : Int} {x : Ob} (o : Own t g h a bs ws) (hb : b ∈ a :: bs) (T : Tray h t g n) : Tray (hup h b x) t g n :=
  T.hup (fun z => o.nt (z ▸ hb)) (fun z => o.ng (z ▸ hb))
/-! LK2 -/


/-- a world made, or refused -/
theorem c_World_try {cl : Str → Addr} {v : Val} {ws : Rooms} {h : Hh} {E : XQ} {Q : KQ} (hs : HsAt h v ws) (s : SmallW ws) (k : okWorld ws = true → Q (worldV cl ws) h) (kx : okWorld ws = false → ∀ a, h a = none → E (cl "NoWorld") .non (hup h a (.ins (cl "World") []))) : ∀ a, h a = none → (fs_World___init__ cl).sp [.ref a, v] (hup h a (.ins (cl "World") [])) E (fun v h2 => v = .non ∧ MkEnd (cl "World") a h2 Q) := fun a ha => by
  refine ⟨(a, v, ws), ⟨rfl, hup_same, hs.up ha, s⟩, fun r h' ⟨ok, e1, e2⟩ => ?_, fun C r h' ⟨ok, e1, e2, e3⟩ => ?_⟩
  · subst e1 e2
    refine ⟨rfl, .inr ⟨_, hup_same, ?_⟩⟩
    rw [hup_hup, hdel_hup ha]
    exact k ok
  · subst e1 e2 e3
    exact kx ok a ha
theorem Bd.pure {k : Nat} {ws : Rooms} (b : Bd k ws) (hk : k ≤ 100) {hs : List Thing} (h : hs ∈ ws) : PureV 4 (houseV hs) :=
  house_pure (by have := b.house hs h; omega) fun t ht => by have := (b.refs hs h t ht).1; omega
/-! ZJ -/
/-! texts -/
section
variable {X : Cx} {W : WX} {pos : Pos} {e : Expr} {te : WE}
/-! ### f-strings -/
def wFmt (te : WE) : WE := fun ρ h E Q => te ρ h E fun x h1 => (∃ y : Str, x = .str y ∧ y.length ≤ sizeLine ∧ Q (.str y) h1) ∨ ∃ i : Int, x = .int i ∧ i.natAbs.log2 < 1920 ∧ Q (.str (toString i)) h1
def wJsF : List WE → Str → Ev → Hh → XQ → (Str → Hh → Prop) → Prop
  | [], acc, _, h, _, Q => Q acc h
  | t :: ts, acc, ρ, h, E, Q => t ρ h E fun x h1 => ∃ y : Str, x = .str y ∧ (acc ++ y).length ≤ sizeLine ∧ wJsF ts (acc ++ y) ρ h1 E Q
def wJs (ts : List WE) : WE := fun ρ h E Q => wJsF ts Str.empty ρ h E fun out h1 => Q (.str out) h1
inductive ZPJ (X : Cx) (W : WX) : List Expr → List WE → Prop where
  | nil : ZPJ X W [] []
  | cons {e : Expr} {t : WE} {es : List Expr} {ts : List WE} (h : ZE X W e t) (r : ZPJ X W es ts) : ZPJ X W (e :: es) (t :: ts)
end
/-! ### split, partition, signs, slices, int -/
def mSplit : WM := fun x vs h Q => ∃ a b : Str, x = .str a ∧ vs = [.str b] ∧ (b.length == 0) = false ∧ a.length + 2 ≤ sizeLine ∧ NewL ((Txt.split a b).map Val.str) h Q
theorem s_split {K : Fr} : SndM K mSplit (fun x xs H Q => ∃ a b, x = V.str a ∧ xs = [V.str b] ∧ (b.length == 0) = false ∧ a.length + 2 ≤ sizeLine ∧ rNewStrs (Txt.split a b) H Q) := fun S F H h x v xs vs Q' Q r rx rxs q lq => by
  obtain ⟨a, b, rfl, rfl, h1, h2, q⟩ := q
  obtain ⟨w, rfl, x1⟩ := rels_1 rxs
  exact ⟨a, b, rel_str.mp rx, by rw [rel_str.mp x1], h1, h2, fun p hp => newl r (Rels.strs.mpr rfl) q lq hp⟩
def mPartition : WM := fun x vs h Q => ∃ a b : Str, x = .str a ∧ vs = [.str b] ∧ (b.length == 0) = false ∧ a.length ≤ sizeLine ∧ Q (.tup [.str (Txt.partition a b).1, .str (Txt.partition a b).2.1, .str (Txt.partition a b).2.2]) h
theorem s_partition {K : Fr} : SndM K mPartition (fun x xs H Q => ∃ a b, x = V.str a ∧ xs = [V.str b] ∧ (b.length == 0) = false ∧ a.length ≤ sizeLine ∧
    ∀ p, H p = none → Q (V.ref p) (upd H p (.tup [.str (Txt.partition a b).1, .str (Txt.partition a b).2.1, .str (Txt.partition a b).2.2]))) := fun S F H h x v xs vs Q' Q r rx rxs q lq => by
  obtain ⟨a, b, rfl, rfl, h1, h2, q⟩ := q
  obtain ⟨w, rfl, x1⟩ := rels_1 rxs
  exact ⟨a, b, rel_str.mp rx, by rw [rel_str.mp x1], h1, h2, fun p hp => newt r (rels_cons.mpr ⟨_, _, rfl, rel_str.mpr rfl, rels_cons.mpr ⟨_, _, rfl, rel_str.mpr rfl, Rels.one (rel_str.mpr rfl)⟩⟩) q lq hp⟩
def wNotInSign : W2 := fun x y h Q => ∃ (c : Nat) (z : Str), x = .str ⟨#[c]⟩ ∧ y = .str z ∧ Q (.bl (!decide (c ∈ z.cps.toList))) h
theorem s_notInSign {K : Fr} : Snd2 K wNotInSign (fun x y H Q => ∃ (c : Nat) (z : Str), x = V.str ⟨#[c]⟩ ∧ y = V.str z ∧ Q (.bl (!decide (c ∈ z.cps.toList))) H) := fun S F H h x y v w Q' Q r rx ry q lq => by
  obtain ⟨c, z, rfl, rfl, q⟩ := q
  exact ⟨c, z, rel_str.mp rx, rel_str.mp ry, lq _ _ S _ _ q (Sub.refl S) r (rel_bl.mpr rfl)⟩
def wSlS : W3 := fun x lo hi h Q => ∃ z : Str, x = .str z ∧ z.length ≤ sizeLine ∧ Q (.str (cutS z lo hi)) h
theorem s_slS {K : Fr} : Snd3 K wSlS rSlS := fun S F H h x v lo hi Q' Q r rx q lq => by
  obtain ⟨z, rfl, hz, q⟩ := q
  exact ⟨z, rel_str.mp rx, hz, lq _ _ S _ _ q (Sub.refl S) r (rel_str.mpr rfl)⟩
def cIntS : WC := fun vs h Q => ∃ (a : Str) (n : Int), vs = [.str a] ∧ PySem.intText? a = some n ∧ a.length ≤ 640 ∧ Q (.int n) h
theorem s_intS {K : Fr} : SndC K cIntS (fun xs H Q => ∃ a n, xs = [V.str a] ∧ PySem.intText? a = some n ∧ a.length ≤ 640 ∧ Q (V.int n) H) := fun S F H h xs vs Q' Q r rx q lq => by
  obtain ⟨a, n, rfl, h1, h2, q⟩ := q
  obtain ⟨w, rfl, x1⟩ := rels_1 rx
  exact ⟨a, n, by rw [rel_str.mp x1], h1, h2, lq _ _ S _ _ q (Sub.refl S) r (rel_int.mpr rfl)⟩
/-! ### steps -/
theorem i_addS {x y : Str} {h : Hh} {Q : KQ} (hz : x.length + y.length ≤ 16000000) (q : Q (.str (x ++ y)) h) : wAddS (.str x) (.str y) h Q := ⟨x, y, rfl, rfl, by have := sizeLine_eq; omega, q⟩
theorem i_str {i : Int} {h : Hh} {Q : KQ} (hz : i.natAbs.log2 < 1920) (q : Q (.str (toString i)) h) : cStr [.int i] h Q := ⟨i, rfl, hz, q⟩
theorem i_fmtI {te : WE} {ρ h E} {Q : KQ} (q : te ρ h E fun x h1 => (∃ y : Str, x = .str y ∧ y.length ≤ sizeLine ∧ Q (.str y) h1) ∨ ∃ i : Int, x = .int i ∧ i.natAbs.log2 < 1920 ∧ Q (.str (toString i)) h1) : wFmt te ρ h E Q := q
theorem i_js {ts : List WE} {ρ h E} {Q : KQ} (q : wJsF ts Str.empty ρ h E fun out h1 => Q (.str out) h1) : wJs ts ρ h E Q := q
theorem i_jsc {t : WE} {ts : List WE} {acc : Str} {ρ h E} {Q : Str → Hh → Prop} (q : t ρ h E fun x h1 => ∃ y : Str, x = .str y ∧ (acc ++ y).length ≤ sizeLine ∧ wJsF ts (acc ++ y) ρ h1 E Q) : wJsF (t :: ts) acc ρ h E Q := q
theorem i_jsn {acc : Str} {ρ h E} {Q : Str → Hh → Prop} (q : Q acc h) : wJsF [] acc ρ h E Q := q
theorem i_join {a : Str} {l : Val} {ys : List Str} {h : Hh} {Q : KQ} (st : SeqT h l (ys.map Val.str)) (hz : (ys.map (·.length)).sum + ys.length * a.length ≤ 16777216) (q : Q (.str (Txt.join a ys)) h) : mJoin (.str a) [l] h Q := ⟨a, l, ys, rfl, rfl, st, hz, q⟩
theorem i_split {a b : Str} {h : Hh} {Q : KQ} (hb : (b.length == 0) = false) (hz : a.length ≤ 16000000) (q : NewL ((Txt.split a b).map Val.str) h Q) : mSplit (.str a) [.str b] h Q := ⟨a, b, rfl, rfl, hb, by have := sizeLine_eq; omega, q⟩
theorem i_partition {a b : Str} {h : Hh} {Q : KQ} (hb : (b.length == 0) = false) (hz : a.length ≤ 16000000) (q : Q (.tup [.str (Txt.partition a b).1, .str (Txt.partition a b).2.1, .str (Txt.partition a b).2.2]) h) : mPartition (.str a) [.str b] h Q := ⟨a, b, rfl, rfl, hb, by have := sizeLine_eq; omega, q⟩
theorem i_slS {z : Str} {lo hi : Option Int} {h : Hh} {Q : KQ} (hz : z.length ≤ 16000000) (q : Q (.str (cutS z lo hi)) h) : wSlS (.str z) lo hi h Q := ⟨z, rfl, by have := sizeLine_eq; omega, q⟩
theorem i_intS {a : Str} {n : Int} {h : Hh} {Q : KQ} (e : PySem.intText? a = some n) (hz : a.length ≤ 640) (q : Q (.int n) h) : cIntS [.str a] h Q := ⟨a, n, rfl, e, hz, q⟩
theorem i_lenS {z : Str} {h : Hh} {Q : KQ} (hz : z.length ≤ 16000000) (k : Q (.int (z.length : Int)) h) : cLen [.str z] h Q := ⟨_, _, rfl, .str (by have := sizeLine_eq; omega), k⟩
theorem i_tyS {h : Hh} {z : Str} {A : Prop} (q : A) : TyM h "str" (.str z) ∧ A := ⟨.str z, q⟩
theorem i_iS {t : WE} {ρ h E} {G : List Val → (Hh → Prop) → Hh → Prop} (q : t ρ h E fun v h1 => ∃ x : Str, v = .str x ∧ G (x.cps.toList.map sgn) (fun _ => True) h1) : wiS t ρ h E G := q
theorem i_str1 {z : Str} {A : Str → Prop} (q : A z) : ∃ j, Val.str z = .str j ∧ A j := ⟨z, rfl, q⟩
/-! ZK -/
/-! str and == of an own instance -/
section
variable {X : Cx} {W : WX} {pos : Pos}
/-! ### == -/
end
/-! ### try where the body raises nothing -/
def wTryThru (t : WS) : WS := fun nx rt bk ct _ ρ h => t nx rt bk ct (fun _ _ _ _ => False) ρ h
theorem i_tryThru {t : WS} {nx : EH} {rt : KQ} {bk ct : EH} {xe : XS} {ρ : Ev} {h : Hh} (q : t nx rt bk ct (fun _ _ _ _ => False) ρ h) : wTryThru t nx rt bk ct xe ρ h := q
/-! ### tuples cut and put together -/
def wSlT : W3 := fun x lo hi h Q => ∃ xs, x = .tup xs ∧ Q (.tup (cut xs lo hi)) h
theorem s_slT {K : Fr} : Snd3 K wSlT (rSlA K) := fun S F H h x v lo hi Q' Q r rx q lq => by
  obtain ⟨xs, rfl, q⟩ := q
  rw [rel_tup] at rx
  obtain ⟨a, ws, rfl, h1, h2⟩ := rx
  have e2 : cutV ws lo hi = cut ws lo hi := rfl
  have rc : Rels K S (cut xs lo hi) (cut ws lo hi) := by
    unfold cut
    rw [h2.length]
    exact (h2.drop _).take _
  refine ⟨a, ws, rfl, .of (r.sub _ _ h1), fun hw => ?_, fun hw p hp => ?_⟩
  · have e : cut xs lo hi = xs := by
      unfold cut
      rw [h2.length, hw.1, hw.2, List.drop_zero, Nat.sub_zero, ← h2.length, List.take_length]
    rw [e] at q
    exact lq _ _ S _ _ q (Sub.refl S) r (rel_tup.mpr ⟨a, ws, rfl, h1, h2⟩)
  · rw [e2]
    exact newt r rc q lq hp
theorem i_slT {xs : List Val} {lo hi : Option Int} {h : Hh} {Q : KQ} (q : Q (.tup (cut xs lo hi)) h) : wSlT (.tup xs) lo hi h Q := ⟨xs, rfl, q⟩
theorem hu65 {k : Nat} {A : Around} (hr : Room k A) : A.units + 65 < cLine := by have := hr.un; omega
/-! LT0 -/
open TL
/-! ### texts of numbers, refs, things, houses: plain law -/
/-- a number's text -/
abbrev iT (i : Int) : Str := toString i
def iL (i : Int) : List Nat := if 0 ≤ i then numL i.toNat else 45 :: numL (-i).toNat
theorem tl_iT (i : Int) : tl (iT i) = iL i := by
  unfold iL
  by_cases h : 0 ≤ i
  · rw [if_pos h]
    obtain ⟨n, rfl⟩ := Int.eq_ofNat_of_zero_le h
    exact tl_num n
  · rw [if_neg h]
    obtain ⟨n, rfl⟩ : ∃ n : Nat, i = -((n + 1 : Nat) : Int) := ⟨(-i).toNat - 1, by omega⟩
    have e : (-(-((n + 1 : Nat) : Int))).toNat = n + 1 := by omega
    rw [e]
    show tl (Str.ofString (toString (Int.negSucc n))) = _
    rw [tl_ofString]
    show ("-" ++ toString (n + 1)).toList.map Char.toNat = _
    rw [String.toList_append, List.map_append]
    show 45 :: (toString (n + 1)).toList.map Char.toNat = _
    show 45 :: (Nat.repr (n + 1)).toList.map Char.toNat = _
    rw [Nat.toList_repr]
    rfl
def numB (l : List Nat) : Bool := decide (1 ≤ l.length) && decide (l.length ≤ 60) && l.all (fun c => decide (48 ≤ c ∧ c ≤ 57)) && (decide (l.length = 1) || decide (l.head? ≠ some 48))
theorem numB_digits {l : List Nat} (h : numB l = true) : NumText.AllDigits l := by
  unfold numB at h
  simp only [Bool.and_eq_true, List.all_eq_true, decide_eq_true_eq] at h
  exact h.1.2
theorem numB_len {l : List Nat} (h : numB l = true) : 1 ≤ l.length ∧ l.length ≤ 60 := by
  unfold numB at h
  simp only [Bool.and_eq_true, decide_eq_true_eq] at h
  exact h.1.1
theorem numB_int {z : Str} (h : numB (tl z) = true) : PySem.intText? z = some ((NumText.digitsVal (tl z) : Nat) : Int) ∧ z.length ≤ 60 := by
  have l := numB_len h
  rw [← len_tl] at l
  exact ⟨intText_digits (numB_digits h) (fun e => by rw [len_tl, show tl z = z.cps.toList from rfl, e] at l; simp at l) (by omega), l.2⟩
/-- a number, perhaps below 0 -/
def signB (l : List Nat) : Bool := if l.take 1 = [45] then numB (l.drop 1) && decide (l ≠ [45, 48]) else numB l
def sval (l : List Nat) : Int := if l.take 1 = [45] then -((NumText.digitsVal (l.drop 1) : Nat) : Int) else ((NumText.digitsVal l : Nat) : Int)
theorem sign_int {z : Str} (h : signB (tl z) = true) : PySem.intText? z = some (sval (tl z)) ∧ z.length ≤ 61 := by
  unfold signB at h
  unfold sval
  split at h
  · rename_i e
    rw [if_pos e]
    rw [Bool.and_eq_true] at h
    have l := numB_len h.1
    have ez : tl z = 45 :: (tl z).drop 1 := by
      rw [← List.take_append_drop 1 (tl z), e]
      simp
    have lz : z.length = ((tl z).drop 1).length + 1 := by rw [len_tl, ez]; simp
    refine ⟨intText_neg ez (numB_digits h.1) (fun e => by rw [e] at l; simp at l) (by omega), by omega⟩
  · rename_i e
    rw [if_neg e]
    obtain ⟨a, b⟩ := numB_int h
    exact ⟨a, by omega⟩
theorem iL_free {i : Int} {c : Nat} (h : c ≠ 45) (h2 : c < 48 ∨ 57 < c) : c ∉ iL i := by
  unfold iL
  split
  · exact numL_free h2
  · intro z
    rcases List.mem_cons.mp z with z | z
    · exact h z
    · exact numL_free h2 z
theorem iL_len {i : Int} (h1 : -(10 ^ 60) < i) (h2 : i < 10 ^ 60) : (iL i).length ≤ 61 := by
  unfold iL
  split
  · have := numL_len (n := i.toNat) (k := 60) (by decide) (by omega)
    omega
  · have := numL_len (n := (-i).toNat) (k := 60) (by decide) (by omega)
    simp only [List.length_cons]
    omega
/-- a ref -/
def refB (l : List Nat) : Option (Nat × Nat) := match par [46] [] l with
  | some (a, b) => if numB a && numB b then some (NumText.digitsVal a, NumText.digitsVal b) else none
  | none => none
def refO (o : Option (Nat × Nat)) : Val := match o with
  | some (a, b) => (RefD.thing a b).v
  | none => .non
def refL : RefD → List Nat
  | .thing a b => iL a ++ (46 :: iL b)
  | .made a _ c => iL a ++ (46 :: iL c)
def RefD.Sm : RefD → Prop
  | .thing a b => 0 ≤ a ∧ a < 10 ^ 60 ∧ 0 ≤ b ∧ b < 10 ^ 60
  | .made _ _ _ => False
theorem refL_free {r : RefD} {c : Nat} (h : c ≠ 45) (h2 : c ≠ 46) (h3 : c < 48 ∨ 57 < c) : c ∉ refL r := by
  cases r <;>
  · intro z
    rcases List.mem_append.mp z with z | z
    · exact iL_free h h3 z
    · rcases List.mem_cons.mp z with z | z
      · exact h2 z
      · exact iL_free h h3 z
/-- a shelf, a thing -/
def shelfB (l : List Nat) : List (Option (Nat × Nat)) := if l = [] then [] else (spl [44] 0 [] l).map refB
def shelfV (l : List Nat) : Val := if (shelfB l).all Option.isSome then .tup [.str "shelf", .tup ((shelfB l).map refO)] else .non
def thingV (l : List Nat) : Val :=
  if l = [109] then Thing.maker.v else if l = [120] then Thing.stone.v
  else if l.take 1 = [98] ∧ signB (l.drop 1) = true then (Thing.box (sval (l.drop 1))).v
  else if l.take 1 = [115] then shelfV (l.drop 1)
  else if l.take 1 = [114] ∧ (refB (l.drop 1)).isSome = true then .tup [.str "relay", refO (refB (l.drop 1))]
  else .non
def thL : Thing → List Nat
  | .box w => 98 :: iL w
  | .shelf rs => 115 :: joinL [44] (rs.map refL)
  | .relay r => 114 :: refL r
  | .maker => [109]
  | .stone => [120]
def Thing.Sm : Thing → Prop
  | .box w => -(10 ^ 60) < w ∧ w < 10 ^ 60
  | th => ∀ r ∈ th.refs, r.Sm
/-- houses -/
def hsL (hs : List Thing) : List Nat := if hs = [] then [45] else joinL [32] (hs.map thL)
theorem joinL_free {S : List Nat} {c : Nat} (hS : c ∉ S) : ∀ {ps : List (List Nat)}, (∀ p ∈ ps, c ∉ p) → c ∉ joinL S ps
  | [], _ => by simp [joinL]
  | [p], h => by simpa [joinL] using h p (by simp)
  | p :: q :: r, h => by
    simp only [joinL, List.mem_append, not_or]
    exact ⟨h p (by simp), hS, joinL_free hS fun z hz => h z (by simp at hz ⊢; exact .inr hz)⟩
def wsL (ws : Rooms) : List Nat := joinL [32, 59, 32] (ws.map hsL)
/-! LT1 -/
/-! the steps: one macro -/
local macro_rules | `(tactic| walk_at "hlk") => `(tactic| first | assumption | with_reducible exact hup_same | ((with_reducible refine' (hup_ne ?nn).trans ?tt); (case nn => first | assumption | (refine Ne.symm ?_; assumption)); (case tt => walk_at "hlk")))
local macro_rules | `(tactic| walk_at "zgo") => `(tactic| repeat (first
  | with_reducible refine i_seq ?_
  | with_reducible refine i_op ?_
  | ((with_reducible refine g_var ?_); first
    | with_reducible refine i_var0 ?_
    | with_reducible refine i_var1 ?_
    | with_reducible refine i_var2 ?_
    | with_reducible refine i_var3 ?_
    | with_reducible refine i_var4 ?_
    | with_reducible refine i_var5 ?_
    | with_reducible refine i_var6 ?_
    | with_reducible refine i_var7 ?_
    | with_reducible refine i_var8 ?_
    | with_reducible refine i_var9 ?_
    | with_reducible refine i_var10 ?_
    | with_reducible refine i_var11 ?_
    | with_reducible refine i_var12 ?_
    | with_reducible refine i_var13 ?_
    | with_reducible refine i_var14 ?_
    | with_reducible refine i_var15 ?_
    | with_reducible refine i_var16 ?_
    | with_reducible refine i_var17 ?_
    | with_reducible refine i_var18 ?_
    | with_reducible refine i_var19 ?_
    | with_reducible refine i_var20 ?_
    | with_reducible refine i_var21 ?_
    | with_reducible refine i_var22 ?_
    | with_reducible refine i_var23 ?_
    | with_reducible refine i_var24 ?_
    | with_reducible refine i_var25 ?_)
  | with_reducible refine i_c ?_
  | with_reducible refine i_cons ?_
  | with_reducible refine i_nil ?_
  | with_reducible refine i_asg ?_
  | ((with_reducible refine g_name ?_); first
    | with_reducible refine i_name0 ?_
    | with_reducible refine i_name1 ?_
    | with_reducible refine i_name2 ?_
    | with_reducible refine i_name3 ?_
    | with_reducible refine i_name4 ?_
    | with_reducible refine i_name5 ?_
    | with_reducible refine i_name6 ?_
    | with_reducible refine i_name7 ?_
    | with_reducible refine i_name8 ?_
    | with_reducible refine i_name9 ?_
    | with_reducible refine i_name10 ?_
    | with_reducible refine i_name11 ?_
    | with_reducible refine i_name12 ?_
    | with_reducible refine i_name13 ?_
    | with_reducible refine i_name14 ?_
    | with_reducible refine i_name15 ?_
    | with_reducible refine i_name16 ?_
    | with_reducible refine i_name17 ?_
    | with_reducible refine i_name18 ?_
    | with_reducible refine i_name19 ?_
    | with_reducible refine i_name20 ?_
    | with_reducible refine i_name21 ?_
    | with_reducible refine i_name22 ?_
    | with_reducible refine i_name23 ?_
    | with_reducible refine i_name24 ?_
    | with_reducible refine i_name25 ?_)
  | ((with_reducible refine g_tg1 ?_); first
    | with_reducible refine i_tg1_0 ?_
    | with_reducible refine i_tg1_1 ?_
    | with_reducible refine i_tg1_2 ?_
    | with_reducible refine i_tg1_3 ?_
    | with_reducible refine i_tg1_4 ?_
    | with_reducible refine i_tg1_5 ?_
    | with_reducible refine i_tg1_6 ?_
    | with_reducible refine i_tg1_7 ?_
    | with_reducible refine i_tg1_8 ?_
    | with_reducible refine i_tg1_9 ?_
    | with_reducible refine i_tg1_10 ?_
    | with_reducible refine i_tg1_11 ?_
    | with_reducible refine i_tg1_12 ?_
    | with_reducible refine i_tg1_13 ?_
    | with_reducible refine i_tg1_14 ?_
    | with_reducible refine i_tg1_15 ?_
    | with_reducible refine i_tg1_16 ?_
    | with_reducible refine i_tg1_17 ?_
    | with_reducible refine i_tg1_18 ?_
    | with_reducible refine i_tg1_19 ?_
    | with_reducible refine i_tg1_20 ?_
    | with_reducible refine i_tg1_21 ?_
    | with_reducible refine i_tg1_22 ?_
    | with_reducible refine i_tg1_23 ?_)
  | with_reducible refine i_yes ?_
  | with_reducible refine i_if ?_
  | with_reducible refine i_tv ?_
  | with_reducible refine i_bl ?_
  | with_reducible refine i_blV ?_
  | ((with_reducible refine g_if ?_); first
    | with_reducible refine iteT ?_
    | with_reducible refine iteF ?_
    | ((with_reducible refine' i_ifdt ?cc ?_); (case cc => first | decide | omega | assumption | decide +kernel))
    | ((with_reducible refine' i_ifdf ?cc ?_); (case cc => first | decide | omega | assumption | decide +kernel))
    | ((with_reducible refine' i_ifnt ?cc ?_); (case cc => first | decide | omega | assumption | decide +kernel))
    | ((with_reducible refine' i_ifnf ?cc ?_); (case cc => first | decide | omega | assumption | decide +kernel))
    | ((with_reducible refine' i_ift ?cc ?_); (case cc => first | assumption | rfl))
    | ((with_reducible refine' i_iff ?cc ?_); (case cc => first | assumption | rfl)))
  | with_reducible refine i_eqT ?_
  | with_reducible refine i_neT ?_
  | with_reducible refine i_eqI ?_
  | with_reducible refine i_neI ?_
  | with_reducible refine i_eqB ?_
  | with_reducible refine i_neB ?_
  | with_reducible refine i_lt ?_
  | with_reducible refine i_le ?_
  | with_reducible refine i_gt ?_
  | with_reducible refine i_ge ?_
  | with_reducible refine i_add ?_
  | with_reducible refine i_sub ?_
  | with_reducible refine i_and ?_
  | with_reducible refine i_or ?_
  | with_reducible refine i_not ?_
  | with_reducible refine i_andV ?_
  | with_reducible refine i_orV ?_
  | with_reducible refine i_notV ?_
  | with_reducible refine i_ifE ?_
  | with_reducible refine i_isN ?_
  | with_reducible refine i_notN ?_
  | with_reducible refine i_un ?_
  | with_reducible refine i_int1 ?_
  | with_reducible refine i_tup ?_
  | with_reducible refine i_lst ?_
  | ((with_reducible refine' i_small ?ss ?_); (case ss => first | decide | (simp only [List.length_cons, List.length_nil, List.length_map, List.length_append]; omega)))
  | with_reducible refine i_cb ?_
  | with_reducible refine i_call0 ?_
  | with_reducible refine i_call ?_
  | with_reducible refine i_meth0 ?_
  | with_reducible refine i_make0 ?_
  | with_reducible refine i_fld ?_
  | ((with_reducible refine' i_fldO ?ll ?_); (case ll => repeat (first | exact lk_hd | exact lk_nil | (refine lk_tl (by decide +kernel) ?_))))
  | ((with_reducible refine' i_fldR ?ee ?ll ?_); (case ee => walk_at "hlk"); (case ll => repeat (first | exact lk_hd | exact lk_nil | (refine lk_tl (by decide +kernel) ?_))))
  | ((with_reducible refine' i_mO ?ll ?_); (case ll => repeat (first | exact lk_hd | exact lk_nil | (refine lk_tl (by decide +kernel) ?_))))
  | ((with_reducible refine' i_mR ?ee ?ll ?_); (case ee => walk_at "hlk"); (case ll => repeat (first | exact lk_hd | exact lk_nil | (refine lk_tl (by decide +kernel) ?_))))
  | ((with_reducible refine' i_ixT ?at_ ?_); (case at_ => first | exact rfl | exact L2.atI_nat (j := 0) rfl | exact L2.atI_nat (j := 1) rfl))
  | ((with_reducible refine' i_ixL ?at_ ?_); (case at_ => first | exact rfl | exact L2.atI_nat (j := 0) rfl | exact L2.atI_nat (j := 1) rfl))
  | ((with_reducible refine' i_ixR ?hh ?at_ ?_); (case hh => walk_at "hlk"); (case at_ => first | exact rfl | exact L2.atI_nat (j := 0) rfl | exact L2.atI_nat (j := 1) rfl))
  | with_reducible refine i_fldS ?_
  | with_reducible refine i_bm ?_
  | ((with_reducible refine' i_tyL ?hh ?_); (case hh => walk_at "hlk"))
  | ((with_reducible refine' i_l2 ?xx ?yy ?_); (case xx => exact rfl); (case yy => exact rfl))
  | with_reducible refine i_callK ?_
  | with_reducible refine i_makeK ?_
  | with_reducible refine i_chain ?_
  | with_reducible refine i_raise ?_
  | with_reducible refine i_atx ?_
  | with_reducible refine i_lenO ?_
  | with_reducible refine i_sub_ ?_
  | with_reducible refine i_expr ?_
  | with_reducible refine i_ret ?_
  | with_reducible refine i_next ?_
  | with_reducible refine i_lc ?_
  | with_reducible refine i_r1 ?_
  | with_reducible refine i_iL ?_
  | with_reducible refine i_iT ?_
  | with_reducible refine i_itsF ?_
  | with_reducible refine i_itsS ?_
  | with_reducible refine i_itsT ?_
  | ((with_reducible refine' i_itsR ?hh ?_); (case hh => walk_at "hlk"))
  | with_reducible refine i_lenF ?_
  | with_reducible refine i_lenT ?_
  | ((with_reducible refine' i_lenR ?hh ?_); (case hh => walk_at "hlk"))
  | with_reducible refine i_listF ?_
  | with_reducible refine i_listT ?_
  | ((with_reducible refine' i_listR ?hh ?_); (case hh => walk_at "hlk"))
  | with_reducible refine i_tupF ?_
  | ((with_reducible refine' i_lenOR ?hh ?_); (case hh => walk_at "hlk"))
  | ((with_reducible refine' i_tupR ?hh ?_); (case hh => walk_at "hlk"))
  | ((with_reducible refine g_isi ?_); first
    | with_reducible refine i_isi_non_bool ?_
    | with_reducible refine i_isi_non_int ?_
    | with_reducible refine i_isi_non_str ?_
    | with_reducible refine i_isi_non_list ?_
    | with_reducible refine i_isi_non_tuple ?_
    | with_reducible refine i_isi_bl_bool ?_
    | with_reducible refine i_isi_bl_int ?_
    | with_reducible refine i_isi_bl_str ?_
    | with_reducible refine i_isi_bl_list ?_
    | with_reducible refine i_isi_bl_tuple ?_
    | with_reducible refine i_isi_int_bool ?_
    | with_reducible refine i_isi_int_int ?_
    | with_reducible refine i_isi_int_str ?_
    | with_reducible refine i_isi_int_list ?_
    | with_reducible refine i_isi_int_tuple ?_
    | with_reducible refine i_isi_str_bool ?_
    | with_reducible refine i_isi_str_int ?_
    | with_reducible refine i_isi_str_str ?_
    | with_reducible refine i_isi_str_list ?_
    | with_reducible refine i_isi_str_tuple ?_
    | with_reducible refine i_isi_tup_bool ?_
    | with_reducible refine i_isi_tup_int ?_
    | with_reducible refine i_isi_tup_str ?_
    | with_reducible refine i_isi_tup_list ?_
    | with_reducible refine i_isi_tup_tuple ?_
    | with_reducible refine i_isi_lst_bool ?_
    | with_reducible refine i_isi_lst_int ?_
    | with_reducible refine i_isi_lst_str ?_
    | with_reducible refine i_isi_lst_list ?_
    | with_reducible refine i_isi_lst_tuple ?_)
  | with_reducible refine i_max ?_
  | with_reducible refine i_min ?_
  | with_reducible refine i_rgin ?_
  | with_reducible refine i_tabin ?_
  | with_reducible refine i_disp ?_
  | with_reducible refine i_pcons ?_
  | with_reducible refine i_pnil ?_
  | with_reducible refine i_dget ?_
  | with_reducible refine i_din ?_
  | with_reducible refine i_dput ?_
  | ((with_reducible refine' i_wgtup ?nn ?_); (case nn => exact rfl))
  | ((with_reducible refine' i_rngB ?aa ?bb ?_); (case aa => first | decide | omega); (case bb => first | decide | omega))
  | with_reducible refine i_for ?_
  | with_reducible refine i_while ?_
  | with_reducible refine i_wgcons ?_
  | with_reducible refine i_wgnil ?_
  | with_reducible refine i_wslL ?_
  | with_reducible refine i_nopart ?_
  | with_reducible refine i_part ?_
  | ((with_reducible refine' i_wgunl ?nn ?_); (case nn => exact rfl))
  | ((with_reducible refine' i_xf ?ee ?_); (case ee => exact rfl))
  | ((with_reducible refine' i_errIs ?ee ?_); (case ee => exact rfl))
  | with_reducible refine i_bm0 ?_
  | with_reducible refine i_intB ?_
  | with_reducible refine i_intI ?_
  | with_reducible refine i_tryThru ?_
  | with_reducible refine i_iS ?_
  | with_reducible refine i_str1 ?_
  | with_reducible refine i_tyS ?_
  | with_reducible refine i_fmtI ?_
  | with_reducible refine i_js ?_
  | with_reducible refine i_jsc ?_
  | with_reducible refine i_jsn ?_
  ))

theorem str_iff {x : Str} {s : String} {l : List Nat} (e : tl (Str.ofString s) = l) : x = Str.ofString s ↔ tl x = l := ⟨fun h => by rw [h, e], fun h => ext_tl (h.trans e.symm)⟩
theorem tl_cut_from (z : Str) : tl (cutS z (some 1) none) = (tl z).drop 1 := by
  unfold cutS
  have e1 : HT.sIx z.length 0 (some 1) = min 1 z.length := HT.sIx_nat _ _ 1
  have e2 : HT.sIx z.length z.length none = z.length := rfl
  rw [e1, e2]
  show ((tl z).drop (min 1 z.length)).take (z.length - min 1 z.length) = _
  have hl := len_tl z
  rw [List.take_of_length_le (by simp [List.length_drop, ← hl]), ]
  by_cases c : 1 ≤ z.length
  · rw [Nat.min_eq_left c]
  · have : tl z = [] := List.length_eq_zero_iff.mp (by omega)
    rw [this]; simp
theorem tl_cut_to (z : Str) : tl (cutS z none (some 1)) = (tl z).take 1 := by
  unfold cutS
  have e1 : HT.sIx z.length z.length (some 1) = min 1 z.length := HT.sIx_nat _ _ 1
  have e2 : HT.sIx z.length 0 none = 0 := rfl
  rw [e1, e2]
  show ((tl z).drop 0).take (min 1 z.length - 0) = _
  have hl := len_tl z
  rw [List.drop_zero, Nat.sub_zero]
  by_cases c : 1 ≤ z.length
  · rw [Nat.min_eq_left c]
  · have : tl z = [] := List.length_eq_zero_iff.mp (by omega)
    rw [this]; simp
theorem cut_len (z : Str) (lo hi : Option Int) {n : Nat} (h : z.length ≤ n) : (cutS z lo hi).length ≤ n := Nat.le_trans (cutS_length z lo hi) h
def fs_is_number : FS where
  P := Str
  pre := fun z vs h => vs = [.str z] ∧ z.length ≤ 1000000
  post := fun z h v h' => v = .bl (numB (tl z)) ∧ h' = h
theorem c_is_number {z : Str} {h : Hh} {E : XQ} {Q : KQ} (hz : z.length ≤ 1000000) (k : Q (.bl (numB (tl z))) h) : fs_is_number.sp [.str z] h E Q := ⟨z, ⟨rfl, hz⟩, fun v h' ⟨a, b⟩ => by subst a b; exact k, fun _ _ _ z => z.elim⟩
def fs_is_signed : FS where
  P := Str
  pre := fun z vs h => vs = [.str z] ∧ z.length ≤ 1000000
  post := fun z h v h' => v = .bl (signB (tl z)) ∧ h' = h
theorem c_is_signed {z : Str} {h : Hh} {E : XQ} {Q : KQ} (hz : z.length ≤ 1000000) (k : Q (.bl (signB (tl z))) h) : fs_is_signed.sp [.str z] h E Q := ⟨z, ⟨rfl, hz⟩, fun v h' ⟨a, b⟩ => by subst a b; exact k, fun _ _ _ z => z.elim⟩
def fs_ref_in : FS where
  P := Str
  pre := fun z vs h => vs = [.str z] ∧ z.length ≤ 1000000
  post := fun z h v h' => v = refO (refB (tl z)) ∧ h' = h
theorem c_ref_in {z : Str} {h : Hh} {E : XQ} {Q : KQ} (hz : z.length ≤ 1000000) (k : Q (refO (refB (tl z))) h) : fs_ref_in.sp [.str z] h E Q := ⟨z, ⟨rfl, hz⟩, fun v h' ⟨a, b⟩ => by subst a b; exact k, fun _ _ _ z => z.elim⟩
def r_is_number : WS :=
  wSeq (wIf (wOr (wTv (wOp wEqS (wVar 0) (wC (.str "")))) (wTv (wOp wGt (wCB cLen (wCons (wVar 0) (wNil))) (wC (.int 60))))) (wRet (wC (.bl false))) (wNext))
  (wSeq (wFor (wiS (wVar 0)) (wgName 1)
  (wIf (wTv (wOp wNotInSign (wVar 1) (wC (.str "0123456789")))) (wRet (wC (.bl false))) (wNext)))
  (wRet (wOrV (wOp wEqS (wCB cLen (wCons (wVar 0) (wNil))) (wC (.int 1))) (wOp wNeS (wOp wIx (wVar 0) (wC (.int 0))) (wC (.str "0"))))))

def r_is_signed : WS :=
  wSeq (wIf (wTv (wOp wEqS (wSl wSlS (wVar 0) (wNoPart) (wPart (wC (.int 1)))) (wC (.str "-")))) (wRet (wAndV (wCall fs_is_number [] (wCons (wSl wSlS (wVar 0) (wPart (wC (.int 1))) (wNoPart)) (wNil))) (wOp wNeS (wVar 0) (wC (.str "-0"))))) (wNext))
  (wRet (wCall fs_is_number [] (wCons (wVar 0) (wNil))))

def r_ref_in : WS :=
  wSeq (wAsg (wBM "str" mPartition (wVar 0) (wCons (wC (.str ".")) (wNil))) (wgTup 3 (wgCons (wgName 1) (wgCons (wgName 2) (wgCons (wgName 3) (wgNil))))))
  (wSeq (wIf (wOr (wTv (wOp wEqS (wVar 2) (wC (.str "")))) (wOr (wNot (wTv (wCall fs_is_number [] (wCons (wVar 1) (wNil))))) (wNot (wTv (wCall fs_is_number [] (wCons (wVar 3) (wNil))))))) (wRet (wC .non)) (wNext))
  (wRet (wTup (wCons (wC (.str "thing")) (wCons (wCB cIntS (wCons (wVar 1) (wNil))) (wCons (wCB cIntS (wCons (wVar 3) (wNil))) (wNil)))))))

theorem dig_mem (c : Nat) : decide (c ∈ (Str.ofString "0123456789").cps.toList) = decide (48 ≤ c ∧ c ≤ 57) := by
  have e : (Str.ofString "0123456789").cps.toList = [48, 49, 50, 51, 52, 53, 54, 55, 56, 57] := by decide +kernel
  rw [e]
  refine decide_eq_decide.mpr ?_
  simp only [List.mem_cons, List.not_mem_nil, or_false]
  omega
theorem ix_head {z : Str} {c : Nat} {r : List Nat} {h : Hh} {Q : KQ} (e : tl z = c :: r) (hz : z.length ≤ 16000000) (k : Q (.str ⟨#[c]⟩) h) : wIx (.str z) (.int 0) h Q :=
  ⟨0, _, rfl, .str (by have := sizeLine_eq; omega) (L2.atI_nat (j := 0) (by show (tl z)[0]? = some c; rw [e]; rfl)), k⟩
theorem rd_is_number {K : Fr} {p : Str} {vs h Q} {X : XQ} (gd : Good K Q) (q : fs_is_number.pre p vs h) (hp : ∀ v h', fs_is_number.post p h v h' → Q v h') :
    r_is_number (fun _ h' => Q .non h') Q (fun _ _ => False) (fun _ _ => False) (fun C v _ h' => X C v h') (startV ["word", "sign"] vs) h := by
  obtain ⟨rfl, hz⟩ := q
  have hq : ∀ b, numB (tl p) = b → Q (.bl b) h := fun b e => hp _ _ ⟨by rw [e], rfl⟩
  clear hp
  show r_is_number _ _ _ _ _ [some (.str p), none] h
  unfold r_is_number
  have hl := len_tl p
  by_cases c0 : p = Str.ofString ""
  · walk_at "zgo"
    refine hq _ ?_
    rw [c0]
    decide +kernel
  have c1 : tl p ≠ [] := fun e => c0 ((str_iff (by decide +kernel)).mpr e)
  have c2 : 1 ≤ (tl p).length := by
    cases e : tl p with
    | nil => exact absurd e c1
    | cons => simp
  walk_at "zgo"
  refine i_lenS (by omega) ?_
  by_cases c60 : 60 < (p.length : Int)
  · walk_at "zgo"
    refine hq _ ?_
    unfold numB
    rw [decide_eq_false (show ¬ (tl p).length ≤ 60 by omega)]
    simp
  walk_at "zgo"
  refine for_inv (fun i ρ h' => h' = h ∧ (∃ x : Option Val, ρ = [some (.str p), x]) ∧ ∀ j c, j < i → (tl p)[j]? = some c → 48 ≤ c ∧ c ≤ 57) ⟨rfl, ⟨_, rfl⟩, fun j c hj => by omega⟩ ?_
  rintro i ρ h' ⟨rfl, ⟨x, rfl⟩, hd⟩
  refine ⟨trivial, fun hi => ?_, fun z hz2 => ?_⟩
  rotate_left
  · obtain ⟨c, hc, rfl⟩ := map_get hz2
    walk_at "zgo"
    refine ⟨c, _, rfl, rfl, ?_⟩
    rw [dig_mem]
    by_cases cd : 48 ≤ c ∧ c ≤ 57
    · walk_at "zgo"
      refine ⟨rfl, ⟨_, rfl⟩, fun j d hj ej => ?_⟩
      by_cases e : j = i
      · subst e
        rw [show (tl p)[j]? = some c from hc] at ej
        cases ej
        exact cd
      · exact hd j d (by omega) ej
    · walk_at "zgo"
      refine hq _ ?_
      unfold numB
      have : (tl p).all (fun c => decide (48 ≤ c ∧ c ≤ 57)) = false := by
        rw [List.all_eq_false]
        exact ⟨c, List.mem_of_getElem? hc, by rw [decide_eq_false cd]; decide⟩
      rw [this]
      simp
  rw [List.length_map] at hi
  have hall : (tl p).all (fun c => decide (48 ≤ c ∧ c ≤ 57)) = true := by
    rw [List.all_eq_true]
    intro c hc
    obtain ⟨j, hj, rfl⟩ := List.getElem_of_mem hc
    exact decide_eq_true (hd j _ (Nat.lt_of_lt_of_le hj hi) (List.getElem?_eq_getElem hj))
  have nb : numB (tl p) = (decide ((tl p).length = 1) || decide ((tl p).head? ≠ some 48)) := by
    unfold numB
    rw [hall, decide_eq_true c2, decide_eq_true (show (tl p).length ≤ 60 by omega)]
    rfl
  walk_at "zgo"
  refine i_lenS (by omega) ?_
  by_cases l1 : (p.length : Int) = 1
  · walk_at "zgo"
    refine hq _ ?_
    rw [nb, decide_eq_true (show (tl p).length = 1 by omega)]
    rfl
  walk_at "zgo"
  cases e : tl p with
  | nil => exact absurd e c1
  | cons c r =>
    refine ix_head e (by omega) ?_
    walk_at "zgo"
    refine hq _ ?_
    rw [nb, decide_eq_false (show ¬ (tl p).length = 1 by omega), e]
    have : decide ((⟨#[c]⟩ : Str) = Str.ofString "0") = decide (c = 48) := decide_eq_decide.mpr ((str_iff (l := [48]) (by decide +kernel)).trans (by simp [tl]))
    rw [this]
    simp
theorem rd_is_signed {K : Fr} {p : Str} {vs h Q} {X : XQ} (gd : Good K Q) (q : fs_is_signed.pre p vs h) (hp : ∀ v h', fs_is_signed.post p h v h' → Q v h') :
    r_is_signed (fun _ h' => Q .non h') Q (fun _ _ => False) (fun _ _ => False) (fun C v _ h' => X C v h') (startV ["word"] vs) h := by
  obtain ⟨rfl, hz⟩ := q
  have hq : ∀ b, signB (tl p) = b → Q (.bl b) h := fun b e => hp _ _ ⟨by rw [e], rfl⟩
  clear hp
  show r_is_signed _ _ _ _ _ [some (.str p)] h
  unfold r_is_signed
  walk_at "zgo"
  refine i_slS (by omega) ?_
  by_cases c : cutS p none (some 1) = Str.ofString "-"
  · have c2 : (tl p).take 1 = [45] := by rw [← tl_cut_to]; exact (str_iff (by decide +kernel)).mp c
    walk_at "zgo"
    refine i_slS (by omega) ?_
    walk_at "zgo"
    refine c_is_number (cut_len _ _ _ hz) ?_
    rw [tl_cut_from]
    have e0 : decide (p = Str.ofString "-0") = decide (tl p = [45, 48]) := decide_eq_decide.mpr (str_iff (by decide +kernel))
    have sb : signB (tl p) = (numB ((tl p).drop 1) && decide (tl p ≠ [45, 48])) := if_pos c2
    cases nb : numB ((tl p).drop 1) with
    | true =>
      walk_at "zgo"
      refine hq _ ?_
      rw [sb, nb, e0]
      simp
    | false =>
      walk_at "zgo"
      refine hq _ ?_
      rw [sb, nb]
      rfl
  · have c2 : (tl p).take 1 ≠ [45] := fun z => c ((str_iff (l := [45]) (by decide +kernel)).mpr ((tl_cut_to p).trans z))
    walk_at "zgo"
    refine c_is_number hz ?_
    exact hq _ (if_neg c2)
theorem par_len {S : List Nat} : ∀ {l acc a b : List Nat}, par S acc l = some (a, b) → a.length ≤ acc.length + l.length ∧ b.length ≤ l.length
  | [], acc, a, b, h => by simp [par] at h
  | c :: r, acc, a, b, h => by
    unfold par at h
    split at h
    · have e := Option.some.inj h
      obtain ⟨rfl, rfl⟩ := Prod.mk.inj e
      exact ⟨by omega, by simp⟩
    · have := par_len h
      simp at this ⊢
      omega
theorem rd_ref_in {K : Fr} {p : Str} {vs h Q} {X : XQ} (gd : Good K Q) (q : fs_ref_in.pre p vs h) (hp : ∀ v h', fs_ref_in.post p h v h' → Q v h') :
    r_ref_in (fun _ h' => Q .non h') Q (fun _ _ => False) (fun _ _ => False) (fun C v _ h' => X C v h') (startV ["word", "house", "point", "number"] vs) h := by
  obtain ⟨rfl, hz⟩ := q
  have hq : ∀ b, refO (refB (tl p)) = b → Q b h := fun b e => hp _ _ ⟨by rw [e], rfl⟩
  clear hp
  show r_ref_in _ _ _ _ _ [some (.str p), none, none, none] h
  unfold r_ref_in
  walk_at "zgo"
  refine i_partition (by decide +kernel) (by omega) ?_
  have ep := partition_par p (Str.ofString ".") (by decide +kernel)
  have e46 : tl (Str.ofString ".") = [46] := by decide +kernel
  rw [e46] at ep
  cases pr : par [46] [] (tl p) with
  | none =>
    rw [pr] at ep
    rw [ep]
    have rb : refB (tl p) = none := by unfold refB; rw [pr]
    walk_at "zgo"
    exact hq _ (by rw [rb]; rfl)
  | some ab =>
    obtain ⟨a, b⟩ := ab
    rw [pr] at ep
    rw [ep]
    have rb : refB (tl p) = if numB a && numB b then some (NumText.digitsVal a, NumText.digitsVal b) else none := by unfold refB; rw [pr]
    have pt : ¬ (Str.ofString "." = Str.ofString "") := by decide +kernel
    have hab : a.length ≤ 1000000 ∧ b.length ≤ 1000000 := by
      obtain ⟨q1, q2⟩ := par_len pr
      have hl : p.length = (tl p).length := len_tl p
      have q3 : ([] : List Nat).length = 0 := rfl
      rw [q3] at q1
      constructor <;> omega
    walk_at "zgo"
    refine c_is_number (z := ⟨a.toArray⟩) (by show a.toArray.size ≤ _; simpa using hab.1) ?_
    rw [show tl ⟨a.toArray⟩ = a from rfl]
    cases na : numB a with
    | false =>
      walk_at "zgo"
      exact hq _ (by rw [rb, na]; rfl)
    | true =>
      walk_at "zgo"
      refine c_is_number (z := ⟨b.toArray⟩) (by show b.toArray.size ≤ _; simpa using hab.2) ?_
      rw [show tl ⟨b.toArray⟩ = b from rfl]
      cases nb : numB b with
      | false =>
        walk_at "zgo"
        exact hq _ (by rw [rb, na, nb]; rfl)
      | true =>
        walk_at "zgo"
        obtain ⟨i1, l1⟩ := numB_int (z := ⟨a.toArray⟩) na
        obtain ⟨i2, l2⟩ := numB_int (z := ⟨b.toArray⟩) nb
        refine i_intS i1 (Nat.le_trans l1 (by decide)) ?_
        walk_at "zgo"
        refine i_intS i2 (Nat.le_trans l2 (by decide)) ?_
        walk_at "zgo"
        exact hq _ (by rw [rb, na, nb]; rfl)
/-! LT2 -/


/-! ### the writing -/
def refT : RefD → Str
  | .thing a b => iT a ++ Str.ofString "." ++ iT b
  | .made a _ c => iT a ++ Str.ofString "." ++ iT c
theorem tl_dot : tl (Str.ofString ".") = [46] := by decide +kernel
theorem tl_refT (r : RefD) : tl (refT r) = refL r := by
  cases r <;>
  · unfold refT refL
    rw [tl_append, tl_append, tl_iT, tl_iT, tl_dot]
    simp
def thT : Thing → Str
  | .box w => Str.ofString "b" ++ iT w
  | .shelf rs => Str.ofString "s" ++ Txt.join (Str.ofString ",") (rs.map refT)
  | .relay r => Str.ofString "r" ++ refT r
  | .maker => Str.ofString "m"
  | .stone => Str.ofString "x"
theorem map_refT (rs : List RefD) : (rs.map refT).map tl = rs.map refL := by
  rw [List.map_map]
  exact List.map_congr_left fun r _ => tl_refT r
theorem tl_thT (th : Thing) : tl (thT th) = thL th := by
  cases th with
  | box w => unfold thT thL; rw [tl_append, tl_iT, show tl (Str.ofString "b") = [98] by decide +kernel]; rfl
  | shelf rs => unfold thT thL; rw [tl_append, join_eq, tl_join, map_refT, show tl (Str.ofString "s") = [115] by decide +kernel, show tl (Str.ofString ",") = [44] by decide +kernel]; rfl
  | relay r => unfold thT thL; rw [tl_append, tl_refT, show tl (Str.ofString "r") = [114] by decide +kernel]; rfl
  | maker => unfold thT thL; decide +kernel
  | stone => unfold thT thL; decide +kernel
def hsT (hs : List Thing) : Str := if hs = [] then Str.ofString "-" else Txt.join (Str.ofString " ") (hs.map thT)
theorem tl_hsT (hs : List Thing) : tl (hsT hs) = hsL hs := by
  unfold hsT hsL
  split
  · decide +kernel
  · rw [join_eq, tl_join, List.map_map, show tl (Str.ofString " ") = [32] by decide +kernel]
    rw [show hs.map (tl ∘ thT) = hs.map thL from List.map_congr_left fun r _ => tl_thT r]
def wsT (ws : Rooms) : Str := Txt.join (Str.ofString " ; ") (ws.map hsT)
theorem tl_wsT (ws : Rooms) : tl (wsT ws) = wsL ws := by
  unfold wsT wsL
  rw [join_eq, tl_join, List.map_map, show tl (Str.ofString " ; ") = [32, 59, 32] by decide +kernel]
  rw [show ws.map (tl ∘ hsT) = ws.map hsL from List.map_congr_left fun r _ => tl_hsT r]
theorem joinL_len {S : List Nat} {m : Nat} : ∀ {ps : List (List Nat)}, (∀ p ∈ ps, p.length ≤ m) → (joinL S ps).length ≤ ps.length * (m + S.length)
  | [], _ => by simp [joinL]
  | [p], h => by have := h p (by simp); simp [joinL]; omega
  | p :: q :: r, h => by
    have h1 := h p (by simp)
    have h2 := joinL_len (S := S) (ps := q :: r) fun z hz => h z (List.mem_cons_of_mem _ hz)
    simp only [joinL, List.length_append]
    rw [show (p :: q :: r).length = (q :: r).length + 1 from rfl, Nat.add_mul]
    omega
theorem RefD.Sm.len {r : RefD} (h : r.Sm) : (refL r).length ≤ 123 := by
  cases r with
  | made => exact h.elim
  | thing a b =>
    obtain ⟨a0, a1, b0, b1⟩ := h
    have := iL_len (i := a) (by omega) a1
    have := iL_len (i := b) (by omega) b1
    simp [refL]
    omega
/-- small enough to be written -/
structure SmT (ws : Rooms) : Prop where
  len : ws.length ≤ 20
  house : ∀ hs ∈ ws, hs.length ≤ 20
  refs : ∀ hs ∈ ws, ∀ th ∈ hs, th.refs.length ≤ 20 ∧ th.Sm
theorem thL_len {th : Thing} (h : th.Sm) (h2 : th.refs.length ≤ 20) : (thL th).length ≤ 2501 := by
  cases th with
  | box w => have := iL_len h.1 h.2; simp [thL]; omega
  | relay r => have := (h r (by simp [Thing.refs])).len; simp [thL]; omega
  | maker => simp [thL]
  | stone => simp [thL]
  | shelf rs =>
    have := joinL_len (S := [44]) (m := 123) (ps := rs.map refL) fun p hp => by
      obtain ⟨r, hr, rfl⟩ := List.mem_map.mp hp
      exact (h r (by simpa [Thing.refs] using hr)).len
    simp [Thing.refs] at h2
    simp [thL] at this ⊢
    omega
theorem hsL_len {hs : List Thing} (hl : hs.length ≤ 20) (h : ∀ th ∈ hs, th.refs.length ≤ 20 ∧ th.Sm) : (hsL hs).length ≤ 50041 := by
  unfold hsL
  split
  · simp
  · have := joinL_len (S := [32]) (m := 2501) (ps := hs.map thL) fun p hp => by
      obtain ⟨t, ht, rfl⟩ := List.mem_map.mp hp
      exact thL_len (h t ht).2 (h t ht).1
    simp at this
    omega
theorem wsL_len {ws : Rooms} (s : SmT ws) : (wsL ws).length ≤ 1000000 + 881 := by
  have := joinL_len (S := [32, 59, 32]) (m := 50041) (ps := ws.map hsL) fun p hp => by
    obtain ⟨t, ht, rfl⟩ := List.mem_map.mp hp
    exact hsL_len (s.house t ht) (s.refs t ht)
  have := s.len
  unfold wsL
  simp at *
  omega
theorem log_ok {i : Int} (h1 : -(10 ^ 60) < i) (h2 : i < 10 ^ 60) : i.natAbs.log2 < 1920 := by
  have h : i.natAbs < 2 ^ 1920 := by
    have : (10 : Nat) ^ 60 < 2 ^ 1920 := by decide +kernel
    have : i.natAbs < 10 ^ 60 := by omega
    omega
  by_cases c : i.natAbs = 0
  · rw [c]; decide
  · exact (Nat.log2_lt c).mpr h
theorem iT_len {i : Int} (h1 : -(10 ^ 60) < i) (h2 : i < 10 ^ 60) : (iT i).length ≤ 61 := by rw [len_tl, tl_iT]; exact iL_len h1 h2
theorem refT_len {r : RefD} (s : r.Sm) : (refT r).length ≤ 123 := by rw [len_tl, tl_refT]; exact s.len
theorem thT_len {th : Thing} (s : th.Sm) (s2 : th.refs.length ≤ 20) : (thT th).length ≤ 2501 := by rw [len_tl, tl_thT]; exact thL_len s s2
theorem hsT_len {hs : List Thing} (s : hs.length ≤ 20) (s2 : ∀ th ∈ hs, th.refs.length ≤ 20 ∧ th.Sm) : (hsT hs).length ≤ 50041 := by rw [len_tl, tl_hsT]; exact hsL_len s s2
theorem sum_len {m : Nat} : ∀ {ys : List Str}, (∀ y ∈ ys, y.length ≤ m) → (ys.map (·.length)).sum ≤ ys.length * m
  | [], _ => by simp
  | y :: ys, h => by
    have := h y (by simp)
    have := sum_len (ys := ys) fun z hz => h z (List.mem_cons_of_mem _ hz)
    simp only [List.map_cons, List.sum_cons, List.length_cons, Nat.add_mul]
    omega
theorem Thing.Sm.ref {th : Thing} (s : th.Sm) {r : RefD} (h : r ∈ th.refs) : r.Sm := by
  cases th with
  | box w => simp [Thing.refs] at h
  | shelf rs => exact s r h
  | relay q => exact s r h
  | maker => simp [Thing.refs] at h
  | stone => simp [Thing.refs] at h
/-! LT3 -/


/-! ### data of ints, texts, tuples, lists: == is = -/
mutual
def plD : PyData → Bool
  | .int _ => true
  | .str _ => true
  | .tuple xs => plDs xs
  | .list xs => plDs xs
  | _ => false
def plDs : List PyData → Bool
  | [] => true
  | x :: xs => plD x && plDs xs
end
theorem plDs_map {α : Type} {f : α → PyData} (h : ∀ x, plD (f x) = true) : ∀ xs : List α, plDs (xs.map f) = true
  | [] => rfl
  | x :: xs => by simp [plDs, h x, plDs_map h xs]
theorem RefD.pl (r : RefD) : plD r.d = true := by cases r <;> rfl
theorem Thing.pl (t : Thing) : plD t.d = true := by
  cases t with
  | shelf rs => simp [Thing.d, plD, plDs, plDs_map RefD.pl]
  | relay r => simp [Thing.d, plD, plDs, r.pl]
  | _ => rfl
/-! ### the reading -/
def fs_shelf_in : FS where
  P := Str
  pre := fun z vs h => vs = [.str z] ∧ z.length ≤ 1000000
  post := fun z h v h' => v = shelfV (tl z) ∧ h' = h
theorem c_shelf_in {z : Str} {h : Hh} {E : XQ} {Q : KQ} (hz : z.length ≤ 1000000) (k : Q (shelfV (tl z)) h) : fs_shelf_in.sp [.str z] h E Q := ⟨z, ⟨rfl, hz⟩, fun v h' ⟨a, b⟩ => by subst a b; exact k, fun _ _ _ z => z.elim⟩
def fs_thing_in : FS where
  P := Str
  pre := fun z vs h => vs = [.str z] ∧ z.length ≤ 1000000
  post := fun z h v h' => v = thingV (tl z) ∧ h' = h
theorem c_thing_in {z : Str} {h : Hh} {E : XQ} {Q : KQ} (hz : z.length ≤ 1000000) (k : Q (thingV (tl z)) h) : fs_thing_in.sp [.str z] h E Q := ⟨z, ⟨rfl, hz⟩, fun v h' ⟨a, b⟩ => by subst a b; exact k, fun _ _ _ z => z.elim⟩
def houseP (l : List Nat) : List Val := if l = [45] then [] else (spl [32] 0 [] l).map thingV
def fs_house_in : FS where
  P := Str
  pre := fun z vs h => vs = [.str z] ∧ z.length ≤ 1000000
  post := fun z h v h' => v = .lst (houseP (tl z)) ∧ h' = h
theorem c_house_in {z : Str} {h : Hh} {E : XQ} {Q : KQ} (hz : z.length ≤ 1000000) (k : Q (.lst (houseP (tl z))) h) : fs_house_in.sp [.str z] h E Q := ⟨z, ⟨rfl, hz⟩, fun v h' ⟨a, b⟩ => by subst a b; exact k, fun _ _ _ z => z.elim⟩
def r_shelf_in : WS :=
  wSeq (wIf (wTv (wOp wEqS (wVar 0) (wC (.str "")))) (wRet (wTup (wCons (wC (.str "shelf")) (wCons (wTup (wNil)) (wNil))))) (wNext))
  (wSeq (wAsg (wLc (wiL (wBM "str" mSplit (wVar 0) (wCons (wC (.str ",")) (wNil)))) (tg1 1) wYes (wCall fs_ref_in [] (wCons (wVar 1) (wNil))) [1]) (wgName 2))
  (wSeq (wIf (wTv (wOp wInD (wC .non) (wVar 2))) (wRet (wC .non)) (wNext))
  (wRet (wTup (wCons (wC (.str "shelf")) (wCons (wCB cTuple (wCons (wVar 2) (wNil))) (wNil)))))))

def r_thing_in : WS :=
  wSeq (wIf (wTv (wOp wEqS (wVar 0) (wC (.str "m")))) (wRet (wTup (wCons (wC (.str "maker")) (wNil)))) (wNext))
  (wSeq (wIf (wTv (wOp wEqS (wVar 0) (wC (.str "x")))) (wRet (wTup (wCons (wC (.str "stone")) (wNil)))) (wNext))
  (wSeq (wIf (wAnd (wTv (wOp wEqS (wSl wSlS (wVar 0) (wNoPart) (wPart (wC (.int 1)))) (wC (.str "b")))) (wTv (wCall fs_is_signed [] (wCons (wSl wSlS (wVar 0) (wPart (wC (.int 1))) (wNoPart)) (wNil))))) (wRet (wTup (wCons (wC (.str "box")) (wCons (wCB cIntS (wCons (wSl wSlS (wVar 0) (wPart (wC (.int 1))) (wNoPart)) (wNil))) (wNil))))) (wNext))
  (wSeq (wIf (wTv (wOp wEqS (wSl wSlS (wVar 0) (wNoPart) (wPart (wC (.int 1)))) (wC (.str "s")))) (wRet (wCall fs_shelf_in [] (wCons (wSl wSlS (wVar 0) (wPart (wC (.int 1))) (wNoPart)) (wNil)))) (wNext))
  (wSeq (wIf (wAnd (wTv (wOp wEqS (wSl wSlS (wVar 0) (wNoPart) (wPart (wC (.int 1)))) (wC (.str "r")))) (wTv (wNotN (wCall fs_ref_in [] (wCons (wSl wSlS (wVar 0) (wPart (wC (.int 1))) (wNoPart)) (wNil)))))) (wRet (wTup (wCons (wC (.str "relay")) (wCons (wCall fs_ref_in [] (wCons (wSl wSlS (wVar 0) (wPart (wC (.int 1))) (wNoPart)) (wNil))) (wNil))))) (wNext))
  (wRet (wC .non))))))

def r_house_in : WS :=
  wSeq (wIf (wTv (wOp wEqS (wVar 0) (wC (.str "-")))) (wRet (wLst (wNil))) (wNext))
  (wRet (wLc (wiL (wBM "str" mSplit (wVar 0) (wCons (wC (.str " ")) (wNil)))) (tg1 1) wYes (wCall fs_thing_in [] (wCons (wVar 1) (wNil))) [1]))

theorem spl_len {S : List Nat} : ∀ {l : List Nat} {k : Nat} {acc p : List Nat}, p ∈ spl S k acc l → p.length ≤ acc.length + l.length
  | [], k, acc, p, h => by rw [spl_nil] at h; simp at h; subst h; omega
  | c :: r, 0, acc, p, h => by
    unfold spl at h
    split at h
    · rcases List.mem_cons.mp h with rfl | h
      · omega
      · have := spl_len h
        simp at this ⊢
        omega
    · have := spl_len h
      simp at this ⊢
      omega
  | c :: r, k + 1, acc, p, h => by
    have : p ∈ spl S k acc r := h
    have := spl_len this
    simp
    omega
theorem spl_many {S : List Nat} : ∀ {l : List Nat} {k : Nat} {acc : List Nat}, (spl S k acc l).length ≤ l.length + 1
  | [], k, acc => by rw [spl_nil]; simp
  | c :: r, 0, acc => by
    unfold spl
    split
    · have := spl_many (S := S) (l := r) (k := S.length - 1) (acc := [])
      simp
      omega
    · have := spl_many (S := S) (l := r) (k := 0) (acc := acc ++ [c])
      simp
      omega
  | c :: r, k + 1, acc => by
    have := spl_many (S := S) (l := r) (k := k) (acc := acc)
    show (spl S k acc r).length ≤ _
    simp
    omega
/-- a text split, its parts told by their signs -/
theorem split_parts {x : Str} {s : String} {S : List Nat} (e : tl (Str.ofString s) = S) (hS : S ≠ []) (hk : (Str.ofString s).cps.all (· < 256) = true) : (Txt.split x (Str.ofString s)).map tl = spl S 0 [] (tl x) := by
  have := split_spl x (Str.ofString s) (by rw [e]; exact hS) (kind_ok hk)
  rwa [e] at this
theorem part_len {x : Str} {s : String} {S : List Nat} (e : tl (Str.ofString s) = S) (hS : S ≠ []) (hk : (Str.ofString s).cps.all (· < 256) = true) {p : Str} (hp : p ∈ Txt.split x (Str.ofString s)) : p.length ≤ x.length := by
  have h1 : tl p ∈ spl S 0 [] (tl x) := by rw [← split_parts e hS hk]; exact List.mem_map.mpr ⟨p, hp, rfl⟩
  have := spl_len h1
  rw [len_tl p, len_tl x]
  simpa using this
theorem parts_many {x : Str} {s : String} {S : List Nat} (e : tl (Str.ofString s) = S) (hS : S ≠ []) (hk : (Str.ofString s).cps.all (· < 256) = true) : (Txt.split x (Str.ofString s)).length ≤ x.length + 1 := by
  have := spl_many (S := S) (l := tl x) (k := 0) (acc := [])
  rw [← split_parts e hS hk, List.length_map] at this
  rw [len_tl x]
  exact this
def refOD (o : Option (Nat × Nat)) : PyData := match o with
  | some (a, b) => (RefD.thing a b).d
  | none => .none
theorem refO_dv {h : Hh} : ∀ o, Dv h (refO o) (refOD o)
  | some (a, b) => (RefD.thing a b).dv
  | none => .non
theorem refOD_lay : ∀ o, LayD 1 (refOD o)
  | some (a, b) => (RefD.thing a b).lay
  | none => .none 1
theorem refOD_none (o : Option (Nat × Nat)) : PyData.eqv (refOD o) .none = !o.isSome := by
  cases o with
  | none => rfl
  | some p => rfl
theorem rd_shelf_in {K : Fr} {p : Str} {vs h Q} {X : XQ} (gd : Good K Q) (q : fs_shelf_in.pre p vs h) (hp : ∀ v h', fs_shelf_in.post p h v h' → Q v h') :
    r_shelf_in (fun _ h' => Q .non h') Q (fun _ _ => False) (fun _ _ => False) (fun C v _ h' => X C v h') (startV ["text", "word", "refs"] vs) h := by
  obtain ⟨rfl, hz⟩ := q
  have hq : ∀ b, shelfV (tl p) = b → Q b h := fun b e => hp _ _ ⟨by rw [e], rfl⟩
  clear hp
  have e44 : tl (Str.ofString ",") = [44] := by decide +kernel
  show r_shelf_in _ _ _ _ _ [some (.str p), none, none] h
  unfold r_shelf_in
  by_cases c0 : p = Str.ofString ""
  · walk_at "zgo"
    refine hq _ ?_
    rw [c0, show tl (Str.ofString "") = [] by decide +kernel]
    rfl
  have c1 : tl p ≠ [] := fun e => c0 ((str_iff (by decide +kernel)).mpr e)
  walk_at "zgo"
  refine i_split (by decide +kernel) (by omega) (i_newF ?_)
  walk_at "zgo"
  refine lc_inv (fun k acc h3 => h3 = h ∧ acc = ((Txt.split p (Str.ofString ",")).take k).map fun z => refO (refB (tl z))) ⟨rfl, by simp⟩ ?_
  rintro k acc h3 ⟨rfl, rfl⟩
  have many := parts_many (x := p) e44 (by simp) (by decide +kernel)
  refine ⟨trivial, fun hk => ?_, fun r hr => ?_⟩
  rotate_left
  · obtain ⟨z, hz2, rfl⟩ := map_get hr
    walk_at "zgo"
    refine c_ref_in (Nat.le_trans (part_len e44 (by simp) (by decide +kernel) (List.mem_of_getElem? hz2)) hz) ?_
    refine ⟨by have := (List.take_sublist k (Txt.split p (Str.ofString ","))).length_le; rw [List.length_map]; omega, rfl, ?_⟩
    rw [List.take_succ, hz2, List.map_append]
    rfl
  rw [List.length_map] at hk
  rw [List.take_of_length_le hk]
  have em : (Txt.split p (Str.ofString ",")).map (fun z => refO (refB (tl z))) = (shelfB (tl p)).map refO := by
    unfold shelfB
    rw [if_neg c1, ← split_parts e44 (by simp) (by decide +kernel), List.map_map, List.map_map]
    rfl
  rw [em]
  refine i_newF ?_
  walk_at "zgo"
  refine ⟨.none, (shelfB (tl p)).map refOD, .non, .lst (dvs_map refO_dv _), by decide +kernel, (LayD.list (n := 1) fun d hd => by
    obtain ⟨o, _, rfl⟩ := List.mem_map.mp hd
    exact refOD_lay o).shaped (by decide), ?_⟩
  have ea : ((shelfB (tl p)).map refOD).any (fun z => PyData.eqv z .none) = !(shelfB (tl p)).all Option.isSome := by
    rw [List.any_map]
    induction shelfB (tl p) with
    | nil => rfl
    | cons o os ih =>
      rw [List.any_cons, List.all_cons, ih]
      show (PyData.eqv (refOD o) .none || _) = _
      rw [refOD_none]
      cases o.isSome <;> simp
  rw [ea]
  cases ha : (shelfB (tl p)).all Option.isSome with
  | false =>
    walk_at "zgo"
    refine hq _ ?_
    unfold shelfV
    rw [ha]
    rfl
  | true =>
    walk_at "zgo"
    refine hq _ ?_
    unfold shelfV
    rw [ha]
    rfl
theorem rd_thing_in {K : Fr} {p : Str} {vs h Q} {X : XQ} (gd : Good K Q) (q : fs_thing_in.pre p vs h) (hp : ∀ v h', fs_thing_in.post p h v h' → Q v h') :
    r_thing_in (fun _ h' => Q .non h') Q (fun _ _ => False) (fun _ _ => False) (fun C v _ h' => X C v h') (startV ["word"] vs) h := by
  obtain ⟨rfl, hz⟩ := q
  have hq : ∀ b, thingV (tl p) = b → Q b h := fun b e => hp _ _ ⟨by rw [e], rfl⟩
  clear hp
  show r_thing_in _ _ _ _ _ [some (.str p)] h
  unfold r_thing_in
  generalize hR : wSeq (wIf (wTv (wOp wEqS _ (wC (Val.str (Str.ofString "s"))))) _ _) _ = REST
  have im := str_iff (x := p) (s := "m") (l := [109]) (by decide +kernel)
  have ix := str_iff (x := p) (s := "x") (l := [120]) (by decide +kernel)
  have ib := str_iff (x := cutS p none (some 1)) (s := "b") (l := [98]) (by decide +kernel)
  have is := str_iff (x := cutS p none (some 1)) (s := "s") (l := [115]) (by decide +kernel)
  have ir := str_iff (x := cutS p none (some 1)) (s := "r") (l := [114]) (by decide +kernel)
  rw [tl_cut_to] at ib is ir
  have cl : ∀ lo hi, (cutS p lo hi).length ≤ 1000000 := fun lo hi => cut_len _ _ _ hz
  unfold thingV at hq
  by_cases c1 : p = Str.ofString "m"
  · walk_at "zgo"
    exact hq _ (if_pos (im.mp c1))
  rw [if_neg (fun z => c1 (im.mpr z))] at hq
  by_cases c2 : p = Str.ofString "x"
  · walk_at "zgo"
    exact hq _ (if_pos (ix.mp c2))
  rw [if_neg (fun z => c2 (ix.mpr z))] at hq
  walk_at "zgo"
  refine i_slS (by omega) ?_
  have nxt : ¬ ((tl p).take 1 = [98] ∧ signB ((tl p).drop 1) = true) →
      REST (fun _ h' => Q .non h') Q (fun _ _ => False) (fun _ _ => False) (fun C v _ h' => X C v h') [some (.str p)] h := fun nb => by
    rw [if_neg nb] at hq
    rw [← hR]
    walk_at "zgo"
    refine i_slS (by omega) ?_
    by_cases c4 : cutS p none (some 1) = Str.ofString "s"
    · walk_at "zgo"
      refine i_slS (by omega) ?_
      walk_at "zgo"
      refine c_shelf_in (cl _ _) ?_
      rw [tl_cut_from]
      exact hq _ (if_pos (is.mp c4))
    rw [if_neg (fun z => c4 (is.mpr z))] at hq
    walk_at "zgo"
    refine i_slS (by omega) ?_
    by_cases c5 : cutS p none (some 1) = Str.ofString "r"
    · walk_at "zgo"
      refine i_slS (by omega) ?_
      walk_at "zgo"
      refine c_ref_in (cl _ _) ?_
      rw [tl_cut_from]
      cases er : refB ((tl p).drop 1) with
      | none =>
        rw [er] at hq
        walk_at "zgo"
        exact hq _ (if_neg fun z => by simp at z)
      | some ab =>
        rw [er] at hq
        walk_at "zgo"
        refine i_slS (by omega) ?_
        walk_at "zgo"
        refine c_ref_in (cl _ _) ?_
        rw [tl_cut_from, er]
        walk_at "zgo"
        exact hq _ (if_pos ⟨ir.mp c5, rfl⟩)
    · walk_at "zgo"
      exact hq _ (if_neg fun z => c5 (ir.mpr z.1))
  by_cases c3 : cutS p none (some 1) = Str.ofString "b"
  · walk_at "zgo"
    refine i_slS (by omega) ?_
    walk_at "zgo"
    refine c_is_signed (cl _ _) ?_
    rw [tl_cut_from]
    cases sb : signB ((tl p).drop 1) with
    | true =>
      walk_at "zgo"
      refine i_slS (by omega) ?_
      walk_at "zgo"
      have sb2 : signB (tl (cutS p (some 1) none)) = true := by rw [tl_cut_from]; exact sb
      obtain ⟨i1, i2⟩ := sign_int sb2
      refine i_intS i1 (Nat.le_trans i2 (by decide)) ?_
      rw [tl_cut_from]
      walk_at "zgo"
      exact hq _ (if_pos ⟨ib.mp c3, sb⟩)
    | false =>
      walk_at "zgo"
      exact nxt fun z => by rw [sb] at z; exact Bool.false_ne_true z.2
  · walk_at "zgo"
    exact nxt fun z => c3 (ib.mpr z.1)
theorem rd_house_in {K : Fr} {p : Str} {vs h Q} {X : XQ} (gd : Good K Q) (q : fs_house_in.pre p vs h) (hp : ∀ v h', fs_house_in.post p h v h' → Q v h') :
    r_house_in (fun _ h' => Q .non h') Q (fun _ _ => False) (fun _ _ => False) (fun C v _ h' => X C v h') (startV ["text", "word"] vs) h := by
  obtain ⟨rfl, hz⟩ := q
  have hq : ∀ b, .lst (houseP (tl p)) = b → Q b h := fun b e => hp _ _ ⟨by rw [e], rfl⟩
  clear hp
  have e32 : tl (Str.ofString " ") = [32] := by decide +kernel
  have im := str_iff (x := p) (s := "-") (l := [45]) (by decide +kernel)
  show r_house_in _ _ _ _ _ [some (.str p), none] h
  unfold r_house_in
  by_cases c0 : p = Str.ofString "-"
  · walk_at "zgo"
    refine i_newF (hq _ ?_)
    unfold houseP
    rw [if_pos (im.mp c0)]
  walk_at "zgo"
  refine i_split (by decide +kernel) (by omega) (i_newF ?_)
  walk_at "zgo"
  refine lc_inv (fun k acc h3 => h3 = h ∧ acc = ((Txt.split p (Str.ofString " ")).take k).map fun z => thingV (tl z)) ⟨rfl, by simp⟩ ?_
  rintro k acc h3 ⟨rfl, rfl⟩
  have many := parts_many (x := p) e32 (by simp) (by decide +kernel)
  refine ⟨trivial, fun hk => ?_, fun r hr => ?_⟩
  rotate_left
  · obtain ⟨z, hz2, rfl⟩ := map_get hr
    walk_at "zgo"
    refine c_thing_in (Nat.le_trans (part_len e32 (by simp) (by decide +kernel) (List.mem_of_getElem? hz2)) hz) ?_
    refine ⟨by have := (List.take_sublist k (Txt.split p (Str.ofString " "))).length_le; rw [List.length_map]; omega, rfl, ?_⟩
    rw [List.take_succ, hz2, List.map_append]
    rfl
  rw [List.length_map] at hk
  rw [List.take_of_length_le hk]
  refine i_newF (hq _ ?_)
  unfold houseP
  rw [if_neg (fun z => c0 (im.mpr z)), ← split_parts e32 (by simp) (by decide +kernel), List.map_map]
  rfl
/-! LA0 -/
/-! ### askers: plain law of their texts -/
inductive W4 where
  | put | add | take | make
  deriving DecidableEq
def W4.s : W4 → Str
  | .put => Str.ofString "put" | .add => Str.ofString "add" | .take => Str.ofString "take" | .make => Str.ofString "make"
def W4.l : W4 → List Nat
  | .put => [112, 117, 116] | .add => [97, 100, 100] | .take => [116, 97, 107, 101] | .make => [109, 97, 107, 101]
theorem W4.tl (w : W4) : TL.tl w.s = w.l := by cases w <;> decide +kernel
inductive Arg where
  | num (i : Int) | ans (n : Int)
  deriving DecidableEq
inductive Tgt where
  | thing (a b : Int) | ans (n : Int)
  deriving DecidableEq
inductive Verb where
  | get | op (w : W4) (a : Arg)
  deriving DecidableEq
structure Row where
  t : Tgt
  v : Verb
  deriving DecidableEq
structure Asker where
  house : Int
  rows : List Row
  deriving DecidableEq
def ansV (n : Int) : Val := .tup [.str "answer", .int n]
def Tgt.v : Tgt → Val
  | .thing a b => (RefD.thing a b).v
  | .ans n => ansV n
def Arg.v : Arg → Val
  | .num i => .tup [.str "number", .int i]
  | .ans n => ansV n
def Verb.v : Verb → Val
  | .get => .tup [.str "get"]
  | .op w a => .tup [.str w.s, a.v]
def Row.val (r : Row) : Val := .tup [r.t.v, r.v.v]
def Asker.v (a : Asker) : Val := .tup [.int a.house, .lst (a.rows.map Row.val)]
def Tgt.Sm : Tgt → Prop
  | .thing a b => 0 ≤ a ∧ a < 10 ^ 60 ∧ 0 ≤ b ∧ b < 10 ^ 60
  | .ans n => 0 ≤ n ∧ n < 10 ^ 60
def Arg.Sm : Arg → Prop
  | .num i => -(10 ^ 60) < i ∧ i < 10 ^ 60
  | .ans n => 0 ≤ n ∧ n < 10 ^ 60
def Verb.Sm : Verb → Prop
  | .get => True
  | .op _ a => a.Sm
structure Row.Sm (r : Row) : Prop where
  t : r.t.Sm
  v : r.v.Sm
structure Asker.Sm (a : Asker) : Prop where
  h0 : 0 ≤ a.house
  h1 : a.house < 10 ^ 60
  many : a.rows.length ≤ 40
  rows : ∀ r ∈ a.rows, r.Sm
structure AsksSm (xs : List Asker) : Prop where
  many : xs.length ≤ 10
  each : ∀ a ∈ xs, a.Sm
/-! the writing, as signs -/
def Tgt.l : Tgt → List Nat
  | .thing a b => refL (.thing a b)
  | .ans n => 35 :: iL n
def Arg.l : Arg → List Nat
  | .num i => iL i
  | .ans n => 35 :: iL n
def Verb.ws : Verb → List (List Nat)
  | .get => [[103, 101, 116]]
  | .op w a => [w.l, a.l]
def Row.l (r : Row) : List Nat := joinL [32] (r.t.l :: r.v.ws)
def Asker.l (a : Asker) : List Nat := iL a.house ++ (58 :: if a.rows = [] then [] else 32 :: joinL [59, 32] (a.rows.map Row.l))
def asksL (xs : List Asker) : List Nat := if xs = [] then [45] else joinL [32, 124, 32] (xs.map Asker.l)
/-! the reading, as signs -/
def allO {α : Type} : List (Option α) → Option (List α)
  | [] => some []
  | none :: _ => none
  | some x :: r => (allO r).map (x :: ·)
theorem allO_some {α : Type} : ∀ (xs : List α), allO (xs.map some) = some xs
  | [] => rfl
  | x :: xs => by simp [allO, allO_some xs]
theorem allO_iff {α : Type} : ∀ {os : List (Option α)} {xs : List α}, allO os = some xs → os = xs.map some
  | [], xs, h => by simp [allO] at h; subst h; rfl
  | none :: _, xs, h => by simp [allO] at h
  | some x :: r, xs, h => by
    simp only [allO, Option.map_eq_some_iff] at h
    obtain ⟨ys, e, rfl⟩ := h
    rw [allO_iff e]
    rfl
/-! the read-back -/
theorem Tgt.free {t : Tgt} {c : Nat} (h : c = 32 ∨ c = 59 ∨ c = 124 ∨ c = 58) : c ∉ t.l := by
  cases t with
  | thing a b => exact refL_free (r := .thing a b) (c := c) (by omega) (by omega) (by omega)
  | ans n =>
    intro z
    rcases List.mem_cons.mp z with z | z
    · omega
    · exact iL_free (by omega) (by omega) z
theorem Arg.free {t : Arg} {c : Nat} (h : c = 32 ∨ c = 59 ∨ c = 124 ∨ c = 58) : c ∉ t.l := by
  cases t with
  | num a => exact iL_free (by omega) (by omega)
  | ans n =>
    intro z
    rcases List.mem_cons.mp z with z | z
    · omega
    · exact iL_free (by omega) (by omega) z
theorem Verb.free {v : Verb} {c : Nat} (h : c = 32 ∨ c = 59 ∨ c = 124 ∨ c = 58) : ∀ p ∈ v.ws, c ∉ p := by
  cases v with
  | get => intro p hp; simp [Verb.ws] at hp; subst hp; simp; omega
  | op w a =>
    intro p hp
    simp only [Verb.ws, List.mem_cons, List.not_mem_nil, or_false] at hp
    rcases hp with rfl | rfl
    · cases w <;> simp [W4.l] <;> omega
    · exact Arg.free h
theorem Row.free {r : Row} {c : Nat} (h : c = 59 ∨ c = 124 ∨ c = 58) : c ∉ r.l := joinL_free (by simp; omega) fun p hp => by
  rcases List.mem_cons.mp hp with rfl | hp
  · exact Tgt.free (by omega)
  · exact Verb.free (by omega) p hp
theorem Asker.free {a : Asker} : 124 ∉ a.l := by
  intro z
  rcases List.mem_append.mp z with z | z
  · exact iL_free (c := 124) (by decide) (by decide) z
  · rcases List.mem_cons.mp z with z | z
    · omega
    · split at z
      · simp at z
      · rcases List.mem_cons.mp z with z | z
        · omega
        · exact joinL_free (by simp) (fun p hp => by
            obtain ⟨q, _, rfl⟩ := List.mem_map.mp hp
            exact Row.free (by omega)) z
/-! LA1 -/


/-! ### the writing -/
def Verb.word : Verb → Str
  | .get => Str.ofString "get"
  | .op w _ => w.s
theorem Tgt.Sm.len {t : Tgt} (h : t.Sm) : t.l.length ≤ 123 := by
  cases t with
  | thing a b => exact RefD.Sm.len (r := .thing a b) h
  | ans n => have := iL_len (i := n) (by have := h.1; omega) h.2; simp [Tgt.l]; omega
theorem Arg.Sm.len {t : Arg} (h : t.Sm) : t.l.length ≤ 62 := by
  cases t with
  | num a => have := iL_len h.1 h.2; simp [Arg.l]; omega
  | ans n => have := iL_len (i := n) (by have := h.1; omega) h.2; simp [Arg.l]; omega
theorem Row.Sm.len {r : Row} (h : r.Sm) : r.l.length ≤ 400 := by
  obtain ⟨t, v⟩ := r
  have h1 := h.t.len
  cases v with
  | get => simp [Row.l, Verb.ws, joinL] at h1 ⊢; omega
  | op w a =>
    have h2 := Arg.Sm.len (t := a) h.v
    have h3 : w.l.length ≤ 4 := by cases w <;> simp [W4.l]
    simp [Row.l, Verb.ws, joinL] at h1 ⊢
    omega
theorem Asker.Sm.len {a : Asker} (h : a.Sm) : a.l.length ≤ 17000 := by
  have h1 := iL_len (i := a.house) (by have := h.h0; omega) h.h1
  unfold Asker.l
  split
  · simp; omega
  · have := joinL_len (S := [59, 32]) (m := 400) (ps := a.rows.map Row.l) fun p hp => by
      obtain ⟨q, hq, rfl⟩ := List.mem_map.mp hp
      exact (h.rows q hq).len
    have := h.many
    simp at *
    omega
theorem AsksSm.len {xs : List Asker} (h : AsksSm xs) : (asksL xs).length ≤ 200000 := by
  unfold asksL
  split
  · simp
  · have := joinL_len (S := [32, 124, 32]) (m := 17000) (ps := xs.map Asker.l) fun p hp => by
      obtain ⟨q, hq, rfl⟩ := List.mem_map.mp hp
      exact (h.each q hq).len
    have := h.many
    simp at *
    omega
def asksV (xs : List Asker) : Val := .lst (xs.map Asker.v)
/-! LA2 -/


def oV {α : Type} (f : α → Val) : Option α → Val
  | none => .non
  | some x => f x
theorem spl_ne {S : List Nat} : ∀ {l : List Nat} {k : Nat} {acc : List Nat}, spl S k acc l ≠ []
  | [], k, acc => by rw [spl_nil]; simp
  | c :: r, 0, acc => by
    unfold spl
    split
    · simp
    · exact spl_ne
  | c :: r, k + 1, acc => by
    show spl S k acc r ≠ []
    exact spl_ne
/-! LA3 -/


/-! ### askers as data -/
def Tgt.d : Tgt → PyData
  | .thing a b => (RefD.thing a b).d
  | .ans n => .tuple [.str (Str.ofString "answer"), .int n]
def Arg.d : Arg → PyData
  | .num i => .tuple [.str (Str.ofString "number"), .int i]
  | .ans n => .tuple [.str (Str.ofString "answer"), .int n]
def Verb.d : Verb → PyData
  | .get => .tuple [.str (Str.ofString "get")]
  | .op w a => .tuple [.str w.s, a.d]
def Row.d (r : Row) : PyData := .tuple [r.t.d, r.v.d]
def Asker.d (a : Asker) : PyData := .tuple [.int a.house, .list (a.rows.map Row.d)]
theorem Tgt.dv {h : Hh} : ∀ t : Tgt, Dv h t.v t.d
  | .thing a b => (RefD.thing a b).dv
  | .ans _ => .tup (.cons (.str _) (.cons (.int _) .nil))
theorem Arg.dv {h : Hh} : ∀ t : Arg, Dv h t.v t.d
  | .num _ => .tup (.cons (.str _) (.cons (.int _) .nil))
  | .ans _ => .tup (.cons (.str _) (.cons (.int _) .nil))
theorem Verb.dv {h : Hh} : ∀ t : Verb, Dv h t.v t.d
  | .get => .tup (.cons (.str _) .nil)
  | .op _ a => .tup (.cons (.str _) (.cons a.dv .nil))
theorem Row.dv {h : Hh} (r : Row) : Dv h r.val r.d := .tup (.cons r.t.dv (.cons r.v.dv .nil))
theorem Asker.dv {h : Hh} (a : Asker) : Dv h a.v a.d := .tup (.cons (.int _) (.cons (.lst (dvs_map Row.dv _)) .nil))
theorem lay2 {n : Nat} {a b : PyData} (ha : LayD n a) (hb : LayD n b) : LayD (n + 1) (.tuple [a, b]) := LayD.tuple fun d hd => by
  simp only [List.mem_cons, List.not_mem_nil, or_false] at hd
  rcases hd with rfl | rfl
  · exact ha
  · exact hb
theorem Tgt.lay : ∀ t : Tgt, LayD 1 t.d
  | .thing a b => (RefD.thing a b).lay
  | .ans n => lay2 (.str 0 (by decide +kernel)) (.int 0 _)
theorem Arg.lay : ∀ t : Arg, LayD 1 t.d
  | .num n => lay2 (.str 0 (by decide +kernel)) (.int 0 _)
  | .ans n => lay2 (.str 0 (by decide +kernel)) (.int 0 _)
theorem Verb.lay : ∀ t : Verb, LayD 2 t.d
  | .get => LayD.tuple (n := 1) fun d hd => by
    simp only [List.mem_cons, List.not_mem_nil, or_false] at hd
    subst hd
    exact .str 1 (by decide +kernel)
  | .op w a => lay2 (.str 1 (by cases w <;> decide +kernel)) a.lay
theorem Row.lay (r : Row) : LayD 3 r.d := lay2 (r.t.lay.le (by decide)) r.v.lay
theorem rows_lay (rs : List Row) : LayD 4 (.list (rs.map Row.d)) := LayD.list fun d hd => by
  obtain ⟨r, _, rfl⟩ := List.mem_map.mp hd
  exact r.lay
theorem Asker.lay (a : Asker) : LayD 5 a.d := lay2 (.int 4 _) (rows_lay _)
def oD {α : Type} (g : α → PyData) : Option α → PyData
  | none => .none
  | some x => g x
theorem Seqq.dv {h : Hh} {y : Val} {xs : List Val} {ds : List PyData} (s : Seqq h y xs) (q : Dvs h xs ds) : Dv h y (.list ds) := by
  cases s with
  | lst => exact .lst q
  | scr => exact .scr q
  | ref e => exact .ref e q
theorem none_in {α : Type} {g : α → PyData} {n : Nat} (hn : n + 1 ≤ 64) (lay : ∀ x, LayD n (g x)) (ne : ∀ x, PyData.eqv (g x) .none = false) {os : List (Option α)} {y : Val} {xs : List Val} {h : Hh} {Q : KQ}
    (s : Seqq h y xs) (dv : Dvs h xs (os.map (oD g))) (q : Q (.bl (allO os).isNone) h) : wInD .non y h Q := by
  refine ⟨.none, os.map (oD g), .non, s.dv dv, by decide +kernel, (LayD.list (n := n) fun d hd => by
    obtain ⟨o, _, rfl⟩ := List.mem_map.mp hd
    cases o with
    | none => exact .none n
    | some x => exact lay x).shaped hn, ?_⟩
  have ea : (os.map (oD g)).any (fun z => PyData.eqv z .none) = (allO os).isNone := by
    clear q dv s
    induction os with
    | nil => rfl
    | cons o os ih =>
      rw [List.map_cons, List.any_cons, ih]
      cases o with
      | none => rfl
      | some x =>
        show (PyData.eqv (g x) .none || _) = ((allO os).map _).isNone
        rw [ne, Option.isNone_map]
        rfl
  rw [ea]
  exact q
theorem oV_dv {α : Type} {f : α → Val} {g : α → PyData} {h : Hh} (k : ∀ x, Dv h (f x) (g x)) : ∀ o : Option α, Dv h (oV f o) (oD g o)
  | none => .non
  | some x => k x
theorem oV_map {α : Type} {f : α → Val} {os : List (Option α)} {xs : List α} (e : allO os = some xs) : os.map (oV f) = xs.map f := by
  rw [allO_iff e, List.map_map]
  rfl
/-! ### an asker read: its list frozen, or owned -/
def askR (x : Int × List Val) (b : Addr) : Val := .tup [.int x.1, .ref b]
/-! LA4 -/


/-! ### askers read: frozen, or owned -/
structure AskB (h h' : Hh) (bs : List Addr) (ys : List (Int × List Val)) : Prop where
  len : bs.length = ys.length
  each : ∀ (i : Nat) (b : Addr) (y : Int × List Val), bs[i]? = some b → ys[i]? = some y → h' b = some (.lst y.2)
  nd : bs.Nodup
  fresh : ∀ c ∈ bs, h c = none
  keep : ∀ c, c ∉ bs → h' c = h c
theorem get_one {α : Type} {x y : α} {i : Nat} (e : [x][i]? = some y) : y = x := by
  cases i with
  | zero => exact (Option.some.inj e).symm
  | succ i => simp at e
theorem AskB.zero {h : Hh} : AskB h h [] [] := ⟨rfl, fun i b y e => by simp at e, List.nodup_nil, fun c hc => by simp at hc, fun c _ => rfl⟩
theorem AskB.has {h h' : Hh} {bs : List Addr} {ys : List (Int × List Val)} (B : AskB h h' bs ys) {b : Addr} (hb : b ∈ bs) : ∃ xs, h' b = some (.lst xs) := by
  obtain ⟨i, hi, rfl⟩ := List.getElem_of_mem hb
  exact ⟨_, B.each i bs[i] (ys[i]'(B.len ▸ hi)) (List.getElem?_eq_getElem hi) (List.getElem?_eq_getElem _)⟩
theorem AskB.out {h h' : Hh} {bs : List Addr} {ys : List (Int × List Val)} (B : AskB h h' bs ys) {b : Addr} (hb : h' b = none) : b ∉ bs ∧ h b = none := by
  have n : b ∉ bs := fun hm => by
    obtain ⟨xs, e⟩ := B.has hm
    rw [hb] at e
    cases e
  exact ⟨n, by rw [← B.keep b n]; exact hb⟩
theorem AskB.app {h h' : Hh} {bs : List Addr} {ys : List (Int × List Val)} (B : AskB h h' bs ys) {b : Addr} (hb : h' b = none) (y : Int × List Val) : AskB h (hup h' b (.lst y.2)) (bs ++ [b]) (ys ++ [y]) := by
  obtain ⟨n, hn⟩ := B.out hb
  refine ⟨by simp [B.len], fun i c z e1 e2 => ?_, ?_, fun c hc => ?_, fun c hc => ?_⟩
  · rw [List.getElem?_append] at e1 e2
    rw [B.len] at e1
    split at e1
    · rename_i l
      rw [if_pos l] at e2
      have : c ≠ b := fun q => n (q ▸ List.mem_of_getElem? e1)
      rw [hup_ne this]
      exact B.each i c z e1 e2
    · rename_i l
      rw [if_neg l] at e2
      have q1 := get_one e1
      have q2 := get_one e2
      subst q1 q2
      exact hup_same
  · rw [List.nodup_append]
    exact ⟨B.nd, by simp, fun x hx y hy => by simp at hy; subst hy; exact fun q => n (q ▸ hx)⟩
  · rcases List.mem_append.mp hc with hc | hc
    · exact B.fresh c hc
    · simp at hc; subst hc; exact hn
  · rw [hup_ne fun q => hc (List.mem_append.mpr (.inr (by simp [q])))]
    exact B.keep c fun q => hc (List.mem_append.mpr (.inl q))
structure AskN (h h' : Hh) (a : Addr) (bs : List Addr) (ys : List (Int × List Val)) : Prop where
  top : h' a = some (.lst (List.zipWith askR ys bs))
  len : bs.length = ys.length
  each : ∀ (i : Nat) (b : Addr) (y : Int × List Val), bs[i]? = some b → ys[i]? = some y → h' b = some (.lst y.2)
  nd : (a :: bs).Nodup
  fresh : ∀ c ∈ a :: bs, h c = none
  keep : ∀ c, c ∉ a :: bs → h' c = h c
theorem AskB.top {h h' : Hh} {bs : List Addr} {ys : List (Int × List Val)} (B : AskB h h' bs ys) {a : Addr} (ha : h' a = none) : AskN h (hup h' a (.lst (List.zipWith askR ys bs))) a bs ys := by
  obtain ⟨n, hn⟩ := B.out ha
  refine ⟨hup_same, B.len, fun i b y e1 e2 => ?_, List.nodup_cons.mpr ⟨n, B.nd⟩, fun c hc => ?_, fun c hc => ?_⟩
  · have nb : b ≠ a := fun q => n (q ▸ List.mem_of_getElem? e1)
    rw [hup_ne nb]
    exact B.each i b y e1 e2
  · rcases List.mem_cons.mp hc with rfl | hc
    · exact hn
    · exact B.fresh c hc
  · rw [hup_ne fun q => hc (List.mem_cons.mpr (.inl q))]
    exact B.keep c fun q => hc (List.mem_cons.mpr (.inr q))
theorem AskB.dvs {h h' : Hh} : ∀ {bs : List Addr} {ys : List (Int × List Val)} {ds : List PyData}, bs.length = ys.length → (∀ (i : Nat) (b : Addr) (y : Int × List Val), bs[i]? = some b → ys[i]? = some y → h' b = some (.lst y.2)) → 
    ds.length = ys.length → (∀ (i : Nat) (y : Int × List Val) (d : PyData), ys[i]? = some y → ds[i]? = some d → ∃ es, d = .tuple [.int y.1, .list es] ∧ Dvs h' y.2 es) → Dvs h' (List.zipWith askR ys bs) ds
  | [], [], [], _, _, _, _ => .nil
  | b :: bs, y :: ys, d :: ds, l1, e, l2, k => by
    obtain ⟨es, rfl, q⟩ := k 0 y d rfl rfl
    exact .cons (.tup (.cons (.int _) (.cons (.ref (e 0 b y rfl rfl) q) .nil))) (AskB.dvs (h := h) (Nat.succ.inj l1) (fun i b y e1 e2 => e (i + 1) b y e1 e2) (Nat.succ.inj l2) fun i y d e1 e2 => k (i + 1) y d e1 e2)
  | [], _ :: _, _, l, _, _, _ => by simp at l
  | _ :: _, [], _, l, _, _, _ => by simp at l
  | _, [], _ :: _, _, _, l, _ => by simp at l
  | _, _ :: _, [], _, _, l, _ => by simp at l
/-! LA5 -/


/-! ### the law's askers drawn -/
structure AsksOk (xs : List Asker) : Prop where
  many : xs.length ≤ 4
  each : ∀ a ∈ xs, a.Sm ∧ a.rows.length ≤ 30
/-! LT4 -/


theorem SmT.small {ws : Rooms} (s : SmT ws) : SmallW ws := ⟨by have := s.len; omega, fun hs hh => by have := s.house hs hh; omega⟩
theorem join_ws {ws : Rooms} (s : SmT ws) : ((ws.map hsT).map (·.length)).sum + (ws.map hsT).length * (Str.ofString " ; ").length ≤ 16777216 := by
  have hsum := sum_len (m := 50041) (ys := ws.map hsT) fun y hy => by
    obtain ⟨r, hr, rfl⟩ := List.mem_map.mp hy
    exact hsT_len (s.house r hr) (s.refs r hr)
  have l : (Str.ofString " ; ").length = 3 := by decide +kernel
  have := s.len
  rw [List.length_map] at hsum ⊢
  rw [l]
  omega
/-! LT5 -/


def fs_law_ref_shown : FS where
  P := RefD
  pre := fun r vs h => vs = [r.v] ∧ r.Sm
  post := fun r h v h' => v = .str (refT r) ∧ h' = h
theorem c_law_ref_shown {r : RefD} {h : Hh} {E : XQ} {Q : KQ} (s : r.Sm) (k : Q (.str (refT r)) h) : fs_law_ref_shown.sp [r.v] h E Q := ⟨r, ⟨rfl, s⟩, fun v h' ⟨a, b⟩ => by subst a b; exact k, fun _ _ _ z => z.elim⟩
def fs_law_thing_shown : FS where
  P := Thing
  pre := fun th vs h => vs = [th.v] ∧ th.Sm ∧ th.refs.length ≤ 20
  post := fun th h v h' => v = .str (thT th) ∧ h' = h
theorem c_law_thing_shown {r : Thing} {h : Hh} {E : XQ} {Q : KQ} (s : r.Sm) (s2 : r.refs.length ≤ 20) (k : Q (.str (thT r)) h) : fs_law_thing_shown.sp [r.v] h E Q := ⟨r, ⟨rfl, s, s2⟩, fun v h' ⟨a, b⟩ => by subst a b; exact k, fun _ _ _ z => z.elim⟩
def fs_law_shown : FS where
  P := Rooms
  pre := fun ws vs h => vs = [roomsV ws] ∧ SmT ws
  post := fun ws h v h' => v = .str (wsT ws) ∧ h' = h
theorem c_law_shown {ws : Rooms} {h : Hh} {E : XQ} {Q : KQ} (s : SmT ws) (k : Q (.str (wsT ws)) h) : fs_law_shown.sp [roomsV ws] h E Q := ⟨ws, ⟨rfl, s⟩, fun v h' ⟨a, b⟩ => by subst a b; exact k, fun _ _ _ z => z.elim⟩
def r_law_ref_shown : WS :=
  wRet (wOp wAddS (wOp wAddS (wCB cStr (wCons (wOp wIx (wVar 0) (wC (.int 1))) (wNil))) (wC (.str "."))) (wCB cStr (wCons (wOp wIx (wVar 0) (wC (.int 2))) (wNil))))

def r_law_thing_shown : WS :=
  wSeq (wIf (wTv (wOp wEqS (wOp wIx (wVar 0) (wC (.int 0))) (wC (.str "box")))) (wRet (wOp wAddS (wC (.str "b")) (wCB cStr (wCons (wOp wIx (wVar 0) (wC (.int 1))) (wNil))))) (wNext))
  (wSeq (wIf (wTv (wOp wEqS (wOp wIx (wVar 0) (wC (.int 0))) (wC (.str "shelf")))) (wRet (wOp wAddS (wC (.str "s")) (wBM "str" mJoin (wC (.str ",")) (wCons (wLc (wiT (wOp wIx (wVar 0) (wC (.int 1)))) (tg1 1) wYes (wCall fs_law_ref_shown [] (wCons (wVar 1) (wNil))) [1]) (wNil))))) (wNext))
  (wSeq (wIf (wTv (wOp wEqS (wOp wIx (wVar 0) (wC (.int 0))) (wC (.str "relay")))) (wRet (wOp wAddS (wC (.str "r")) (wCall fs_law_ref_shown [] (wCons (wOp wIx (wVar 0) (wC (.int 1))) (wNil))))) (wNext))
  (wRet (wOp wIx (wLst (wCons (wC (.str "m")) (wCons (wC (.str "x")) (wNil)))) (wCB cInt (wCons (wOp wEqS (wOp wIx (wVar 0) (wC (.int 0))) (wC (.str "stone"))) (wNil)))))))

def r_law_shown : WS :=
  wSeq (wAsg (wLst (wNil)) (wgName 1))
  (wSeq (wFor (wiL (wVar 0)) (wgName 2)
  (wSeq (wAsg (wBM "str" mJoin (wC (.str " ")) (wCons (wLc (wiL (wVar 2)) (tg1 3) wYes (wCall fs_law_thing_shown [] (wCons (wVar 3) (wNil))) [3]) (wNil))) (wgName 4))
  (wSeq (wIf (wTv (wOp wEqD (wVar 2) (wLst (wNil)))) (wAsg (wC (.str "-")) (wgName 4)) (wNext))
  (wExpr (wBM "list" mAppend (wVar 1) (wCons (wVar 4) (wNil)))))))
  (wRet (wBM "str" mJoin (wC (.str " ; ")) (wCons (wVar 1) (wNil)))))

theorem rd_law_ref_shown {K : Fr} {p : RefD} {vs h Q} {X : XQ} (gd : Good K Q) (q : fs_law_ref_shown.pre p vs h) (hp : ∀ v h', fs_law_ref_shown.post p h v h' → Q v h') :
    r_law_ref_shown (fun _ h' => Q .non h') Q (fun _ _ => False) (fun _ _ => False) (fun C v _ h' => X C v h') (startV ["ref"] vs) h := by
  obtain ⟨rfl, s⟩ := q
  have hq : Q (.str (refT p)) h := hp _ _ ⟨rfl, rfl⟩
  clear hp
  cases p with
  | made => exact s.elim
  | thing a b =>
    obtain ⟨a0, a1, b0, b1⟩ := s
    have la : (Str.ofString (toString a)).length ≤ 61 := iT_len (i := a) (by omega) a1
    have lb : (Str.ofString (toString b)).length ≤ 61 := iT_len (i := b) (by omega) b1
    have ld : (Str.ofString ".").length = 1 := by decide +kernel
    show r_law_ref_shown _ _ _ _ _ [some (.tup [.str "thing", .int a, .int b])] h
    unfold r_law_ref_shown
    walk_at "zgo"
    refine i_str (log_ok (by omega) a1) ?_
    walk_at "zgo"
    refine i_addS (by omega) ?_
    walk_at "zgo"
    refine i_str (log_ok (by omega) b1) ?_
    refine i_addS (by rw [Str.length_append]; omega) ?_
    exact hq
theorem rd_law_thing_shown {K : Fr} {p : Thing} {vs h Q} {X : XQ} (gd : Good K Q) (q : fs_law_thing_shown.pre p vs h) (hp : ∀ v h', fs_law_thing_shown.post p h v h' → Q v h') :
    r_law_thing_shown (fun _ h' => Q .non h') Q (fun _ _ => False) (fun _ _ => False) (fun C v _ h' => X C v h') (startV ["thing", "ref"] vs) h := by
  obtain ⟨rfl, s, s2⟩ := q
  have hq : Q (.str (thT p)) h := hp _ _ ⟨rfl, rfl⟩
  clear hp
  have l1 : (Str.ofString "b").length = 1 := by decide +kernel
  have l2 : (Str.ofString "s").length = 1 := by decide +kernel
  have l3 : (Str.ofString "r").length = 1 := by decide +kernel
  have l4 : (Str.ofString ",").length = 1 := by decide +kernel
  show r_law_thing_shown _ _ _ _ _ [some p.v, none] h
  unfold r_law_thing_shown
  cases p with
  | box w =>
    unfold Thing.v
    have lw : (Str.ofString (toString w)).length ≤ 61 := iT_len s.1 s.2
    walk_at "zgo"
    refine i_str (log_ok s.1 s.2) ?_
    refine i_addS (by omega) ?_
    exact hq
  | shelf rs =>
    unfold Thing.v
    have hl : rs.length ≤ 20 := s2
    walk_at "zgo"
    refine ⟨_, rfl, ?_⟩
    refine lc_inv (fun k acc h3 => h3 = h ∧ acc = ((rs.take k).map refT).map Val.str) ⟨rfl, by simp⟩ ?_
    rintro k acc h3 ⟨rfl, rfl⟩
    refine ⟨trivial, fun hk => ?_, fun r hr => ?_⟩
    rotate_left
    · obtain ⟨r, hr2, rfl⟩ := map_get hr
      walk_at "zgo"
      refine c_law_ref_shown (s r (by simpa [Thing.refs] using List.mem_of_getElem? hr2)) ?_
      refine ⟨by simp; omega, rfl, ?_⟩
      rw [List.take_succ, hr2, List.map_append, List.map_append]
      rfl
    rw [List.length_map] at hk
    rw [List.take_of_length_le hk]
    refine i_newF ?_
    walk_at "zgo"
    have hsum := sum_len (m := 123) (ys := rs.map refT) fun y hy => by
      obtain ⟨r, hr, rfl⟩ := List.mem_map.mp hy
      exact refT_len (s r (by simpa [Thing.refs] using hr))
    rw [List.length_map] at hsum
    refine i_join (.lst (.lst _)) (by rw [List.length_map, l4]; omega) ?_
    have lt := thT_len s s2
    unfold thT at lt
    rw [Str.length_append] at lt
    refine i_addS (by omega) ?_
    exact hq
  | relay r =>
    unfold Thing.v
    have hr : r.Sm := s r (by simp [Thing.refs])
    have lr := refT_len hr
    walk_at "zgo"
    refine c_law_ref_shown hr ?_
    refine i_addS (by omega) ?_
    exact hq
  | maker =>
    unfold Thing.v
    walk_at "zgo"
    refine i_newF ?_
    walk_at "zgo"
    exact hq
  | stone =>
    unfold Thing.v
    walk_at "zgo"
    refine i_newF ?_
    walk_at "zgo"
    exact hq
theorem rd_law_shown {K : Fr} {p : Rooms} {vs h Q} {X : XQ} (gd : Good K Q) (q : fs_law_shown.pre p vs h) (hp : ∀ v h', fs_law_shown.post p h v h' → Q v h') :
    r_law_shown (fun _ h' => Q .non h') Q (fun _ _ => False) (fun _ _ => False) (fun C v _ h' => X C v h') (startV ["houses", "parts", "things", "thing", "part"] vs) h := by
  obtain ⟨rfl, s⟩ := q
  have hq : Q (.str (wsT p)) h := hp _ _ ⟨rfl, rfl⟩
  clear hp
  have l4 : (Str.ofString " ").length = 1 := by decide +kernel
  show r_law_shown _ _ _ _ _ [some (.lst (p.map houseV)), none, none, none, none] h
  unfold r_law_shown
  have hl := s.len
  walk_at "zgo"
  refine i_newO fun a ha => ?_
  walk_at "zgo"
  refine for_inv (fun i ρ h' => h' = hup h a (.lst (((p.take i).map hsT).map Val.str)) ∧ ∃ b c d : Option Val, ρ = [some (.lst (p.map houseV)), some (.ref a), b, c, d]) ⟨by simp, _, _, _, rfl⟩ ?_
  rintro i ρ h' ⟨rfl, b, c, d, rfl⟩
  refine ⟨trivial, fun hi => ?_, fun z hz => ?_⟩
  · rw [List.length_map] at hi
    rw [List.take_of_length_le hi]
    walk_at "zgo"
    refine i_join (.lst (.ref hup_same)) (join_ws s) ?_
    refine gd.drop (h' := h) (fun b o hb => ?_) hq
    rw [hup_ne (fun z => by subst z; rw [ha] at hb; cases hb)]
    exact hb
  · obtain ⟨hs, hhs, rfl⟩ := map_get hz
    have hm := List.mem_of_getElem? hhs
    have hl1 := s.house hs hm
    have hl2 := s.refs hs hm
    unfold houseV
    generalize hH : hup h a (.lst (((p.take i).map hsT).map Val.str)) = H1
    have ea : H1 a = some (.lst (((p.take i).map hsT).map Val.str)) := by rw [← hH]; exact hup_same
    walk_at "zgo"
    refine lc_inv (fun k acc h3 => h3 = H1 ∧ acc = ((hs.take k).map thT).map Val.str) ⟨rfl, by simp⟩ ?_
    rintro k acc h3 ⟨rfl, rfl⟩
    refine ⟨trivial, fun hk => ?_, fun r hr => ?_⟩
    rotate_left
    · obtain ⟨r, hr2, rfl⟩ := map_get hr
      have hm2 := hl2 r (List.mem_of_getElem? hr2)
      walk_at "zgo"
      refine c_law_thing_shown hm2.2 hm2.1 ?_
      refine ⟨by simp; omega, rfl, ?_⟩
      rw [List.take_succ, hr2, List.map_append, List.map_append]
      rfl
    rw [List.length_map] at hk
    rw [List.take_of_length_le hk]
    refine i_newF ?_
    walk_at "zgo"
    have hsum := sum_len (m := 2501) (ys := hs.map thT) fun y hy => by
      obtain ⟨r, hr, rfl⟩ := List.mem_map.mp hy
      exact thT_len (hl2 r hr).2 (hl2 r hr).1
    rw [List.length_map] at hsum
    refine i_join (.lst (.lst _)) (by rw [List.length_map, l4]; omega) ?_
    have fin : hup h3 a (.lst ((((p.take i).map hsT).map Val.str) ++ [.str (hsT hs)])) = hup h a (.lst (((p.take (i + 1)).map hsT).map Val.str)) := by
      rw [← hH, hup_hup, List.take_succ, hhs, List.map_append, List.map_append]
      rfl
    have len : (((p.take i).map hsT).map Val.str).length < 16000000 := by simp; omega
    walk_at "zgo"
    by_cases c : hs = []
    · subst c
      refine i_newF (i_eqNil0 (.lst .nil) ?_)
      walk_at "zgo"
      refine i_append ea len ?_
      exact ⟨fin, _, _, _, rfl⟩
    · obtain ⟨w0, wr, hw⟩ : ∃ w0 wr, hs = w0 :: wr := by
        cases hs with
        | nil => exact absurd rfl c
        | cons w0 wr => exact ⟨w0, wr, rfl⟩
      have lay := house_lay hs
      have dv : Dv h3 (.lst (hs.map Thing.v)) (houseD hs) := houseV_dv hs
      rw [show houseD hs = .list (w0.d :: wr.map Thing.d) by rw [hw]; rfl] at lay dv
      refine i_newF (i_eqNil dv lay (by decide) ?_)
      walk_at "zgo"
      refine i_append ea len ?_
      refine ⟨?_, _, _, _, rfl⟩
      rw [← fin]
      unfold hsT
      rw [if_neg c]
/-! ### shorter -/
def shortT : Thing → Thing
  | .box w => .box (w % 10)
  | .shelf rs => .shelf (rs.take 2)
  | th => th
def shortV (th : Thing) : Val := (shortT th).v
theorem shortT_ok {ns : List Nat} {th : Thing} (h : th.Ok ns) : (shortT th).Ok ns := by
  cases th with
  | box w => exact ⟨by show -(10 ^ 60) < w % 10; omega, by show w % 10 < 10 ^ 60; omega⟩
  | shelf rs => exact ⟨by have := h.1; have := (List.take_sublist 2 rs).length_le; omega, fun r hr => h.2 r (List.mem_of_mem_take hr)⟩
  | _ => exact h
theorem shorter_ok {ws : Rooms} (o : WorldOk ws) : WorldOk (ws.map fun hs => hs.map shortT) := by
  have e : (ws.map fun hs => hs.map shortT).map List.length = ws.map List.length := by rw [List.map_map]; exact List.map_congr_left fun hs _ => List.length_map _
  refine ⟨by simpa using o.pos, by simpa using o.most, fun hs hh => ?_, fun hs hh th ht => ?_⟩
  · obtain ⟨us, hu, rfl⟩ := List.mem_map.mp hh
    rw [List.length_map]
    exact o.house us hu
  · obtain ⟨us, hu, rfl⟩ := List.mem_map.mp hh
    obtain ⟨u, hu2, rfl⟩ := List.mem_map.mp ht
    rw [e]
    exact shortT_ok (o.ok us hu u hu2)
theorem in_sm {ns : List Nat} {r : RefD} (h : In ns r) (hn : ns.length ≤ 8) (h12 : ∀ k ∈ ns, k ≤ 12) : r.Sm := by
  cases r with
  | made => exact (show False from h).elim
  | thing a b =>
    obtain ⟨k, a0, e, b0, b1⟩ := h
    have := (List.getElem?_eq_some_iff.mp e).1
    have := h12 k (List.mem_of_getElem? e)
    exact ⟨a0, by omega, b0, by omega⟩
theorem WorldOk.smT {ws : Rooms} (o : WorldOk ws) : SmT ws := by
  have hn : (ws.map List.length).length ≤ 8 := by rw [List.length_map]; exact o.most
  have h12 : ∀ k ∈ ws.map List.length, k ≤ 12 := fun k hk => by
    obtain ⟨hs, hh, rfl⟩ := List.mem_map.mp hk
    exact o.house hs hh
  refine ⟨by have := o.most; omega, fun hs hh => by have := o.house hs hh; omega, fun hs hh th ht => ?_⟩
  have ok := o.ok hs hh th ht
  refine ⟨by have := refs_ok ok; omega, ?_⟩
  cases th with
  | box w => exact ok
  | shelf rs => exact fun r hr => in_sm (ok.2 r hr) hn h12
  | relay q => exact fun r hr => by simp [Thing.refs] at hr; subst hr; exact in_sm ok hn h12
  | maker => exact fun r hr => by simp [Thing.refs] at hr
  | stone => exact fun r hr => by simp [Thing.refs] at hr
/-! LA6 -/


/-! ### signs that are small -/
def Lo (l : List Nat) : Prop := ∀ c ∈ l, c < 128
theorem Lo.app {a b : List Nat} (ha : Lo a) (hb : Lo b) : Lo (a ++ b) := fun c hc => by
  rcases List.mem_append.mp hc with h | h
  · exact ha c h
  · exact hb c h
theorem Lo.cons {x : Nat} {b : List Nat} (ha : x < 128) (hb : Lo b) : Lo (x :: b) := fun c hc => by
  rcases List.mem_cons.mp hc with rfl | h
  · exact ha
  · exact hb c h
theorem lo_numL (n : Nat) : Lo (numL n) := fun c hc => by have := numL_digits n c hc; omega
theorem lo_iL (i : Int) : Lo (iL i) := by
  unfold iL
  split
  · exact lo_numL _
  · exact (lo_numL _).cons (by decide)
theorem lo_join {S : List Nat} (hS : Lo S) : ∀ {ps : List (List Nat)}, (∀ p ∈ ps, Lo p) → Lo (joinL S ps)
  | [], _ => fun c hc => by simp [joinL] at hc
  | [p], h => by simpa [joinL] using h p (by simp)
  | p :: q :: r, h => by
    have : joinL S (p :: q :: r) = p ++ S ++ joinL S (q :: r) := by simp [joinL]
    rw [this]
    exact ((h p (by simp)).app hS).app (lo_join hS fun x hx => h x (by simp at hx ⊢; exact .inr hx))
theorem str_ok {z : Str} (h : Lo (tl z)) : PyData.strOk z = true := by
  unfold PyData.strOk
  rw [← Array.all_toList, List.all_eq_true]
  intro c hc
  have := h c hc
  exact decide_eq_true (by omega)
/-- what was there stays -/
def Ext (h h' : Hh) : Prop := ∀ a o, h a = some o → h' a = some o
theorem Ext.refl {h : Hh} : Ext h h := fun _ _ e => e
theorem Ext.trans {h h1 h2 : Hh} (a : Ext h h1) (b : Ext h1 h2) : Ext h h2 := fun c o e => b c o (a c o e)
theorem Ext.hup {h h' : Hh} {a : Addr} {o : Ob} (e : Ext h h') (ha : h a = none) : Ext h (hup h' a o) := fun b u hb => by
  rw [hup_ne fun z => by subst z; rw [ha] at hb; cases hb]
  exact e b u hb
theorem Ext.none {h h' : Hh} {a : Addr} (e : Ext h h') (ha : h' a = none) : h a = none := by
  cases q : h a with
  | none => rfl
  | some o => rw [e a o q] at ha; cases ha
theorem cut_take {α : Type} (xs : List α) (k : Nat) : cut xs none (some (k : Int)) = xs.take k := by
  unfold cut
  rw [show HT.sIx xs.length xs.length (some (k : Int)) = min k xs.length from HT.sIx_nat _ _ k, show HT.sIx xs.length 0 none = 0 from rfl, List.drop_zero, Nat.sub_zero]
  by_cases q : k ≤ xs.length
  · rw [Nat.min_eq_left q]
  · rw [List.take_of_length_le (by omega), List.take_of_length_le (by omega)]
theorem i_cat {x y : Val} {xs ys : List Val} {h : Hh} {Q : KQ} (a : LstT h x xs) (b : LstT h y ys) (hz : xs.length + ys.length ≤ 1000000) (q : NewL (xs ++ ys) h Q) : wCat x y h Q := ⟨xs, ys, a, b, by unfold small; omega, q⟩
/-! ### the law's writing -/
/-! ZL -/
/-! text * int -/
theorem fold_size (a : Array Nat) : ∀ (n : Nat) (b : Array Nat), ((List.replicate n a).foldl (· ++ ·) b).size = b.size + n * a.size
  | 0, b => by simp
  | n + 1, b => by
    rw [List.replicate_succ, List.foldl_cons, fold_size a n, Array.size_append, Nat.succ_mul]
    omega
theorem fold_mem (a : Array Nat) : ∀ (n : Nat) (b : Array Nat), (∀ c ∈ b.toList, c ∈ a.toList) → ∀ c ∈ ((List.replicate n a).foldl (· ++ ·) b).toList, c ∈ a.toList
  | 0, b, h, c, hc => h c (by simpa using hc)
  | n + 1, b, h, c, hc => by
    rw [List.replicate_succ, List.foldl_cons] at hc
    refine fold_mem a n (b ++ a) (fun x hx => ?_) c hc
    rw [Array.toList_append] at hx
    rcases List.mem_append.mp hx with hx | hx
    · exact h x hx
    · exact hx
def rMulS : R2 := fun x y H Q => ∃ (a : Str) (k : Int), x = V.str a ∧ y = V.int k ∧ 2 ≤ k ∧ k ≤ 1000 ∧ 0 < a.length ∧ a.length ≤ 1000 ∧ ∀ z : Str, z.length ≤ a.length * k.toNat → (∀ c ∈ z.cps.toList, c ∈ a.cps.toList) → Q (V.str z) H
theorem op_mulS {X : Cx} : OpR X (binaryOp .Mult) rMulS := by
  intro pins s σ H x y v u Q I rx ry h
  obtain ⟨a, k, rfl, rfl, h1, h2, h3, h4, q⟩ := h
  obtain ⟨t, rfl⟩ := rx
  obtain ⟨t', rfl⟩ := ry
  have hs := sizeLine_eq
  have hm : a.length * k.toNat ≤ 1000 * 1000 := Nat.mul_le_mul h4 (by omega)
  have hz : (⟨(List.replicate k.toNat a.cps).foldl (· ++ ·) #[]⟩ : Str).length = a.length * k.toNat := by
    show ((List.replicate k.toNat a.cps).foldl (· ++ ·) #[]).size = _
    rw [fold_size]
    show 0 + k.toNat * a.length = _
    rw [Nat.mul_comm]; omega
  refine PySem.P.mul_str ?_ (fun _ _ => ?_) (fun _ _ => ?_) ?_
  · rw [decide_eq_false (by omega), decide_eq_false (by omega)]; rfl
  · have : (1000 : Int) ≤ (2 ^ 63 - 1 : Int) / k := (Int.le_ediv_iff_mul_le (by omega)).mpr (by omega)
    omega
  · exact decide_eq_false (by omega)
  · rw [if_neg (by omega), if_neg (by simp; omega)]
    exact ⟨by rw [hz]; omega, .str _, H, I.tok _, ⟨_, rfl⟩, q _ (Nat.le_of_eq hz) (fun c hc => fold_mem a.cps k.toNat #[] (by simp) c hc)⟩
def wMulS : W2 := fun x y h Q => ∃ (a : Str) (k : Int), x = .str a ∧ y = .int k ∧ 2 ≤ k ∧ k ≤ 1000 ∧ 0 < a.length ∧ a.length ≤ 1000 ∧ ∀ z : Str, z.length ≤ a.length * k.toNat → (∀ c ∈ z.cps.toList, c ∈ a.cps.toList) → Q (.str z) h
theorem s_mulS {K : Fr} : Snd2 K wMulS rMulS := fun S F H h x y v w Q' Q r rx ry q lq => by
  obtain ⟨a, k, rfl, rfl, h1, h2, h3, h4, q⟩ := q
  exact ⟨a, k, rel_str.mp rx, rel_int.mp ry, h1, h2, h3, h4, fun z hz hc => lq _ _ S _ _ (q z hz hc) (Sub.refl S) r (rel_str.mpr rfl)⟩
theorem i_mulS {a : Str} {k : Int} {h : Hh} {Q : KQ} (h1 : 2 ≤ k) (h2 : k ≤ 1000) (h3 : 0 < a.length) (h4 : a.length ≤ 1000) (q : ∀ z : Str, z.length ≤ a.length * k.toNat → (∀ c ∈ z.cps.toList, c ∈ a.cps.toList) → Q (.str z) h) : wMulS (.str a) (.int k) h Q := ⟨a, k, rfl, rfl, h1, h2, h3, h4, q⟩
/-! LS1 -/


/-! ### texts spoilt: what both laws share -/
theorem spl_total {S : List Nat} (hS : S ≠ []) : ∀ {l : List Nat} {k : Nat} {acc : List Nat}, k ≤ l.length → ((spl S k acc l).map List.length).sum + S.length * ((spl S k acc l).length - 1) + k ≤ acc.length + l.length ∧ 1 ≤ (spl S k acc l).length
  | [], k, acc, hk => by rw [spl_nil]; simp at hk ⊢; omega
  | c :: r, 0, acc, hk => by
    have hl : 1 ≤ S.length := by cases S with
      | nil => exact absurd rfl hS
      | cons => simp
    unfold spl
    split
    · rename_i hp
      have hr : S.length ≤ (c :: r).length := by
        have e : (c :: r).take S.length = S := by simpa [pre] using hp
        have := congrArg List.length e
        rw [List.length_take] at this
        omega
      obtain ⟨h1, h2⟩ := spl_total hS (l := r) (k := S.length - 1) (acc := []) (by simp at hr; omega)
      generalize spl S (S.length - 1) [] r = q at h1 h2
      refine ⟨?_, by simp⟩
      rw [List.map_cons, List.sum_cons, List.length_cons, Nat.add_sub_cancel]
      obtain ⟨m, hm⟩ : ∃ m, q.length = m + 1 := ⟨q.length - 1, by omega⟩
      rw [hm] at h1 ⊢
      rw [Nat.add_sub_cancel] at h1
      rw [Nat.mul_succ]
      simp at h1 ⊢
      omega
    · obtain ⟨h1, h2⟩ := spl_total hS (l := r) (k := 0) (acc := acc ++ [c]) (by omega)
      refine ⟨?_, h2⟩
      simp at h1 ⊢
      omega
  | c :: r, k + 1, acc, hk => by
    obtain ⟨h1, h2⟩ := spl_total hS (l := r) (k := k) (acc := acc) (by simp at hk; omega)
    show ((spl S k acc r).map List.length).sum + S.length * ((spl S k acc r).length - 1) + (k + 1) ≤ _ ∧ 1 ≤ (spl S k acc r).length
    refine ⟨?_, h2⟩
    simp at h1 ⊢
    omega
theorem spl_mem {S : List Nat} : ∀ {l : List Nat} {k : Nat} {acc p : List Nat}, p ∈ spl S k acc l → ∀ c ∈ p, c ∈ acc ∨ c ∈ l
  | [], k, acc, p, h, c, hc => by rw [spl_nil] at h; simp at h; subst h; exact .inl hc
  | x :: r, 0, acc, p, h, c, hc => by
    unfold spl at h
    split at h
    · rcases List.mem_cons.mp h with rfl | h
      · exact .inl hc
      · rcases spl_mem h c hc with q | q
        · simp at q
        · exact .inr (List.mem_cons_of_mem _ q)
    · rcases spl_mem h c hc with q | q
      · rcases List.mem_append.mp q with q | q
        · exact .inl q
        · simp at q; subst q; exact .inr (by simp)
      · exact .inr (List.mem_cons_of_mem _ q)
  | x :: r, k + 1, acc, p, h, c, hc => by
    rcases spl_mem (S := S) (l := r) (k := k) h c hc with q | q
    · exact .inl q
    · exact .inr (List.mem_cons_of_mem _ q)
theorem split_sum {x : Str} {s : String} {S : List Nat} (e : tl (Str.ofString s) = S) (hS : S ≠ []) (hk : (Str.ofString s).cps.all (· < 256) = true) : ((Txt.split x (Str.ofString s)).map (·.length)).sum + S.length * ((Txt.split x (Str.ofString s)).length - 1) ≤ x.length ∧ 1 ≤ (Txt.split x (Str.ofString s)).length := by
  obtain ⟨h1, h2⟩ := spl_total hS (l := tl x) (k := 0) (acc := []) (Nat.zero_le _)
  rw [← split_parts e hS hk, List.map_map, List.length_map] at h1
  rw [← split_parts e hS hk, List.length_map] at h2
  rw [len_tl x]
  refine ⟨?_, h2⟩
  have : (Txt.split x (Str.ofString s)).map (List.length ∘ tl) = (Txt.split x (Str.ofString s)).map (·.length) := List.map_congr_left fun z _ => (len_tl z).symm
  rw [this] at h1
  simpa using h1
theorem part_lo {x : Str} {s : String} {S : List Nat} (e : tl (Str.ofString s) = S) (hS : S ≠ []) (hk : (Str.ofString s).cps.all (· < 256) = true) (h : Lo (tl x)) {p : Str} (hp : p ∈ Txt.split x (Str.ofString s)) : Lo (tl p) := fun c hc => by
  have h1 : tl p ∈ spl S 0 [] (tl x) := by rw [← split_parts e hS hk]; exact List.mem_map.mpr ⟨p, hp, rfl⟩
  rcases spl_mem h1 c hc with q | q
  · simp at q
  · exact h c q
theorem cut_lo {z : Str} {lo hi : Option Int} (h : Lo (tl z)) : Lo (tl (cutS z lo hi)) := fun c hc => h c (List.mem_of_mem_drop (List.mem_of_mem_take (show c ∈ ((tl z).drop (HT.sIx z.length 0 lo)).take (HT.sIx z.length z.length hi - HT.sIx z.length 0 lo) from hc)))
theorem tl_cut_fromN (z : Str) (k : Nat) : tl (cutS z (some (k : Int)) none) = (tl z).drop k := by
  unfold cutS
  have e1 : HT.sIx z.length 0 (some (k : Int)) = min k z.length := HT.sIx_nat _ _ k
  have e2 : HT.sIx z.length z.length none = z.length := rfl
  rw [e1, e2]
  show ((tl z).drop (min k z.length)).take (z.length - min k z.length) = _
  have hl := len_tl z
  rw [List.take_of_length_le (by simp [List.length_drop, ← hl])]
  by_cases c : k ≤ z.length
  · rw [Nat.min_eq_left c]
  · rw [List.drop_of_length_le (by omega), List.drop_of_length_le (by omega)]
theorem ix_any {z : Str} {r : Int} {h : Hh} {Q : KQ} (hz : z.length ≤ 16000000) (r0 : 0 ≤ r) (r1 : r < z.length) (k : ∀ c ∈ tl z, Q (.str ⟨#[c]⟩) h) : wIx (.str z) (.int r) h Q := by
  obtain ⟨n, rfl⟩ := Int.eq_ofNat_of_zero_le r0
  have hn : n < (tl z).length := by rw [← len_tl]; omega
  refine ⟨_, _, rfl, .str (by have := sizeLine_eq; omega) (L2.atI_nat (List.getElem?_eq_getElem hn)), k _ (List.getElem_mem hn)⟩
theorem below_sign (p : Str) {B : Bool} (hB : B = (decide ((tl p).take 1 = [45]) && decide (tl p ≠ [45, 48]))) : numB (tl (cutS p (some (if B = true then 1 else 0)) none)) = signB (tl p) := by
  have e0 : tl (cutS p (some 0) none) = tl p := tl_cut_fromN p 0
  have e1 : tl (cutS p (some 1) none) = (tl p).drop 1 := tl_cut_fromN p 1
  subst hB
  unfold signB
  by_cases c : (tl p).take 1 = [45]
  · by_cases d : tl p = [45, 48]
    · rw [decide_eq_true c, decide_eq_false (show ¬ tl p ≠ [45, 48] from fun z => z d)]
      simp only [Bool.true_and, Bool.false_eq_true, if_false, if_pos c]
      rw [e0, d]
      decide
    · rw [decide_eq_true c, decide_eq_true d]
      simp only [Bool.true_and, if_true, if_pos c]
      rw [e1]
      simp
  · rw [decide_eq_false c]
    simp only [Bool.false_and, Bool.false_eq_true, if_false, if_neg c]
    rw [e0]
def fs_law_sign_v1 : FS where
  P := Addr × Addr × Int
  pre := fun (t, g, n) vs h => vs = [.ref t] ∧ Tray h t g n ∧ n ≤ 10000000000000
  post := fun (t, g, n) h v h' => ∃ r : Str, v = .str r ∧ r.length ≤ 1 ∧ Lo (tl r) ∧ Tray h' t g (n + 2) ∧ Keep t g h h'
theorem c_law_sign_v1 {t g : Addr} {n : Int} {h : Hh} {E : XQ} {Q : KQ} (T : Tray h t g n) (hn : n ≤ 10000000000000) (k : ∀ (r : Str) h', r.length ≤ 1 → Lo (tl r) → Tray h' t g (n + 2) → Keep t g h h' → Q (.str r) h') : fs_law_sign_v1.sp [.ref t] h E Q :=
  ⟨(t, g, n), ⟨rfl, T, hn⟩, fun v h' ⟨r, e, a, b, c, d⟩ => by subst e; exact k r h' a b c d, fun _ _ _ z => z.elim⟩
def fs_law_figures : FS where
  P := Str
  pre := fun z vs h => vs = [.str z] ∧ z.length ≤ 1000000 ∧ Lo (tl z)
  post := fun z h v h' => v = .bl (numB (tl z)) ∧ h' = h
theorem c_law_figures {z : Str} {h : Hh} {E : XQ} {Q : KQ} (hz : z.length ≤ 1000000) (lo : Lo (tl z)) (k : Q (.bl (numB (tl z))) h) : fs_law_figures.sp [.str z] h E Q := ⟨z, ⟨rfl, hz, lo⟩, fun v h' ⟨a, b⟩ => by subst a b; exact k, fun _ _ _ z => z.elim⟩
def r_law_sign_v1 : WS :=
  wSeq (wIf (wTv (wOp wEqS (wCall fs_law_draw [] (wCons (wVar 0) (wCons (wC (.int 2)) (wNil)))) (wC (.int 0)))) (wSeq (wAsg (wC (.str " ;|.,-:#0123456789bsrmxgetpuadk")) (wgName 1))
  (wRet (wOp wIx (wVar 1) (wCall fs_law_draw [] (wCons (wVar 0) (wCons (wCB cLen (wCons (wVar 1) (wNil))) (wNil))))))) (wNext))
  (wSeq (wAsg (wC (.str " !\"#$&'()*+,-./0123456789:;<=>?@ABCDEFGHIJKLMNOPQRSTUVWXYZ[\\]^_`")) (wgName 1))
  (wSeq (wAsg (wOp wAddS (wVar 1) (wC (.str "abcdefghijklmnopqrstuvwxyz{|}~"))) (wgName 1))
  (wRet (wOp wIx (wVar 1) (wCall fs_law_draw [] (wCons (wVar 0) (wCons (wCB cLen (wCons (wVar 1) (wNil))) (wNil))))))))

def r_law_figures : WS :=
  wSeq (wIf (wOr (wTv (wOp wEqS (wVar 0) (wC (.str "")))) (wOr (wTv (wOp wGt (wCB cLen (wCons (wVar 0) (wNil))) (wC (.int 60)))) (wTv (wOp wNeD (wLc (wiS (wVar 0)) (tg1 1) (wTv (wOp wNotInSign (wVar 1) (wC (.str "0123456789")))) (wVar 1) [1]) (wLst (wNil)))))) (wRet (wC (.bl false))) (wNext))
  (wRet (wOrV (wOp wNeS (wOp wIx (wVar 0) (wC (.int 0))) (wC (.str "0"))) (wOp wEqS (wVar 0) (wC (.str "0")))))

theorem rd_law_sign_v1 {K : Fr} {p vs h Q} {X : XQ} (gd : Good K Q) (q : fs_law_sign_v1.pre p vs h) (hp : ∀ v h', fs_law_sign_v1.post p h v h' → Q v h') :
    r_law_sign_v1 (fun _ h' => Q .non h') Q (fun _ _ => False) (fun _ _ => False) (fun C v _ h' => X C v h') (startV ["tray", "some"] vs) h := by
  obtain ⟨t, g, n⟩ := p
  obtain ⟨rfl, T, hn⟩ := q
  show r_law_sign_v1 _ _ _ _ _ [some (.ref t), none] h
  unfold r_law_sign_v1
  have go : ∀ (z : Str) r h1, Lo (tl z) → z.length ≤ 1000 → 0 ≤ r → r < (z.length : Int) → Tray h1 t g (n + 2) → Keep t g h h1 → wIx (.str z) (.int r) h1 Q := fun z r h1 lo lz r0 r1 T1 kp => 
    ix_any (by omega) r0 r1 fun c hc => hp _ _ ⟨_, rfl, Nat.le_refl 1, fun x hx => by
      have : x = c := by simpa [tl] using hx
      subst this
      exact lo x hc, T1, kp⟩
  walk_at "zgo"
  refine c_law_draw T (by omega) (by decide) (by decide) fun r h1 r0 r1 T1 kp1 => ?_
  by_cases c : r = 0
  · walk_at "zgo"
    refine i_lenS (by decide +kernel) ?_
    walk_at "zgo"
    refine c_law_draw T1 (by omega) (by decide +kernel) (by decide +kernel) fun r h2 r0 r1 T2 kp2 => ?_
    exact go _ _ _ (by unfold Lo; decide +kernel) (by decide +kernel) r0 r1 (T2.more (by omega)) (kp1.trans kp2)
  · walk_at "zgo"
    refine i_addS (by decide +kernel) ?_
    walk_at "zgo"
    refine i_lenS (by decide +kernel) ?_
    walk_at "zgo"
    refine c_law_draw T1 (by omega) (by decide +kernel) (by decide +kernel) fun r h2 r0 r1 T2 kp2 => ?_
    exact go _ _ _ (by unfold Lo; decide +kernel) (by decide +kernel) r0 r1 (T2.more (by omega)) (kp1.trans kp2)
theorem rd_law_figures {K : Fr} {p : Str} {vs h Q} {X : XQ} (gd : Good K Q) (q : fs_law_figures.pre p vs h) (hp : ∀ v h', fs_law_figures.post p h v h' → Q v h') :
    r_law_figures (fun _ h' => Q .non h') Q (fun _ _ => False) (fun _ _ => False) (fun C v _ h' => X C v h') (startV ["word", "sign"] vs) h := by
  obtain ⟨rfl, hz, lo⟩ := q
  have hq : ∀ b, numB (tl p) = b → Q (.bl b) h := fun b e => hp _ _ ⟨by rw [e], rfl⟩
  clear hp
  have hl := len_tl p
  show r_law_figures _ _ _ _ _ [some (.str p), none] h
  unfold r_law_figures
  by_cases c0 : p = Str.ofString ""
  · walk_at "zgo"
    refine hq _ ?_
    rw [c0]
    decide +kernel
  have c1 : tl p ≠ [] := fun e => c0 ((str_iff (by decide +kernel)).mpr e)
  walk_at "zgo"
  refine i_lenS (by omega) ?_
  by_cases c2 : (p.length : Int) > 60
  · walk_at "zgo"
    refine hq _ ?_
    unfold numB
    rw [decide_eq_false (show ¬ (tl p).length ≤ 60 by omega)]
    simp
  walk_at "zgo"
  have c2' : 1 ≤ (tl p).length := by
    cases e : tl p with
    | nil => exact absurd e c1
    | cons => simp
  refine lc_inv (fun k acc h3 => h3 = h ∧ acc = (((tl p).take k).filter fun c => !decide (48 ≤ c ∧ c ≤ 57)).map sgn) ⟨rfl, by simp⟩ ?_
  rintro k acc h3 ⟨rfl, rfl⟩
  refine ⟨trivial, fun hk => ?_, fun r hr => ?_⟩
  rotate_left
  · obtain ⟨c, hc, rfl⟩ := map_get hr
    have ht : (tl p).take (k + 1) = (tl p).take k ++ [c] := by rw [List.take_succ, show (tl p)[k]? = some c from hc]; rfl
    have hlen : ((((tl p).take k).filter fun c => !decide (48 ≤ c ∧ c ≤ 57)).map sgn).length < 16000000 := by
      have h1 := List.length_filter_le (fun c => !decide (48 ≤ c ∧ c ≤ 57)) ((tl p).take k)
      rw [List.length_take] at h1
      rw [List.length_map]
      omega
    walk_at "zgo"
    refine ⟨c, _, rfl, rfl, ?_⟩
    rw [dig_mem]
    by_cases cd : 48 ≤ c ∧ c ≤ 57
    · rw [decide_eq_true cd]
      walk_at "zgo"
      refine ⟨rfl, ?_⟩
      rw [ht, List.filter_append, List.filter_cons, decide_eq_true cd]
      simp
    · rw [decide_eq_false cd]
      walk_at "zgo"
      refine ⟨hlen, rfl, ?_⟩
      rw [ht, List.filter_append, List.filter_cons, decide_eq_false cd]
      simp
  have hk2 : (tl p).length ≤ k := by simpa [tl] using hk
  rw [List.take_of_length_le hk2]
  refine i_newF ?_
  walk_at "zgo"
  refine i_newF ?_
  have hlo : ∀ c ∈ (tl p).filter (fun c => !decide (48 ≤ c ∧ c ≤ 57)), c < 128 := fun c hc => lo c (List.mem_filter.mp hc).1
  have hall : (tl p).all (fun c => decide (48 ≤ c ∧ c ≤ 57)) = ((tl p).filter (fun c => !decide (48 ≤ c ∧ c ≤ 57))).isEmpty := by
    clear hlo hk2 hk c1 c2' hq lo hz hl c0 c2
    induction tl p with
    | nil => rfl
    | cons c r ih =>
      rw [List.all_cons, List.filter_cons, ih]
      by_cases d : 48 ≤ c ∧ c ≤ 57
      · rw [decide_eq_true d]; rfl
      · rw [decide_eq_false d]; rfl
  have nb : numB (tl p) = (((tl p).filter (fun c => !decide (48 ≤ c ∧ c ≤ 57))).isEmpty && (decide ((tl p).length = 1) || decide ((tl p).head? ≠ some 48))) := by
    unfold numB
    rw [hall, decide_eq_true c2', decide_eq_true (show (tl p).length ≤ 60 by omega)]
    rfl
  generalize (tl p).filter (fun c => !decide (48 ≤ c ∧ c ≤ 57)) = bad at hlo nb
  cases bad with
  | cons b bs =>
    refine i_neNil (d := .str ⟨#[b]⟩) (ds := bs.map fun c => .str ⟨#[c]⟩) (n := 1) (.lst (dvs_map (f := sgn) (g := fun c => .str ⟨#[c]⟩) (fun c => .str _) (b :: bs))) (LayD.list (ds := (b :: bs).map fun c => .str ⟨#[c]⟩) fun d hd => ?_) (by decide) ?_
    · obtain ⟨c, hc, rfl⟩ := List.mem_map.mp hd
      exact .str 0 (str_ok (fun x hx => by
        have : x = c := by simpa [tl] using hx
        subst this
        exact hlo x hc))
    walk_at "zgo"
    exact hq _ (by rw [nb]; rfl)
  | nil =>
    refine i_neNil0 (.lst .nil) ?_
    walk_at "zgo"
    cases e : tl p with
    | nil => exact absurd e c1
    | cons c r =>
      refine ix_head e (by omega) ?_
      have i0 : decide ((⟨#[c]⟩ : Str) = Str.ofString "0") = decide (c = 48) := decide_eq_decide.mpr ((str_iff (l := [48]) (by decide +kernel)).trans (by simp [tl]))
      have i1 := str_iff (x := p) (s := "0") (l := [48]) (by decide +kernel)
      rw [e] at i1 nb
      walk_at "zgo"
      rw [i0]
      by_cases c48 : c = 48
      · rw [decide_eq_true c48]
        walk_at "zgo"
        refine hq _ ?_
        rw [e, nb]
        subst c48
        cases r with
        | nil =>
          have : p = Str.ofString "0" := i1.mpr rfl
          rw [decide_eq_true this]
          rfl
        | cons d r =>
          have : ¬ p = Str.ofString "0" := fun z => by have := i1.mp z; simp at this
          rw [decide_eq_false this]
          simp
      · rw [decide_eq_false c48]
        walk_at "zgo"
        refine hq _ ?_
        rw [e, nb]
        simp [c48]
/-! LS2 -/


/-! ### the law's reader of askers -/
theorem pre1 {s c : Nat} {r : List Nat} : pre [s] (c :: r) = decide (c = s) := by
  show ([c] == [s]) = _
  by_cases h : c = s
  · subst h; simp
  · simp [h]
theorem spl1_hit {s : Nat} {r acc : List Nat} : spl [s] 0 acc (s :: r) = acc :: spl [s] 0 [] r := by
  rw [spl_hit (by rw [pre1]; simp)]
  rfl
theorem spl1_miss {s c : Nat} {r acc : List Nat} (h : c ≠ s) : spl [s] 0 acc (c :: r) = spl [s] 0 (acc ++ [c]) r := by
  show (if pre [s] (c :: r) = true then _ else _) = _
  rw [pre1, decide_eq_false h]
  rfl
theorem par1_hit {s : Nat} {r acc : List Nat} : par [s] acc (s :: r) = some (acc, r) := by
  show (if pre [s] (s :: r) = true then _ else _) = _
  rw [pre1, decide_eq_true rfl]
  rfl
theorem par1_miss {s c : Nat} {r acc : List Nat} (h : c ≠ s) : par [s] acc (c :: r) = par [s] (acc ++ [c]) r := by
  show (if pre [s] (c :: r) = true then _ else _) = _
  rw [pre1, decide_eq_false h]
  rfl
theorem spl_par {s : Nat} : ∀ {l acc : List Nat}, spl [s] 0 acc l = match par [s] acc l with
    | none => [acc ++ l]
    | some (a, b) => a :: spl [s] 0 [] b
  | [], acc => by rw [spl_nil]; simp [par]
  | c :: r, acc => by
    by_cases h : c = s
    · subst h
      rw [spl1_hit, par1_hit]
    · rw [spl1_miss h, par1_miss h, spl_par]
      cases par [s] (acc ++ [c]) r with
      | none => simp
      | some ab => rfl
theorem spl_one {s : Nat} : ∀ {l acc : List Nat}, s ∉ l → spl [s] 0 acc l = [acc ++ l]
  | [], acc, _ => by rw [spl_nil]; simp
  | c :: r, acc, h => by
    rw [spl1_miss fun e => h (by simp [e]), spl_one fun e => h (by simp [e])]
    simp
theorem spl_two {s : Nat} : ∀ {l acc : List Nat}, s ∈ l → 2 ≤ (spl [s] 0 acc l).length
  | [], acc, h => by simp at h
  | c :: r, acc, h => by
    by_cases e : c = s
    · subst e
      rw [spl1_hit]
      have := (spl_total (S := [c]) (by simp) (l := r) (k := 0) (acc := []) (Nat.zero_le _)).2
      simp
      omega
    · rw [spl1_miss e]
      exact spl_two (by simpa [Ne.symm e] using h)
theorem par_eq {s : Nat} : ∀ {l acc a b : List Nat}, par [s] acc l = some (a, b) → acc ++ l = a ++ s :: b
  | [], acc, a, b, h => by simp [par] at h
  | c :: r, acc, a, b, h => by
    by_cases e : c = s
    · subst e
      rw [par1_hit] at h
      cases h
      rfl
    · rw [par1_miss e] at h
      have := par_eq h
      simpa using this
theorem numB_free {l : List Nat} {s : Nat} (h : numB l = true) (hs : s < 48 ∨ 57 < s) : s ∉ l := fun m => by
  have := numB_digits h s m
  omega
theorem allO_mem {α : Type} {os : List (Option α)} (h : none ∈ os) : allO os = none := by
  cases e : allO os with
  | none => rfl
  | some xs => rw [allO_iff e] at h; simp at h
/-! ZX -/
/-! An exception that was caught is held on to, as a value, behind the suite. -/
section
variable {X : Cx} {x n : Str} {c : Value} {i : Nat} {body suite : List Stmt} {b0 : Stmt} {np pos pos' : Pos} {tb : WX → L2.TS} {ts : Addr → Value → Option Addr → L2.TS} {Wo : WX}
end
/-! ZY -/
/-! A caught error as a value: the rules. -/
section
variable {X : Cx} {W : WX} {x n : Str} {c : Addr} {i : Nat} {body suite : List Stmt} {b0 : Stmt} {np pos pos' : Pos} {tb : WS} {ts : Addr → Addr → Addr → WS} {subs nots : List Addr}
end
/-! isinstance of None, or of an error that is held on to -/
section
variable {X : Cx} {tab : List (Addr × Bool)} {u : Value} {us : List Value}
end
def ErrIn (tab : List (Addr × Bool)) (x : Val) (h : Hh) (Q : KQ) : Prop := (x = .non ∧ Q (.bl false) h) ∨ ∃ C a dd v b, x = .err C a dd v ∧ (C, b) ∈ tab ∧ Q (.bl b) h
theorem ErrIn.l {K : Fr} {S F H : Hp} {h : Hh} {tab : List (Addr × Bool)} {x : Val} {v : V} {Q' : KQ} {Q : VK} (r : R K S F H h) (x1 : Rel K S x v) (q : ErrIn tab x h Q') (lq : LQ K S F Q' Q) : (v = .non ∧ Q (.bl false) H) ∨ ∃ (C a dd : Addr) (fs : List (Str × V)) (b : Bool), v = .ref a ∧ H a = some (ErrO (.ref C) (some dd) a) ∧ H dd = some (.xd fs) ∧ (C, b) ∈ tab ∧ Q (.bl b) H := by
  rcases q with ⟨rfl, q⟩ | ⟨C, a, dd, u, b, rfl, hb, q⟩
  · exact .inl ⟨rel_non.mp x1, lq _ _ S _ _ q (Sub.refl S) r (rel_bl.mpr rfl)⟩
  · obtain ⟨rfl, ha, z, hz, _⟩ := rel_err.mp x1
    exact .inr ⟨C, a, dd, _, b, rfl, r.sub _ _ ha, r.sub _ _ hz, hb, lq _ _ S _ _ q (Sub.refl S) r (rel_bl.mpr rfl)⟩
/-- classes as values -/
inductive ZCl (X : Cx) (W : WX) : List Expr → List Val → List Value → Prop where
  | nil : ZCl X W [] [] []
  | cons {e : Expr} {es : List Expr} {x : Val} {u : Value} {xs : List Val} {us : List Value} (h : ZE X W e (wC x)) (k : clsOf X.K x = some u) (r : ZCl X W es xs us)
      (hs : starEach (e :: es) X.env = (false, eval e X.env) :: starEach es X.env := by rfl) : ZCl X W (e :: es) (x :: xs) (u :: us)
theorem ZCl.za {X : Cx} {W : WX} : ∀ {es : List Expr} {xs : List Val} {us : List Value}, ZCl X W es xs us → ZA X W es (wVals xs)
  | _, _, _, .nil => za_nil
  | _, _, _, .cons h k r hs => za_cons h r.za hs
theorem ZCl.cls {X : Cx} {W : WX} : ∀ {es : List Expr} {xs : List Val} {us : List Value}, ZCl X W es xs us → clsAll X.K xs = some us
  | _, _, _, .nil => rfl
  | _, _, _, .cons h k r hs => by
    unfold clsAll
    rw [r.cls, k]
    rfl
section
variable {X : Cx} {W : WX} {pos p x1 : Pos} {c0 : Nat} {e x : Expr} {te : WE} {tab : List (Addr × Bool)} {cv : Val} {u : Value}
end
/-! ZM -/
/-! methods with keywords -/
/-- a method that keeps a promise, called with keywords -/
structure MtK (P : Program) (w : World) (K : Fr) (mg : Str → Option Value) (base : Heap) (C : Addr) (m : Str) (k : Nat) (ps : List Str) (n : Nat) (ks : List Str) (perm : List (Sum Nat Nat)) (fs : FS) : Prop where
  ex : ∃ (f : Addr) (fd : FuncData), FnOk P w K mg base (L2.CX P w) k f fd ps (lSp K fs) ∧ Meth K C m f ∧ KBn K fd ps (n + 1) ks (arr (.inl 0 :: perm.map fun | .inl i => .inl (i + 1) | .inr j => .inr j)) (arr (.inl 0 :: perm.map fun | .inl i => .inl (i + 1) | .inr j => .inr j))
section
variable {X : Cx} {W : WX} {pos : Pos} {k n : Nat} {x m : Str} {ps ks : List Str} {perm : List (Sum Nat Nat)} {fs : FS} {C : Addr} {p apos : Pos} {e o : Expr} {es : List Expr} {kws : List Keyword} {t tk0 : WA} {ta : WE}
end
/-! ZQ -/
/-! range with a step. -/
section
variable {K : Fr} {X : Cx} {W : WX}
end
/-! a method with both kinds of arguments -/
section
variable {X : Cx} {W : WX} {pos : Pos} {k n : Nat} {m : Str} {ps ks : List Str} {perm : List (Sum Nat Nat)} {fs : FS} {C : Addr} {apos : Pos} {e o : Expr} {es : List Expr} {kws : List Keyword} {t tk0 : WA} {ta : WE}
end
/-! ZAB -/
/-! x is True, x is not False: of bools, of None, of tuples. -/
/-! ZN -/
/-! != of an own instance -/
section
variable {M : Model} {prog : Program} {w : World} {A : Around} {E : Value → Shared → Prop} {s : Shared} {K : PySem.W.Frag} {x y C f : Addr} {ox : Obj} {od : Option Obj}
end
section
variable {X : Cx}
end
/-! ZO -/
/-! an own instance in a list of one -/
section
open AutoSeq1 (wpAny_loadPart')
open MeetsSeq MeetsSeq2 MeetsSeq3 SeqRoads2
variable {prog : Program} {w : World} {A : Around} {R : Result → Shared → Prop}
end
section
variable {X : Cx}
end
/-! ZR -/
/-! dicts with nested keys: their methods, walks; sorted -/
/-! ### methods by what their calls do -/
section
variable {X : Cx} {o e : Expr} {es : List Expr} {to : L2.TE} {t : L2.TA} {name : Str} {apos cpos : Pos} {T id : String}
end
/-! ### a dict with nested keys -/
section
variable {X : Cx} {W : WX} {pos : Pos}
end
/-! ### len -/
/-! ZS -/
/-! walks over dicts with nested keys; sorted -/
/-! ### the keys, walked -/
section
variable {P : Program} {w : World} {K : PySem.W.Frag} {tg : Expr} {a d : Addr} {es : Array DictEntry} {ep : Nat}
end
section
variable {X : Cx} {tg e : Expr} {td : L2.TE} {apos cpos : Pos}
end
/-! ### the same, over values: the dict is locked meanwhile -/
section
variable {X : Cx} {W : WX} {pos : Pos}
end
/-! ### sorted -/
/-! ZT -/
/-! sorted of a dict; sorted as a step -/
section
variable {prog : Program} {w : World} {d : Addr} {es : Array DictEntry} {ep : Nat}
end
/-! ### over values -/
/-! steps -/
/-! ZU -/
/-! owned lists of lists fixed for ever -/
def hdels (h : Hh) (bs : List Addr) : Hh := fun c => if c ∈ bs then none else h c
theorem hdels_cons {h : Hh} {b : Addr} {bs : List Addr} : hdels (hdel h b) bs = hdels h (b :: bs) := by
  funext c
  unfold hdels hdel
  by_cases e : c = b
  · simp [e]
  · simp [e]
theorem R.frz_all {K : Fr} {F H : Hp} : ∀ {bs : List Addr} {xss : List (List Val)} {S : Hp} {h : Hh}, R K S F H h → bs.length = xss.length → (∀ (i : Nat) (b : Addr) (xs : List Val), bs[i]? = some b → xss[i]? = some xs → h b = some (.lst xs)) → bs.Nodup →
    ∃ S2, Sub S S2 ∧ R K S2 F H (hdels h bs) ∧ Rels K S2 (xss.map Val.lst) (bs.map V.ref)
  | [], xss, S, h, r, hl, e, nd => by
    have : xss = [] := List.length_eq_zero_iff.mp hl.symm
    subst this
    refine ⟨S, Sub.refl S, ?_, rels_nil.mpr rfl⟩
    rw [show hdels h [] = h from funext fun c => if_neg (by simp)]
    exact r
  | b :: bs, [], S, h, r, hl, e, nd => by simp at hl
  | b :: bs, xs :: xss, S, h, r, hl, e, nd => by
    obtain ⟨n1, n2⟩ := List.nodup_cons.mp nd
    have hb := e 0 b xs rfl rfl
    obtain ⟨u, ⟨ws, eu, x⟩, r2, s2⟩ := r.freeze hb
    subst eu
    obtain ⟨S3, s3, r3, x3⟩ := R.frz_all (bs := bs) (xss := xss) r2 (by simpa using hl) (fun i c ys e1 e2 => by
      rw [hdel_ne (fun z => n1 (by rw [← z]; exact List.mem_of_getElem? e1))]
      exact e (i + 1) c ys (by simpa using e1) (by simpa using e2)) n2
    rw [hdels_cons] at r3
    exact ⟨S3, s2.trans s3, r3, rels_cons.mpr ⟨_, _, rfl, rel_lst.mpr ⟨b, ws, rfl, s3 _ _ upd_same, Rels.mono (s2.trans s3) _ _ x⟩, x3⟩⟩
theorem R.nest {K : Fr} {S F H : Hp} {h : Hh} {a : Addr} {bs : List Addr} {xss : List (List Val)} (r : R K S F H h) (N : Nest h a bs xss) : ∃ S2, Sub S S2 ∧ R K S2 F H (hdels h (a :: bs)) ∧ Rel K S2 (.lst (xss.map Val.lst)) (.ref a) := by
  obtain ⟨n1, n2⟩ := List.nodup_cons.mp N.nd
  obtain ⟨u, ⟨ws, eu, x⟩, r2, s2⟩ := r.freeze N.top
  subst eu
  obtain ⟨S3, s3, r3, x3⟩ := R.frz_all (bs := bs) (xss := xss) r2 N.len (fun i c ys e1 e2 => by
    rw [hdel_ne (fun z => n1 (by rw [← z]; exact List.mem_of_getElem? e1))]
    exact N.each i c ys e1 e2) n2
  rw [hdels_cons] at r3
  have ew : ∀ (cs : List Addr) (vs : List V), Rels K S (cs.map Val.ref) vs → vs = cs.map V.ref := by
    intro cs
    induction cs with
    | nil => intro vs h; rw [List.map_nil, rels_nil] at h; exact h
    | cons c cs ih =>
      intro vs h
      rw [List.map_cons, rels_cons] at h
      obtain ⟨w, rs, rfl, h1, h2⟩ := h
      rw [rel_ref.mp h1, ih rs h2]
      rfl
  have := ew bs ws x
  subst this
  exact ⟨S3, s2.trans s3, r3, rel_lst.mpr ⟨a, _, rfl, s3 _ _ upd_same, x3⟩⟩
/-! ZAC -/
/-! owned lists within tuples within an owned list, fixed for ever -/
mutual
inductive FT (h : Hh) (bs : List Addr) : Val → Val → Prop
  | same (v : Val) : FT h bs v v
  | ref {b : Addr} {xs : List Val} : b ∈ bs → h b = some (.lst xs) → FT h bs (.ref b) (.lst xs)
  | tup {xs ys : List Val} : FTs h bs xs ys → FT h bs (.tup xs) (.tup ys)
inductive FTs (h : Hh) (bs : List Addr) : List Val → List Val → Prop
  | nil : FTs h bs [] []
  | cons {x y : Val} {xs ys : List Val} : FT h bs x y → FTs h bs xs ys → FTs h bs (x :: xs) (y :: ys)
end
theorem FTs.map {α : Type} {h : Hh} {bs : List Addr} {f g : α → Val} : ∀ {xs : List α}, (∀ x ∈ xs, FT h bs (f x) (g x)) → FTs h bs (xs.map f) (xs.map g)
  | [], _ => .nil
  | x :: xs, q => .cons (q x (by simp)) (FTs.map fun y hy => q y (by simp [hy]))
theorem FTs.at {h : Hh} {bs : List Addr} : ∀ {xs ys : List Val}, xs.length = ys.length → (∀ (i : Nat) x y, xs[i]? = some x → ys[i]? = some y → FT h bs x y) → FTs h bs xs ys
  | [], [], _, _ => .nil
  | [], _ :: _, e, _ => by simp at e
  | _ :: _, [], e, _ => by simp at e
  | x :: xs, y :: ys, e, q => .cons (q 0 x y rfl rfl) (FTs.at (by simpa using e) fun i a b e1 e2 => q (i + 1) a b (by simpa using e1) (by simpa using e2))
/-- an owned list whose items hold owned lists -/
structure Deep (h : Hh) (a : Addr) (bs : List Addr) (xs ys : List Val) : Prop where
  top : h a = some (.lst xs)
  nd : (a :: bs).Nodup
  each : ∀ b ∈ bs, ∃ zs, h b = some (.lst zs)
  ft : FTs h bs xs ys
/-! ZAE -/
/-! refs of a world have unlike hashes, whatever the text's hash is -/
def hrot (x : Nat) : Nat := (x % 8589934592) * 2147483648 + x / 8589934592
def hstep (A h : Nat) : Nat := (hrot ((A + h * 14029467366897019727) % 18446744073709551616) * 11400714785074694791) % 18446744073709551616
/-! the last turn -/
def hz (A a b : Nat) : Nat := (hstep (hstep A a) b + 2870177450013471925) % 18446744073709551616
/-! ZAF -/
/-! dict(d): a copy of a dict whose keys are tuples -/
section
variable {prog : Program} {w : World} {K : Type} [DecidableEq K] {knd : HeapKind prog w K} {A : Around} {E : Value → Shared → Prop} {s : Shared}
end
/-! ZAG -/
/-! xs or ys: of lists. -/
section
variable {X : Cx} {W : WX} {pos : Pos}
end
/-! ZAH -/
/-! max(xs) of a list of ints -/
open HT
def cMaxL : WC := fun vs h Q => ∃ (x : Val) (ns : List Int), vs = [x] ∧ Seqq h x (ns.map Val.int) ∧ 0 < ns.length ∧ ∀ m, m ∈ ns → (∀ y, y ∈ ns → y ≤ m) → Q (.int m) h
theorem s_maxL {K : Fr} : SndC K cMaxL (rMax K) := fun S F H h xs vs Q' Q r rx q lq => by
  obtain ⟨x, ns, rfl, q1, h0, q⟩ := q
  obtain ⟨w, rfl, x1⟩ := rels_1 rx
  obtain ⟨a, ws, rfl, h1, h2⟩ := q1.l r x1
  rw [Rels.ints] at h2; subst h2
  exact ⟨a, ns, rfl, h1, h0, fun m hm hy => lq _ _ S _ _ (q m hm hy) (Sub.refl S) r (rel_int.mpr rfl)⟩
theorem i_maxL {x : Val} {ns : List Int} {h : Hh} {Q : KQ} (s : Seqq h x (ns.map Val.int)) (h0 : 0 < ns.length) (q : ∀ m, m ∈ ns → (∀ y, y ∈ ns → y ≤ m) → Q (.int m) h) : cMaxL [x] h Q := ⟨x, ns, rfl, s, h0, q⟩
/-! LO1 -/


/-! ### the law's reader of worlds: refs and things -/
/-- a ref written, of a thing that is there -/
def refN (ns : List Nat) (l : List Nat) : Option RefD := (refB l).bind fun p => if p.1 < ns.length ∧ p.2 < ns.getD p.1 0 then some (.thing p.1 p.2) else none
def numsV (ns : List Nat) : List Val := ns.map fun (n : Nat) => Val.int (n : Int)
def oneR : List RefD → Option Thing
  | [r] => some (.relay r)
  | _ => none
def lastN (l : List Nat) (rs : List RefD) : Option Thing := if l.take 1 = [115] ∧ rs.length < 13 then some (.shelf rs) else if l.take 1 = [114] then oneR rs else none
def thingN (ns : List Nat) (l : List Nat) : Option Thing :=
  if l = [109] then some .maker else if l = [120] then some .stone
  else if l.take 1 = [98] ∧ signB (l.drop 1) = true then some (.box (sval (l.drop 1)))
  else if l = [115] then some (.shelf [])
  else (allO ((spl [44] 0 [] (l.drop 1)).map (refN ns))).bind (lastN l)
def fs_law_ref_of : FS where
  P := Str × List Nat
  pre := fun (z, ns) vs h => vs = [.str z, .lst (numsV ns)] ∧ z.length ≤ 1000000 ∧ Lo (tl z)
  post := fun (z, ns) h v h' => v = oV RefD.v (refN ns (tl z)) ∧ h' = h
theorem c_law_ref_of {z : Str} {ns : List Nat} {h : Hh} {E : XQ} {Q : KQ} (hz : z.length ≤ 1000000) (lo : Lo (tl z)) (k : Q (oV RefD.v (refN ns (tl z))) h) : fs_law_ref_of.sp [.str z, .lst (numsV ns)] h E Q := ⟨(z, ns), ⟨rfl, hz, lo⟩, fun v h' ⟨a, b⟩ => by subst a b; exact k, fun _ _ _ z => z.elim⟩
def fs_law_thing_of : FS where
  P := Str × List Nat
  pre := fun (z, ns) vs h => vs = [.str z, .lst (numsV ns)] ∧ z.length ≤ 1000000 ∧ Lo (tl z)
  post := fun (z, ns) h v h' => v = oV Thing.v (thingN ns (tl z)) ∧ h' = h
theorem c_law_thing_of {z : Str} {ns : List Nat} {h : Hh} {E : XQ} {Q : KQ} (hz : z.length ≤ 1000000) (lo : Lo (tl z)) (k : Q (oV Thing.v (thingN ns (tl z))) h) : fs_law_thing_of.sp [.str z, .lst (numsV ns)] h E Q := ⟨(z, ns), ⟨rfl, hz, lo⟩, fun v h' ⟨a, b⟩ => by subst a b; exact k, fun _ _ _ z => z.elim⟩
def r_law_ref_of : WS :=
  wSeq (wAsg (wBM "str" mSplit (wVar 0) (wCons (wC (.str ".")) (wNil))) (wgName 2))
  (wSeq (wIf (wOr (wTv (wOp wNeS (wCB cLen (wCons (wVar 2) (wNil))) (wC (.int 2)))) (wOr (wNot (wTv (wCall fs_law_figures [] (wCons (wOp wIx (wVar 2) (wC (.int 0))) (wNil))))) (wNot (wTv (wCall fs_law_figures [] (wCons (wOp wIx (wVar 2) (wC (.int 1))) (wNil))))))) (wRet (wC .non)) (wNext))
  (wSeq (wAsg (wCB cIntS (wCons (wOp wIx (wVar 2) (wC (.int 0))) (wNil))) (wgName 3))
  (wSeq (wAsg (wCB cIntS (wCons (wOp wIx (wVar 2) (wC (.int 1))) (wNil))) (wgName 4))
  (wSeq (wIf (wOr (wTv (wOp wGe (wVar 3) (wCB cLen (wCons (wVar 1) (wNil))))) (wTv (wOp wGe (wVar 4) (wOp wIx (wVar 1) (wVar 3))))) (wRet (wC .non)) (wNext))
  (wRet (wTup (wCons (wC (.str "thing")) (wCons (wVar 3) (wCons (wVar 4) (wNil))))))))))

def r_law_thing_of : WS :=
  wSeq (wAsg (wSl wSlS (wVar 0) (wNoPart) (wPart (wC (.int 1)))) (wgName 2))
  (wSeq (wAsg (wSl wSlS (wVar 0) (wPart (wC (.int 1))) (wNoPart)) (wgName 3))
  (wSeq (wIf (wTv (wOp (wInF false) (wVar 0) (wLst (wCons (wC (.str "m")) (wCons (wC (.str "x")) (wNil)))))) (wRet (wOp wIx (wLst (wCons (wTup (wCons (wC (.str "maker")) (wNil))) (wCons (wTup (wCons (wC (.str "stone")) (wNil))) (wNil)))) (wCB cInt (wCons (wOp wEqS (wVar 0) (wC (.str "x"))) (wNil))))) (wNext))
  (wSeq (wAsg (wAndV (wOp wEqS (wSl wSlS (wVar 3) (wNoPart) (wPart (wC (.int 1)))) (wC (.str "-"))) (wOp wNeS (wVar 3) (wC (.str "-0")))) (wgName 4))
  (wSeq (wIf (wAnd (wTv (wOp wEqS (wVar 2) (wC (.str "b")))) (wTv (wCall fs_law_figures [] (wCons (wSl wSlS (wVar 3) (wPart (wCB cInt (wCons (wVar 4) (wNil)))) (wNoPart)) (wNil))))) (wRet (wTup (wCons (wC (.str "box")) (wCons (wCB cIntS (wCons (wVar 3) (wNil))) (wNil))))) (wNext))
  (wSeq (wIf (wTv (wOp wEqS (wVar 0) (wC (.str "s")))) (wRet (wTup (wCons (wC (.str "shelf")) (wCons (wTup (wNil)) (wNil))))) (wNext))
  (wSeq (wAsg (wLc (wiL (wBM "str" mSplit (wVar 3) (wCons (wC (.str ",")) (wNil)))) (tg1 5) wYes (wCall fs_law_ref_of [] (wCons (wVar 5) (wCons (wVar 1) (wNil)))) [5]) (wgName 6))
  (wSeq (wIf (wAnd (wTv (wOp wEqS (wVar 2) (wC (.str "s")))) (wAnd (wTv (wOp wNotInD (wC .non) (wVar 6))) (wTv (wOp wLt (wCB cLen (wCons (wVar 6) (wNil))) (wC (.int 13)))))) (wRet (wTup (wCons (wC (.str "shelf")) (wCons (wCB cTuple (wCons (wVar 6) (wNil))) (wNil))))) (wNext))
  (wSeq (wIf (wAnd (wTv (wOp wEqS (wVar 2) (wC (.str "r")))) (wAnd (wTv (wOp wNotInD (wC .non) (wVar 6))) (wTv (wOp wEqS (wCB cLen (wCons (wVar 6) (wNil))) (wC (.int 1)))))) (wRet (wTup (wCons (wC (.str "relay")) (wCons (wOp wIx (wVar 6) (wC (.int 0))) (wNil))))) (wNext))
  (wRet (wC .non))))))))))

theorem rd_law_ref_of {K : Fr} {p : Str × List Nat} {vs h Q} {X : XQ} (gd : Good K Q) (q : fs_law_ref_of.pre p vs h) (hp : ∀ v h', fs_law_ref_of.post p h v h' → Q v h') :
    r_law_ref_of (fun _ h' => Q .non h') Q (fun _ _ => False) (fun _ _ => False) (fun C v _ h' => X C v h') (startV ["word", "sizes", "parts", "house", "number"] vs) h := by
  obtain ⟨p, ns⟩ := p
  obtain ⟨rfl, hz, lo⟩ := q
  have hq : ∀ b, oV RefD.v (refN ns (tl p)) = b → Q b h := fun b e => hp _ _ ⟨by rw [e], rfl⟩
  clear hp
  have e46 : tl (Str.ofString ".") = [46] := by decide +kernel
  have sp := split_parts (x := p) e46 (by simp) (by decide +kernel)
  have hpl : ∀ y ∈ Txt.split p (Str.ofString "."), y.length ≤ 1000000 := fun y hy => Nat.le_trans (part_len e46 (by simp) (by decide +kernel) hy) hz
  have hpo : ∀ y ∈ Txt.split p (Str.ofString "."), Lo (tl y) := fun y hy => part_lo e46 (by simp) (by decide +kernel) lo hy
  have many := parts_many (x := p) e46 (by simp) (by decide +kernel)
  show r_law_ref_of _ _ _ _ _ [some (.str p), some (.lst (numsV ns)), none, none, none] h
  unfold r_law_ref_of
  walk_at "zgo"
  refine i_split (by decide +kernel) (by omega) (i_newF ?_)
  revert sp hpl hpo many
  generalize Txt.split p (Str.ofString ".") = ps
  intro sp hpl hpo many
  rw [spl_par] at sp
  have no : refB (tl p) = none → Q .non h := fun c => hq _ (by unfold refN; rw [c]; rfl)
  cases pr : par [46] [] (tl p) with
  | none =>
    rw [pr] at sp
    have rb : refB (tl p) = none := by unfold refB; rw [pr]
    cases ps with
    | nil => simp at sp
    | cons w0 ws =>
      cases ws with
      | cons w1 ws => simp at sp
      | nil =>
        walk_at "zgo"
        exact no rb
  | some ab =>
    obtain ⟨a, b⟩ := ab
    rw [pr] at sp
    dsimp only at sp
    have rb : refB (tl p) = if numB a && numB b then some (NumText.digitsVal a, NumText.digitsVal b) else none := by unfold refB; rw [pr]
    by_cases hb : 46 ∈ b
    · have := spl_two (acc := []) hb
      have nb2 : numB b = false := by
        cases e : numB b with
        | false => rfl
        | true => exact absurd hb (numB_free e (.inl (by decide)))
      have hl : 3 ≤ ps.length := by
        have := congrArg List.length sp
        rw [List.length_map, List.length_cons] at this
        omega
      walk_at "zgo"
      rw [if_pos (by simp; omega)]
      walk_at "zgo"
      exact no (by rw [rb, nb2]; simp)
    · rw [spl_one hb, List.nil_append] at sp
      match ps, sp, hpl, hpo with
      | [], sp, _, _ => simp at sp
      | [w0], sp, _, _ => simp at sp
      | [w0, w1], sp, hpl, hpo =>
        simp only [List.map_cons, List.map_nil, List.cons.injEq, and_true] at sp
        obtain ⟨ea, eb⟩ := sp
        walk_at "zgo"
        refine c_law_figures (hpl _ (by simp)) (hpo _ (by simp)) ?_
        rw [ea]
        cases na : numB a with
        | false =>
          walk_at "zgo"
          exact no (by rw [rb, na]; simp)
        | true =>
          walk_at "zgo"
          refine c_law_figures (hpl _ (by simp)) (hpo _ (by simp)) ?_
          rw [eb]
          cases nb2 : numB b with
          | false =>
            walk_at "zgo"
            exact no (by rw [rb, nb2]; simp)
          | true =>
            walk_at "zgo"
            obtain ⟨i1, l1⟩ := numB_int (z := w0) (by rw [ea]; exact na)
            obtain ⟨i2, l2⟩ := numB_int (z := w1) (by rw [eb]; exact nb2)
            refine i_intS i1 (Nat.le_trans l1 (by decide)) ?_
            walk_at "zgo"
            refine i_intS i2 (Nat.le_trans l2 (by decide)) ?_
            walk_at "zgo"
            rw [na, nb2] at rb
            rw [ea, eb]
            generalize NumText.digitsVal a = x at rb
            generalize NumText.digitsVal b = y at rb
            have rn : refN ns (tl p) = if x < ns.length ∧ y < ns.getD x 0 then some (.thing x y) else none := by unfold refN; rw [rb]; rfl
            have ln : (numsV ns).length = ns.length := List.length_map _
            rw [ln]
            by_cases c1 : x < ns.length
            · have e1 : decide ((x : Int) ≥ (ns.length : Int)) = false := decide_eq_false (by omega)
              rw [e1]
              walk_at "zgo"
              have eg : (numsV ns)[x]? = some (.int ((ns.getD x 0 : Nat) : Int)) := by
                unfold numsV
                rw [List.getElem?_map, List.getElem?_eq_getElem c1, List.getD_eq_getElem?_getD, List.getElem?_eq_getElem c1]
                rfl
              refine i_ixL (L2.atI_nat eg) ?_
              by_cases c2 : y < ns.getD x 0
              · have e2 : decide ((y : Int) ≥ ((ns.getD x 0 : Nat) : Int)) = false := decide_eq_false (by omega)
                walk_at "zgo"
                exact hq _ (by rw [rn, if_pos ⟨c1, c2⟩]; rfl)
              · walk_at "zgo"
                exact hq _ (by rw [rn, if_neg fun z => c2 z.2]; rfl)
            · have e1 : decide ((x : Int) ≥ (ns.length : Int)) = true := decide_eq_true (by omega)
              rw [e1]
              walk_at "zgo"
              exact hq _ (by rw [rn, if_neg fun z => c1 z.1]; rfl)
      | w0 :: w1 :: w2 :: ws, sp, _, _ => simp at sp
theorem take_snoc' {α : Type} {xs : List α} {i : Nat} {x : α} (e : xs[i]? = some x) : xs.take (i + 1) = xs.take i ++ [x] := by rw [List.take_succ, e]; rfl
theorem none_nin {α : Type} {g : α → PyData} {n : Nat} (hn : n + 1 ≤ 64) (lay : ∀ x, LayD n (g x)) (ne : ∀ x, PyData.eqv (g x) .none = false) {os : List (Option α)} {y : Val} {xs : List Val} {h : Hh} {Q : KQ}
    (s : Seqq h y xs) (dv : Dvs h xs (os.map (oD g))) (q : Q (.bl (!(allO os).isNone)) h) : wNotInD .non y h Q := by
  obtain ⟨d, ds, a1, a2, a3, a4, a5⟩ := none_in (Q := fun v h' => v = .bl (allO os).isNone ∧ h' = h) hn lay ne s dv ⟨rfl, rfl⟩
  refine ⟨d, ds, a1, a2, a3, a4, ?_⟩
  have := Val.bl.inj a5.1
  rw [this]
  exact q
theorem mx_in {z : Str} {h : Hh} {Q : KQ} (q : Q (.bl (decide (tl z = [109]) || decide (tl z = [120]))) h) : wInF false (.str z) (.lst [.str "m", .str "x"]) h Q := by
  refine ⟨_, .lst (.lst _), rfl, rfl, ?_⟩
  rw [if_neg (by decide)]
  have e0 := str_iff (x := z) (s := "m") (l := [109]) (by decide +kernel)
  have e1 := str_iff (x := z) (s := "x") (l := [120]) (by decide +kernel)
  have : inV (fv (.str z)) ([Val.str "m", Val.str "x"].map fv) = (decide (tl z = [109]) || decide (tl z = [120])) := by
    show (eqV (.str "m") (.str z) || (eqV (.str "x") (.str z) || false)) = _
    have q : ∀ s : Str, eqV (.str s) (.str z) = decide (z = s) := fun s => by
      show (s == z) = _
      rw [Bool.eq_iff_iff]
      exact ⟨fun e => decide_eq_true (eq_of_beq e).symm, fun e => by rw [of_decide_eq_true e]; exact beq_self_eq_true _⟩
    rw [q, q, decide_eq_decide.mpr e0, decide_eq_decide.mpr e1, Bool.or_false]
  rw [this]
  exact q
theorem rd_law_thing_of {K : Fr} {p : Str × List Nat} {vs h Q} {X : XQ} (gd : Good K Q) (q : fs_law_thing_of.pre p vs h) (hp : ∀ v h', fs_law_thing_of.post p h v h' → Q v h') :
    r_law_thing_of (fun _ h' => Q .non h') Q (fun _ _ => False) (fun _ _ => False) (fun C v _ h' => X C v h') (startV ["word", "sizes", "head", "rest", "below", "part", "refs"] vs) h := by
  obtain ⟨p, ns⟩ := p
  obtain ⟨rfl, hz, lo⟩ := q
  have hq : ∀ b, oV Thing.v (thingN ns (tl p)) = b → Q b h := fun b e => hp _ _ ⟨by rw [e], rfl⟩
  clear hp
  show r_law_thing_of _ _ _ _ _ [some (.str p), some (.lst (numsV ns)), none, none, none, none, none] h
  unfold r_law_thing_of
  walk_at "zgo"
  refine i_slS (by omega) ?_
  walk_at "zgo"
  refine i_slS (by omega) ?_
  walk_at "zgo"
  refine i_newF ?_
  refine mx_in ?_
  have im := str_iff (x := p) (s := "m") (l := [109]) (by decide +kernel)
  have ix := str_iff (x := p) (s := "x") (l := [120]) (by decide +kernel)
  have is := str_iff (x := p) (s := "s") (l := [115]) (by decide +kernel)
  by_cases cm : tl p = [109]
  · have e2 : p ≠ Str.ofString "x" := fun z => by rw [ix.mp z] at cm; exact absurd cm (by decide)
    rw [decide_eq_true cm, Bool.true_or]
    walk_at "zgo"
    refine i_newF ?_
    walk_at "zgo"
    rw [decide_eq_false e2]
    exact i_ixL rfl (hq _ (by unfold thingN; rw [if_pos cm]; rfl))
  by_cases cx : tl p = [120]
  · have e2 : p = Str.ofString "x" := ix.mpr cx
    rw [decide_eq_true cx, Bool.or_true]
    walk_at "zgo"
    refine i_newF ?_
    walk_at "zgo"
    rw [decide_eq_true e2]
    exact i_ixL rfl (hq _ (by unfold thingN; rw [if_neg cm, if_pos cx]; rfl))
  rw [decide_eq_false cm, decide_eq_false cx, Bool.or_false]
  have hq2 : ∀ b, oV Thing.v (if (tl p).take 1 = [98] ∧ signB ((tl p).drop 1) = true then some (.box (sval ((tl p).drop 1)))
      else if tl p = [115] then some (.shelf [])
      else (allO ((spl [44] 0 [] ((tl p).drop 1)).map (refN ns))).bind (lastN (tl p))) = b → Q b h := fun b e => hq b (by unfold thingN; rw [if_neg cm, if_neg cx]; exact e)
  clear hq
  have lh : (cutS p none (some 1)).length ≤ 1000000 := cut_len _ _ _ hz
  have lr : (cutS p (some 1) none).length ≤ 1000000 := cut_len _ _ _ hz
  have lor : Lo (tl (cutS p (some 1) none)) := cut_lo lo
  have tr : tl (cutS p (some 1) none) = (tl p).drop 1 := tl_cut_from p
  have ib := str_iff (x := cutS p none (some 1)) (s := "b") (l := [98]) (by decide +kernel)
  have iss := str_iff (x := cutS p none (some 1)) (s := "s") (l := [115]) (by decide +kernel)
  have ir := str_iff (x := cutS p none (some 1)) (s := "r") (l := [114]) (by decide +kernel)
  rw [tl_cut_to] at ib iss ir
  revert lr lor tr ib iss ir
  generalize cutS p (some 1) none = r
  generalize cutS p none (some 1) = hd
  intro lr lor tr ib iss ir
  rw [← tr] at hq2
  generalize hR : wSeq (wIf (wAnd (wTv (wOp wEqS (wVar 2) (wC (.str "b")))) _) _ _) _ = REST
  have rest : ∀ B : Bool, B = (decide ((tl r).take 1 = [45]) && decide (tl r ≠ [45, 48])) → REST (fun _ h' => Q .non h') Q (fun _ _ => False) (fun _ _ => False) (fun C v _ h' => X C v h') [some (.str p), some (.lst (numsV ns)), some (.str hd), some (.str r), some (.bl B), none, none] h := fun B hB => by
    rw [← hR]
    clear hR
    generalize hR2 : wSeq (wIf (wTv (wOp wEqS (wVar 0) (wC (.str "s")))) _ _) _ = REST2
    have rest2 : ¬ ((tl p).take 1 = [98] ∧ signB (tl r) = true) → REST2 (fun _ h' => Q .non h') Q (fun _ _ => False) (fun _ _ => False) (fun C v _ h' => X C v h') [some (.str p), some (.lst (numsV ns)), some (.str hd), some (.str r), some (.bl B), none, none] h := fun nb => by
      rw [← hR2]
      clear hR2
      rw [if_neg nb] at hq2
      by_cases cs : p = Str.ofString "s"
      · walk_at "zgo"
        exact hq2 _ (by rw [if_pos (is.mp cs)]; rfl)
      rw [if_neg fun z => cs (is.mpr z)] at hq2
      have e44 : tl (Str.ofString ",") = [44] := by decide +kernel
      have sp := split_parts (x := r) e44 (by simp) (by decide +kernel)
      have hpl : ∀ y ∈ Txt.split r (Str.ofString ","), y.length ≤ 1000000 := fun y hy => Nat.le_trans (part_len e44 (by simp) (by decide +kernel) hy) lr
      have hpo : ∀ y ∈ Txt.split r (Str.ofString ","), Lo (tl y) := fun y hy => part_lo e44 (by simp) (by decide +kernel) lor hy
      have many := parts_many (x := r) e44 (by simp) (by decide +kernel)
      walk_at "zgo"
      refine i_split (by decide +kernel) (by omega) (i_newF ?_)
      rw [← sp] at hq2
      revert hpl hpo many hq2
      clear sp
      generalize Txt.split r (Str.ofString ",") = ps
      intro hq2 hpl hpo many
      refine i_itsF ?_
      refine lc_inv (fun i acc h' => h' = h ∧ acc = (ps.take i).map (fun y => oV RefD.v (refN ns (tl y))) ∧ i ≤ ps.length) ⟨rfl, by simp, Nat.zero_le _⟩ ?_
      rintro i acc h3 ⟨rfl, rfl, hi⟩
      refine ⟨trivial, fun hi2 => ?_, fun z hz2 => ?_⟩
      rotate_left
      · obtain ⟨y, hy, rfl⟩ := map_get hz2
        have hm := List.mem_of_getElem? hy
        have hil := (List.getElem?_eq_some_iff.mp hy).1
        walk_at "zgo"
        refine c_law_ref_of (hpl y hm) (hpo y hm) ?_
        exact ⟨by rw [List.length_map, List.length_take]; omega, rfl, by rw [take_snoc' hy, List.map_append]; rfl, by omega⟩
      rw [List.length_map] at hi2
      rw [List.take_of_length_le (by omega)]
      clear hi hi2 i
      rw [List.map_map] at hq2
      rw [show ps.map (fun y => oV RefD.v (refN ns (tl y))) = (ps.map (refN ns ∘ tl)).map (oV RefD.v) by rw [List.map_map]; rfl]
      have osl : (ps.map (refN ns ∘ tl)).length = ps.length := List.length_map _
      revert osl hq2
      generalize ps.map (refN ns ∘ tl) = os
      intro hq2 osl
      refine i_newF ?_
      have nin : ∀ {Q' : KQ}, Q' (.bl (!(allO os).isNone)) h3 → wNotInD .non (.lst (os.map (oV RefD.v))) h3 Q' := fun q => none_nin (n := 1) (by decide) RefD.lay (fun r => by cases r <;> rfl) (.lst _) (dvs_map (oV_dv RefD.dv) os) q
      have lo2 : (os.map (oV RefD.v)).length = os.length := List.length_map _
      generalize hR3 : wSeq (wIf (wAnd (wTv (wOp wEqS (wVar 2) (wC (.str "r")))) _) _ _) _ = REST3
      cases ao : allO os with
      | none =>
        rw [ao] at hq2 nin
        have r3 : REST3 (fun _ h' => Q .non h') Q (fun _ _ => False) (fun _ _ => False) (fun C v _ h' => X C v h') [some (.str p), some (.lst (numsV ns)), some (.str hd), some (.str r), some (.bl B), none, some (.lst (os.map (oV RefD.v)))] h3 := by
          rw [← hR3]
          by_cases cr : hd = Str.ofString "r"
          · walk_at "zgo"
            refine nin ?_
            walk_at "zgo"
            exact hq2 _ rfl
          · walk_at "zgo"
            exact hq2 _ rfl
        by_cases cs2 : hd = Str.ofString "s"
        · walk_at "zgo"
          refine nin ?_
          walk_at "zgo"
          exact r3
        · walk_at "zgo"
          exact r3
      | some rs =>
        have e1 := allO_iff ao
        have lrs : os.length = rs.length := by rw [e1, List.length_map]
        rw [ao] at hq2 nin
        have em : os.map (oV RefD.v) = rs.map RefD.v := oV_map ao
        rw [em] at nin lo2 ⊢
        have r3 : ¬((tl p).take 1 = [115] ∧ rs.length < 13) → REST3 (fun _ h' => Q .non h') Q (fun _ _ => False) (fun _ _ => False) (fun C v _ h' => X C v h') [some (.str p), some (.lst (numsV ns)), some (.str hd), some (.str r), some (.bl B), none, some (.lst (rs.map RefD.v))] h3 := fun nn => by
          rw [← hR3]
          rw [show (some rs).bind (lastN (tl p)) = (if (tl p).take 1 = [115] ∧ rs.length < 13 then some (Thing.shelf rs) else if (tl p).take 1 = [114] then oneR rs else none) from rfl, if_neg nn] at hq2
          by_cases cr : hd = Str.ofString "r"
          · rw [if_pos (ir.mp cr)] at hq2
            walk_at "zgo"
            refine nin ?_
            walk_at "zgo"
            rw [lo2]
            match rs, hq2, lrs with
            | [], hq2, lrs =>
              have l1 : os.length = 0 := lrs
              rw [l1]
              walk_at "zgo"
              exact hq2 _ rfl
            | [r], hq2, lrs =>
              have l1 : os.length = 1 := lrs
              rw [l1]
              walk_at "zgo"
              exact hq2 _ rfl
            | r :: r2 :: rs, hq2, lrs =>
              have l1 : os.length = rs.length + 1 + 1 := lrs
              have l2 : decide ((os.length : Int) = 1) = false := decide_eq_false (by omega)
              rw [l2]
              walk_at "zgo"
              exact hq2 _ rfl
          · rw [if_neg fun z => cr (ir.mpr z)] at hq2
            walk_at "zgo"
            exact hq2 _ rfl
        by_cases cs2 : hd = Str.ofString "s"
        · walk_at "zgo"
          refine nin ?_
          walk_at "zgo"
          rw [lo2]
          by_cases c13 : rs.length < 13
          · have d13 : ((os.length : Nat) : Int) < 13 := by omega
            walk_at "zgo"
            exact hq2 _ (by show oV Thing.v (lastN (tl p) rs) = _; unfold lastN; rw [if_pos ⟨iss.mp cs2, c13⟩]; rfl)
          · walk_at "zgo"
            exact r3 fun z => c13 z.2
        · walk_at "zgo"
          exact r3 fun z => cs2 (iss.mpr z.1)
    by_cases cb : hd = Str.ofString "b"
    · walk_at "zgo"
      refine i_slS (by omega) ?_
      walk_at "zgo"
      refine c_law_figures (cut_len _ _ _ lr) (cut_lo lor) ?_
      rw [below_sign r hB]
      cases sb : signB (tl r) with
      | true =>
        walk_at "zgo"
        obtain ⟨i1, i2⟩ := sign_int sb
        refine i_intS i1 (Nat.le_trans i2 (by decide)) ?_
        walk_at "zgo"
        exact hq2 _ (by rw [if_pos ⟨ib.mp cb, sb⟩]; rfl)
      | false =>
        walk_at "zgo"
        exact rest2 fun z => by rw [sb] at z; exact Bool.noConfusion z.2
    · walk_at "zgo"
      exact rest2 fun z => cb (ib.mpr z.1)
  walk_at "zgo"
  refine i_slS (by omega) ?_
  have im2 := str_iff (x := cutS r none (some 1)) (s := "-") (l := [45]) (by decide +kernel)
  have i0 := str_iff (x := r) (s := "-0") (l := [45, 48]) (by decide +kernel)
  rw [tl_cut_to] at im2
  by_cases c : cutS r none (some 1) = Str.ofString "-"
  · walk_at "zgo"
    refine rest _ ?_
    rw [decide_eq_true (im2.mp c)]
    by_cases d : r = Str.ofString "-0"
    · have d2 : ¬ tl r ≠ [45, 48] := fun z => z (i0.mp d)
      rw [decide_eq_true d, decide_eq_false d2]; rfl
    · have d2 : tl r ≠ [45, 48] := fun z => d (i0.mpr z)
      rw [decide_eq_false d, decide_eq_true d2]; rfl
  · walk_at "zgo"
    refine rest _ ?_
    rw [decide_eq_false fun z => c (im2.mpr z)]
    rfl
/-! LO2 -/


/-! ### the law's reader of worlds -/
def szN (l : List Nat) : Nat := if l = [45] then 0 else (spl [32] 0 [] l).length
def partN (ns : List Nat) (l : List Nat) : Option (List Thing) := if l = [45] then some [] else allO ((spl [32] 0 [] l).map (thingN ns))
def sizesN (l : List Nat) : List Nat := (spl [32, 59, 32] 0 [] l).map szN
def housesN (l : List Nat) : Option Rooms := if 8 < (sizesN l).length ∨ ∃ n ∈ sizesN l, 12 < n then none else allO ((spl [32, 59, 32] 0 [] l).map (partN (sizesN l)))
theorem spl_dash {l : List Nat} : spl [32] 0 [] l = [[45]] ↔ l = [45] := by
  constructor
  · intro h
    rw [spl_par] at h
    cases pr : par [32] [] l with
    | none => rw [pr] at h; simpa using h
    | some ab =>
      rw [pr] at h
      have := (List.cons.inj h).2
      exact absurd this spl_ne
  · rintro rfl
    decide
theorem strs_lay2 {ws : List Str} (lo : ∀ w ∈ ws, Lo (tl w)) : SeqAt.shaped (.list (ws.map PyData.str)) = true := (LayD.list (n := 0) fun d hd => by
  obtain ⟨r, hr, rfl⟩ := List.mem_map.mp hd
  exact .str 0 (str_ok (lo r hr))).shaped (by decide)
theorem ne_dash {ws : List Str} {h : Hh} {Q : KQ} (lo : ∀ w ∈ ws, Lo (tl w)) (q : Q (.bl (!decide (ws.map tl = [[45]]))) h) : wNeD (.lst (ws.map Val.str)) (.lst [.str "-"]) h Q := by
  refine ⟨.list (ws.map PyData.str), .list [.str "-"], .lst (dvs_map (fun z => .str z) ws), .lst (.cons (.str _) .nil), strs_lay2 lo, by decide +kernel, ?_⟩
  have e : PyData.eqv (.list (ws.map PyData.str)) (.list [.str "-"]) = decide (ws.map tl = [[45]]) := by
    cases ws with
    | nil => simp [PyData.eqv, PyData.eqvAll]
    | cons w ws =>
      cases ws with
      | cons w2 ws => simp [PyData.eqv, PyData.eqvAll]
      | nil =>
        have i := str_iff (x := w) (s := "-") (l := [45]) (by decide +kernel)
        simp only [List.map_cons, List.map_nil, PyData.eqv, PyData.eqvAll, Bool.and_true, List.cons.injEq, and_true]
        rw [Bool.eq_iff_iff, decide_eq_true_eq, ← i]
        exact beq_iff_eq
  rw [e]
  exact q
def fs_law_houses_of : FS where
  P := Str
  pre := fun z vs h => vs = [.str z] ∧ z.length ≤ 1000000 ∧ Lo (tl z)
  post := fun z h v h' => v = oV roomsV (housesN (tl z)) ∧ h' = h
theorem c_law_houses_of {z : Str} {h : Hh} {E : XQ} {Q : KQ} (hz : z.length ≤ 1000000) (lo : Lo (tl z)) (k : Q (oV roomsV (housesN (tl z))) h) : fs_law_houses_of.sp [.str z] h E Q := ⟨z, ⟨rfl, hz, lo⟩, fun v h' ⟨a, b⟩ => by subst a b; exact k, fun _ _ _ z => z.elim⟩
def r_law_houses_of : WS :=
  wSeq (wAsg (wLc (wiL (wBM "str" mSplit (wVar 0) (wCons (wC (.str " ; ")) (wNil)))) (tg1 1) wYes (wBM "str" mSplit (wVar 1) (wCons (wC (.str " ")) (wNil))) [1]) (wgName 2))
  (wSeq (wAsg (wLc (wiL (wVar 2)) (tg1 1) wYes (wOp wMul (wCB cLen (wCons (wVar 1) (wNil))) (wCB cInt (wCons (wOp wNeD (wVar 1) (wLst (wCons (wC (.str "-")) (wNil)))) (wNil)))) [1]) (wgName 3))
  (wSeq (wIf (wOr (wTv (wOp wGt (wCB cLen (wCons (wVar 2) (wNil))) (wC (.int 8)))) (wTv (wOp wGt (wCB cMaxL (wCons (wVar 3) (wNil))) (wC (.int 12))))) (wRet (wC .non)) (wNext))
  (wSeq (wAsg (wLst (wNil)) (wgName 4))
  (wSeq (wFor (wiL (wVar 2)) (wgName 1)
  (wSeq (wAsg (wLst (wNil)) (wgName 5))
  (wSeq (wIf (wTv (wOp wNeD (wVar 1) (wLst (wCons (wC (.str "-")) (wNil))))) (wAsg (wLc (wiL (wVar 1)) (tg1 6) wYes (wCall fs_law_thing_of [] (wCons (wVar 6) (wCons (wVar 3) (wNil)))) [6]) (wgName 5)) (wNext))
  (wSeq (wIf (wTv (wOp wInD (wC .non) (wVar 5))) (wRet (wC .non)) (wNext))
  (wExpr (wBM "list" mAppend (wVar 4) (wCons (wVar 5) (wNil))))))))
  (wRet (wVar 4))))))

theorem rd_law_houses_of {K : Fr} {p : Str} {vs h Q} {X : XQ} (gd : Good K Q) (q : fs_law_houses_of.pre p vs h) (hp : ∀ v h', fs_law_houses_of.post p h v h' → Q v h') :
    r_law_houses_of (fun _ h' => Q .non h') Q (fun _ _ => False) (fun _ _ => False) (fun C v _ h' => X C v h') (startV ["text", "part", "parts", "sizes", "houses", "things", "word"] vs) h := by
  obtain ⟨rfl, hz, lo⟩ := q
  have hq : ∀ b, oV roomsV (housesN (tl p)) = b → Q b h := fun b e => hp _ _ ⟨by rw [e], rfl⟩
  clear hp
  have e3 : tl (Str.ofString " ; ") = [32, 59, 32] := by decide +kernel
  have e32 : tl (Str.ofString " ") = [32] := by decide +kernel
  have many := parts_many (x := p) e3 (by simp) (by decide +kernel)
  have sp := split_parts (x := p) e3 (by simp) (by decide +kernel)
  have hpl : ∀ y ∈ Txt.split p (Str.ofString " ; "), y.length ≤ 1000000 := fun y hy => Nat.le_trans (part_len e3 (by simp) (by decide +kernel) hy) hz
  have hpo : ∀ y ∈ Txt.split p (Str.ofString " ; "), Lo (tl y) := fun y hy => part_lo e3 (by simp) (by decide +kernel) lo hy
  have wp : ∀ y : Str, (Txt.split y (Str.ofString " ")).map tl = spl [32] 0 [] (tl y) := fun y => split_parts (x := y) e32 (by simp) (by decide +kernel)
  have wm : ∀ y : Str, (Txt.split y (Str.ofString " ")).length ≤ y.length + 1 := fun y => parts_many (x := y) e32 (by simp) (by decide +kernel)
  show r_law_houses_of _ _ _ _ _ [some (.str p), none, none, none, none, none, none] h
  unfold r_law_houses_of
  walk_at "zgo"
  refine i_split (by decide +kernel) (by omega) (i_newF ?_)
  have ns0 : sizesN (tl p) = (Txt.split p (Str.ofString " ; ")).map fun y => szN (tl y) := by
    unfold sizesN
    rw [← sp, List.map_map]
    rfl
  have hs0 : (spl [32, 59, 32] 0 [] (tl p)).map (partN (sizesN (tl p))) = (Txt.split p (Str.ofString " ; ")).map fun y => partN (sizesN (tl p)) (tl y) := by
    rw [← sp, List.map_map]
    rfl
  have pne : 0 < (Txt.split p (Str.ofString " ; ")).length := by
    have : (Txt.split p (Str.ofString " ; ")).map tl ≠ [] := by rw [sp]; exact spl_ne
    cases e : Txt.split p (Str.ofString " ; ") with
    | nil => rw [e] at this; exact absurd rfl this
    | cons => simp
  unfold housesN at hq
  rw [hs0] at hq
  clear hs0
  revert many hpl hpo ns0 pne hq
  clear sp
  generalize sizesN (tl p) = ns
  generalize Txt.split p (Str.ofString " ; ") = ps
  intro hq many hpl hpo ns0 pne
  refine i_itsF ?_
  refine lc_inv (fun i acc h' => h' = h ∧ acc = (ps.take i).map (fun y => Val.lst ((Txt.split y (Str.ofString " ")).map Val.str)) ∧ i ≤ ps.length) ⟨rfl, by simp, Nat.zero_le _⟩ ?_
  rintro i acc h3 ⟨rfl, rfl, hi⟩
  refine ⟨trivial, fun hi2 => ?_, fun z hz2 => ?_⟩
  rotate_left
  · obtain ⟨y, hy, rfl⟩ := map_get hz2
    have hm := List.mem_of_getElem? hy
    have hil := (List.getElem?_eq_some_iff.mp hy).1
    have := hpl y hm
    walk_at "zgo"
    refine i_split (by decide +kernel) (by omega) (i_newF ?_)
    exact ⟨by rw [List.length_map, List.length_take]; omega, rfl, by rw [take_snoc' hy, List.map_append]; rfl, by omega⟩
  rw [List.length_map] at hi2
  rw [List.take_of_length_le (by omega)]
  clear hi hi2 i
  refine i_newF ?_
  walk_at "zgo"
  refine lc_inv (fun i acc h' => h' = h3 ∧ acc = (ps.take i).map (fun y => Val.int ((szN (tl y) : Nat) : Int)) ∧ i ≤ ps.length) ⟨rfl, by simp, Nat.zero_le _⟩ ?_
  rintro i acc h4 ⟨rfl, rfl, hi⟩
  refine ⟨trivial, fun hi2 => ?_, fun z hz2 => ?_⟩
  rotate_left
  · obtain ⟨y, hy, rfl⟩ := map_get hz2
    have hm := List.mem_of_getElem? hy
    have hil := (List.getElem?_eq_some_iff.mp hy).1
    walk_at "zgo"
    refine i_newF ?_
    walk_at "zgo"
    refine ne_dash (fun w hw => part_lo e32 (by simp) (by decide +kernel) (hpo y hm) hw) ?_
    walk_at "zgo"
    have es : (((Txt.split y (Str.ofString " ")).map Val.str).length : Int) * (if (!decide ((Txt.split y (Str.ofString " ")).map tl = [[45]])) = true then 1 else 0) = ((szN (tl y) : Nat) : Int) := by
      rw [wp, List.length_map, ← List.length_map (f := tl), wp]
      unfold szN
      by_cases c : tl y = [45]
      · rw [decide_eq_true (spl_dash.mpr c), if_pos c]; simp
      · rw [decide_eq_false fun z => c (spl_dash.mp z), if_neg c]; simp
    refine i_mul ?_ ?_
    · refine Or.inr ?_
      split <;> decide
    rw [es]
    exact ⟨by rw [List.length_map, List.length_take]; omega, rfl, by rw [take_snoc' hy, List.map_append]; rfl, by omega⟩
  rw [List.length_map] at hi2
  rw [List.take_of_length_le (by omega)]
  clear hi hi2 i
  have em : ps.map (fun y => Val.int ((szN (tl y) : Nat) : Int)) = numsV ns := by rw [ns0]; unfold numsV; rw [List.map_map]; rfl
  have nl : ns.length = ps.length := by rw [ns0, List.length_map]
  rw [em]
  refine i_newF ?_
  walk_at "zgo"
  rw [List.length_map]
  generalize hR : wSeq (wAsg (wLst wNil) (wgName 4)) _ = REST
  have rest : ¬(8 < ns.length ∨ ∃ n ∈ ns, 12 < n) → REST (fun _ h' => Q .non h') Q (fun _ _ => False) (fun _ _ => False) (fun C v _ h' => X C v h') [some (.str p), none, some (.lst (ps.map fun y => Val.lst ((Txt.split y (Str.ofString " ")).map Val.str))), some (.lst (numsV ns)), none, none, none] h4 := fun ok => by
    rw [← hR]
    clear hR
    rw [if_neg ok] at hq
    walk_at "zgo"
    refine i_newO fun a ha => ?_
    have fin : ∀ ws : Rooms, allO (ps.map fun y => partN ns (tl y)) = some ws → ∀ h', h' = hup h4 a (.lst (ws.map houseV)) → Q (.ref a) h' := fun ws e h' e2 => by
      subst e2
      refine gd.frz hup_same ?_
      rw [hdel_hup ha]
      exact hq _ (by rw [e]; rfl)
    have bad : allO (ps.map fun y => partN ns (tl y)) = none → ∀ h', (∃ xs, h' = hup h4 a (.lst xs)) → Q .non h' := fun e h' ⟨xs, e2⟩ => by
      subst e2
      refine gd.drop (h' := h4) (fun b o hb => ?_) (hq _ (by rw [e]; rfl))
      rw [hup_ne fun z => by subst z; rw [ha] at hb; cases hb]
      exact hb
    walk_at "zgo"
    refine for_inv (fun i ρ h' => ∃ (ws : List (List Thing)) (b c d : Option Val), ρ = [some (.str p), b, some (.lst (ps.map fun y => Val.lst ((Txt.split y (Str.ofString " ")).map Val.str))), some (.lst (numsV ns)), some (.ref a), c, d] ∧ h' = hup h4 a (.lst (ws.map houseV)) ∧ i ≤ ps.length ∧ (ps.take i).map (fun y => partN ns (tl y)) = ws.map some) ⟨[], _, _, _, rfl, rfl, by omega, rfl⟩ ?_
    rintro i ρ h' ⟨ws, b, c, d, rfl, rfl, hi, hx⟩
    refine ⟨trivial, fun hi2 => ?_, fun z hz2 => ?_⟩
    · rw [List.length_map] at hi2
      rw [List.take_of_length_le hi2] at hx
      walk_at "zgo"
      exact fin ws (by rw [hx, allO_some]) _ rfl
    obtain ⟨y, hy, rfl⟩ := map_get hz2
    have hm := List.mem_of_getElem? hy
    have hil := (List.getElem?_eq_some_iff.mp hy).1
    have hyl := hpl y hm
    have hyo := hpo y hm
    have yl : ∀ w ∈ Txt.split y (Str.ofString " "), w.length ≤ 1000000 := fun w hw => Nat.le_trans (part_len e32 (by simp) (by decide +kernel) hw) hyl
    have yo : ∀ w ∈ Txt.split y (Str.ofString " "), Lo (tl w) := fun w hw => part_lo e32 (by simp) (by decide +kernel) hyo hw
    have ym := wm y
    have no : partN ns (tl y) = none → allO (ps.map fun y => partN ns (tl y)) = none := fun e => allO_mem (List.mem_map.mpr ⟨y, hm, e⟩)
    have yes : ∀ x, partN ns (tl y) = some x → (ps.take (i + 1)).map (fun y => partN ns (tl y)) = (ws ++ [x]).map some := fun x e => by
      rw [List.take_succ, hy, List.map_append, hx, List.map_append]
      show _ ++ [partN ns (tl y)] = _
      rw [e]
      rfl
    have wl : (ws.map houseV).length < 16000000 := by
      have := congrArg List.length hx
      rw [List.length_map, List.length_map, List.length_take] at this
      rw [List.length_map]
      omega
    have hpt : partN ns (tl y) = if tl y = [45] then some [] else allO ((Txt.split y (Str.ofString " ")).map fun w => thingN ns (tl w)) := by
      unfold partN
      rw [← wp, List.map_map]
      rfl
    walk_at "zgo"
    refine i_newF ?_
    walk_at "zgo"
    refine i_newF ?_
    refine ne_dash yo ?_
    rw [wp]
    by_cases cd : tl y = [45]
    · rw [decide_eq_true (spl_dash.mpr cd)]
      rw [if_pos cd] at hpt
      walk_at "zgo"
      refine none_in (α := Thing) (g := Thing.d) (os := []) (n := 3) (by decide) Thing.lay (fun t => by cases t <;> rfl) (.lst []) .nil ?_
      walk_at "zgo"
      refine i_append hup_same wl ?_
      rw [hup_hup]
      exact ⟨ws ++ [[]], _, _, _, rfl, by rw [List.map_append]; rfl, by omega, yes _ hpt⟩
    · rw [decide_eq_false fun z => cd (spl_dash.mp z)]
      rw [if_neg cd] at hpt
      walk_at "zgo"
      revert hpt yl yo ym
      generalize Txt.split y (Str.ofString " ") = us
      intro yl yo ym hpt
      refine lc_inv (fun k acc h3 => h3 = hup h4 a (.lst (ws.map houseV)) ∧ acc = (us.take k).map (fun w => oV Thing.v (thingN ns (tl w))) ∧ k ≤ us.length) ⟨rfl, by simp, Nat.zero_le _⟩ ?_
      rintro k acc h3 ⟨rfl, rfl, hk⟩
      refine ⟨trivial, fun hk2 => ?_, fun r hr => ?_⟩
      rotate_left
      · obtain ⟨w, hw, rfl⟩ := map_get hr
        have hwm := List.mem_of_getElem? hw
        have hwl := (List.getElem?_eq_some_iff.mp hw).1
        walk_at "zgo"
        refine c_law_thing_of (yl w hwm) (yo w hwm) ?_
        exact ⟨by rw [List.length_map, List.length_take]; omega, rfl, by rw [take_snoc' hw, List.map_append]; rfl, by omega⟩
      rw [List.length_map] at hk2
      rw [List.take_of_length_le (by omega)]
      clear hk hk2 k
      rw [show us.map (fun w => oV Thing.v (thingN ns (tl w))) = (us.map fun w => thingN ns (tl w)).map (oV Thing.v) by rw [List.map_map]; rfl]
      generalize (us.map fun w => thingN ns (tl w)) = os at hpt
      refine i_newF ?_
      walk_at "zgo"
      refine none_in (n := 3) (by decide) Thing.lay (fun t => by cases t <;> rfl) (.lst _) (dvs_map (oV_dv Thing.dv) os) ?_
      cases ao : allO os with
      | none =>
        rw [ao] at hpt
        walk_at "zgo"
        exact bad (no hpt) _ ⟨_, rfl⟩
      | some ts =>
        rw [ao] at hpt
        rw [oV_map ao]
        walk_at "zgo"
        refine i_append hup_same wl ?_
        rw [hup_hup]
        exact ⟨ws ++ [ts], _, _, _, rfl, by rw [List.map_append]; rfl, by omega, yes _ hpt⟩
  have bad : (8 < ns.length ∨ ∃ n ∈ ns, 12 < n) → Q .non h4 := fun z => hq _ (by rw [if_pos z]; rfl)
  by_cases c8 : (ps.length : Int) > 8
  · walk_at "zgo"
    exact bad (.inl (by omega))
  · walk_at "zgo"
    refine i_maxL (ns := ns.map fun (n : Nat) => (n : Int)) (by rw [List.map_map]; exact .lst _) (by rw [List.length_map]; omega) fun m hm hy => ?_
    obtain ⟨n, hn, rfl⟩ := List.mem_map.mp hm
    by_cases c12 : (n : Int) > 12
    · walk_at "zgo"
      exact bad (.inr ⟨n, hn, by omega⟩)
    · walk_at "zgo"
      refine rest fun z => ?_
      rcases z with z | ⟨k, hk, z⟩
      · omega
      · have := hy (k : Int) (List.mem_map.mpr ⟨k, hk, rfl⟩)
        omega
/-! LK50 -/


theorem AsksSm.cut {xs : List Asker} (s : AsksSm xs) (n : Nat) : AsksSm (xs.map fun a => ⟨a.house, a.rows.take n⟩) := ⟨by simpa using s.many, fun a ha => by
  obtain ⟨b, hb, rfl⟩ := List.mem_map.mp ha
  have sb := s.each b hb
  exact ⟨sb.h0, sb.h1, by have := sb.many; simp; omega, fun r hr => sb.rows r (List.mem_of_mem_take hr)⟩⟩
theorem pure2 {d : Nat} {a b : Val} (ha : PureV d a) (hb : PureV d b) : PureV (d + 1) (.tup [a, b]) := .tup (by simp) fun x hx => by
  simp only [List.mem_cons, List.not_mem_nil, or_false] at hx
  rcases hx with rfl | rfl
  · exact ha
  · exact hb
theorem Tgt.pure (t : Tgt) : PureV 1 t.v := by
  cases t with
  | thing a b =>
    exact .tup (by simp) fun x hx => by
      simp only [List.mem_cons, List.not_mem_nil, or_false] at hx
      rcases hx with rfl | rfl | rfl
      · exact .str _ _
      · exact .int _ _
      · exact .int _ _
  | ans n => exact pure2 (.str _ _) (.int _ _)
theorem Arg.pure (t : Arg) : PureV 1 t.v := by
  cases t with
  | num n => exact pure2 (.str _ _) (.int _ _)
  | ans n => exact pure2 (.str _ _) (.int _ _)
theorem Row.pure (r : Row) : PureV 3 r.val := by
  obtain ⟨t, v⟩ := r
  refine pure2 t.pure.up ?_
  cases v with
  | get =>
    exact .tup (by simp) fun x hx => by
      simp only [List.mem_cons, List.not_mem_nil, or_false] at hx
      subst hx
      exact .str _ _
  | op w a => exact pure2 (.str _ _) a.pure
theorem rows_pure {rs : List Row} (h : rs.length ≤ 1000) : PureV 4 (.lst (rs.map Row.val)) := .lst (by simp; omega) fun x hx => by
  obtain ⟨r, _, rfl⟩ := List.mem_map.mp hx
  exact r.pure
theorem AsksSm.pure {xs : List Asker} (s : AsksSm xs) : PureV 6 (asksV xs) := .lst (by have := s.many; simp; omega) fun x hx => by
  obtain ⟨r, hr, rfl⟩ := List.mem_map.mp hx
  exact pure2 (.int _ _) (rows_pure (by have := (s.each r hr).many; omega))
theorem pl2 {a b : PyData} (ha : plD a = true) (hb : plD b = true) : plD (.tuple [a, b]) = true := by simp [plD, plDs, ha, hb]
theorem Tgt.pl (t : Tgt) : plD t.d = true := by cases t <;> rfl
theorem Arg.pl (t : Arg) : plD t.d = true := by cases t <;> rfl
theorem Row.pl (r : Row) : plD r.d = true := by
  obtain ⟨t, v⟩ := r
  refine pl2 t.pl ?_
  cases v with
  | get => rfl
  | op w a => exact pl2 rfl a.pl
/-! LS3 -/


/-! ### texts of askers spoilt -/
def loT (z : Str) : Bool := decide (z.length ≤ 100) && z.cps.toList.all (fun c => decide (c < 128))
theorem loT_ok {z : Str} (h : loT z = true) : z.length ≤ 100 ∧ Lo (tl z) := by
  unfold loT at h
  rw [Bool.and_eq_true, decide_eq_true_eq, List.all_eq_true] at h
  exact ⟨h.1, fun c hc => of_decide_eq_true (h.2 c hc)⟩
def OkV (v : Val) : Prop := ∃ z, v = .str z ∧ z.length ≤ 100 ∧ Lo (tl z)
def OkL (xs : List Val) : Prop := ∀ v ∈ xs, OkV v
def okV : Val → Bool
  | .str z => loT z
  | _ => false
theorem OkL.of {xs : List Val} (h : xs.all okV = true) : OkL xs := fun v hv => by
  have := List.all_eq_true.mp h v hv
  cases v with
  | str z => exact ⟨z, rfl, loT_ok this⟩
  | _ => cases this
theorem OkL.app {xs ys : List Val} (a : OkL xs) (b : OkL ys) : OkL (xs ++ ys) := fun v hv => by
  rcases List.mem_append.mp hv with h | h
  · exact a v h
  · exact b v h
theorem OkL.nil : OkL [] := fun v hv => by simp at hv
theorem OkL.cons {z : Str} {xs : List Val} (a : z.length ≤ 100) (l : Lo (tl z)) (b : OkL xs) : OkL (.str z :: xs) := fun v hv => by
  rcases List.mem_cons.mp hv with rfl | h
  · exact ⟨z, rfl, a, l⟩
  · exact b v h
theorem ix_ok {xs : List Val} {r : Int} {h : Hh} {Q : KQ} (o : OkL xs) (r0 : 0 ≤ r) (r1 : r < xs.length) (k : ∀ z : Str, z.length ≤ 100 → Lo (tl z) → Q (.str z) h) : wIx (.lst xs) (.int r) h Q := by
  obtain ⟨n, rfl⟩ := Int.eq_ofNat_of_zero_le r0
  have hn : n < xs.length := by omega
  obtain ⟨z, e, l, lo⟩ := o _ (List.getElem_mem hn)
  refine i_ixL (L2.atI_nat (List.getElem?_eq_getElem hn)) ?_
  rw [e]
  exact k z l lo
def Okn (n : Nat) (z : Str) : Prop := z.length ≤ n ∧ Lo (tl z)
theorem okc {n : Nat} {z : Str} (h : (decide (z.length ≤ n) && loT z) = true) : Okn n z := by
  rw [Bool.and_eq_true, decide_eq_true_eq] at h
  exact ⟨h.1, (loT_ok h.2).2⟩
theorem Okn.app {m n : Nat} {x y : Str} (a : Okn m x) (b : Okn n y) : Okn (m + n) (x ++ y) := ⟨by rw [Str.length_append]; have := a.1; have := b.1; omega, by rw [tl_append]; exact a.2.app b.2⟩
theorem i_addO {m n : Nat} {x y : Str} {h : Hh} {Q : KQ} (a : Okn m x) (b : Okn n y) (hm : m + n ≤ 1000000) (k : ∀ z, Okn (m + n) z → Q (.str z) h) : wAddS (.str x) (.str y) h Q :=
  i_addS (by have := a.1; have := b.1; omega) (k _ (a.app b))
theorem OkL.con {n : Nat} {z : Str} {xs : List Val} (a : Okn n z) (hn : n ≤ 100) (b : OkL xs) : OkL (.str z :: xs) := .cons (Nat.le_trans a.1 hn) a.2 b
theorem join_total {S : List Nat} : ∀ {ps : List (List Nat)}, (joinL S ps).length ≤ (ps.map List.length).sum + S.length * (ps.length - 1)
  | [] => by simp [joinL]
  | [p] => by simp [joinL]
  | p :: q :: r => by
    have := join_total (S := S) (ps := q :: r)
    have e : joinL S (p :: q :: r) = p ++ S ++ joinL S (q :: r) := by simp [joinL]
    rw [e]
    simp only [List.length_append, List.map_cons, List.sum_cons, List.length_cons, Nat.add_sub_cancel] at this ⊢
    rw [Nat.mul_succ]
    omega
/-- so long are these texts together -/
def sumL (ws : List Str) : Nat := (ws.map (·.length)).sum
theorem join_len2 {s : Str} {ws : List Str} : (Txt.join s ws).length ≤ sumL ws + s.length * (ws.length - 1) := by
  have := join_total (S := tl s) (ps := ws.map tl)
  rw [← tl_join, ← join_eq, ← len_tl, ← len_tl, List.map_map, List.length_map] at this
  have e : ws.map (List.length ∘ tl) = ws.map (·.length) := List.map_congr_left fun z _ => (len_tl z).symm
  rw [e] at this
  exact this
theorem join_lo {s : Str} {ws : List Str} (hs : Lo (tl s)) (h : ∀ w ∈ ws, Lo (tl w)) : Lo (tl (Txt.join s ws)) := by
  rw [join_eq, tl_join]
  exact lo_join hs fun p hp => by
    obtain ⟨w, hw, rfl⟩ := List.mem_map.mp hp
    exact h w hw
theorem sumL_app {a b : List Str} : sumL (a ++ b) = sumL a + sumL b := by simp [sumL]
theorem sumL_set : ∀ {ws : List Str} {k : Nat} {z : Str}, sumL (ws.set k z) ≤ sumL ws + z.length
  | [], k, z => by simp [sumL]
  | w :: ws, 0, z => by simp [sumL]; omega
  | w :: ws, k + 1, z => by
    have := sumL_set (ws := ws) (k := k) (z := z)
    simp [sumL] at this ⊢
    omega
theorem sumL_erase : ∀ {ws : List Str} {k : Nat}, sumL (ws.eraseIdx k) ≤ sumL ws
  | [], k => by simp [sumL]
  | w :: ws, 0 => by simp [sumL]
  | w :: ws, k + 1 => by
    have := sumL_erase (ws := ws) (k := k)
    simp [sumL] at this ⊢
    omega
theorem map_erase {α β : Type} {f : α → β} : ∀ {xs : List α} {k : Nat}, (xs.map f).eraseIdx k = (xs.eraseIdx k).map f
  | [], k => by simp
  | x :: xs, 0 => by simp
  | x :: xs, k + 1 => by simp [map_erase (xs := xs) (k := k)]
/-! LO3 -/


/-! ### texts of worlds spoilt -/
def fs_law_shorter_v1 : FS where
  P := Rooms
  pre := fun ws vs h => vs = [roomsV ws] ∧ WorldOk ws
  post := fun ws h v h' => ∃ us, v = roomsV us ∧ WorldOk us ∧ h' = h
theorem c_law_shorter_v1 {ws : Rooms} {h : Hh} {E : XQ} {Q : KQ} (s : WorldOk ws) (k : ∀ us, WorldOk us → Q (roomsV us) h) : fs_law_shorter_v1.sp [roomsV ws] h E Q := ⟨ws, ⟨rfl, s⟩, fun v h' ⟨us, a, o, b⟩ => by subst a b; exact k us o, fun _ _ _ z => z.elim⟩
def fs_law_odd : FS where
  P := Addr × Addr × Int
  pre := fun (t, g, n) vs h => vs = [.ref t] ∧ Tray h t g n ∧ n ≤ 10000000000000
  post := fun (t, g, n) h v h' => ∃ r : Str, v = .str r ∧ r.length ≤ 100 ∧ Lo (tl r) ∧ Tray h' t g (n + 1) ∧ Keep t g h h'
theorem c_law_odd {t g : Addr} {n : Int} {h : Hh} {E : XQ} {Q : KQ} (T : Tray h t g n) (hn : n ≤ 10000000000000) (k : ∀ (r : Str) h', r.length ≤ 100 → Lo (tl r) → Tray h' t g (n + 1) → Keep t g h h' → Q (.str r) h') : fs_law_odd.sp [.ref t] h E Q :=
  ⟨(t, g, n), ⟨rfl, T, hn⟩, fun v h' ⟨r, e, a, b, c, d⟩ => by subst e; exact k r h' a b c d, fun _ _ _ z => z.elim⟩
def fs_law_word_v1 : FS where
  P := Addr × Addr × Int
  pre := fun (t, g, n) vs h => vs = [.ref t] ∧ Tray h t g n ∧ n ≤ 10000000000000
  post := fun (t, g, n) h v h' => ∃ r : Str, v = .str r ∧ r.length ≤ 100 ∧ Lo (tl r) ∧ Tray h' t g (n + 1) ∧ Keep t g h h'
theorem c_law_word_v1 {t g : Addr} {n : Int} {h : Hh} {E : XQ} {Q : KQ} (T : Tray h t g n) (hn : n ≤ 10000000000000) (k : ∀ (r : Str) h', r.length ≤ 100 → Lo (tl r) → Tray h' t g (n + 1) → Keep t g h h' → Q (.str r) h') : fs_law_word_v1.sp [.ref t] h E Q :=
  ⟨(t, g, n), ⟨rfl, T, hn⟩, fun v h' ⟨r, e, a, b, c, d⟩ => by subst e; exact k r h' a b c d, fun _ _ _ z => z.elim⟩
def fs_law_spoilt : FS where
  P := Addr × Addr × Int × Str
  pre := fun (t, g, n, z) vs h => vs = [.ref t, .str z] ∧ Tray h t g n ∧ n ≤ 1000000000000 ∧ z.length ≤ 100000 ∧ Lo (tl z)
  post := fun (t, g, n, z) h v h' => ∃ r : Str, v = .str r ∧ r.length ≤ 2 * z.length + 400 ∧ Lo (tl r) ∧ Tray h' t g (n + 10)
theorem c_law_spoilt {t g : Addr} {n : Int} {z : Str} {h : Hh} {E : XQ} {Q : KQ} (T : Tray h t g n) (hn : n ≤ 1000000000000) (hz : z.length ≤ 100000) (lo : Lo (tl z)) (k : ∀ (r : Str) h', r.length ≤ 2 * z.length + 400 → Lo (tl r) → Tray h' t g (n + 10) → Q (.str r) h') : fs_law_spoilt.sp [.ref t, .str z] h E Q :=
  ⟨(t, g, n, z), ⟨rfl, T, hn, hz, lo⟩, fun v h' ⟨r, e, a, b, c⟩ => by subst e; exact k r h' a b c, fun _ _ _ z => z.elim⟩
def r_law_shorter_v1 : WS :=
  wSeq (wIf (wTv (wOp wLe (wCB cLen (wCons (wCall fs_law_shown [] (wCons (wVar 0) (wNil))) (wNil))) (wC (.int 1500)))) (wRet (wVar 0)) (wNext))
  (wSeq (wAsg (wLst (wNil)) (wgName 1))
  (wSeq (wFor (wiL (wVar 0)) (wgName 2)
  (wSeq (wAsg (wLst (wNil)) (wgName 3))
  (wSeq (wFor (wiL (wVar 2)) (wgName 4)
  (wSeq (wIf (wTv (wOp wEqS (wOp wIx (wVar 4) (wC (.int 0))) (wC (.str "box")))) (wAsg (wTup (wCons (wC (.str "box")) (wCons (wOp wMod (wOp wIx (wVar 4) (wC (.int 1))) (wC (.int 10))) (wNil)))) (wgName 4)) (wNext))
  (wSeq (wIf (wTv (wOp wEqS (wOp wIx (wVar 4) (wC (.int 0))) (wC (.str "shelf")))) (wAsg (wTup (wCons (wC (.str "shelf")) (wCons (wSl wSlT (wOp wIx (wVar 4) (wC (.int 1))) (wNoPart) (wPart (wC (.int 2)))) (wNil)))) (wgName 4)) (wNext))
  (wExpr (wBM "list" mAppend (wVar 3) (wCons (wVar 4) (wNil)))))))
  (wExpr (wBM "list" mAppend (wVar 1) (wCons (wVar 3) (wNil)))))))
  (wRet (wVar 1))))

def r_law_odd : WS :=
  wSeq (wAsg (wLst (wCons (wC (.str "")) (wCons (wC (.str " ")) (wCons (wC (.str "-")) (wCons (wC (.str "- ; -")) (wCons (wC (.str " ; ")) (wCons (wC (.str ";")) (wCons (wC (.str "- ;")) (wCons (wC (.str "- ; ")) (wCons (wC (.str "; -")) (wCons (wC (.str "-;-")) (wCons (wC (.str "--")) (wCons (wC (.str "- -")) (wCons (wC (.str "m -")) (wCons (wC (.str "- m")) (wCons (wC (.str "x ; -")) (wNil))))))))))))))))) (wgName 1))
  (wSeq (wAsg (wOp wCat (wVar 1) (wLst (wCons (wC (.str "b")) (wCons (wC (.str "b-")) (wCons (wC (.str "b0")) (wCons (wC (.str "b-0")) (wCons (wC (.str "b00")) (wCons (wC (.str "s")) (wCons (wC (.str "s,")) (wCons (wC (.str "s0.0,")) (wCons (wC (.str "r")) (wCons (wC (.str "r0")) (wCons (wC (.str "r0.0")) (wCons (wC (.str "r0.1")) (wCons (wC (.str "s0.0,0.0 m")) (wNil)))))))))))))))) (wgName 1))
  (wSeq (wAsg (wOp wCat (wVar 1) (wLst (wCons (wC (.str "m  x")) (wCons (wC (.str "M")) (wNil))))) (wgName 1))
  (wRet (wOp wIx (wVar 1) (wCall fs_law_draw [] (wCons (wVar 0) (wCons (wCB cLen (wCons (wVar 1) (wNil))) (wNil))))))))

def r_law_word_v1 : WS :=
  wSeq (wAsg (wCall fs_law_draw [] (wCons (wVar 0) (wCons (wC (.int 30)) (wNil)))) (wgName 1))
  (wSeq (wAsg (wOp wMulS (wC (.str "9")) (wC (.int 59))) (wgName 2))
  (wSeq (wAsg (wLst (wCons (wOp wAddS (wOp wAddS (wC (.str "b")) (wVar 2)) (wC (.str "9"))) (wCons (wOp wAddS (wOp wAddS (wC (.str "b")) (wVar 2)) (wC (.str "99"))) (wCons (wOp wAddS (wOp wAddS (wC (.str "b-")) (wVar 2)) (wC (.str "9"))) (wCons (wOp wAddS (wOp wAddS (wC (.str "b-")) (wVar 2)) (wC (.str "99"))) (wCons (wOp wAddS (wOp wAddS (wC (.str "r0.")) (wVar 2)) (wC (.str "9"))) (wCons (wC (.str "s0.0,0.0")) (wNil)))))))) (wgName 3))
  (wSeq (wAsg (wOp wCat (wVar 3) (wLst (wCons (wC (.str "b01")) (wCons (wC (.str "b+1")) (wCons (wC (.str "b1_0")) (wCons (wC (.str "b--1")) (wCons (wC (.str "b1.0")) (wCons (wC (.str "r0.0")) (wCons (wC (.str "r0.00")) (wCons (wC (.str "r00.0")) (wCons (wC (.str "r-0.0")) (wCons (wC (.str "r0.-1")) (wCons (wC (.str "r0.0.0")) (wCons (wC (.str "r0,0")) (wNil))))))))))))))) (wgName 3))
  (wSeq (wAsg (wOp wCat (wVar 3) (wLst (wCons (wC (.str "s0.0,,0.0")) (wCons (wC (.str "s,0.0")) (wCons (wC (.str "sm")) (wCons (wC (.str "mx")) (wCons (wC (.str "X")) (wCons (wC (.str "m")) (wCons (wC (.str "x")) (wCons (wC (.str "-")) (wCons (wC (.str ";")) (wCons (wC (.str "")) (wCons (wC (.str "B5")) (wCons (wC (.str "b 5")) (wNil))))))))))))))) (wgName 3))
  (wRet (wOp wIx (wVar 3) (wVar 1)))))))

def r_law_spoilt : WS :=
  wSeq (wAsg (wCall fs_law_draw [] (wCons (wVar 0) (wCons (wC (.int 7)) (wNil)))) (wgName 2))
  (wSeq (wIf (wTv (wOp wLt (wVar 2) (wC (.int 3)))) (wSeq (wAsg (wCall fs_law_draw [] (wCons (wVar 0) (wCons (wOp wAdd (wCB cLen (wCons (wVar 1) (wNil))) (wC (.int 1))) (wNil)))) (wgName 3))
  (wRet (wOp wAddS (wOp wAddS (wSl wSlS (wVar 1) (wNoPart) (wPart (wVar 3))) (wOp wIx (wLst (wCons (wC (.str "")) (wCons (wCall fs_law_sign_v1 [] (wCons (wVar 0) (wNil))) (wNil)))) (wCB cInt (wCons (wOp wGt (wVar 2) (wC (.int 0))) (wNil))))) (wSl wSlS (wVar 1) (wPart (wOp wAdd (wVar 3) (wCB cInt (wCons (wOp wLt (wVar 2) (wC (.int 2))) (wNil))))) (wNoPart))))) (wNext))
  (wSeq (wAsg (wBM "str" mSplit (wVar 1) (wCons (wC (.str " ")) (wNil))) (wgName 4))
  (wSeq (wAsg (wCall fs_law_draw [] (wCons (wVar 0) (wCons (wCB cLen (wCons (wVar 4) (wNil))) (wNil)))) (wgName 3))
  (wSeq (wIf (wTv (wOp wEqS (wVar 2) (wC (.int 3)))) (wAsg (wCall fs_law_word_v1 [] (wCons (wVar 0) (wNil))) (wgSub (wVar 4) (wVar 3) wSetL (fun _ _ _ => False))) (wIf (wTv (wOp wEqS (wVar 2) (wC (.int 4)))) (wExpr (wBM "list" mPopAt (wVar 4) (wCons (wVar 3) (wNil)))) (wIf (wTv (wOp wEqS (wVar 2) (wC (.int 5)))) (wExpr (wBM "list" mInsert (wVar 4) (wCons (wCall fs_law_draw [] (wCons (wVar 0) (wCons (wOp wAdd (wCB cLen (wCons (wVar 4) (wNil))) (wC (.int 1))) (wNil)))) (wCons (wOp wIx (wVar 4) (wVar 3)) (wNil))))) (wSeq (wAsg (wBM "str" mSplit (wVar 1) (wCons (wC (.str " ; ")) (wNil))) (wgName 5))
  (wSeq (wAsg (wOp wIx (wVar 5) (wOp wMod (wVar 3) (wCB cLen (wCons (wVar 5) (wNil))))) (wgName 6))
  (wSeq (wIf (wOr (wTv (wOp wEqS (wOp wMod (wVar 3) (wC (.int 2))) (wC (.int 1)))) (wTv (wOp wGt (wCB cLen (wCons (wVar 6) (wNil))) (wC (.int 40))))) (wAsg (wC (.str "-")) (wgName 6)) (wNext))
  (wRet (wBM "str" mJoin (wC (.str " ; ")) (wCons (wOp wCat (wVar 5) (wOp wRep (wLst (wCons (wVar 6) (wNil))) (wOp wIx (wLst (wCons (wC (.int 1)) (wCons (wCB cMax2 (wCons (wC (.int 1)) (wCons (wOp wSub (wC (.int 9)) (wCB cLen (wCons (wVar 5) (wNil)))) (wNil)))) (wNil)))) (wCall fs_law_draw [] (wCons (wVar 0) (wCons (wC (.int 2)) (wNil))))))) (wNil))))))))))
  (wRet (wBM "str" mJoin (wC (.str " ")) (wCons (wVar 4) (wNil))))))))

theorem rd_law_shorter_v1 {K : Fr} {p : Rooms} {vs h Q} {X : XQ} (gd : Good K Q) (q : fs_law_shorter_v1.pre p vs h) (hp : ∀ v h', fs_law_shorter_v1.post p h v h' → Q v h') :
    r_law_shorter_v1 (fun _ h' => Q .non h') Q (fun _ _ => False) (fun _ _ => False) (fun C v _ h' => X C v h') (startV ["houses", "found", "things", "some", "thing"] vs) h := by
  obtain ⟨rfl, s⟩ := q
  have hq : ∀ us, WorldOk us → Q (roomsV us) h := fun us o => hp _ _ ⟨us, rfl, o, rfl⟩
  clear hp
  show r_law_shorter_v1 _ _ _ _ _ [some (.lst (p.map houseV)), none, none, none, none] h
  unfold r_law_shorter_v1
  have sm := s.smT
  have hl := s.most
  walk_at "zgo"
  refine c_law_shown sm ?_
  have lw : (wsT p).length ≤ 1000881 := by rw [len_tl, tl_wsT]; exact wsL_len sm
  walk_at "zgo"
  refine i_lenS (by omega) ?_
  by_cases c : ((wsT p).length : Int) ≤ 1500
  · walk_at "zgo"
    exact hq p s
  walk_at "zgo"
  refine i_newO fun a ha => ?_
  walk_at "zgo"
  refine for_inv (fun i ρ h' => ∃ (bs : List Addr) (x y z : Option Val), ρ = [some (.lst (p.map houseV)), some (.ref a), x, y, z] ∧ Nest h' a bs (thsV ((p.take i).map fun hs => hs.map shortT)) ∧ (∀ b, b ∉ a :: bs → h' b = h b) ∧ ∀ b ∈ a :: bs, h b = none)
    ⟨[], none, none, none, rfl, ⟨hup_same, rfl, fun i b xs e => by simp at e, by simp⟩, fun b hb => hup_ne (by simpa using hb), fun b hb => by simp at hb; subst hb; exact ha⟩ ?_
  rintro i ρ h' ⟨bs, x, y, z, rfl, N, k1, k2⟩
  refine ⟨trivial, fun hi => ?_, fun v hv => ?_⟩
  · rw [List.length_map] at hi
    rw [List.take_of_length_le hi] at N
    walk_at "zgo"
    refine gd.nest N ?_
    have e : hdelL (a :: bs) h' = h := by
      funext b
      by_cases hb : b ∈ a :: bs
      · rw [hdelL_in hb, k2 b hb]
      · rw [hdelL_out hb, k1 b hb]
    rw [e]
    have e2 : (thsV (p.map fun hs => hs.map shortT)).map Val.lst = (p.map fun hs => hs.map shortT).map houseV := by simp [thsV, thV, houseV]
    rw [e2]
    exact hq _ (shorter_ok s)
  · obtain ⟨hs, hhs, rfl⟩ := map_get hv
    have hm := List.mem_of_getElem? hhs
    have hl1 := s.house hs hm
    have ntop := N.top
    unfold houseV
    walk_at "zgo"
    refine i_newO fun b hb => ?_
    have hbn := N.fresh hb
    have hba : a ≠ b := fun z => hbn (by simp [z])
    walk_at "zgo"
    refine for_inv (fun j ρ h2 => h2 = hup h' b (.lst ((hs.take j).map shortV)) ∧ ∃ z : Option Val, ρ = [some (.lst (p.map houseV)), some (.ref a), some (.lst (hs.map Thing.v)), some (.ref b), z]) ⟨by simp, _, rfl⟩ ?_
    rintro j ρ h2 ⟨rfl, z, rfl⟩
    refine ⟨trivial, fun hj => ?_, fun v hv2 => ?_⟩
    · rw [List.length_map] at hj
      rw [List.take_of_length_le hj]
      walk_at "zgo"
      refine i_append (by rw [hup_ne hba]; exact ntop) (by rw [List.length_map, N.len]; have := (List.take_sublist i p).length_le; simp; omega) ?_
      have N2 := N.app (xs := hs.map shortV) hb
      refine ⟨bs ++ [b], _, _, _, rfl, ?_, fun c hc => ?_, fun c hc => ?_⟩
      · have e : thV (hs.map shortT) = hs.map shortV := by simp only [thV, List.map_map]; rfl
        rw [List.take_succ, hhs, List.map_append]
        show Nest _ a _ (List.map thV (List.map (fun hs => hs.map shortT) (p.take i) ++ [hs.map shortT]))
        rw [List.map_append]
        show Nest _ a _ (_ ++ [thV (hs.map shortT)])
        rw [e]
        exact N2
      · have c1 : c ≠ a := fun z => hc (by simp [z])
        have c2 : c ≠ b := fun z => hc (by simp [z])
        rw [hup_ne c1, hup_ne c2]
        exact k1 c fun z => hc (by simp at z ⊢; rcases z with z | z; exact .inl z; exact .inr (.inl z))
      · by_cases hc2 : c ∈ a :: bs
        · exact k2 c hc2
        · have e : c = b := by simp at hc hc2; rcases hc with hc | hc | hc; exact absurd hc hc2.1; exact absurd hc hc2.2; exact hc
          rw [e, ← k1 b hbn]
          exact hb
    · obtain ⟨th, hth, rfl⟩ := map_get hv2
      have fin : hup (hup h' b (.lst ((hs.take j).map shortV))) b (.lst (((hs.take j).map shortV) ++ [(shortT th).v])) = hup h' b (.lst ((hs.take (j + 1)).map shortV)) := by
        rw [hup_hup, List.take_succ, hth, List.map_append]
        rfl
      have len : ((hs.take j).map shortV).length < 16000000 := by have := (List.take_sublist j hs).length_le; simp; omega
      cases th with
      | box w =>
        unfold Thing.v
        walk_at "zgo"
        refine ⟨w, 10, rfl, rfl, (by decide : (0 : Int) < 10), ?_⟩
        walk_at "zgo"
        refine i_append hup_same len ?_
        exact ⟨fin, _, rfl⟩
      | shelf rs =>
        unfold Thing.v
        walk_at "zgo"
        refine i_slT ?_
        walk_at "zgo"
        refine i_append hup_same len ?_
        refine ⟨?_, _, rfl⟩
        rw [← fin]
        have e : cut (rs.map RefD.v) none (some 2) = (rs.take 2).map RefD.v := by
          unfold cut
          have e1 : HT.sIx (rs.map RefD.v).length (rs.map RefD.v).length (some 2) = min 2 rs.length := by rw [List.length_map]; exact HT.sIx_nat _ _ 2
          have e2 : HT.sIx (rs.map RefD.v).length 0 none = 0 := rfl
          rw [e1, e2, List.drop_zero, Nat.sub_zero, ← List.map_take]
          congr 1
          by_cases q : 2 ≤ rs.length
          · rw [Nat.min_eq_left q]
          · rw [List.take_of_length_le (by omega), List.take_of_length_le (by omega)]
        rw [e]
        rfl
      | relay r =>
        unfold Thing.v
        walk_at "zgo"
        refine i_append hup_same len ?_
        exact ⟨fin, _, rfl⟩
      | maker =>
        unfold Thing.v
        walk_at "zgo"
        refine i_append hup_same len ?_
        exact ⟨fin, _, rfl⟩
      | stone =>
        unfold Thing.v
        walk_at "zgo"
        refine i_append hup_same len ?_
        exact ⟨fin, _, rfl⟩
theorem rd_law_odd {K : Fr} {p vs h Q} {X : XQ} (gd : Good K Q) (q : fs_law_odd.pre p vs h) (hp : ∀ v h', fs_law_odd.post p h v h' → Q v h') :
    r_law_odd (fun _ h' => Q .non h') Q (fun _ _ => False) (fun _ _ => False) (fun C v _ h' => X C v h') (startV ["tray", "some"] vs) h := by
  obtain ⟨t, g, n⟩ := p
  obtain ⟨rfl, T, hn⟩ := q
  show r_law_odd _ _ _ _ _ [some (.ref t), none] h
  unfold r_law_odd
  walk_at "zgo"
  refine i_newF ?_
  walk_at "zgo"
  refine i_newF ?_
  refine i_cat (.lst _) (.lst _) (by decide) (i_newF ?_)
  walk_at "zgo"
  refine i_newF ?_
  refine i_cat (.lst _) (.lst _) (by decide) (i_newF ?_)
  walk_at "zgo"
  refine c_law_draw T (by omega) (by decide) (by decide) fun r h1 r0 r1 T1 kp1 => ?_
  exact ix_ok (.of (by decide +kernel)) r0 r1 fun z l lo => hp _ _ ⟨z, rfl, l, lo, T1, kp1⟩
theorem rd_law_word_v1 {K : Fr} {p vs h Q} {X : XQ} (gd : Good K Q) (q : fs_law_word_v1.pre p vs h) (hp : ∀ v h', fs_law_word_v1.post p h v h' → Q v h') :
    r_law_word_v1 (fun _ h' => Q .non h') Q (fun _ _ => False) (fun _ _ => False) (fun C v _ h' => X C v h') (startV ["tray", "kind", "nine", "some"] vs) h := by
  obtain ⟨t, g, n⟩ := p
  obtain ⟨rfl, T, hn⟩ := q
  show r_law_word_v1 _ _ _ _ _ [some (.ref t), none, none, none] h
  unfold r_law_word_v1
  walk_at "zgo"
  refine c_law_draw T (by omega) (by decide) (by decide) fun r h1 r0 r1 T1 kp1 => ?_
  walk_at "zgo"
  refine i_mulS (by decide) (by decide) (by decide +kernel) (by decide +kernel) fun ni hni hnc => ?_
  have lni : ni.length ≤ 59 := by
    have : (Str.ofString "9").length = 1 := by decide +kernel
    rw [this] at hni
    exact hni
  have lon : Lo (tl ni) := fun c hc => by
    have h1 : ∀ c ∈ (Str.ofString "9").cps.toList, c < 128 := by decide +kernel
    exact h1 c (hnc c hc)
  clear hni hnc
  have on : Okn 59 ni := ⟨lni, lon⟩
  walk_at "zgo"
  refine i_addO (okc (n := 1) (by decide +kernel)) on (by decide) fun y1 p1 => ?_
  walk_at "zgo"
  refine i_addO p1 (okc (n := 1) (by decide +kernel)) (by decide) fun z1 o1 => ?_
  walk_at "zgo"
  refine i_addO (okc (n := 1) (by decide +kernel)) on (by decide) fun y2 p2 => ?_
  walk_at "zgo"
  refine i_addO p2 (okc (n := 2) (by decide +kernel)) (by decide) fun z2 o2 => ?_
  walk_at "zgo"
  refine i_addO (okc (n := 2) (by decide +kernel)) on (by decide) fun y3 p3 => ?_
  walk_at "zgo"
  refine i_addO p3 (okc (n := 1) (by decide +kernel)) (by decide) fun z3 o3 => ?_
  walk_at "zgo"
  refine i_addO (okc (n := 2) (by decide +kernel)) on (by decide) fun y4 p4 => ?_
  walk_at "zgo"
  refine i_addO p4 (okc (n := 2) (by decide +kernel)) (by decide) fun z4 o4 => ?_
  walk_at "zgo"
  refine i_addO (okc (n := 3) (by decide +kernel)) on (by decide) fun y5 p5 => ?_
  walk_at "zgo"
  refine i_addO p5 (okc (n := 1) (by decide +kernel)) (by decide) fun z5 o5 => ?_
  walk_at "zgo"
  refine i_newF ?_
  walk_at "zgo"
  refine i_newF ?_
  refine i_cat (.lst _) (.lst _) (by simp) (i_newF ?_)
  walk_at "zgo"
  refine i_newF ?_
  refine i_cat (.lst _) (.lst _) (by simp) (i_newF ?_)
  walk_at "zgo"
  refine ix_ok ?_ r0 (by simp; omega) fun z l lo => hp _ _ ⟨z, rfl, l, lo, T1, kp1⟩
  refine OkL.app (OkL.app ?_ (.of (by decide +kernel))) (.of (by decide +kernel))
  exact .con o1 (by decide) (.con o2 (by decide) (.con o3 (by decide) (.con o4 (by decide) (.con o5 (by decide) (.of (by decide +kernel))))))
theorem rd_law_spoilt {K : Fr} {p vs h Q} {X : XQ} (gd : Good K Q) (q : fs_law_spoilt.pre p vs h) (hp : ∀ v h', fs_law_spoilt.post p h v h' → Q v h') :
    r_law_spoilt (fun _ h' => Q .non h') Q (fun _ _ => False) (fun _ _ => False) (fun C v _ h' => X C v h') (startV ["tray", "text", "way", "at", "words", "parts", "some"] vs) h := by
  obtain ⟨t, g, n, z⟩ := p
  obtain ⟨rfl, T, hn, hz, lo⟩ := q
  show r_law_spoilt _ _ _ _ _ [some (.ref t), some (.str z), none, none, none, none, none] h
  unfold r_law_spoilt
  have fin : ∀ (r : Str) h', r.length ≤ 2 * z.length + 400 → Lo (tl r) → Tray h' t g (n + 10) → Q (.str r) h' := fun r h' l o T => hp _ _ ⟨r, rfl, l, o, T⟩
  clear hp
  walk_at "zgo"
  refine c_law_draw T (by omega) (by decide) (by decide) fun w h1 w0 w1 T1 kp1 => ?_
  by_cases c3 : w < 3
  · walk_at "zgo"
    refine i_lenS (by omega) ?_
    walk_at "zgo"
    refine c_law_draw T1 (by omega) (by omega) (by omega) fun r h2 r0 r1 T2 kp2 => ?_
    walk_at "zgo"
    refine i_slS (by omega) ?_
    walk_at "zgo"
    refine c_law_sign_v1 T2 (by omega) fun s h3 ls los T3 kp3 => ?_
    walk_at "zgo"
    refine i_newF ?_
    walk_at "zgo"
    have two : ∃ s2 : Str, L2.atI [Val.str (Str.ofString ""), Val.str s] (if decide (w > 0) = true then 1 else 0) = some (.str s2) ∧ s2.length ≤ 1 ∧ Lo (tl s2) := by
      by_cases d : w > 0
      · rw [decide_eq_true d]; exact ⟨s, rfl, ls, los⟩
      · rw [decide_eq_false d]; exact ⟨_, rfl, by decide +kernel, by unfold Lo; decide +kernel⟩
    obtain ⟨s2, es, l2, lo2⟩ := two
    refine i_ixL es ?_
    have o1 : Okn z.length (cutS z none (some r)) := ⟨cut_len _ _ _ (Nat.le_refl _), cut_lo lo⟩
    refine i_addO o1 ⟨l2, lo2⟩ (by omega) fun y oy => ?_
    walk_at "zgo"
    refine i_slS (by omega) ?_
    generalize hq : (r + if decide (w < 2) = true then 1 else 0) = r2
    have o2 : Okn z.length (cutS z (some r2) none) := ⟨cut_len _ _ _ (Nat.le_refl _), cut_lo lo⟩
    refine i_addO oy o2 (by omega) fun x ox => ?_
    exact fin x h3 (by have := ox.1; omega) ox.2 (T3.more (by omega))
  · have e32 : tl (Str.ofString " ") = [32] := by decide +kernel
    have l32 : (Str.ofString " ").length = 1 := by decide +kernel
    have lo32 : Lo (tl (Str.ofString " ")) := by unfold Lo; decide +kernel
    obtain ⟨tot, pos⟩ := split_sum (x := z) e32 (by simp) (by decide +kernel)
    have wl : ∀ y ∈ Txt.split z (Str.ofString " "), y.length ≤ z.length := fun y hy => part_len e32 (by simp) (by decide +kernel) hy
    have wo : ∀ y ∈ Txt.split z (Str.ofString " "), Lo (tl y) := fun y hy => part_lo e32 (by simp) (by decide +kernel) lo hy
    have wm := parts_many (x := z) e32 (by simp) (by decide +kernel)
    walk_at "zgo"
    refine i_split (by decide +kernel) (by omega) (i_newO fun a ha => ?_)
    obtain ⟨at', ag⟩ := T1.new ha
    have T1' := T1.hup (o := .lst ((Txt.split z (Str.ofString " ")).map Val.str)) at' ag
    revert tot pos wl wo wm T1'
    generalize Txt.split z (Str.ofString " ") = ws
    intro tot pos wl wo wm T1'
    replace tot : sumL ws + 1 * (ws.length - 1) ≤ z.length := tot
    walk_at "zgo"
    rw [List.length_map]
    refine c_law_draw T1' (by omega) (by omega) (by omega) fun r h2 r0 r1 T2 kp2 => ?_
    have ea : h2 a = some (.lst (ws.map Val.str)) := by rw [kp2 a at' ag]; exact hup_same
    have hk : r.toNat < ws.length := by omega
    have hw : ws[r.toNat]? = some ws[r.toNat] := List.getElem?_eq_getElem hk
    have hwv : (ws.map Val.str)[r.toNat]? = some (.str ws[r.toNat]) := by rw [List.getElem?_map, hw]; rfl
    have hwl := wl _ (List.getElem_mem hk)
    have hwo := wo _ (List.getElem_mem hk)
    have er : r = (r.toNat : Int) := by omega
    have done : ∀ (us : List Str) (h' : Hh) (ρ : Ev), (∃ b c d e f g1 : Option Val, ρ = [b, c, d, e, some (.ref a), f, g1]) → h' a = some (.lst (us.map Val.str)) → Tray h' t g (n + 10) → sumL us + 1 * (us.length - 1) ≤ 2 * z.length + 400 → (∀ u ∈ us, Lo (tl u)) →
        wRet (wBM "str" mJoin (wC (.str " ")) (wCons (wVar 4) wNil)) (fun _ h' => Q .non h') Q (fun _ _ => False) (fun _ _ => False) (fun C v _ h' => X C v h') ρ h' := fun us h' ρ ⟨b, c, d, e, f, g1, hρ⟩ eu Tu su lu => by
      subst hρ
      have j := join_len2 (s := " ") (ws := us)
      rw [show (" " : Str).length = 1 from l32] at j
      walk_at "zgo"
      refine i_join (.lst (.ref eu)) (by show sumL us + us.length * (Str.ofString " ").length ≤ 16777216; rw [l32]; omega) ?_
      exact fin _ _ (by omega) (join_lo lo32 lu) Tu
    have m1 : ∀ u ∈ ws.map Val.str, True := fun _ _ => trivial
    by_cases d3 : w = 3
    · walk_at "zgo"
      refine c_law_word_v1 T2 (by omega) fun u h3 lu lou T3 kp3 => ?_
      walk_at "zgo"
      refine i_setL (by rw [kp3 a at' ag]; exact ea) (ixN_of r0 (by rw [List.length_map]; omega)) ?_
      refine done (ws.set r.toNat u) _ _ ⟨_, _, _, _, _, _, rfl⟩ (by rw [hup_same, List.map_set]) ((T3.hup at' ag).more (by omega)) ?_ fun x hx => ?_
      · have := sumL_set (ws := ws) (k := r.toNat) (z := u)
        rw [List.length_set]
        omega
      · rcases List.mem_or_eq_of_mem_set hx with hx | rfl
        · exact wo x hx
        · exact lou
    by_cases d4 : w = 4
    · walk_at "zgo"
      refine i_popAt ea r0 (by rw [List.length_map]; omega) (by rw [List.length_map]; omega) hwv ?_
      refine done (ws.eraseIdx r.toNat) _ _ ⟨_, _, _, _, _, _, rfl⟩ (by rw [hup_same, map_erase]) ((T2.hup at' ag).more (by omega)) ?_ fun x hx => wo x (List.mem_of_mem_eraseIdx hx)
      have := sumL_erase (ws := ws) (k := r.toNat)
      rw [List.length_eraseIdx]
      split <;> omega
    by_cases d5 : w = 5
    · walk_at "zgo"
      rw [List.length_map]
      refine c_law_draw T2 (by omega) (by omega) (by omega) fun r2 h3 q0 q1 T3 kp3 => ?_
      have ea3 : h3 a = some (.lst (ws.map Val.str)) := by rw [kp3 a at' ag]; exact ea
      walk_at "zgo"
      refine i_ixR ea3 (by rw [er]; exact L2.atI_nat hwv) ?_
      walk_at "zgo"
      refine i_insert ea3 (by rw [List.length_map]; omega) q0 (by omega) ?_
      refine done (ws.take r2.toNat ++ [ws[r.toNat]] ++ ws.drop r2.toNat) _ _ ⟨_, _, _, _, _, _, rfl⟩ (by rw [hup_same]; simp) ((T3.hup at' ag).more (by omega)) ?_ fun x hx => ?_
      · have e1 : sumL ws = sumL (ws.take r2.toNat) + sumL (ws.drop r2.toNat) := by rw [← sumL_app, List.take_append_drop]
        have e2 : sumL [ws[r.toNat]] = ws[r.toNat].length := by simp [sumL]
        rw [sumL_app, sumL_app, e2]
        have e3 : (ws.take r2.toNat ++ [ws[r.toNat]] ++ ws.drop r2.toNat).length = ws.length + 1 := by
          have := congrArg List.length (List.take_append_drop r2.toNat ws)
          simp only [List.length_append, List.length_cons, List.length_nil] at this ⊢
          omega
        rw [e3]
        omega
      · rcases List.mem_append.mp hx with hx | hx
        · rcases List.mem_append.mp hx with hx | hx
          · exact wo x (List.mem_of_mem_take hx)
          · simp at hx; subst hx; exact hwo
        · exact wo x (List.mem_of_mem_drop hx)
    have eS : tl (Str.ofString " ; ") = [32, 59, 32] := by decide +kernel
    have l3 : (Str.ofString " ; ").length = 3 := by decide +kernel
    obtain ⟨tot2, pos2⟩ := split_sum (x := z) eS (by simp) (by decide +kernel)
    have pl : ∀ y ∈ Txt.split z (Str.ofString " ; "), y.length ≤ z.length := fun y hy => part_len eS (by simp) (by decide +kernel) hy
    have po : ∀ y ∈ Txt.split z (Str.ofString " ; "), Lo (tl y) := fun y hy => part_lo eS (by simp) (by decide +kernel) lo hy
    have pm := parts_many (x := z) eS (by simp) (by decide +kernel)
    walk_at "zgo"
    refine i_split (by decide +kernel) (by omega) (i_newF ?_)
    revert tot2 pos2 pl po pm
    generalize Txt.split z (Str.ofString " ; ") = us
    intro tot2 pos2 pl po pm
    replace tot2 : sumL us + 3 * (us.length - 1) ≤ z.length := tot2
    walk_at "zgo"
    rw [List.length_map]
    refine i_mod (by omega) ?_
    have m0 : 0 ≤ r % (us.length : Int) := Int.emod_nonneg _ (by omega)
    have m1 : r % (us.length : Int) < (us.length : Int) := Int.emod_lt_of_pos _ (by omega)
    generalize r % (us.length : Int) = r2 at m0 m1
    have hk2 : r2.toNat < us.length := by omega
    have er2 : r2 = (r2.toNat : Int) := by omega
    have hu : (us.map Val.str)[r2.toNat]? = some (.str us[r2.toNat]) := by rw [List.getElem?_map, List.getElem?_eq_getElem hk2]; rfl
    have huo := po _ (List.getElem_mem hk2)
    have hul := pl _ (List.getElem_mem hk2)
    refine i_ixL (by rw [er2]; exact L2.atI_nat hu) ?_
    generalize us[r2.toNat] = u at hul huo
    clear hu
    generalize hR : wRet (wBM "str" mJoin (wC (.str " ; ")) _) = REST
    have end_ : ∀ u : Str, u.length ≤ 40 → Lo (tl u) → ∀ NX, REST NX Q (fun _ _ => False) (fun _ _ => False) (fun C v _ h' => X C v h') [some (.ref t), some (.str z), some (.int w), some (.int r), some (.ref a), some (.lst (us.map Val.str)), some (.str u)] h2 := fun u hl ho NX => by
      rw [← hR]
      walk_at "zgo"
      refine i_newF ?_
      walk_at "zgo"
      rw [List.length_map]
      refine i_newF ?_
      walk_at "zgo"
      refine c_law_draw T2 (by omega) (by omega) (by omega) fun q h3 q0 q1 T3 kp3 => ?_
      obtain ⟨c, ec, c0, c8⟩ : ∃ c : Nat, L2.atI [Val.int 1, Val.int (if (9 : Int) - (us.length : Int) > 1 then 9 - (us.length : Int) else 1)] q = some (.int (c : Int)) ∧ 1 ≤ c ∧ c ≤ 8 := by
        rcases (show q = 0 ∨ q = 1 by omega) with rfl | rfl
        · exact ⟨1, rfl, by decide, by decide⟩
        · by_cases d : (9 : Int) - (us.length : Int) > 1
          · refine ⟨9 - us.length, ?_, by omega, by omega⟩
            rw [if_pos d]
            show some (Val.int _) = some (Val.int _)
            congr 2
            omega
          · rw [if_neg d]; exact ⟨1, rfl, by decide, by decide⟩
      refine i_ixL ec ?_
      refine i_rep (.lst _) (by omega) (by omega) (by simp; omega) (i_newF ?_)
      rw [show (List.replicate (c : Int).toNat [Val.str u]).flatten = (List.replicate c u).map Val.str by
        rw [show (c : Int).toNat = c by omega]
        clear ec c0 c8
        induction c with
        | zero => rfl
        | succ c ih => rw [List.replicate_succ, List.flatten_cons, ih]; rfl]
      refine i_cat (.lst _) (.lst _) (by simp; omega) (i_newF ?_)
      rw [← List.map_append]
      have j := join_len2 (s := Str.ofString " ; ") (ws := us ++ List.replicate c u)
      have es3 : ∀ c : Nat, sumL (List.replicate c u) = c * u.length := fun c => by
        induction c with
        | zero => simp [sumL]
        | succ c ih => rw [List.replicate_succ, show sumL (u :: List.replicate c u) = u.length + sumL (List.replicate c u) by simp [sumL], ih, Nat.succ_mul]; omega
      have es2 : sumL (us ++ List.replicate c u) = sumL us + c * u.length := by rw [sumL_app, es3]
      have cu : c * u.length ≤ 8 * 40 := Nat.mul_le_mul c8 hl
      have el : (us ++ List.replicate c u).length = us.length + c := by simp
      rw [es2, el, l3] at j
      walk_at "zgo"
      refine i_join (.lst (.lst _)) (by show sumL (us ++ List.replicate c u) + (us ++ List.replicate c u).length * (Str.ofString " ; ").length ≤ 16777216; rw [es2, el, l3]; omega) ?_
      refine fin _ _ (by omega) (join_lo (by rw [eS]; unfold Lo; decide) fun x hx => ?_) (T3.more (by omega))
      rcases List.mem_append.mp hx with hx | hx
      · exact po x hx
      · rw [(List.mem_replicate.mp hx).2]; exact ho
    have dash : (Str.ofString "-").length ≤ 40 ∧ Lo (tl (Str.ofString "-")) := ⟨by decide +kernel, by unfold Lo; decide +kernel⟩
    walk_at "zgo"
    refine i_mod (by decide) ?_
    by_cases c1 : r % 2 = 1
    · walk_at "zgo"
      exact end_ _ dash.1 dash.2 _
    · walk_at "zgo"
      refine i_lenS (by omega) ?_
      by_cases cu : (u.length : Int) > 40
      · walk_at "zgo"
        exact end_ _ dash.1 dash.2 _
      · walk_at "zgo"
        exact end_ u (by omega) huo _
/-! ZAI -/
/-! an except suite that raises: try: .. except X: raise Y(..) from None -/
/-! ### the init of an error, run where an exception is handled -/
theorem okH_what {P : Program} {w : World} {K : Fr} {mg : Str → Option Value} {base : Heap} {x qual : Str} {params : Arguments} {scope : Scope} {dvs : List V} {kws : List (Str × V)} {f : Addr} {fd : FuncData} {p1 p2 p3 p4 : Pos}
    (F : FunD K x qual params [.Assign [.Attribute (.Name "self" p1) "what" p2] (.Name "what" p3) p4] scope dvs kws f fd) (Sc : FnScope ["self", "what"] ["self", "what"] scope) (k1 : scope.names.lookup ("self" : Str) = some .local) (k2 : scope.names.lookup ("what" : Str) = some .local) : L2H.FnH P w K mg base CX0 1 f fd ["self", "what"] (spWhat K) := by
  obtain ⟨oc, od, dV, kV, doc, pm, an, cdv, ct, osl, rfl, lk, hcd, _, _⟩ := F.ex
  refine L2H.fn_ofH lk hcd Sc (fun vs H Q E ⟨a, C, v, e, _⟩ => by subst e; rfl) fun A outer s H vs Q E p hot hr h => ?_
  obtain ⟨a, C, v, rfl, T, hn, ha, k⟩ := h
  refine ⟨_, pss_one (ps_ost (pv 0 rfl (Or.inl k1)) (pv 1 rfl (Or.inl k2))), ?_⟩
  exact ⟨v, rfl, _, rfl, a, C, rfl, T, hn, .inl ⟨ha, fun dx h1 h2 => k dx h1 h2⟩⟩
structure ExH (P : Program) (w : World) (K : Fr) (mg : Str → Option Value) (base : Heap) (x : Str) (C : Addr) : Prop where
  ex : ∃ (fI : Addr) (fd : FuncData), L2H.FnH P w K mg base CX0 1 fI fd ["self", "what"] (spWhat K) ∧ mg x = some (.ref C) ∧ OexC K C ∧ PySem.W.findIn K (.ref C) "__init__" = some (some (.ref fI)) ∧ PySem.W.typeIn K (.ref fI) = some (.type "function") ∧ Binds K fd ["self", "what"] [] ∧ PySem.W.findIn K (.ref C) "what" = some none
theorem exH_of {P : Program} {w : World} {K : Fr} {mg : Str → Option Value} {base : Heap} {x y : Str} {fd : FuncData} (F : L2H.FnH P w K mg base CX0 1 (He.fAd K (y, some "__init__")) fd ["self", "what"] (spWhat K)) (hm : mg x = some (.ref (He.ga K x))) (e : ExB K x y) (hb : Binds K fd ["self", "what"] []) : ExH P w K mg base x (He.ga K x) :=
  ⟨_, fd, F, hm, e.oex, e.ini, e.typ, hb, e.wh⟩
section
variable {X : Cx} {W : WX} {pos : Pos}
theorem zs_raiseH {x : Str} {C : Addr} {e : Expr} {te : WE} {p pos' cpos : Pos} {j : Nat} (tk : L2.Takes X W) (hot : L2H.HotC X) (G : ExH X.prog X.w X.K X.mg X.base x C) (hr : L2H.RoomH 2 X.A) (hg : Gl X x) (ha : ZE X W e te) (hdb : (x == ("__debug__" : Str)) = false := by decide)
    (he : starEach [e] X.env = (false, eval e X.env) :: starEach [] X.env := by rfl) (hpl : (backTo pos (starEach [] X.env)).any (·.1) = false := by rfl) : ZS X W (.Raise (some (.Call (.Name x p) [e] [] pos)) (some (.Constant .none j cpos)) pos') (wRaise C te) := by
  obtain ⟨fI, fd, F, hm, T, iC, tI, hb, hn⟩ := G.ex
  refine ⟨ps_imp (L2H.ps_raiseHN hot tk (L2H.pmk5_oexH T iC tI F hr hot hb pass0 hg hm (L2.pa_cons ha.pe pa_nil he) hdb he hpl)) fun D σ H ⟨S, Fr, ρ, h, nx, rt, bk, ct, xe, r, rl, q, ln, lr, lb, lc, lx⟩ => ?_⟩
  refine ⟨S, Fr, ρ, h, _, _, r, rl, q, fun v h1 S1 w H1 q1 s1 r1 x1 => ⟨by simp, fun a na => ⟨a, C, w, rfl, T, hn, upd_same, fun dx hdx ne => ⟨rfl, dx, [("what", w)], upd_same, ?_, ?_, ?_⟩⟩⟩, lx.at rl⟩
  · rw [upd_ne ne, upd_same]
  · rw [upd_ne ne] at hdx; exact hdx
  · rw [upd_ne ne] at hdx
    obtain ⟨rF, sF⟩ := r1.frozen (p := dx) (u := .xd [("what", w)]) hdx
    refine lx _ _ _ _ _ w dx σ _ q1 (s1.trans sF) (rF.sup fun b o e => ?_) ((rl.mono s1).mono sF) (Rel.mono sF _ _ x1) upd_same
    by_cases c : b = dx
    · subst c
      rw [upd_same] at e ⊢
      exact e
    · rw [upd_ne c] at e
      have ba : b ≠ a := ne_of_none e na
      rw [upd_ne c, L2.del_ne ba, upd_ne ba, upd_ne c, upd_ne ba]
      exact e
end
/-! ### a def whose exceptions have no context -/
section
variable {P : Program} {w : World} {K : Fr} {mg : Str → Option Value} {base : Heap} {x qual : Str} {params : Arguments} {body : List Stmt} {scope : Scope} {dvs : List V} {kws : List (Str × V)} {f : Addr} {fd : FuncData} {N ps : List Str} {k : Nat} {fs : FS}
abbrev Cxn (P : Program) (w : World) (K : Fr) (mg : Str → Option Value) (base : Heap) (N : List Str) (qual : Str) (scope : Scope) (f : Addr) (cdv : Value) (A : Around) (outer : List Env) (s : Shared) (H : Hp) (E : XK) : Cx := cxOf (L2N.CX P w) P w K mg base N qual scope f cdv A outer s H E
theorem tkn {N : List Str} {qual : Str} {scope : Scope} {cdv : Value} {A : Around} {outer : List Env} {s : Shared} {H : Hp} {E : XK} : L2N.Takes (Cxn P w K mg base N qual scope f cdv A outer s H E) (Wd E) := L2N.takes_of rfl rfl rfl rfl
theorem psn {N : List Str} {qual : Str} {scope : Scope} {cdv : Value} {A : Around} {outer : List Env} {s : Shared} {H : Hp} {E : XK} : PassesOwn (model (Cxn P w K mg base N qual scope f cdv A outer s H E).prog (Cxn P w K mg base N qual scope f cdv A outer s H E).w) (Cxn P w K mg base N qual scope f cdv A outer s H E).A (Cxn P w K mg base N qual scope f cdv A outer s H E).env (Cxn P w K mg base N qual scope f cdv A outer s H E).xe := passes_of rfl
theorem pad {N : List Str} {qual : Str} {scope : Scope} {cdv : Value} {A : Around} {outer : List Env} {s : Shared} {H : Hp} {E : XK} (hd : Option Value) : PassesOwnAt (model (Cxd P w K mg base N qual scope f cdv A outer s H E).prog (Cxd P w K mg base N qual scope f cdv A outer s H E).w) ((Cxd P w K mg base N qual scope f cdv A outer s H E).A.mark hd) (Cxd P w K mg base N qual scope f cdv A outer s H E).A (Cxd P w K mg base N qual scope f cdv A outer s H E).env (Cxd P w K mg base N qual scope f cdv A outer s H E).xe := L2H.passesAt_of rfl hd
theorem zdefN (F : FunD K x qual params body scope dvs kws f fd) (Sc : FnScope N ps scope) (len : ∀ p vs h, fs.pre p vs h → vs.length = ps.length)
    (hb : ∀ (cdv : Value) (A : Around) (outer : List Env) (s : Shared) (H : Hp) (E : XK), Room k (A.deeper (envOfC qual scope s.heap.objs.size f cdv)) →
      ∃ t, ZB (Cxn P w K mg base N qual scope f cdv A outer s H E) (Wd E) body t ∧ ∀ p vs h Q (X : XQ), Good K Q → fs.pre p vs h → (∀ v h', fs.post p h v h' → Q v h') → (∀ C v h', fs.xpost p h C v h' → X C v h') →
        t (fun _ h' => Q .non h') Q (fun _ _ => False) (fun _ _ => False) (fun C v _ h' => X C v h') (startV N vs) h) : FnOk P w K mg base (L2N.CX P w) (k + 1) f fd ps (lSp K fs) := by
  refine F.ok Sc (fun ws H Q E ⟨S, Fr, vs, h, E', Q', r, rx, ⟨p, q, _⟩, _⟩ => rx.length.symm.trans (len _ _ _ q)) fun cdv A outer s H ws Q E hr hsp => ?_
  obtain ⟨t, ht, hq⟩ := hb cdv A outer s H E hr
  refine ⟨_, ht.pss, ?_⟩
  obtain ⟨S, Fr, vs, h, E', Q', r, rx, ⟨p, q, qp, qx⟩, lq, lx⟩ := hsp
  have gd : Good K (fun v h' => ∀ S' w H', Sub S S' → R K S' Fr H' h' → Rel K S' v w → Q w H') := fun v h v2 h2 sh q2 S' w H' s' r' x' => by
    obtain ⟨S2, s2, r2, x2⟩ := sh S' Fr H' w r' x'
    exact q2 S2 w H' (s'.trans s2) r2 x2
  have q0 := hq p vs h _ (fun C v h' => ∀ S' w d H', Sub S S' → R K S' Fr H' h' → Rel K S' v w → S' d = some (.xd [("what", w)]) → E (.ref C) (some d) H') gd q
    (fun v h' z S' w H' s' r' x' => lq _ _ _ _ _ (qp v h' z) s' r' x') (fun C v h' z S' w d H' s' r' x' e => lx _ _ _ _ _ _ _ (qx C v h' z) s' r' x' e)
  exact ⟨S, Fr, _, h, _, _, _, _, _, r, rls_start rx, q0, fun ρ h' S' σ H' z s' r' _ => z S' .non H' s' r' (rel_non.mpr rfl), fun v h' S' w H' z s' r' x' => z S' w H' s' r' x', fun _ _ _ _ _ z => z.elim, fun _ _ _ _ _ z => z.elim,
    fun C v ρ h' S' w d σ H' z s' r' _ x' e => z S' w d H' s' r' x' e⟩
end
section
variable {X : Cx} {W : WX} {pos : Pos} {k : Nat} {x m : Str} {ps : List Str} {dv : List Val} {fs : FS} {C : Addr} {p apos : Pos} {e o : Expr} {es : List Expr} {t : WA} {ta : WE}
theorem sp_nox (nx : ∀ p h C v h', ¬ fs.xpost p h C v h') {vs : List Val} {h : Hh} {E : XQ} {Q : KQ} (q : fs.sp vs h E Q) : fs.sp vs h (fun _ _ _ => False) Q := by
  obtain ⟨p, a, b, _⟩ := q
  exact ⟨p, a, b, fun C v h' z => nx _ _ _ _ _ z⟩
/-- a call that raises nothing -/
theorem zcallQ (nx : ∀ p h C v h', ¬ fs.xpost p h C v h') (G : Fn X.prog X.w X.K X.mg X.base x k ps dv fs) (hr : Room k X.A) (hg : Gl X x) (ha : ZA X W (e :: es) t) (hdb : (x == ("__debug__" : Str)) = false := by decide)
    (he : starEach (e :: es) X.env = (false, eval e X.env) :: starEach es X.env := by rfl) (hpl : (backTo pos (starEach es X.env)).any (·.1) = false := by rfl) : ZE X W (.Call (.Name x p) (e :: es) [] pos) (wCall fs dv t) := by
  obtain ⟨f, fd, dvs, ds, F, hm, hk, hd, hdv, hb⟩ := G.ex
  exact ⟨pe_imp (pe_callSD (E := L2.WE WF) F hr hg hm hk hb hd (fun σ => passAt takes0 σ) ha.pa hdb he hpl) fun σ H Q ⟨S, F, ρ, h, E', Q', r, rl, q, lq, lx⟩ =>
    ⟨S, F, ρ, h, E', _, r, rl, q, fun vs h1 S1 ws H1 q1 s1 r1 x1 => lsp_of (W := WF) r1 (x1.app (hdv S1)) (sp_nox nx q1) (lq.mono s1) (fun _ _ _ _ _ _ _ z => z.elim), lx⟩⟩
structure CkN (P : Program) (w : World) (K : Fr) (mg : Str → Option Value) (base : Heap) (x : Str) (C : Addr) (k : Nat) (ps : List Str) (dv : List Val) (fs : FS) : Prop where
  ex : ∃ (f : Addr) (fd : FuncData) (dvs : List V) (ds : List Value), FnOk P w K mg base (L2N.CX P w) k f fd ps (lSp K fs) ∧ mg x = some (.ref C) ∧ Mk K C f ∧ Vals dvs ds ∧ (∀ S, Rels K S dv dvs) ∧ Binds K fd ps ds
theorem zmakeN (tk : L2N.Takes X W) (G : CkN X.prog X.w X.K X.mg X.base x C k ps dv fs) (hr : Room (k + 1) X.A) (hg : Gl X x) (ha : ZA X W (e :: es) t) (hdb : (x == ("__debug__" : Str)) = false := by decide)
    (he : starEach (e :: es) X.env = (false, eval e X.env) :: starEach es X.env := by rfl) (hpl : (backTo pos (starEach es X.env)).any (·.1) = false := by rfl) : ZE X W (.Call (.Name x p) (e :: es) [] pos) (wMake C fs dv t) := by
  obtain ⟨f, fd, dvs, ds, F, hm, M, hd, hdv, hb⟩ := G.ex
  refine ⟨⟨fun pins s σ H Q I h => ?_⟩⟩
  obtain ⟨S, Fr, ρ, h, E', Q', r, rl, q, lq, lx⟩ := h
  refine wpAny_Call_Name_kw (ld_glob I hg hm ?_ hdb)
  refine PySem.W.callWith_K (h₀ := X.base) I.ok.mod.kin M.kp (thn (ha.pa.run pos pins s σ H (fun ws H2 => ∃ S1 h1 vs, Sub S S1 ∧ R X.K S1 Fr H2 h1 ∧ Rels X.K S1 vs ws ∧ _) I ⟨S, Fr, ρ, h, E', _, r, rl, q, fun vs h1 S1 ws H1 q1 s1 r1 x1 => ⟨S1, h1, vs, s1, r1, x1, q1⟩, lx⟩) fun us s1 ⟨ws, H1, I1, rv, S1, h1, vs, s1, r1, x1, q1⟩ => ⟨I1.kIn, ?_⟩) he hpl
  exact run_makeSD (E := L2.WE W) M F hr hb hd (L2N.passAt tk σ) I1 rv (mk_sp r1 (x1.app (hdv S1)) q1 (lq.mono s1) (lx.mono s1))
end
/-! ### raise, the context None; try: .. except X: a suite that raises -/
section
variable {X : Cx} {W : WX} {pos : Pos}
theorem pmk_oexN {CX : CXT} {x : Str} {C fI : Addr} {k : Nat} {fd : FuncData} {ps : List Str} {sp : L2.Sp} {e : Expr} {es : List Expr} {ta : TA} {p : Pos} (T : OexC X.K C) (iC : PySem.W.findIn X.K (.ref C) "__init__" = some (some (.ref fI))) (tI : PySem.W.typeIn X.K (.ref fI) = some (.type "function"))
    (F1 : FnOk X.prog X.w X.K X.mg X.base CX k fI fd ps sp) (hr : Room (k + 1) X.A) (hb : Binds X.K fd ps []) (hx : Passes CX X (fun _ _ _ => False)) (hg : Gl X x) (hm : X.mg x = some (.ref C)) (ha : PA X (e :: es) ta)
    (hdb : (x == ("__debug__" : Str)) = false := by decide) (he : starEach (e :: es) X.env = (false, eval e X.env) :: starEach es X.env := by rfl) (hpl : (backTo pos (starEach es X.env)).any (·.1) = false := by rfl) :
    L2N.PMk X (.Call (.Name x p) (e :: es) [] pos) (tMkO C sp [] ta) := by
  intro pins s σ H Q I h
  obtain ⟨nm, q, N, bs, bm, sn, sub, ab, col, dd, k0, k1, k2, k3, k5, hC, hbm⟩ := T.cls
  refine wpAny_Call_Name_kw (ld_glob I hg hm ?_ hdb)
  refine PySem.W.callWith_K (h₀ := X.base) I.ok.mod.kin T.kC (thn (ha.run pos pins s σ H _ I h) fun us s1 ⟨vs, H1, I1, r1, hz, q1⟩ => ⟨I1.kIn, ?_⟩) he hpl
  show wpAny _ _ (call (.ref C) us) _ _ _
  obtain ⟨hp, g, dr, tk, os⟩ := s1
  have hsz : hp.objs.size ≤ hp.objs.size + 1 := Nat.le_succ _
  have hn : H1 (hp.objs.size + 1) = none := I1.hok.fresh hsz
  have hq := q1 (hp.objs.size + 1) hn
  rw [List.append_nil] at hq
  have kk : ∀ b o, hp.get? b = some o → ((hp.push (PySem.W.kdv_tup us)).push (PySem.HandSPX.excO C hp.objs.size)).get? b = some o := fun b o e => Heap.get?_push_of_some _ (Heap.get?_push_of_some _ e)
  have hget : ((hp.push (PySem.W.kdv_tup us)).push (PySem.HandSPX.excO C hp.objs.size)).get? (hp.objs.size + 1) = some (PySem.HandSPX.excO C hp.objs.size) := by heap_get
  have I2 : Inv X pins σ (upd H1 (hp.objs.size + 1) (exo (hp.objs.size + 1) C none)) ⟨(hp.push (PySem.W.kdv_tup us)).push (PySem.HandSPX.excO C hp.objs.size), g, dr, tk, os⟩ :=
    I1.laid (t' := tk) (a := hp.objs.size + 1) (o := exo (hp.objs.size + 1) C none) (h' := (hp.push (PySem.W.kdv_tup us)).push (PySem.HandSPX.excO C hp.objs.size)) kk hsz (exo_ok hget)
  have r2 : Vals (V.ref (hp.objs.size + 1) :: vs) (Value.ref (hp.objs.size + 1) :: us) := .cons rfl r1
  have hl : (Value.ref (hp.objs.size + 1) :: us ++ []).length = ps.length := by
    have e := r2.length
    rw [F1.len _ _ _ _ hq] at e
    rw [List.append_nil]
    exact e.symm
  have hus : us.length ≤ sizeLine := by
    rw [← Paired.length r1, sizeLine_eq]
    omega
  have b2 := hb _ (Value.ref (hp.objs.size + 1) :: us) I2.kIn hl
  rw [List.append_nil] at b2
  refine wpAny_call (PySem.HandSPX.call_own F.excBase_ValueError (fun Y => PySem.HandSPX.refsVE_contains Y bm hbm) (I1.kIn _ _ hC) (PySem.W.looks_findIn I1.kIn iC) (fun self => PySem.W.bind_fn I1.kIn self tI) hus
    (codeAny_mono (F1.run _ X.stack _ _ ⟨Value.ref (hp.objs.size + 1) :: us, []⟩ (Value.ref (hp.objs.size + 1) :: us) _ _ (fun _ _ _ => False) (hr.make C us []) (I2.env0.make C us []) b2 r2 hq) fun r s' hq' => ?_))
  cases r with
  | error er => exact hx pins σ _ _ er s' I2 hq'
  | ok fl =>
    cases fl with
    | ret u =>
      obtain ⟨v, H2, os2, bare2, un2, hok2, rv, ev, d, fs, ea, ed, hd1, q2⟩ := hq'
      subst ev
      obtain ⟨h2, g2, d2, t2, os'⟩ := s'
      obtain ⟨t0, G, J, kG, ge, hoe, na⟩ := mk_end0 (d2 := d2) (t2 := t2) I1 hsz kk un2 hok2 os2 bare2 ea ed hd1
      refine ⟨rv, hp.objs.size + 1, _, _, ⟨G, g2, d2, t2, os'⟩, _, .ref C, some d, rfl, J, kG, ge, hoe, ⟨rfl, rfl, fun vs hv => ?_⟩, rfl, rfl, na, rfl, bare2, raises_own T.exC T.tyC, q2⟩
      cases hv
      rfl
    | next => exact False.elim hq'
    | brk => exact False.elim hq'
    | cont => exact False.elim hq'
theorem zs_raiseN {x : Str} {C : Addr} {e : Expr} {te : WE} {p pos' : Pos} (tk : L2N.Takes X W) (hc : X.calm = true) (G : Ex X.prog X.w X.K X.mg X.base x C) (hr : Room 2 X.A) (hg : Gl X x) (ha : ZE X W e te) (hdb : (x == ("__debug__" : Str)) = false := by decide)
    (he : starEach [e] X.env = (false, eval e X.env) :: starEach [] X.env := by rfl) (hpl : (backTo pos (starEach [] X.env)).any (·.1) = false := by rfl) : ZS X W (.Raise (some (.Call (.Name x p) [e] [] pos)) none pos') (wRaise C te) := by
  obtain ⟨fI, fd, F, hm, T, iC, tI, hb, hn⟩ := G.ex
  refine ⟨ps_imp (L2N.ps_raise hc tk (pmk_oexN T iC tI F hr hb pass0 hg hm (L2.pa_cons ha.pe pa_nil he) hdb he hpl)) fun D σ H ⟨S, Fr, ρ, h, nx, rt, bk, ct, xe, r, rl, q, ln, lr, lb, lc, lx⟩ => ?_⟩
  refine ⟨S, Fr, ρ, h, _, _, r, rl, q, fun v h1 S1 w H1 q1 s1 r1 x1 => ⟨by simp, fun a na => ⟨a, C, w, rfl, T, hn, upd_same, fun dx hdx ne => ⟨rfl, dx, [("what", w)], upd_same, ?_, ?_, ?_⟩⟩⟩, lx.at rl⟩
  · rw [upd_ne ne, upd_same]
  · rw [upd_ne ne] at hdx; exact hdx
  · rw [upd_ne ne] at hdx
    obtain ⟨rF, sF⟩ := r1.frozen (p := dx) (u := .xd [("what", w)]) hdx
    refine lx _ _ _ _ _ w dx σ _ q1 (s1.trans sF) (rF.sup fun b o e => ?_) ((rl.mono s1).mono sF) (Rel.mono sF _ _ x1) upd_same
    by_cases c : b = dx
    · subst c
      rw [upd_same] at e ⊢
      exact e
    · rw [upd_ne c] at e
      have ba : b ≠ a := ne_of_none e na
      rw [upd_ne c, L2.del_ne ba, upd_ne ba, upd_ne c, upd_ne ba]
      exact e
end
section
variable {X : Cx} {W : WX} {x : Str} {c : Addr} {body suite : List Stmt} {b₀ : Stmt} {np pos pos' : Pos} {tb ts : WS} {subs nots : List Addr}
/-- try: tb / except of subs: ts, which may raise -/
def wTryOnlyX (subs nots : List Addr) (tb ts : WS) : WS := fun nx rt bk ct xe ρ h =>
  tb nx rt bk ct (fun C v ρ1 h1 => (C ∈ subs ∧ ts nx rt bk ct xe ρ1 h1) ∨ (C ∈ nots ∧ xe C v ρ1 h1)) ρ h
theorem zs_try_onlyX (hs : X.stack = X.env :: X.outer) (hf : X.env.frame = some X.env.locals) (hc : Names X x (.ref c)) (hpa : ∀ hd : Option Value, PassesOwnAt (model X.prog X.w) (X.A.mark hd) X.A X.env X.xe) (tk : L2.Takes X W)
    (hsub : ∀ C ∈ subs, PySem.W.exmOne X.K (.ref C) (.ref c) = some true) (hnot : ∀ C ∈ nots, PySem.W.exmOne X.K (.ref C) (.ref c) = some false)
    (hb : ∀ (W' : WX) (pn : List (Addr × Obj)) (xe : Value → Shared → Prop), L2N.Takes (X.tr pn xe) W' → PassesOwn (model X.prog X.w) X.A X.env xe → ZB (X.tr pn xe) W' body tb)
    (hsu : ∀ (a : Addr) (oe : Obj) (pn : List (Addr × Obj)), L2.Takes (L2H.suiteX X a ((a, oe) :: pn)) W → L2H.HotC (L2H.suiteX X a ((a, oe) :: pn)) → ZB (L2H.suiteX X a ((a, oe) :: pn)) W (b₀ :: suite) ts) :
    ZS X W (.Try body [.ExceptHandler (some (.Name x np)) none (b₀ :: suite) pos'] [] [] pos) (wTryOnlyX subs nots tb ts) :=
  ⟨ps_imp (L2H.ps_try_onlyX (tb := fun W' => lS X.K W' tb) (ts := fun a cls d D σ H => lS X.K W ts D σ H) (Wout := W) hs hf hc hpa tk (fun W' pn xe tk' _ ps' => (hb W' pn xe tk' ps').pss)
      (fun a oe cls d pn hz hv tks hot => (hsu a oe pn tks hot).pss))
    fun D σ H ⟨S, F, ρ, h, nx, rt, bk, ct, xe, r, rl, q, ln, lr, lb, lc, lx⟩ => ⟨S, F, ρ, h, nx, rt, bk, ct, _, r, rl, q, ln, lr, lb, lc, fun C v ρ1 h1 S1 w d σ1 H1 q1 s1 r1 rl1 rv hd => by
      rcases q1 with ⟨hC, q1⟩ | ⟨hC, q1⟩
      · exact ⟨true, hsub C hC, fun _ a na => ⟨S1, F, _, h1, nx, rt, bk, ct, _, r1, rl1, q1, ln.mono s1, lr.mono s1, lb.mono s1, lc.mono s1, lx.mono s1⟩, (fun z => by cases z)⟩
      · exact ⟨false, hnot C hC, (fun z => by cases z), fun _ => lx C v ρ1 h1 S1 w d σ1 H1 q1 s1 r1 rl1 rv hd⟩⟩⟩
end
theorem i_tryOnlyX {subs nots : List Addr} {tb ts : WS} {nx : EH} {rt : KQ} {bk ct : EH} {xe : XS} {ρ : Ev} {h : Hh}
    (q : tb nx rt bk ct (fun C v ρ1 h1 => (C ∈ subs ∧ ts nx rt bk ct xe ρ1 h1) ∨ (C ∈ nots ∧ xe C v ρ1 h1)) ρ h) : wTryOnlyX subs nots tb ts nx rt bk ct xe ρ h := q
/-! LO4 -/


/-! ### the program's reader of worlds, on any text -/
def refP (p : Nat × Nat) : RefD := .thing p.1 p.2
def thingO (l : List Nat) : Option Thing :=
  if l = [109] then some .maker else if l = [120] then some .stone
  else if l.take 1 = [98] ∧ signB (l.drop 1) = true then some (.box (sval (l.drop 1)))
  else if l.take 1 = [115] then (allO (shelfB (l.drop 1))).map fun ps => .shelf (ps.map refP)
  else if l.take 1 = [114] then (refB (l.drop 1)).map fun p => .relay (refP p) else none
def housO (l : List Nat) : Option (List Thing) := if l = [45] then some [] else allO ((spl [32] 0 [] l).map thingO)
def progO (l : List Nat) : Option Rooms := allO ((spl [32, 59, 32] 0 [] l).map housO)
theorem allO_all {α : Type} : ∀ {os : List (Option α)}, (allO os).isSome = os.all Option.isSome
  | [] => rfl
  | none :: _ => rfl
  | some x :: r => by
    show ((allO r).map _).isSome = (true && r.all Option.isSome)
    rw [Option.isSome_map, allO_all, Bool.true_and]
theorem thingV_eq (l : List Nat) : thingV l = oV Thing.v (thingO l) := by
  unfold thingV thingO
  split
  · rfl
  split
  · rfl
  split
  · rfl
  split
  · unfold shelfV
    cases ao : allO (shelfB (l.drop 1)) with
    | none =>
      rw [if_neg (by rw [← allO_all, ao]; simp)]
      rfl
    | some ps =>
      rw [if_pos (by rw [← allO_all, ao]; rfl), allO_iff ao]
      show Val.tup _ = Val.tup _
      rw [List.map_map, List.map_map]
      rfl
  · cases rb : refB (l.drop 1) with
    | none =>
      rw [if_neg (by simp)]
      split <;> rfl
    | some p =>
      by_cases c : l.take 1 = [114]
      · rw [if_pos ⟨c, rfl⟩, if_pos c]; rfl
      · rw [if_neg fun z => c z.1, if_neg c]; rfl
theorem houseP_eq (l : List Nat) : houseP l = if l = [45] then [] else ((spl [32] 0 [] l).map thingO).map (oV Thing.v) := by
  unfold houseP
  split
  · rfl
  · rw [List.map_map]
    exact List.map_congr_left fun x _ => thingV_eq x
def fs_read_world_x (cl : Str → Addr) : FS where
  P := Str
  pre := fun z vs h => vs = [.str z] ∧ z.length ≤ 90000
  post := fun z h v h' => ∃ ws, progO (tl z) = some ws ∧ okWorld ws = true ∧ v = worldV cl ws ∧ h' = h
  xpost := fun z h C x h' => (∀ ws, progO (tl z) = some ws → okWorld ws = false) ∧ C = cl "NoText" ∧ x = .str z ∧ (h' = h ∨ ∃ a, h a = none ∧ h' = hup h a (.ins (cl "World") []))
theorem c_read_world_x {cl : Str → Addr} {z : Str} {h : Hh} {E : XQ} {Q : KQ} (hz : z.length ≤ 90000) (k : ∀ ws, progO (tl z) = some ws → okWorld ws = true → Q (worldV cl ws) h) (kx : (∀ ws, progO (tl z) = some ws → okWorld ws = false) → ∀ h', (h' = h ∨ ∃ a, h a = none ∧ h' = hup h a (.ins (cl "World") [])) → E (cl "NoText") (.str z) h') : (fs_read_world_x cl).sp [.str z] h E Q :=
  ⟨z, ⟨rfl, hz⟩, fun v h' ⟨ws, a, b, c, d⟩ => by subst c d; exact k ws a b, fun C v h' ⟨a, b, c, d⟩ => by subst b c; exact kx a h' d⟩
def r_read_world_x (cl : Str → Addr) : WS :=
  wSeq (wAsg (wLc (wiL (wBM "str" mSplit (wVar 0) (wCons (wC (.str " ; ")) (wNil)))) (tg1 1) wYes (wCall fs_house_in [] (wCons (wVar 1) (wNil))) [1]) (wgName 2))
  (wSeq (wFor (wiL (wVar 2)) (wgName 3)
  (wIf (wTv (wOp wInD (wC .non) (wVar 3))) (wRaise (cl "NoText") (wVar 0)) (wNext)))
  (wTryOnlyX [cl "NoWorld"] []
  (wRet (wMake (cl "World") (fs_World___init__ cl) [] (wCons (wVar 2) (wNil))))
  (wRaise (cl "NoText") (wVar 0))))

theorem rd_read_world_x {K : Fr} {cl : Str → Addr} {p : Str} {vs h Q} {X : XQ} (gd : Good K Q) (q : (fs_read_world_x cl).pre p vs h) (hp : ∀ v h', (fs_read_world_x cl).post p h v h' → Q v h') (hx : ∀ C v h', (fs_read_world_x cl).xpost p h C v h' → X C v h') :
    r_read_world_x cl (fun _ h' => Q .non h') Q (fun _ _ => False) (fun _ _ => False) (fun C v _ h' => X C v h') (startV ["text", "part", "houses", "things"] vs) h := by
  obtain ⟨rfl, hz⟩ := q
  show r_read_world_x _ _ _ _ _ _ [some (.str p), none, none, none] h
  unfold r_read_world_x
  have e3 : tl (Str.ofString " ; ") = [32, 59, 32] := by decide +kernel
  have sp := split_parts (x := p) e3 (by simp) (by decide +kernel)
  have hpl : ∀ y ∈ Txt.split p (Str.ofString " ; "), y.length ≤ 90000 := fun y hy => Nat.le_trans (part_len e3 (by simp) (by decide +kernel) hy) hz
  have many := parts_many (x := p) e3 (by simp) (by decide +kernel)
  have ep : progO (tl p) = allO ((Txt.split p (Str.ofString " ; ")).map fun y => housO (tl y)) := by
    unfold progO
    rw [← sp, List.map_map]
    rfl
  clear sp
  walk_at "zgo"
  refine i_split (by decide +kernel) (by omega) (i_newF ?_)
  revert hpl many ep
  generalize Txt.split p (Str.ofString " ; ") = ps
  intro hpl many ep
  refine i_itsF ?_
  refine lc_inv (fun i acc h' => h' = h ∧ acc = (ps.take i).map (fun y => Val.lst (houseP (tl y))) ∧ i ≤ ps.length) ⟨rfl, by simp, Nat.zero_le _⟩ ?_
  rintro i acc h3 ⟨rfl, rfl, hi⟩
  refine ⟨trivial, fun hi2 => ?_, fun z hz2 => ?_⟩
  rotate_left
  · obtain ⟨y, hy, rfl⟩ := map_get hz2
    have hm := List.mem_of_getElem? hy
    have hil := (List.getElem?_eq_some_iff.mp hy).1
    have := hpl y hm
    walk_at "zgo"
    refine c_house_in (by omega) ?_
    exact ⟨by rw [List.length_map, List.length_take]; omega, rfl, by rw [take_snoc' hy, List.map_append]; rfl, by omega⟩
  rw [List.length_map] at hi2
  rw [List.take_of_length_le (by omega)]
  clear hi hi2 i
  refine i_newF ?_
  walk_at "zgo"
  refine for_inv (fun i ρ h' => h' = h3 ∧ i ≤ ps.length ∧ (∃ wss : List (List Thing), (ps.take i).map (fun y => housO (tl y)) = wss.map some) ∧ ∃ a b : Option Val, ρ = [some (.str p), a, some (.lst (ps.map fun y => Val.lst (houseP (tl y)))), b]) ⟨rfl, Nat.zero_le _, ⟨[], rfl⟩, _, _, rfl⟩ ?_
  rintro i ρ h' ⟨rfl, hi, ⟨wss, hw⟩, a, b, rfl⟩
  refine ⟨trivial, fun hi2 => ?_, fun z hz2 => ?_⟩
  rotate_left
  · obtain ⟨y, hy, rfl⟩ := map_get hz2
    have hm := List.mem_of_getElem? hy
    have hil := (List.getElem?_eq_some_iff.mp hy).1
    have eh := houseP_eq (tl y)
    by_cases cd : tl y = [45]
    · rw [if_pos cd] at eh
      rw [eh]
      walk_at "zgo"
      refine none_in (α := Thing) (g := Thing.d) (os := []) (n := 3) (by decide) Thing.lay (fun t => by cases t <;> rfl) (.lst []) .nil ?_
      walk_at "zgo"
      exact ⟨rfl, by omega, ⟨wss ++ [[]], by rw [take_snoc' hy, List.map_append, hw, List.map_append]; unfold housO; simp [cd]⟩, _, _, rfl⟩
    · rw [if_neg cd] at eh
      rw [eh]
      have ho : housO (tl y) = allO ((spl [32] 0 [] (tl y)).map thingO) := by unfold housO; rw [if_neg cd]
      generalize (spl [32] 0 [] (tl y)).map thingO = os at ho
      walk_at "zgo"
      refine none_in (n := 3) (by decide) Thing.lay (fun t => by cases t <;> rfl) (.lst _) (dvs_map (oV_dv Thing.dv) os) ?_
      cases ao : allO os with
      | none =>
        rw [ao] at ho
        walk_at "zgo"
        refine hx _ _ _ ⟨fun ws e => ?_, rfl, rfl, .inl rfl⟩
        rw [ep, allO_mem (List.mem_map.mpr ⟨y, hm, ho⟩)] at e
        cases e
      | some ts =>
        rw [ao] at ho
        walk_at "zgo"
        exact ⟨rfl, by omega, ⟨wss ++ [ts], by rw [take_snoc' hy, List.map_append, hw, List.map_append]; show _ ++ [housO (tl y)] = _; rw [ho]; rfl⟩, _, _, rfl⟩
  rw [List.length_map] at hi2
  rw [List.take_of_length_le (by omega)] at hw
  have epw : progO (tl p) = some wss := by rw [ep, hw, allO_some]
  have el : wss.length = ps.length := by
    have := congrArg List.length hw
    rw [List.length_map, List.length_map] at this
    omega
  have eh : (ps.map fun y => Val.lst (houseP (tl y))) = wss.map houseV := by
    apply List.ext_getElem?
    intro k
    rw [List.getElem?_map, List.getElem?_map]
    have := congrArg (fun l => l[k]?) hw
    simp only [List.getElem?_map] at this
    cases e1 : ps[k]? with
    | none => rw [e1] at this; cases e2 : wss[k]? with
      | none => rfl
      | some w => rw [e2] at this; cases this
    | some y =>
      rw [e1] at this
      cases e2 : wss[k]? with
      | none => rw [e2] at this; cases this
      | some w =>
        rw [e2] at this
        have e3 : housO (tl y) = some w := Option.some.inj this
        show some (Val.lst _) = some (Val.lst _)
        rw [houseP_eq]
        unfold housO at e3
        split at e3
        · rename_i c; cases e3; rw [if_pos c]; rfl
        · rename_i c; rw [if_neg c, oV_map e3]
  have sm : SmallW wss := by
    refine ⟨by omega, fun hs hh => ?_⟩
    obtain ⟨k, hk, rfl⟩ := List.getElem_of_mem hh
    have := congrArg (fun l => l[k]?) hw
    simp only [List.getElem?_map, List.getElem?_eq_getElem hk] at this
    have ey := List.getElem?_eq_getElem (show k < ps.length by omega)
    generalize ps[k]'(by omega) = y at ey
    rw [ey] at this
    have e3 : housO (tl y) = some wss[k] := Option.some.inj this
    have yl := hpl y (List.mem_of_getElem? ey)
    unfold housO at e3
    split at e3
    · rw [← Option.some.inj e3]; simp
    · have e4 := congrArg List.length (allO_iff e3)
      rw [List.length_map, List.length_map] at e4
      have := spl_many (S := [32]) (l := tl y) (k := 0) (acc := [])
      rw [len_tl] at yl
      omega
  rw [eh]
  walk_at "zgo"
  refine i_tryOnlyX ?_
  walk_at "zgo"
  refine c_World_try (v := roomsV wss) (HsAt.frozen wss) sm (fun good => ?_) (fun good b hb => ?_)
  · exact hp _ _ ⟨wss, epw, good, rfl, rfl⟩
  · refine .inl ⟨List.mem_singleton.mpr rfl, ?_⟩
    walk_at "zgo"
    exact hx _ _ _ ⟨fun ws e => by rw [epw] at e; cases e; exact good, rfl, rfl, .inr ⟨b, hb, rfl⟩⟩
/-! LO5 -/


/-! ### the law's reader and the program's (plain law) -/
def inN (ns : List Nat) : RefD → Prop
  | .thing a b => 0 ≤ a ∧ a < (ns.length : Int) ∧ 0 ≤ b ∧ b < ((ns.getD a.toNat 0 : Nat) : Int)
  | .made _ _ _ => False
def goodT (ns : List Nat) (th : Thing) : Prop := th.refs.length ≤ 12 ∧ ∀ r ∈ th.refs, inN ns r
theorem allO_both {α β : Type} {f g : α → Option β} {P : β → Prop} (h : ∀ x y, f x = some y ↔ g x = some y ∧ P y) : ∀ (xs : List α) (ys : List β), allO (xs.map f) = some ys ↔ allO (xs.map g) = some ys ∧ ∀ y ∈ ys, P y
  | [], ys => by
    show some [] = some ys ↔ some [] = some ys ∧ _
    constructor
    · rintro e; cases e; exact ⟨rfl, by simp⟩
    · exact fun z => z.1
  | x :: xs, ys => by
    rw [List.map_cons, List.map_cons]
    constructor
    · intro e
      cases fx : f x with
      | none => rw [fx] at e; cases e
      | some y =>
        rw [fx] at e
        obtain ⟨zs, e1, rfl⟩ := Option.map_eq_some_iff.mp (show (allO (xs.map f)).map (y :: ·) = some ys from e)
        obtain ⟨g1, p1⟩ := (h x y).mp fx
        obtain ⟨g2, p2⟩ := (allO_both h xs zs).mp e1
        refine ⟨?_, fun z hz => ?_⟩
        · rw [g1]
          show (allO (xs.map g)).map (y :: ·) = _
          rw [g2]; rfl
        · rcases List.mem_cons.mp hz with rfl | hz
          · exact p1
          · exact p2 z hz
    · rintro ⟨e, p⟩
      cases gx : g x with
      | none => rw [gx] at e; cases e
      | some y =>
        rw [gx] at e
        obtain ⟨zs, e1, rfl⟩ := Option.map_eq_some_iff.mp (show (allO (xs.map g)).map (y :: ·) = some ys from e)
        rw [(h x y).mpr ⟨gx, p y (by simp)⟩]
        show (allO (xs.map f)).map (y :: ·) = _
        rw [(allO_both h xs zs).mpr ⟨e1, fun z hz => p z (by simp [hz])⟩]
        rfl
theorem allO_map {α β : Type} {f : α → β} : ∀ os : List (Option α), allO (os.map (Option.map f)) = (allO os).map (List.map f)
  | [] => rfl
  | none :: _ => rfl
  | some x :: r => by
    show (allO (r.map (Option.map f))).map (f x :: ·) = ((allO r).map (x :: ·)).map (List.map f)
    rw [allO_map r]
    cases allO r <;> rfl
theorem refN_iff {ns : List Nat} {l : List Nat} {r : RefD} : refN ns l = some r ↔ (refB l).map refP = some r ∧ inN ns r := by
  unfold refN
  cases refB l with
  | none => simp
  | some p =>
    obtain ⟨a, b⟩ := p
    show (if a < ns.length ∧ b < ns.getD a 0 then some (RefD.thing a b) else none) = some r ↔ some (RefD.thing a b) = some r ∧ inN ns r
    have key : inN ns (.thing a b) ↔ a < ns.length ∧ b < ns.getD a 0 := by
      show 0 ≤ (a : Int) ∧ (a : Int) < (ns.length : Int) ∧ 0 ≤ (b : Int) ∧ (b : Int) < ((ns.getD ((a : Int).toNat) 0 : Nat) : Int) ↔ _
      rw [show (a : Int).toNat = a by omega]
      omega
    by_cases c : a < ns.length ∧ b < ns.getD a 0
    · rw [if_pos c]
      constructor
      · intro e; cases e; exact ⟨rfl, key.mpr c⟩
      · exact fun z => z.1
    · rw [if_neg c]
      constructor
      · intro e; cases e
      · rintro ⟨e, i⟩; cases e; exact absurd (key.mp i) c
theorem refB_comma {l : List Nat} {p : Nat × Nat} (h : refB l = some p) : 44 ∉ l := fun m => by
  unfold refB at h
  cases pr : par [46] [] l with
  | none => rw [pr] at h; cases h
  | some ab =>
    obtain ⟨a, b⟩ := ab
    rw [pr] at h
    dsimp only at h
    have e := par_eq pr
    rw [List.nil_append] at e
    cases na : numB a with
    | false => rw [na] at h; simp at h
    | true =>
      cases nb : numB b with
      | false => rw [na, nb] at h; simp at h
      | true =>
        rw [e] at m
        rcases List.mem_append.mp m with m | m
        · exact numB_free na (.inl (by decide)) m
        · rcases List.mem_cons.mp m with m | m
          · cases m
          · exact numB_free nb (.inl (by decide)) m
theorem thing_iff {ns : List Nat} {l : List Nat} {th : Thing} : thingN ns l = some th ↔ thingO l = some th ∧ goodT ns th := by
  unfold thingN thingO
  have tr : ∀ t : Thing, t.refs = [] → (some t = some th ↔ some t = some th ∧ goodT ns th) := fun t e => by
    constructor
    · intro z; cases z; exact ⟨rfl, by rw [goodT, e]; simp⟩
    · exact fun z => z.1
  by_cases c1 : l = [109]
  · rw [if_pos c1, if_pos c1]; exact tr _ rfl
  rw [if_neg c1, if_neg c1]
  by_cases c2 : l = [120]
  · rw [if_pos c2, if_pos c2]; exact tr _ rfl
  rw [if_neg c2, if_neg c2]
  by_cases c3 : l.take 1 = [98] ∧ signB (l.drop 1) = true
  · rw [if_pos c3, if_pos c3]; exact tr _ rfl
  rw [if_neg c3, if_neg c3]
  by_cases c4 : l = [115]
  · subst c4
    rw [if_pos rfl, if_pos (show List.take 1 [115] = [115] from rfl)]
    exact tr (.shelf []) rfl
  rw [if_neg c4]
  by_cases c5 : l.take 1 = [115]
  · rw [if_pos c5]
    have dn : l.drop 1 ≠ [] := fun z => c4 (by
      rw [← List.take_append_drop 1 l, c5, z]; rfl)
    have es : shelfB (l.drop 1) = (spl [44] 0 [] (l.drop 1)).map refB := by unfold shelfB; rw [if_neg dn]
    rw [es]
    have both := allO_both (f := refN ns) (g := fun x => (refB x).map refP) (P := inN ns) (fun x y => refN_iff) (spl [44] 0 [] (l.drop 1))
    have em : allO ((spl [44] 0 [] (l.drop 1)).map fun x => (refB x).map refP) = (allO ((spl [44] 0 [] (l.drop 1)).map refB)).map (List.map refP) := by rw [← allO_map, List.map_map]; rfl
    rw [em] at both
    generalize allO ((spl [44] 0 [] (l.drop 1)).map (refN ns)) = A at both
    generalize allO ((spl [44] 0 [] (l.drop 1)).map refB) = B at both
    constructor
    · intro e
      obtain ⟨rs, e1, e2⟩ := Option.bind_eq_some_iff.mp e
      obtain ⟨b1, b2⟩ := (both rs).mp e1
      unfold lastN at e2
      split at e2
      · rename_i c
        cases e2
        obtain ⟨ps, b3, b4⟩ := Option.map_eq_some_iff.mp b1
        refine ⟨by rw [b3]; exact congrArg (fun z => some (Thing.shelf z)) b4, ?_, b2⟩
        show rs.length ≤ 12
        omega
      · split at e2
        · rename_i c; rw [c5] at c; cases c
        · cases e2
    · rintro ⟨e, g1, g2⟩
      obtain ⟨ps, b3, rfl⟩ := Option.map_eq_some_iff.mp e
      have b1 := (both (ps.map refP)).mpr ⟨by rw [b3]; rfl, g2⟩
      rw [b1]
      show lastN l (ps.map refP) = _
      unfold lastN
      rw [if_pos ⟨c5, by have : (ps.map refP).length ≤ 12 := g1; omega⟩]
  rw [if_neg c5]
  by_cases c6 : l.take 1 = [114]
  · rw [if_pos c6]
    constructor
    · intro e
      obtain ⟨rs, e1, e2⟩ := Option.bind_eq_some_iff.mp e
      unfold lastN at e2
      rw [if_neg fun z => c5 z.1, if_pos c6] at e2
      match rs, e1, e2 with
      | [], _, e2 => cases e2
      | _ :: _ :: _, _, e2 => cases e2
      | [r], e1, e2 =>
        cases e2
        have e3 := allO_iff e1
        have hl := congrArg List.length e3
        rw [List.length_map] at hl
        have nc : 44 ∉ l.drop 1 := fun m => by
          have h2 := spl_two (acc := []) m
          have hl2 : (spl [44] 0 [] (l.drop 1)).length = 1 := hl
          omega
        rw [spl_one nc] at e3
        have e4 : refN ns (l.drop 1) = some r := by simpa using e3
        obtain ⟨b1, b2⟩ := refN_iff.mp e4
        obtain ⟨p, b3, rfl⟩ := Option.map_eq_some_iff.mp b1
        refine ⟨by rw [b3]; rfl, by show (1 : Nat) ≤ 12; decide, fun q hq => ?_⟩
        have : q ∈ [refP p] := hq
        rw [List.mem_singleton] at this
        rw [this]
        exact b2
    · rintro ⟨e, g1, g2⟩
      obtain ⟨p, b3, rfl⟩ := Option.map_eq_some_iff.mp e
      rw [spl_one (refB_comma b3)]
      have e4 : refN ns ([] ++ l.drop 1) = some (refP p) := refN_iff.mpr ⟨by rw [List.nil_append, b3]; rfl, g2 _ (by show refP p ∈ [refP p]; simp)⟩
      rw [List.map_cons, List.map_nil, e4]
      show lastN l [refP p] = _
      unfold lastN
      rw [if_neg fun z => c5 z.1, if_pos c6]
      rfl
  · rw [if_neg c6]
    constructor
    · intro e
      obtain ⟨rs, e1, e2⟩ := Option.bind_eq_some_iff.mp e
      unfold lastN at e2
      rw [if_neg fun z => c5 z.1, if_neg c6] at e2
      cases e2
    · rintro ⟨e, _⟩
      cases e
theorem part_iff {ns : List Nat} {l : List Nat} {hs : List Thing} : partN ns l = some hs ↔ housO l = some hs ∧ ∀ th ∈ hs, goodT ns th := by
  unfold partN housO
  by_cases c : l = [45]
  · rw [if_pos c, if_pos c]
    constructor
    · intro e; cases e; exact ⟨rfl, by simp⟩
    · exact fun z => z.1
  · rw [if_neg c, if_neg c]
    exact allO_both (fun x y => thing_iff) _ _
theorem szN_eq {l : List Nat} {hs : List Thing} (h : housO l = some hs) : szN l = hs.length := by
  unfold housO at h
  unfold szN
  split at h
  · rename_i c; rw [if_pos c, ← Option.some.inj h]; rfl
  · rename_i c
    rw [if_neg c]
    have := congrArg List.length (allO_iff h)
    rw [List.length_map, List.length_map] at this
    exact this
theorem sizes_eq {l : List Nat} {ws : Rooms} (h : progO l = some ws) : sizesN l = ws.map List.length := by
  have e := allO_iff h
  unfold sizesN
  apply List.ext_getElem?
  intro k
  have := congrArg (fun l => l[k]?) e
  simp only [List.getElem?_map] at this ⊢
  cases e1 : (spl [32, 59, 32] 0 [] l)[k]? with
  | none => rw [e1] at this; cases e2 : ws[k]? with
    | none => rfl
    | some w => rw [e2] at this; cases this
  | some y =>
    rw [e1] at this
    cases e2 : ws[k]? with
    | none => rw [e2] at this; cases this
    | some w =>
      rw [e2] at this
      exact congrArg some (szN_eq (Option.some.inj this))
theorem there_iff {ws : Rooms} {r : RefD} : isThere ws r = true ↔ inN (ws.map List.length) r := by
  cases r with
  | made => simp [isThere, inN]
  | thing a b =>
    have e : (ws.map List.length).getD a.toNat 0 = ((ws[a.toNat]?).getD []).length := by
      rw [List.getD_eq_getElem?_getD, List.getElem?_map]
      cases ws[a.toNat]? <;> rfl
    show decide _ = true ↔ (0 ≤ a ∧ a < ((ws.map List.length).length : Int) ∧ 0 ≤ b ∧ b < (((ws.map List.length).getD a.toNat 0 : Nat) : Int))
    rw [decide_eq_true_eq, e, List.length_map]
theorem houses_iff {l : List Nat} {ws : Rooms} : housesN l = some ws ↔ progO l = some ws ∧ okWorld ws = true := by
  have ok : okWorld ws = true ↔ 1 ≤ ws.length ∧ ws.length ≤ 8 ∧ ∀ hs ∈ ws, hs.length ≤ 12 ∧ ∀ th ∈ hs, goodT (ws.map List.length) th := by
    unfold okWorld
    rw [Bool.and_eq_true, Bool.and_eq_true, decide_eq_true_eq, decide_eq_true_eq, List.all_eq_true, and_assoc]
    refine and_congr Iff.rfl (and_congr Iff.rfl (forall_congr' fun hs => forall_congr' fun hh => ?_))
    unfold isGood
    rw [Bool.and_eq_true, decide_eq_true_eq, List.all_eq_true]
    refine and_congr Iff.rfl (forall_congr' fun th => forall_congr' fun ht => ?_)
    rw [Bool.and_eq_true, decide_eq_true_eq, List.all_eq_true]
    exact and_congr Iff.rfl (forall_congr' fun r => forall_congr' fun _ => there_iff)
  have pw : ∀ ns, allO ((spl [32, 59, 32] 0 [] l).map (partN ns)) = some ws ↔ progO l = some ws ∧ ∀ hs ∈ ws, ∀ th ∈ hs, goodT ns th := fun ns => allO_both (fun x y => part_iff) _ _
  unfold housesN
  constructor
  · intro e
    split at e
    · cases e
    · rename_i c
      obtain ⟨p1, p2⟩ := (pw _).mp e
      have se := sizes_eq p1
      rw [se] at c p2
      rw [List.length_map] at c
      refine ⟨p1, ok.mpr ⟨?_, by omega, fun hs hh => ⟨?_, p2 hs hh⟩⟩⟩
      · have := allO_iff p1
        cases ws with
        | nil => exact absurd (List.map_eq_nil_iff.mp this) spl_ne
        | cons => simp
      · by_cases d : hs.length ≤ 12
        · exact d
        · exact absurd (.inr ⟨hs.length, List.mem_map.mpr ⟨hs, hh, rfl⟩, by omega⟩) c
  · rintro ⟨p1, p2⟩
    obtain ⟨q1, q2, q3⟩ := ok.mp p2
    have se := sizes_eq p1
    rw [if_neg ?_]
    · rw [se]
      exact (pw _).mpr ⟨p1, fun hs hh => (q3 hs hh).2⟩
    · rw [se, List.length_map]
      rintro (z | ⟨n, hn, z⟩)
      · omega
      · obtain ⟨hs, hh, rfl⟩ := List.mem_map.mp hn
        have := (q3 hs hh).1
        omega
/-! LK51 -/


/-! LK5 -/


theorem ref_small {ns : List Nat} {r : RefD} (h : In ns r) (hn : ns.length ≤ 8) (h12 : ∀ k ∈ ns, k ≤ 12) : (refL r).length ≤ 4 := by
  cases r with
  | made => exact (show False from h).elim
  | thing a b =>
    obtain ⟨k, a0, e, b0, b1⟩ := h
    have ha := (List.getElem?_eq_some_iff.mp e).1
    have hk := h12 k (List.mem_of_getElem? e)
    have l1 : (iL a).length ≤ 1 := by
      unfold iL
      rw [if_pos a0]
      exact numL_len (k := 1) (by decide) (by omega)
    have l2 : (iL b).length ≤ 2 := by
      unfold iL
      rw [if_pos b0]
      exact numL_len (k := 2) (by decide) (by omega)
    simp [refL]
    omega
theorem lo_ref (r : RefD) : Lo (refL r) := by
  cases r <;> exact (lo_iL _).app (Lo.cons (by decide) (lo_iL _))
theorem lo_thing (th : Thing) : Lo (thL th) := by
  cases th with
  | box w => exact Lo.cons (by decide) (lo_iL _)
  | shelf rs => exact Lo.cons (by decide) (lo_join (by unfold Lo; decide) fun p hp => by
      obtain ⟨r, _, rfl⟩ := List.mem_map.mp hp
      exact lo_ref r)
  | relay r => exact Lo.cons (by decide) (lo_ref r)
  | maker => unfold thL Lo; decide
  | stone => unfold thL Lo; decide
theorem lo_ws (ws : Rooms) : Lo (wsL ws) := by
  unfold wsL
  refine lo_join (by unfold Lo; decide) fun p hp => ?_
  obtain ⟨hs, _, rfl⟩ := List.mem_map.mp hp
  unfold hsL
  split
  · unfold Lo; decide
  · refine lo_join (by unfold Lo; decide) fun q hq => ?_
    obtain ⟨th, _, rfl⟩ := List.mem_map.mp hq
    exact lo_thing th
theorem WorldOk.txt {ws : Rooms} (o : WorldOk ws) : (wsT ws).length ≤ 10000 ∧ Lo (tl (wsT ws)) := by
  have hn : (ws.map List.length).length ≤ 8 := by rw [List.length_map]; exact o.most
  have h12 : ∀ k ∈ ws.map List.length, k ≤ 12 := fun k hk => by
    obtain ⟨hs, hh, rfl⟩ := List.mem_map.mp hk
    exact o.house hs hh
  rw [len_tl, tl_wsT]
  refine ⟨?_, lo_ws ws⟩
  have th62 : ∀ hs ∈ ws, ∀ th ∈ hs, (thL th).length ≤ 62 := fun hs hh th ht => by
    have ok := o.ok hs hh th ht
    cases th with
    | box w => have := iL_len ok.1 ok.2; simp [thL]; omega
    | shelf rs =>
      have := joinL_len (S := [44]) (m := 4) (ps := rs.map refL) fun p hp => by
        obtain ⟨r, hr, rfl⟩ := List.mem_map.mp hp
        exact ref_small (ok.2 r hr) hn h12
      have h2 := ok.1
      simp [thL] at this ⊢
      omega
    | relay r => have := ref_small (show In _ r from ok) hn h12; simp [thL]; omega
    | maker => simp [thL]
    | stone => simp [thL]
  have hs756 : ∀ hs ∈ ws, (hsL hs).length ≤ 756 := fun hs hh => by
    unfold hsL
    split
    · simp
    · have := joinL_len (S := [32]) (m := 62) (ps := hs.map thL) fun p hp => by
        obtain ⟨th, ht, rfl⟩ := List.mem_map.mp hp
        exact th62 hs hh th ht
      have h2 := o.house hs hh
      simp at this ⊢
      omega
  have := joinL_len (S := [32, 59, 32]) (m := 756) (ps := ws.map hsL) fun p hp => by
    obtain ⟨hs, hh, rfl⟩ := List.mem_map.mp hp
    exact hs756 hs hh
  have h2 := o.most
  unfold wsL
  simp at this ⊢
  omega
theorem HsL.rooms5 {h : Hh} (ws : Rooms) : HsL h (roomsV ws) ws := ⟨_, .lst _, paired_of (List.length_map _) fun i x hs e1 e2 => by
  rw [List.getElem?_map, e2] at e1
  cases e1
  exact .lst _⟩
theorem four_pure4 (z : Str) : PureV 4 (.lst [.str z, .bl true, .bl true, .bl false]) := .lst (by simp) fun x hx => by
  simp only [List.mem_cons, List.not_mem_nil, or_false] at hx
  rcases hx with rfl | rfl | rfl | rfl
  · exact .str _ _
  · exact .bl _ _
  · exact .bl _ _
  · exact .bl _ _
def r_law_k05 (cl : Str → Addr) : WS :=
  wSeq (wAsg (wCall fs_law_tray [] (wCons (wVar 0) (wNil))) (wgName 1))
  (wSeq (wFor (wiR1 (wOp wAdd (wC (.int 2)) (wCB cLen (wCons (wSl wSlL (wVar 0) (wNoPart) (wPart (wC (.int 8)))) (wNil))))) (wgName 2)
  (wSeq (wAsg (wCall fs_law_draw [] (wCons (wVar 1) (wCons (wC (.int 4)) (wNil)))) (wgName 3))
  (wSeq (wAsg (wCall fs_law_draw [] (wCons (wVar 1) (wCons (wC (.int 8)) (wNil)))) (wgName 4))
  (wSeq (wAsg (wC (.str "")) (wgName 5))
  (wSeq (wIf (wTv (wOp wEqS (wVar 4) (wC (.int 7)))) (wAsg (wCall fs_law_odd [] (wCons (wVar 1) (wNil))) (wgName 5)) (wSeq (wAsg (wCall fs_law_shown [] (wCons (wCall fs_law_shorter_v1 [] (wCons (wCall fs_law_world_v1 [] (wCons (wVar 1) (wNil))) (wNil))) (wNil))) (wgName 5))
  (wFor (wiR1 (wVar 3)) (wgName 6)
  (wAsg (wCall fs_law_spoilt [] (wCons (wVar 1) (wCons (wVar 5) (wNil)))) (wgName 5)))))
  (wSeq (wAsg (wCall fs_law_houses_of [] (wCons (wVar 5) (wNil))) (wgName 7))
  (wSeq (wAsg (wC .non) (wgName 8))
  (wSeq (wAsg (wLst (wNil)) (wgName 9))
  (wSeq (wTryAs [cl "NoText"] [cl "NoWorld"] 10
  (wAsg (wCall (fs_read_world_x cl) [] (wCons (wVar 5) (wNil))) (wgName 8))
  (fun ea eC edd => wAsg (wLst (wCons (wXf ea edd (wVar 10)) (wCons (wErrIs true ea edd 10) (wCons (wErrIs true ea edd 10) (wCons (wErrIs false ea edd 10) (wNil)))))) (wgName 9)))
  (wSeq (wIf (wAnd (wTv (wIsN (wVar 7))) (wNot (wTv (wCall (fs_law_alike 5) [] (wCons (wVar 9) (wCons (wLst (wCons (wVar 5) (wCons (wC (.bl true)) (wCons (wC (.bl true)) (wCons (wC (.bl false)) (wNil)))))) (wNil))))))) (wRet (wC (.bl false))) (wNext))
  (wIf (wAnd (wTv (wNotN (wVar 7))) (wOr (wTv (wOp wNeD (wVar 9) (wLst (wNil)))) (wNot (wTv (wCall (fs_law_told_v1 cl) [] (wCons (wVar 8) (wCons (wVar 7) (wNil)))))))) (wRet (wC (.bl false))) (wNext))))))))))))
  (wRet (wC (.bl true))))

theorem rd_law_k05 {cl : Str → Addr} {vs h Q} (q : preL vs h) (hp : ∀ h', Q (.bl true) h') :
    r_law_k05 cl (fun _ h' => Q .non h') Q (fun _ _ => False) (fun _ _ => False) (fun _ _ _ _ => False) (startV ["script", "tray", "k", "spoils", "odd", "text", "j", "due", "found", "refused", "e"] vs) h := by
  obtain ⟨ns, rfl, hl, rfl⟩ := q
  show r_law_k05 _ _ _ _ _ _ [some (.scr (ns.map Val.int)), none, none, none, none, none, none, none, none, none, none] _
  unfold r_law_k05
  walk_at "zgo"
  refine c_law_tray hl fun t g h0 _ _ T0 kp0 => ?_
  walk_at "zgo"
  refine ⟨_, .scr _, i_newF ?_⟩
  have hcut : (cut (List.map Val.int ns) none (some 8)).length ≤ 8 := by
    rw [show (some (8 : Int)) = some ((8 : Nat) : Int) from rfl, cut_take, List.length_take]
    omega
  revert hcut
  generalize cut (List.map Val.int ns) none (some 8) = sc8
  intro hcut
  walk_at "zgo"
  refine for_inv (fun i ρ h' => (∃ a b c d e f g1 g2 g3 : Option Val, ρ = [some (.scr (ns.map Val.int)), some (.ref t), a, b, c, d, e, f, g1, g2, g3]) ∧ Tray h' t g (0 + 20000 * i) ∧ i ≤ 10) ⟨⟨_, _, _, _, _, _, _, _, _, rfl⟩, T0.more (by omega), by omega⟩ ?_
  rintro i ρ h1 ⟨⟨v1, v2, v3, v4, v5, v6, v7, v8, v9, rfl⟩, T1, hi⟩
  refine ⟨trivial, fun _ => ?_, fun z hz => ?_⟩
  · walk_at "zgo"
    exact hp _
  obtain ⟨hi', rfl⟩ := rng_get hz
  have hi2 : i < 10 := by omega
  generalize hR : wSeq (wAsg (wCall fs_law_houses_of [] (wCons (wVar 5) (wNil))) (wgName 7)) _ = REST
  walk_at "zgo"
  refine c_law_draw T1 (by omega) (by decide) (by decide) fun sp h2 s0 s1 T2 kp2 => ?_
  walk_at "zgo"
  refine c_law_draw T2 (by omega) (by decide) (by decide) fun od h3 o0 o1 T3 kp3 => ?_
  walk_at "zgo"
  have rest : ∀ (z : Str) (h4 : Hh) (v5 : Option Val), z.length ≤ 90000 → Lo (tl z) → Tray h4 t g (0 + 20000 * (i : Int) + 15000) → REST (fun ρ h' => (∃ a b c d e f g1 g2 g3 : Option Val, ρ = [some (.scr (ns.map Val.int)), some (.ref t), a, b, c, d, e, f, g1, g2, g3]) ∧ Tray h' t g (0 + 20000 * ((i + 1 : Nat) : Int)) ∧ i + 1 ≤ 10) Q (wRet (wC (.bl true)) (fun _ h' => Q .non h') Q (fun _ _ => False) (fun _ _ => False) fun _ _ _ _ => False) (fun ρ h' => (∃ a b c d e f g1 g2 g3 : Option Val, ρ = [some (.scr (ns.map Val.int)), some (.ref t), a, b, c, d, e, f, g1, g2, g3]) ∧ Tray h' t g (0 + 20000 * ((i + 1 : Nat) : Int)) ∧ i + 1 ≤ 10) (fun _ _ _ _ => False) [some (.scr (ns.map Val.int)), some (.ref t), some (.int (0 + (i : Int))), some (.int sp), some (.int od), some (.str z), v5, v6, v7, v8, v9] h4 := fun z h4 v5 lz lo T4 => by
    rw [← hR]
    clear hR
    walk_at "zgo"
    refine c_law_houses_of (by omega) lo ?_
    generalize hR2 : wSeq (wIf (wAnd (wTv (wIsN (wVar 7))) _) _ _) _ = REST2
    walk_at "zgo"
    refine i_newF ?_
    walk_at "zgo"
    refine i_tryAs ?_
    walk_at "zgo"
    refine c_read_world_x (by omega) (fun ws e1 e2 => ?_) (fun no h' hh => ?_)
    · walk_at "zgo"
      rw [← hR2, houses_iff.mpr ⟨e1, e2⟩]
      have okw := e2
      unfold okWorld at okw
      rw [Bool.and_eq_true, Bool.and_eq_true, decide_eq_true_eq, decide_eq_true_eq, List.all_eq_true] at okw
      obtain ⟨⟨w1, w8⟩, wg⟩ := okw
      have hg : ∀ hs ∈ ws, hs.length ≤ 12 ∧ ∀ th ∈ hs, th.refs.length ≤ 12 := fun hs hh => by
        have := wg hs hh
        unfold isGood at this
        rw [Bool.and_eq_true, decide_eq_true_eq, List.all_eq_true] at this
        refine ⟨this.1, fun th ht => ?_⟩
        have := this.2 th ht
        rw [Bool.and_eq_true, decide_eq_true_eq] at this
        exact this.1
      show wSeq _ _ _ _ _ _ _ [_, _, _, _, _, _, _, some (roomsV ws), _, _, _] _
      unfold roomsV
      walk_at "zgo"
      refine i_newF ?_
      refine i_neNil0 (.lst .nil) ?_
      walk_at "zgo"
      refine c_law_told_v1 (ws := ws) (x := roomsV ws) (HsL.rooms5 ws) ⟨by omega, fun hs hh => by have := (hg hs hh).1; omega⟩ (fun hs hh => house_pure (by have := (hg hs hh).1; omega) fun t ht => by have := (hg hs hh).2 t ht; omega) ?_
      walk_at "zgo"
      exact ⟨⟨_, _, _, _, _, _, _, _, _, rfl⟩, T4.more (by omega), by omega⟩
    · have T5 : Tray h' t g (0 + 20000 * (i : Int) + 15000) := by
        rcases hh with rfl | ⟨b, hb, rfl⟩
        · exact T4
        · obtain ⟨b1, b2⟩ := T4.new hb
          exact T4.hup b1 b2
      have en : housesN (tl z) = none := by
        cases e : housesN (tl z) with
        | none => rfl
        | some ws =>
          obtain ⟨e1, e2⟩ := houses_iff.mp e
          rw [no ws e1] at e2
          cases e2
      refine .inl ⟨List.mem_singleton.mpr rfl, fun er edd hea => ?_⟩
      dsimp only [List.set]
      walk_at "zgo"
      refine i_newF ?_
      walk_at "zgo"
      dsimp only [List.set]
      rw [← hR2, en]
      show wSeq _ _ _ _ _ _ _ [_, _, _, _, _, _, _, some .non, _, _, _] _
      walk_at "zgo"
      refine i_newF ?_
      walk_at "zgo"
      refine c_law_alike (d := 4) (four_pure4 z) ?_
      walk_at "zgo"
      exact ⟨⟨_, _, _, _, _, _, _, _, _, rfl⟩, T5.more (by omega), by omega⟩
  by_cases co : od = 7
  · walk_at "zgo"
    refine c_law_odd T3 (by omega) fun z h4 lz lo T4 kp4 => ?_
    walk_at "zgo"
    exact rest z h4 _ (by omega) lo (T4.more (by omega))
  · walk_at "zgo"
    refine c_law_world_v1 T3 (by omega) fun ws h4 ok T4 kp4 => ?_
    walk_at "zgo"
    refine c_law_shorter_v1 ok fun us oku => ?_
    walk_at "zgo"
    refine c_law_shown oku.smT ?_
    obtain ⟨tl1, tl2⟩ := oku.txt
    walk_at "zgo"
    refine for_inv (fun j ρ h' => (∃ (z : Str) (v5 : Option Val), ρ = [some (.scr (ns.map Val.int)), some (.ref t), some (.int (0 + (i : Int))), some (.int sp), some (.int od), some (.str z), v5, v6, v7, v8, v9] ∧ z.length ≤ 10400 * 2 ^ j - 400 ∧ Lo (tl z)) ∧ Tray h' t g (0 + 20000 * (i : Int) + 10000 + 10 * j) ∧ j ≤ 3) ⟨⟨_, _, rfl, by rw [Nat.pow_zero]; omega, tl2⟩, T4.more (by omega), by omega⟩ ?_
    rintro j ρ h5 ⟨⟨z, v5, rfl, lz, lo⟩, T5, hj⟩
    have lz2 : z.length ≤ 90000 := by
      have : 2 ^ j ≤ 2 ^ 3 := Nat.pow_le_pow_right (by decide) hj
      omega
    refine ⟨trivial, fun _ => ?_, fun w hw => ?_⟩
    · exact rest z h5 _ lz2 lo (T5.more (by omega))
    · obtain ⟨hj2, rfl⟩ := rng_get hw
      walk_at "zgo"
      refine c_law_spoilt T5 (by omega) (by omega) lo fun r h6 lr lor T6 => ?_
      walk_at "zgo"
      refine ⟨⟨r, _, rfl, ?_, lor⟩, T6.more (by omega), by omega⟩
      have e : 2 ^ (j + 1) = 2 * 2 ^ j := by rw [Nat.pow_succ, Nat.mul_comm]
      have p : 1 ≤ 2 ^ j := Nat.one_le_two_pow
      omega
/-!  -/
end Z
/-! HEAD -/
namespace Z
open PySem PySem.Spec L2
variable [Wrl]
namespace K05
structure Tx (w : World) (K : Fr) (mg : Str → Option Value) : Prop where
  c_World : Cls K (cl K "World")
  er_NoText : ErrC K (cl K "NoText")
  g_ValueError : mg "ValueError" = none
  g_bool : mg "bool" = none
  g_int : mg "int" = none
  g_isinstance : mg "isinstance" = none
  g_len : mg "len" = none
  g_list : mg "list" = none
  g_max : mg "max" = none
  g_range : mg "range" = none
  g_str : mg "str" = none
  g_sum : mg "sum" = none
  g_tuple : mg "tuple" = none
  gl_NoAsker : mg "NoAsker" = some (.ref (cl K "NoAsker"))
  gl_NoHouse : mg "NoHouse" = some (.ref (cl K "NoHouse"))
  gl_NoLog : mg "NoLog" = some (.ref (cl K "NoLog"))
  gl_NoRow : mg "NoRow" = some (.ref (cl K "NoRow"))
  gl_NoScript : mg "NoScript" = some (.ref (cl K "NoScript"))
  gl_NoStep : mg "NoStep" = some (.ref (cl K "NoStep"))
  gl_NoText : mg "NoText" = some (.ref (cl K "NoText"))
  gl_NoThing : mg "NoThing" = some (.ref (cl K "NoThing"))
  gl_NoWorld : mg "NoWorld" = some (.ref (cl K "NoWorld"))
  gl_NotSettled : mg "NotSettled" = some (.ref (cl K "NotSettled"))
  gl_SentError : mg "SentError" = some (.ref (cl K "SentError"))
  gl_TooMany : mg "TooMany" = some (.ref (cl K "TooMany"))
  gl_Twice : mg "Twice" = some (.ref (cl K "Twice"))
  i_MOST_FIGURES : ∃ t, mg "MOST_FIGURES" = some (.int 60 t)
  i_MOST_HOUSES : ∃ t, mg "MOST_HOUSES" = some (.int 8 t)
  i_MOST_REFS : ∃ t, mg "MOST_REFS" = some (.int 12 t)
  i_MOST_THINGS : ∃ t, mg "MOST_THINGS" = some (.int 12 t)
  kf_NoText__NoAsker : PySem.W.kitOne K (.ref (cl K "NoText")) (.ref (cl K "NoAsker")) = some false
  kf_NoText__NoHouse : PySem.W.kitOne K (.ref (cl K "NoText")) (.ref (cl K "NoHouse")) = some false
  kf_NoText__NoLog : PySem.W.kitOne K (.ref (cl K "NoText")) (.ref (cl K "NoLog")) = some false
  kf_NoText__NoRow : PySem.W.kitOne K (.ref (cl K "NoText")) (.ref (cl K "NoRow")) = some false
  kf_NoText__NoScript : PySem.W.kitOne K (.ref (cl K "NoText")) (.ref (cl K "NoScript")) = some false
  kf_NoText__NoStep : PySem.W.kitOne K (.ref (cl K "NoText")) (.ref (cl K "NoStep")) = some false
  kf_NoText__NoThing : PySem.W.kitOne K (.ref (cl K "NoText")) (.ref (cl K "NoThing")) = some false
  kf_NoText__NoWorld : PySem.W.kitOne K (.ref (cl K "NoText")) (.ref (cl K "NoWorld")) = some false
  kf_NoText__NotSettled : PySem.W.kitOne K (.ref (cl K "NoText")) (.ref (cl K "NotSettled")) = some false
  kf_NoText__TooMany : PySem.W.kitOne K (.ref (cl K "NoText")) (.ref (cl K "TooMany")) = some false
  kf_NoText__Twice : PySem.W.kitOne K (.ref (cl K "NoText")) (.ref (cl K "Twice")) = some false
  kt_NoText__SentError : PySem.W.kitOne K (.ref (cl K "NoText")) (.ref (cl K "SentError")) = some true
  ky_NoText__ValueError : PySem.W.kitOne K (.ref (cl K "NoText")) (.type "ValueError") = some true
  n_World_houses_kept : NoAttr K (cl K "World") "houses_kept"
  s_FIGURES : ∃ t, mg "FIGURES" = some (.str "0123456789" t)
  xm_NoText__NoText : PySem.W.exmOne K (.ref (cl K "NoText")) (.ref (cl K "NoText")) = some true
  xm_NoWorld__NoWorld : PySem.W.exmOne K (.ref (cl K "NoWorld")) (.ref (cl K "NoWorld")) = some true
  xn_NoWorld__NoText : PySem.W.exmOne K (.ref (cl K "NoWorld")) (.ref (cl K "NoText")) = some false
section
variable {P : Program} {w : World} {K : Fr} {mg : Str → Option Value} {base : Heap} {f : Addr} {fd : FuncData}
theorem ok_law_alike (T : Tx w K mg) (F : FunD K "_law_alike" "_law_alike" (defArgs s_law_alike) (defBody s_law_alike) (defScope s_law_alike) [] [] f fd) (gx : mg "_law_alike" = some (.ref f)) : ∀ d : Nat, FnOk P w K mg base (L2.CX P w) (3 + d) f fd ["found", "due"] (lSp K (fs_law_alike d))
  | 0 => ok_bot.mono (Nat.zero_le _)
  | d + 1 => by
    have G_law_alike : Fn P w K mg base "_law_alike" (3 + d) ["found", "due"] [] (fs_law_alike d) := ⟨_, _, [], [], ok_law_alike T F gx d, gx, F.kp, .nil, fun _ => rels_nil.mpr rfl, FunD.bindsN F fun _ _ _ _ _ _ us hl => match us, hl with | [_, _], _ => rfl⟩
    refine zdef (k := 3 + d) F sc_law_alike (fun p vs h q => by first | exact congrArg List.length q | exact congrArg List.length q.1 | (obtain ⟨_, _⟩ := p; first | exact congrArg List.length q | exact congrArg List.length q.1) | (obtain ⟨_, _, _⟩ := p; first | exact congrArg List.length q | exact congrArg List.length q.1) | (obtain ⟨_, _, _, _⟩ := p; first | exact congrArg List.length q | exact congrArg List.length q.1) | (obtain ⟨_, _, _, _, _⟩ := p; first | exact congrArg List.length q | exact congrArg List.length q.1)) fun cdv A outer s H E hr => ⟨r_law_alike d, ?_, fun p vs h Q X g q hp hx => rd_law_alike g q hp⟩
    exact zb_cons (zs_if (ztisN (zv 1)) (zb_one (zs_ret (zisN (zv 0)))) (zb_nil))
      (zb_cons (zs_if (ztv (zcallB call_isi s_isi rfl T.g_isinstance (by decide +kernel) (za_cons (zv 1) (za_cons (ztyp rfl T.g_bool (by decide +kernel)) (za_nil))))) (zb_one (zs_ret (zand (zcallB call_isi s_isi rfl T.g_isinstance (by decide +kernel) (za_cons (zv 0) (za_cons (ztyp rfl T.g_bool (by decide +kernel)) (za_nil)))) (zone (zcmp op_eq (s_eqS) (zv 0) (zv 1) (nomark _)))))) (zb_nil))
      (zb_cons (zs_if (ztv (zcallB call_isi s_isi rfl T.g_isinstance (by decide +kernel) (za_cons (zv 1) (za_cons (ztyp rfl T.g_int (by decide +kernel)) (za_nil))))) (zb_one (zs_ret (zand (zcallB call_isi s_isi rfl T.g_isinstance (by decide +kernel) (za_cons (zv 0) (za_cons (ztyp rfl T.g_int (by decide +kernel)) (za_nil)))) (zand (znot (zcallB call_isi s_isi rfl T.g_isinstance (by decide +kernel) (za_cons (zv 0) (za_cons (ztyp rfl T.g_bool (by decide +kernel)) (za_nil))))) (zone (zcmp op_eq (s_eqS) (zv 0) (zv 1) (nomark _))))))) (zb_nil))
      (zb_cons (zs_if (ztv (zcallB call_isi s_isi rfl T.g_isinstance (by decide +kernel) (za_cons (zv 1) (za_cons (ztyp rfl T.g_str (by decide +kernel)) (za_nil))))) (zb_one (zs_ret (zand (zcallB call_isi s_isi rfl T.g_isinstance (by decide +kernel) (za_cons (zv 0) (za_cons (ztyp rfl T.g_str (by decide +kernel)) (za_nil)))) (zone (zcmp op_eq (s_eqS) (zv 0) (zv 1) (nomark _)))))) (zb_nil))
      (zb_cons (zs_if (ztw (zwor (ztc op_ne (s_neS) (zcallB call_isi s_isi rfl T.g_isinstance (by decide +kernel) (za_cons (zv 0) (za_cons (ztyp rfl T.g_list (by decide +kernel)) (za_nil)))) (zcallB call_isi s_isi rfl T.g_isinstance (by decide +kernel) (za_cons (zv 1) (za_cons (ztyp rfl T.g_list (by decide +kernel)) (za_nil)))) (nomark _)) (zw1 (ztc op_ne (s_neS) (zcallB call_isi s_isi rfl T.g_isinstance (by decide +kernel) (za_cons (zv 0) (za_cons (ztyp rfl T.g_tuple (by decide +kernel)) (za_nil)))) (zcallB call_isi s_isi rfl T.g_isinstance (by decide +kernel) (za_cons (zv 1) (za_cons (ztyp rfl T.g_tuple (by decide +kernel)) (za_nil)))) (nomark _))))) (zb_one (zs_ret (zbl))) (zb_nil))
      (zb_cons (zs_if (ztc op_ne (s_neS) (zcallB call_len s_len rfl T.g_len PySem.boot_len (za_cons (zv 0) (za_nil))) (zcallB call_len s_len rfl T.g_len PySem.boot_len (za_cons (zv 1) (za_nil))) (nomark _)) (zb_one (zs_ret (zbl))) (zb_nil))
      (zb_cons (zs_for psd rfl (zi_r1 rfl T.g_range (zcallB call_len s_len rfl T.g_len PySem.boot_len (za_cons (zv 1) (za_nil)))) (zg_name (i := 2) sc_law_alike.nd rfl (Or.inl rfl))
      (zb_one (zs_if (ztnot (ztv (zcall tkd G_law_alike (hr.mono (by omega)) rfl (za_cons (zix ix_seq s_ix (zv 0) (zv 2) (fun _ _ => rfl)) (za_cons (zix ix_seq s_ix (zv 1) (zv 2) (fun _ _ => rfl)) (za_nil)))))) (zb_one (zs_ret (zbl))) (zb_nil))))
      (zb_one (zs_ret (zbl)))))))))
theorem ok_law_draw (T : Tx w K mg) (F : FunD K "_law_draw" "_law_draw" (defArgs s_law_draw) (defBody s_law_draw) (defScope s_law_draw) [] [] f fd) : FnOk P w K mg base (L2.CX P w) 3 f fd ["tray", "many"] (lSp K (fs_law_draw)) := by
  refine zdef F sc_law_draw (fun p vs h q => by first | exact congrArg List.length q | exact congrArg List.length q.1 | (obtain ⟨_, _⟩ := p; first | exact congrArg List.length q | exact congrArg List.length q.1) | (obtain ⟨_, _, _⟩ := p; first | exact congrArg List.length q | exact congrArg List.length q.1) | (obtain ⟨_, _, _, _⟩ := p; first | exact congrArg List.length q | exact congrArg List.length q.1) | (obtain ⟨_, _, _, _, _⟩ := p; first | exact congrArg List.length q | exact congrArg List.length q.1)) fun cdv A outer s H E hr => ⟨r_law_draw, ?_, fun p vs h Q X g q hp hx => rd_law_draw g q hp⟩
  exact zb_cons (zs_while psd (ztw (zwand (ztc op_lt (s_lt) (zix ix_seq s_ix (zv 0) (zint) (fun _ _ => rfl)) (zint) (nomark _)) (zw1 (ztc (op_neD hr.units) (s_neD) (zix ix_seq s_ix (zv 0) (zint) (fun _ _ => rfl)) (zlst (za_nil)) (nomark _)))))
      (zb_one (zs_asg (zbm PySem.F.plainAttrs_list PySem.F.slot_list_pop PySem.F.type_list_pop mt_popAt s_popAt (zix ix_seq s_ix (zv 0) (zint) (fun _ _ => rfl)) (za_cons (zint) (za_nil))) (zg_sub (W0 := WF) s_setL set_list (zv 0) (zint)))))
      (zb_cons (zs_if (ztc op_ge (s_ge) (zix ix_seq s_ix (zv 0) (zint) (fun _ _ => rfl)) (zint) (nomark _)) (zb_cons (zs_set (i := 2) sc_law_draw.nd rfl (Or.inl rfl) (zop op_mod s_mod (zix ix_seq s_ix (zv 0) (zint) (fun _ _ => rfl)) (zv 1)))
      (zb_cons (zs_asg (zop op_fdivW s_divW (zix ix_seq s_ix (zv 0) (zint) (fun _ _ => rfl)) (zv 1)) (zg_sub (W0 := WF) s_setL set_list (zv 0) (zint)))
      (zb_one (zs_ret (zv 2))))) (zb_nil))
      (zb_cons (zs_asg (zop op_add s_add (zix ix_seq s_ix (zv 0) (zint) (fun _ _ => rfl)) (zint)) (zg_sub (W0 := WF) s_setL set_list (zv 0) (zint)))
      (zb_cons (zs_set (i := 3) sc_law_draw.nd rfl (Or.inl rfl) (zop op_mod s_mod (zop op_add s_add (zop op_mul s_mul (zop op_add s_add (zix ix_seq s_ix (zv 0) (zint) (fun _ _ => rfl)) (zint)) (zop op_pow s_pow (zop op_add s_add (zix ix_seq s_ix (zv 0) (zint) (fun _ _ => rfl)) (zint)) (zint))) (zop op_mul s_mul (zint) (zix ix_seq s_ix (zv 0) (zint) (fun _ _ => rfl)))) (zop op_sub s_sub (zop op_pow s_pow (zint) (zint)) (zint))))
      (zb_one (zs_ret (zop op_mod s_mod (zop op_fdivW s_divW (zop op_mod s_mod (zop op_pow s_pow (zv 3) (zint)) (zop op_add s_add (zop op_pow s_pow (zint) (zint)) (zint))) (zint)) (zv 1)))))))
theorem ok_law_figures (T : Tx w K mg) (F : FunD K "_law_figures" "_law_figures" (defArgs s_law_figures) (defBody s_law_figures) (defScope s_law_figures) [] [] f fd) : FnOk P w K mg base (L2.CX P w) 3 f fd ["word"] (lSp K (fs_law_figures)) := by
  refine zdef F sc_law_figures (fun p vs h q => by first | exact congrArg List.length q | exact congrArg List.length q.1 | (obtain ⟨_, _⟩ := p; first | exact congrArg List.length q | exact congrArg List.length q.1) | (obtain ⟨_, _, _⟩ := p; first | exact congrArg List.length q | exact congrArg List.length q.1) | (obtain ⟨_, _, _, _⟩ := p; first | exact congrArg List.length q | exact congrArg List.length q.1) | (obtain ⟨_, _, _, _, _⟩ := p; first | exact congrArg List.length q | exact congrArg List.length q.1)) fun cdv A outer s H E hr => ⟨r_law_figures, ?_, fun p vs h Q X g q hp hx => rd_law_figures g q hp⟩
  exact zb_cons (zs_if (ztw (zwor (ztc op_eq (s_eqS) (zv 0) (zstr) (nomark _)) (zwor (ztc op_gt (s_gt) (zcallB call_len s_len rfl T.g_len PySem.boot_len (za_cons (zv 0) (za_nil))) (zint) (nomark _)) (zw1 (ztc (op_neD hr.units) (s_neD) (zlc (own := [("sign", 1)]) tg1_ok rfl sc_law_figures.nd (zi_str (zv 0)) (blkOk_by (own := [("sign", 1)]) (N := ["word", "sign"]) (sc := defScope s_law_figures) (by decide +kernel)) (fun _ _ _ _ _ => pg_name (i := 1) sc_law_figures.nd rfl (Or.inl rfl)) (fun _ _ _ _ _ => zts_one (ztc op_notIn_sign (s_notInSign) (zv 1) (zstr) rfl)) (fun _ _ _ _ _ => zv 1)) (zlst (za_nil)) (nomark _)))))) (zb_one (zs_ret (zbl))) (zb_nil))
      (zb_one (zs_ret (zor (zcmp op_ne (s_neS) (zix ix_seq s_ix (zv 0) (zint) (fun _ _ => rfl)) (zstr) (nomark _)) (zone (zcmp op_eq (s_eqS) (zv 0) (zstr) (nomark _))))))
theorem ok_law_ref_of (T : Tx w K mg) (F : FunD K "_law_ref_of" "_law_ref_of" (defArgs s_law_ref_of) (defBody s_law_ref_of) (defScope s_law_ref_of) [] [] f fd)
    (G_law_figures : Fn P w K mg base "_law_figures" 3 ["word"] [] (fs_law_figures)) : FnOk P w K mg base (L2.CX P w) 4 f fd ["word", "sizes"] (lSp K (fs_law_ref_of)) := by
  refine zdef F sc_law_ref_of (fun p vs h q => by first | exact congrArg List.length q | exact congrArg List.length q.1 | (obtain ⟨_, _⟩ := p; first | exact congrArg List.length q | exact congrArg List.length q.1) | (obtain ⟨_, _, _⟩ := p; first | exact congrArg List.length q | exact congrArg List.length q.1) | (obtain ⟨_, _, _, _⟩ := p; first | exact congrArg List.length q | exact congrArg List.length q.1) | (obtain ⟨_, _, _, _, _⟩ := p; first | exact congrArg List.length q | exact congrArg List.length q.1)) fun cdv A outer s H E hr => ⟨r_law_ref_of, ?_, fun p vs h Q X g q hp hx => rd_law_ref_of g q hp⟩
  exact zb_cons (zs_set (i := 2) sc_law_ref_of.nd rfl (Or.inl rfl) (zbm PySem.F.plainAttrs_str PySem.F.slot_str_split PySem.F.type_str_split mt_split s_split (zv 0) (za_cons (zstr) (za_nil))))
      (zb_cons (zs_if (ztw (zwor (ztc op_ne (s_neS) (zcallB call_len s_len rfl T.g_len PySem.boot_len (za_cons (zv 2) (za_nil))) (zint) (nomark _)) (zwor (ztnot (ztv (zcall tkd G_law_figures (hr.mono (by decide)) rfl (za_cons (zix ix_seq s_ix (zv 2) (zint) (fun _ _ => rfl)) (za_nil))))) (zw1 (ztnot (ztv (zcall tkd G_law_figures (hr.mono (by decide)) rfl (za_cons (zix ix_seq s_ix (zv 2) (zint) (fun _ _ => rfl)) (za_nil))))))))) (zb_one (zs_ret (znon))) (zb_nil))
      (zb_cons (zs_set (i := 3) sc_law_ref_of.nd rfl (Or.inl rfl) (zcallTy call_int_str s_intS rfl T.g_int (by decide +kernel) (za_cons (zix ix_seq s_ix (zv 2) (zint) (fun _ _ => rfl)) (za_nil))))
      (zb_cons (zs_set (i := 4) sc_law_ref_of.nd rfl (Or.inl rfl) (zcallTy call_int_str s_intS rfl T.g_int (by decide +kernel) (za_cons (zix ix_seq s_ix (zv 2) (zint) (fun _ _ => rfl)) (za_nil))))
      (zb_cons (zs_if (ztw (zwor (ztc op_ge (s_ge) (zv 3) (zcallB call_len s_len rfl T.g_len PySem.boot_len (za_cons (zv 1) (za_nil))) (nomark _)) (zw1 (ztc op_ge (s_ge) (zv 4) (zix ix_seq s_ix (zv 1) (zv 3) (fun _ _ => rfl)) (nomark _))))) (zb_one (zs_ret (znon))) (zb_nil))
      (zb_one (zs_ret (ztup (za_cons (zstr) (za_cons (zv 3) (za_cons (zv 4) (za_nil)))))))))))
theorem ok_law_thing_of (T : Tx w K mg) (F : FunD K "_law_thing_of" "_law_thing_of" (defArgs s_law_thing_of) (defBody s_law_thing_of) (defScope s_law_thing_of) [] [] f fd)
    (G_law_figures : Fn P w K mg base "_law_figures" 3 ["word"] [] (fs_law_figures))
    (G_law_ref_of : Fn P w K mg base "_law_ref_of" 4 ["word", "sizes"] [] (fs_law_ref_of)) : FnOk P w K mg base (L2.CX P w) 5 f fd ["word", "sizes"] (lSp K (fs_law_thing_of)) := by
  refine zdef F sc_law_thing_of (fun p vs h q => by first | exact congrArg List.length q | exact congrArg List.length q.1 | (obtain ⟨_, _⟩ := p; first | exact congrArg List.length q | exact congrArg List.length q.1) | (obtain ⟨_, _, _⟩ := p; first | exact congrArg List.length q | exact congrArg List.length q.1) | (obtain ⟨_, _, _, _⟩ := p; first | exact congrArg List.length q | exact congrArg List.length q.1) | (obtain ⟨_, _, _, _, _⟩ := p; first | exact congrArg List.length q | exact congrArg List.length q.1)) fun cdv A outer s H E hr => ⟨r_law_thing_of, ?_, fun p vs h Q X g q hp hx => rd_law_thing_of g q hp⟩
  exact zb_cons (zs_set (i := 2) sc_law_thing_of.nd rfl (Or.inl rfl) (zslice sl_str s_slS (zv 0) (zo_none) (zo_some (zint))))
      (zb_cons (zs_set (i := 3) sc_law_thing_of.nd rfl (Or.inl rfl) (zslice sl_str s_slS (zv 0) (zo_some (zint)) (zo_none)))
      (zb_cons (zs_if (ztc op_in_seq (s_inF) (zv 0) (zlst (za_cons (zstr) (za_cons (zstr) (za_nil)))) rfl) (zb_one (zs_ret (zix ix_seq s_ix (zlst (za_cons (ztup (za_cons (zstr) (za_nil))) (za_cons (ztup (za_cons (zstr) (za_nil))) (za_nil)))) (zcallTy call_int1 s_int rfl T.g_int (by decide +kernel) (za_cons (zcmp op_eq (s_eqS) (zv 0) (zstr) (nomark _)) (za_nil))) (fun _ _ => rfl)))) (zb_nil))
      (zb_cons (zs_set (i := 4) sc_law_thing_of.nd rfl (Or.inl rfl) (zand (zcmp op_eq (s_eqS) (zslice sl_str s_slS (zv 3) (zo_none) (zo_some (zint))) (zstr) (nomark _)) (zone (zcmp op_ne (s_neS) (zv 3) (zstr) (nomark _)))))
      (zb_cons (zs_if (ztw (zwand (ztc op_eq (s_eqS) (zv 2) (zstr) (nomark _)) (zw1 (ztv (zcall tkd G_law_figures (hr.mono (by decide)) rfl (za_cons (zslice sl_str s_slS (zv 3) (zo_some (zcallTy call_int1 s_int rfl T.g_int (by decide +kernel) (za_cons (zv 4) (za_nil)))) (zo_none)) (za_nil))))))) (zb_one (zs_ret (ztup (za_cons (zstr) (za_cons (zcallTy call_int_str s_intS rfl T.g_int (by decide +kernel) (za_cons (zv 3) (za_nil))) (za_nil)))))) (zb_nil))
      (zb_cons (zs_if (ztc op_eq (s_eqS) (zv 0) (zstr) (nomark _)) (zb_one (zs_ret (ztup (za_cons (zstr) (za_cons (ztup (za_nil)) (za_nil)))))) (zb_nil))
      (zb_cons (zs_setLc (i := 6) (own := [("part", 5)]) tg1_ok rfl sc_law_thing_of.nd rfl rfl (sw_true rfl rfl rfl (by decide +kernel)) (zi_list (zbm PySem.F.plainAttrs_str PySem.F.slot_str_split PySem.F.type_str_split mt_split s_split (zv 3) (za_cons (zstr) (za_nil)))) (blkOk_by (own := [("part", 5)]) (N := ["word", "sizes", "head", "rest", "below", "part", "refs"]) (sc := defScope s_law_thing_of) (by decide +kernel)) (fun _ _ _ _ _ => pg_name (i := 5) sc_law_thing_of.nd rfl (Or.inl rfl)) (fun _ _ _ _ _ => zts_nil) (fun _ _ _ _ _ => zcall takes0 G_law_ref_of (hr.mono (by decide)) rfl (za_cons (zv 5) (za_cons (zv 1) (za_nil)))))
      (zb_cons (zs_if (ztw (zwand (ztc op_eq (s_eqS) (zv 2) (zstr) (nomark _)) (zwand (ztc (op_notInD (hu65 hr)) (s_notInD) (znon) (zv 6) rfl) (zw1 (ztc op_lt (s_lt) (zcallB call_len s_len rfl T.g_len PySem.boot_len (za_cons (zv 6) (za_nil))) (zint) (nomark _)))))) (zb_one (zs_ret (ztup (za_cons (zstr) (za_cons (zcallTy call_tuple_of s_tuple rfl T.g_tuple (by decide +kernel) (za_cons (zv 6) (za_nil))) (za_nil)))))) (zb_nil))
      (zb_cons (zs_if (ztw (zwand (ztc op_eq (s_eqS) (zv 2) (zstr) (nomark _)) (zwand (ztc (op_notInD (hu65 hr)) (s_notInD) (znon) (zv 6) rfl) (zw1 (ztc op_eq (s_eqS) (zcallB call_len s_len rfl T.g_len PySem.boot_len (za_cons (zv 6) (za_nil))) (zint) (nomark _)))))) (zb_one (zs_ret (ztup (za_cons (zstr) (za_cons (zix ix_seq s_ix (zv 6) (zint) (fun _ _ => rfl)) (za_nil)))))) (zb_nil))
      (zb_one (zs_ret (znon)))))))))))
theorem ok_law_houses_of (T : Tx w K mg) (F : FunD K "_law_houses_of" "_law_houses_of" (defArgs s_law_houses_of) (defBody s_law_houses_of) (defScope s_law_houses_of) [] [] f fd)
    (G_law_thing_of : Fn P w K mg base "_law_thing_of" 5 ["word", "sizes"] [] (fs_law_thing_of)) : FnOk P w K mg base (L2.CX P w) 6 f fd ["text"] (lSp K (fs_law_houses_of)) := by
  refine zdef F sc_law_houses_of (fun p vs h q => by first | exact congrArg List.length q | exact congrArg List.length q.1 | (obtain ⟨_, _⟩ := p; first | exact congrArg List.length q | exact congrArg List.length q.1) | (obtain ⟨_, _, _⟩ := p; first | exact congrArg List.length q | exact congrArg List.length q.1) | (obtain ⟨_, _, _, _⟩ := p; first | exact congrArg List.length q | exact congrArg List.length q.1) | (obtain ⟨_, _, _, _, _⟩ := p; first | exact congrArg List.length q | exact congrArg List.length q.1)) fun cdv A outer s H E hr => ⟨r_law_houses_of, ?_, fun p vs h Q X g q hp hx => rd_law_houses_of g q hp⟩
  exact zb_cons (zs_setLc (i := 2) (own := [("part", 1)]) tg1_ok rfl sc_law_houses_of.nd rfl rfl (sw_true rfl rfl rfl (by decide +kernel)) (zi_list (zbm PySem.F.plainAttrs_str PySem.F.slot_str_split PySem.F.type_str_split mt_split s_split (zv 0) (za_cons (zstr) (za_nil)))) (blkOk_by (own := [("part", 1)]) (N := ["text", "part", "parts", "sizes", "houses", "things", "word"]) (sc := defScope s_law_houses_of) (by decide +kernel)) (fun _ _ _ _ _ => pg_name (i := 1) sc_law_houses_of.nd rfl (Or.inl rfl)) (fun _ _ _ _ _ => zts_nil) (fun _ _ _ _ _ => zbm PySem.F.plainAttrs_str PySem.F.slot_str_split PySem.F.type_str_split mt_split s_split (zv 1) (za_cons (zstr) (za_nil))))
      (zb_cons (zs_set (i := 3) sc_law_houses_of.nd rfl (Or.inr rfl) (zlc (own := [("part", 1)]) tg1_ok rfl sc_law_houses_of.nd (zi_list (zv 2)) (blkOk_by (own := [("part", 1)]) (N := ["text", "part", "parts", "sizes", "houses", "things", "word"]) (sc := defScope s_law_houses_of) (by decide +kernel)) (fun _ _ _ _ _ => pg_name (i := 1) sc_law_houses_of.nd rfl (Or.inl rfl)) (fun _ _ _ _ _ => zts_nil) (fun _ _ _ _ _ => zop op_mul s_mul (zcallB call_len s_len rfl T.g_len PySem.boot_len (za_cons (zv 1) (za_nil))) (zcallTy call_int1 s_int rfl T.g_int (by decide +kernel) (za_cons (zcmp (op_neD hr.units) (s_neD) (zv 1) (zlst (za_cons (zstr) (za_nil))) (nomark _)) (za_nil))))))
      (zb_cons (zs_if (ztw (zwor (ztc op_gt (s_gt) (zcallB call_len s_len rfl T.g_len PySem.boot_len (za_cons (zv 2) (za_nil))) (zint) (nomark _)) (zw1 (ztc op_gt (s_gt) (zcallB (cr_max rfl) s_maxL rfl T.g_max (by decide +kernel) (za_cons (zv 3) (za_nil))) (zint) (nomark _))))) (zb_one (zs_ret (znon))) (zb_nil))
      (zb_cons (zs_set (i := 4) sc_law_houses_of.nd rfl (Or.inl rfl) (zlst (za_nil)))
      (zb_cons (zs_for psd rfl (zi_list (zv 2)) (zg_name (i := 1) sc_law_houses_of.nd rfl (Or.inl rfl))
      (zb_cons (zs_set (i := 5) sc_law_houses_of.nd rfl (Or.inl rfl) (zlst (za_nil)))
      (zb_cons (zs_if (ztc (op_neD hr.units) (s_neD) (zv 1) (zlst (za_cons (zstr) (za_nil))) (nomark _)) (zb_one (zs_setLc (i := 5) (own := [("word", 6)]) tg1_ok rfl sc_law_houses_of.nd rfl rfl (sw_true rfl rfl rfl (by decide +kernel)) (zi_list (zv 1)) (blkOk_by (own := [("word", 6)]) (N := ["text", "part", "parts", "sizes", "houses", "things", "word"]) (sc := defScope s_law_houses_of) (by decide +kernel)) (fun _ _ _ _ _ => pg_name (i := 6) sc_law_houses_of.nd rfl (Or.inl rfl)) (fun _ _ _ _ _ => zts_nil) (fun _ _ _ _ _ => zcall takes0 G_law_thing_of (hr.mono (by decide)) rfl (za_cons (zv 6) (za_cons (zv 3) (za_nil)))))) (zb_nil))
      (zb_cons (zs_if (ztc (op_inD (hu65 hr)) (s_inD) (znon) (zv 5) rfl) (zb_one (zs_ret (znon))) (zb_nil))
      (zb_one (zs_expr (zbm PySem.F.plainAttrs_list PySem.F.slot_list_append PySem.F.type_list_append mt_append s_append (zv 4) (za_cons (zv 5) (za_nil)))))))))
      (zb_one (zs_ret (zv 4)))))))
theorem ok_law_odd (T : Tx w K mg) (F : FunD K "_law_odd" "_law_odd" (defArgs s_law_odd) (defBody s_law_odd) (defScope s_law_odd) [] [] f fd)
    (G_law_draw : Fn P w K mg base "_law_draw" 3 ["tray", "many"] [] (fs_law_draw)) : FnOk P w K mg base (L2.CX P w) 4 f fd ["tray"] (lSp K (fs_law_odd)) := by
  refine zdef F sc_law_odd (fun p vs h q => by first | exact congrArg List.length q | exact congrArg List.length q.1 | (obtain ⟨_, _⟩ := p; first | exact congrArg List.length q | exact congrArg List.length q.1) | (obtain ⟨_, _, _⟩ := p; first | exact congrArg List.length q | exact congrArg List.length q.1) | (obtain ⟨_, _, _, _⟩ := p; first | exact congrArg List.length q | exact congrArg List.length q.1) | (obtain ⟨_, _, _, _, _⟩ := p; first | exact congrArg List.length q | exact congrArg List.length q.1)) fun cdv A outer s H E hr => ⟨r_law_odd, ?_, fun p vs h Q X g q hp hx => rd_law_odd g q hp⟩
  exact zb_cons (zs_set (i := 1) sc_law_odd.nd rfl (Or.inl rfl) (zlst (za_cons (zstr) (za_cons (zstr) (za_cons (zstr) (za_cons (zstr) (za_cons (zstr) (za_cons (zstr) (za_cons (zstr) (za_cons (zstr) (za_cons (zstr) (za_cons (zstr) (za_cons (zstr) (za_cons (zstr) (za_cons (zstr) (za_cons (zstr) (za_cons (zstr) (za_nil))))))))))))))))))
      (zb_cons (zs_set (i := 1) sc_law_odd.nd rfl (Or.inl rfl) (zop op_cat s_cat (zv 1) (zlst (za_cons (zstr) (za_cons (zstr) (za_cons (zstr) (za_cons (zstr) (za_cons (zstr) (za_cons (zstr) (za_cons (zstr) (za_cons (zstr) (za_cons (zstr) (za_cons (zstr) (za_cons (zstr) (za_cons (zstr) (za_cons (zstr) (za_nil)))))))))))))))))
      (zb_cons (zs_set (i := 1) sc_law_odd.nd rfl (Or.inl rfl) (zop op_cat s_cat (zv 1) (zlst (za_cons (zstr) (za_cons (zstr) (za_nil))))))
      (zb_one (zs_ret (zix ix_seq s_ix (zv 1) (zcall tkd G_law_draw (hr.mono (by decide)) rfl (za_cons (zv 0) (za_cons (zcallB call_len s_len rfl T.g_len PySem.boot_len (za_cons (zv 1) (za_nil))) (za_nil)))) (fun _ _ => rfl))))))
theorem ok_law_ref_shown (T : Tx w K mg) (F : FunD K "_law_ref_shown" "_law_ref_shown" (defArgs s_law_ref_shown) (defBody s_law_ref_shown) (defScope s_law_ref_shown) [] [] f fd) : FnOk P w K mg base (L2.CX P w) 3 f fd ["ref"] (lSp K (fs_law_ref_shown)) := by
  refine zdef F sc_law_ref_shown (fun p vs h q => by first | exact congrArg List.length q | exact congrArg List.length q.1 | (obtain ⟨_, _⟩ := p; first | exact congrArg List.length q | exact congrArg List.length q.1) | (obtain ⟨_, _, _⟩ := p; first | exact congrArg List.length q | exact congrArg List.length q.1) | (obtain ⟨_, _, _, _⟩ := p; first | exact congrArg List.length q | exact congrArg List.length q.1) | (obtain ⟨_, _, _, _, _⟩ := p; first | exact congrArg List.length q | exact congrArg List.length q.1)) fun cdv A outer s H E hr => ⟨r_law_ref_shown, ?_, fun p vs h Q X g q hp hx => rd_law_ref_shown g q hp⟩
  exact zb_one (zs_ret (zop op_add_str s_addS (zop op_add_str s_addS (zcallTy call_str_int s_str rfl T.g_str (by decide +kernel) (za_cons (zix ix_seq s_ix (zv 0) (zint) (fun _ _ => rfl)) (za_nil))) (zstr)) (zcallTy call_str_int s_str rfl T.g_str (by decide +kernel) (za_cons (zix ix_seq s_ix (zv 0) (zint) (fun _ _ => rfl)) (za_nil)))))
theorem ok_law_thing_shown (T : Tx w K mg) (F : FunD K "_law_thing_shown" "_law_thing_shown" (defArgs s_law_thing_shown) (defBody s_law_thing_shown) (defScope s_law_thing_shown) [] [] f fd)
    (G_law_ref_shown : Fn P w K mg base "_law_ref_shown" 3 ["ref"] [] (fs_law_ref_shown)) : FnOk P w K mg base (L2.CX P w) 4 f fd ["thing"] (lSp K (fs_law_thing_shown)) := by
  refine zdef F sc_law_thing_shown (fun p vs h q => by first | exact congrArg List.length q | exact congrArg List.length q.1 | (obtain ⟨_, _⟩ := p; first | exact congrArg List.length q | exact congrArg List.length q.1) | (obtain ⟨_, _, _⟩ := p; first | exact congrArg List.length q | exact congrArg List.length q.1) | (obtain ⟨_, _, _, _⟩ := p; first | exact congrArg List.length q | exact congrArg List.length q.1) | (obtain ⟨_, _, _, _, _⟩ := p; first | exact congrArg List.length q | exact congrArg List.length q.1)) fun cdv A outer s H E hr => ⟨r_law_thing_shown, ?_, fun p vs h Q X g q hp hx => rd_law_thing_shown g q hp⟩
  exact zb_cons (zs_if (ztc op_eq (s_eqS) (zix ix_seq s_ix (zv 0) (zint) (fun _ _ => rfl)) (zstr) (nomark _)) (zb_one (zs_ret (zop op_add_str s_addS (zstr) (zcallTy call_str_int s_str rfl T.g_str (by decide +kernel) (za_cons (zix ix_seq s_ix (zv 0) (zint) (fun _ _ => rfl)) (za_nil)))))) (zb_nil))
      (zb_cons (zs_if (ztc op_eq (s_eqS) (zix ix_seq s_ix (zv 0) (zint) (fun _ _ => rfl)) (zstr) (nomark _)) (zb_one (zs_ret (zop op_add_str s_addS (zstr) (zbm PySem.F.plainAttrs_str PySem.F.slot_str_join PySem.F.type_str_join mt_join s_join (zstr) (za_cons (zlc (own := [("ref", 1)]) tg1_ok rfl sc_law_thing_shown.nd (zi_tup (zix ix_seq s_ix (zv 0) (zint) (fun _ _ => rfl))) (blkOk_by (own := [("ref", 1)]) (N := ["thing", "ref"]) (sc := defScope s_law_thing_shown) (by decide +kernel)) (fun _ _ _ _ _ => pg_name (i := 1) sc_law_thing_shown.nd rfl (Or.inl rfl)) (fun _ _ _ _ _ => zts_nil) (fun _ _ _ _ _ => zcall takes0 G_law_ref_shown (hr.mono (by decide)) rfl (za_cons (zv 1) (za_nil)))) (za_nil)))))) (zb_nil))
      (zb_cons (zs_if (ztc op_eq (s_eqS) (zix ix_seq s_ix (zv 0) (zint) (fun _ _ => rfl)) (zstr) (nomark _)) (zb_one (zs_ret (zop op_add_str s_addS (zstr) (zcall tkd G_law_ref_shown (hr.mono (by decide)) rfl (za_cons (zix ix_seq s_ix (zv 0) (zint) (fun _ _ => rfl)) (za_nil)))))) (zb_nil))
      (zb_one (zs_ret (zix ix_seq s_ix (zlst (za_cons (zstr) (za_cons (zstr) (za_nil)))) (zcallTy call_int1 s_int rfl T.g_int (by decide +kernel) (za_cons (zcmp op_eq (s_eqS) (zix ix_seq s_ix (zv 0) (zint) (fun _ _ => rfl)) (zstr) (nomark _)) (za_nil))) (fun _ _ => rfl))))))
theorem ok_law_shown (T : Tx w K mg) (F : FunD K "_law_shown" "_law_shown" (defArgs s_law_shown) (defBody s_law_shown) (defScope s_law_shown) [] [] f fd)
    (G_law_thing_shown : Fn P w K mg base "_law_thing_shown" 4 ["thing"] [] (fs_law_thing_shown)) : FnOk P w K mg base (L2.CX P w) 5 f fd ["houses"] (lSp K (fs_law_shown)) := by
  refine zdef F sc_law_shown (fun p vs h q => by first | exact congrArg List.length q | exact congrArg List.length q.1 | (obtain ⟨_, _⟩ := p; first | exact congrArg List.length q | exact congrArg List.length q.1) | (obtain ⟨_, _, _⟩ := p; first | exact congrArg List.length q | exact congrArg List.length q.1) | (obtain ⟨_, _, _, _⟩ := p; first | exact congrArg List.length q | exact congrArg List.length q.1) | (obtain ⟨_, _, _, _, _⟩ := p; first | exact congrArg List.length q | exact congrArg List.length q.1)) fun cdv A outer s H E hr => ⟨r_law_shown, ?_, fun p vs h Q X g q hp hx => rd_law_shown g q hp⟩
  exact zb_cons (zs_set (i := 1) sc_law_shown.nd rfl (Or.inl rfl) (zlst (za_nil)))
      (zb_cons (zs_for psd rfl (zi_list (zv 0)) (zg_name (i := 2) sc_law_shown.nd rfl (Or.inl rfl))
      (zb_cons (zs_set (i := 4) sc_law_shown.nd rfl (Or.inl rfl) (zbm PySem.F.plainAttrs_str PySem.F.slot_str_join PySem.F.type_str_join mt_join s_join (zstr) (za_cons (zlc (own := [("thing", 3)]) tg1_ok rfl sc_law_shown.nd (zi_list (zv 2)) (blkOk_by (own := [("thing", 3)]) (N := ["houses", "parts", "things", "thing", "part"]) (sc := defScope s_law_shown) (by decide +kernel)) (fun _ _ _ _ _ => pg_name (i := 3) sc_law_shown.nd rfl (Or.inl rfl)) (fun _ _ _ _ _ => zts_nil) (fun _ _ _ _ _ => zcall takes0 G_law_thing_shown (hr.mono (by decide)) rfl (za_cons (zv 3) (za_nil)))) (za_nil))))
      (zb_cons (zs_if (ztc (op_eqD hr.units) (s_eqD) (zv 2) (zlst (za_nil)) (nomark _)) (zb_one (zs_set (i := 4) sc_law_shown.nd rfl (Or.inl rfl) (zstr))) (zb_nil))
      (zb_one (zs_expr (zbm PySem.F.plainAttrs_list PySem.F.slot_list_append PySem.F.type_list_append mt_append s_append (zv 1) (za_cons (zv 4) (za_nil))))))))
      (zb_one (zs_ret (zbm PySem.F.plainAttrs_str PySem.F.slot_str_join PySem.F.type_str_join mt_join s_join (zstr) (za_cons (zv 1) (za_nil))))))
theorem ok_law_shorter (T : Tx w K mg) (F : FunD K "_law_shorter" "_law_shorter" (defArgs s_law_shorter) (defBody s_law_shorter) (defScope s_law_shorter) [] [] f fd)
    (G_law_shown : Fn P w K mg base "_law_shown" 5 ["houses"] [] (fs_law_shown)) : FnOk P w K mg base (L2.CX P w) 6 f fd ["houses"] (lSp K (fs_law_shorter_v1)) := by
  refine zdef F sc_law_shorter (fun p vs h q => by first | exact congrArg List.length q | exact congrArg List.length q.1 | (obtain ⟨_, _⟩ := p; first | exact congrArg List.length q | exact congrArg List.length q.1) | (obtain ⟨_, _, _⟩ := p; first | exact congrArg List.length q | exact congrArg List.length q.1) | (obtain ⟨_, _, _, _⟩ := p; first | exact congrArg List.length q | exact congrArg List.length q.1) | (obtain ⟨_, _, _, _, _⟩ := p; first | exact congrArg List.length q | exact congrArg List.length q.1)) fun cdv A outer s H E hr => ⟨r_law_shorter_v1, ?_, fun p vs h Q X g q hp hx => rd_law_shorter_v1 g q hp⟩
  exact zb_cons (zs_if (ztc op_le (s_le) (zcallB call_len s_len rfl T.g_len PySem.boot_len (za_cons (zcall tkd G_law_shown (hr.mono (by decide)) rfl (za_cons (zv 0) (za_nil))) (za_nil))) (zint) (nomark _)) (zb_one (zs_ret (zv 0))) (zb_nil))
      (zb_cons (zs_set (i := 1) sc_law_shorter.nd rfl (Or.inl rfl) (zlst (za_nil)))
      (zb_cons (zs_for psd rfl (zi_list (zv 0)) (zg_name (i := 2) sc_law_shorter.nd rfl (Or.inl rfl))
      (zb_cons (zs_set (i := 3) sc_law_shorter.nd rfl (Or.inl rfl) (zlst (za_nil)))
      (zb_cons (zs_for psd rfl (zi_list (zv 2)) (zg_name (i := 4) sc_law_shorter.nd rfl (Or.inl rfl))
      (zb_cons (zs_if (ztc op_eq (s_eqS) (zix ix_seq s_ix (zv 4) (zint) (fun _ _ => rfl)) (zstr) (nomark _)) (zb_one (zs_set (i := 4) sc_law_shorter.nd rfl (Or.inl rfl) (ztup (za_cons (zstr) (za_cons (zop op_mod s_mod (zix ix_seq s_ix (zv 4) (zint) (fun _ _ => rfl)) (zint)) (za_nil)))))) (zb_nil))
      (zb_cons (zs_if (ztc op_eq (s_eqS) (zix ix_seq s_ix (zv 4) (zint) (fun _ _ => rfl)) (zstr) (nomark _)) (zb_one (zs_set (i := 4) sc_law_shorter.nd rfl (Or.inl rfl) (ztup (za_cons (zstr) (za_cons (zslice sl_tupA s_slT (zix ix_seq s_ix (zv 4) (zint) (fun _ _ => rfl)) (zo_none) (zo_some (zint))) (za_nil)))))) (zb_nil))
      (zb_one (zs_expr (zbm PySem.F.plainAttrs_list PySem.F.slot_list_append PySem.F.type_list_append mt_append s_append (zv 3) (za_cons (zv 4) (za_nil))))))))
      (zb_one (zs_expr (zbm PySem.F.plainAttrs_list PySem.F.slot_list_append PySem.F.type_list_append mt_append s_append (zv 1) (za_cons (zv 3) (za_nil))))))))
      (zb_one (zs_ret (zv 1)))))
theorem ok_law_sign (T : Tx w K mg) (F : FunD K "_law_sign" "_law_sign" (defArgs s_law_sign) (defBody s_law_sign) (defScope s_law_sign) [] [] f fd)
    (G_law_draw : Fn P w K mg base "_law_draw" 3 ["tray", "many"] [] (fs_law_draw)) : FnOk P w K mg base (L2.CX P w) 4 f fd ["tray"] (lSp K (fs_law_sign_v1)) := by
  refine zdef F sc_law_sign (fun p vs h q => by first | exact congrArg List.length q | exact congrArg List.length q.1 | (obtain ⟨_, _⟩ := p; first | exact congrArg List.length q | exact congrArg List.length q.1) | (obtain ⟨_, _, _⟩ := p; first | exact congrArg List.length q | exact congrArg List.length q.1) | (obtain ⟨_, _, _, _⟩ := p; first | exact congrArg List.length q | exact congrArg List.length q.1) | (obtain ⟨_, _, _, _, _⟩ := p; first | exact congrArg List.length q | exact congrArg List.length q.1)) fun cdv A outer s H E hr => ⟨r_law_sign_v1, ?_, fun p vs h Q X g q hp hx => rd_law_sign_v1 g q hp⟩
  exact zb_cons (zs_if (ztc op_eq (s_eqS) (zcall tkd G_law_draw (hr.mono (by decide)) rfl (za_cons (zv 0) (za_cons (zint) (za_nil)))) (zint) (nomark _)) (zb_cons (zs_set (i := 1) sc_law_sign.nd rfl (Or.inl rfl) (zstr))
      (zb_one (zs_ret (zix ix_seq s_ix (zv 1) (zcall tkd G_law_draw (hr.mono (by decide)) rfl (za_cons (zv 0) (za_cons (zcallB call_len s_len rfl T.g_len PySem.boot_len (za_cons (zv 1) (za_nil))) (za_nil)))) (fun _ _ => rfl))))) (zb_nil))
      (zb_cons (zs_set (i := 1) sc_law_sign.nd rfl (Or.inl rfl) (zstr))
      (zb_cons (zs_set (i := 1) sc_law_sign.nd rfl (Or.inl rfl) (zop op_add_str s_addS (zv 1) (zstr)))
      (zb_one (zs_ret (zix ix_seq s_ix (zv 1) (zcall tkd G_law_draw (hr.mono (by decide)) rfl (za_cons (zv 0) (za_cons (zcallB call_len s_len rfl T.g_len PySem.boot_len (za_cons (zv 1) (za_nil))) (za_nil)))) (fun _ _ => rfl))))))
theorem ok_law_word (T : Tx w K mg) (F : FunD K "_law_word" "_law_word" (defArgs s_law_word) (defBody s_law_word) (defScope s_law_word) [] [] f fd)
    (G_law_draw : Fn P w K mg base "_law_draw" 3 ["tray", "many"] [] (fs_law_draw)) : FnOk P w K mg base (L2.CX P w) 4 f fd ["tray"] (lSp K (fs_law_word_v1)) := by
  refine zdef F sc_law_word (fun p vs h q => by first | exact congrArg List.length q | exact congrArg List.length q.1 | (obtain ⟨_, _⟩ := p; first | exact congrArg List.length q | exact congrArg List.length q.1) | (obtain ⟨_, _, _⟩ := p; first | exact congrArg List.length q | exact congrArg List.length q.1) | (obtain ⟨_, _, _, _⟩ := p; first | exact congrArg List.length q | exact congrArg List.length q.1) | (obtain ⟨_, _, _, _, _⟩ := p; first | exact congrArg List.length q | exact congrArg List.length q.1)) fun cdv A outer s H E hr => ⟨r_law_word_v1, ?_, fun p vs h Q X g q hp hx => rd_law_word_v1 g q hp⟩
  exact zb_cons (zs_set (i := 1) sc_law_word.nd rfl (Or.inl rfl) (zcall tkd G_law_draw (hr.mono (by decide)) rfl (za_cons (zv 0) (za_cons (zint) (za_nil)))))
      (zb_cons (zs_set (i := 2) sc_law_word.nd rfl (Or.inl rfl) (zop op_mulS s_mulS (zstr) (zint)))
      (zb_cons (zs_set (i := 3) sc_law_word.nd rfl (Or.inl rfl) (zlst (za_cons (zop op_add_str s_addS (zop op_add_str s_addS (zstr) (zv 2)) (zstr)) (za_cons (zop op_add_str s_addS (zop op_add_str s_addS (zstr) (zv 2)) (zstr)) (za_cons (zop op_add_str s_addS (zop op_add_str s_addS (zstr) (zv 2)) (zstr)) (za_cons (zop op_add_str s_addS (zop op_add_str s_addS (zstr) (zv 2)) (zstr)) (za_cons (zop op_add_str s_addS (zop op_add_str s_addS (zstr) (zv 2)) (zstr)) (za_cons (zstr) (za_nil)))))))))
      (zb_cons (zs_set (i := 3) sc_law_word.nd rfl (Or.inl rfl) (zop op_cat s_cat (zv 3) (zlst (za_cons (zstr) (za_cons (zstr) (za_cons (zstr) (za_cons (zstr) (za_cons (zstr) (za_cons (zstr) (za_cons (zstr) (za_cons (zstr) (za_cons (zstr) (za_cons (zstr) (za_cons (zstr) (za_cons (zstr) (za_nil))))))))))))))))
      (zb_cons (zs_set (i := 3) sc_law_word.nd rfl (Or.inl rfl) (zop op_cat s_cat (zv 3) (zlst (za_cons (zstr) (za_cons (zstr) (za_cons (zstr) (za_cons (zstr) (za_cons (zstr) (za_cons (zstr) (za_cons (zstr) (za_cons (zstr) (za_cons (zstr) (za_cons (zstr) (za_cons (zstr) (za_cons (zstr) (za_nil))))))))))))))))
      (zb_one (zs_ret (zix ix_seq s_ix (zv 3) (zv 1) (fun _ _ => rfl))))))))
theorem ok_law_spoilt (T : Tx w K mg) (F : FunD K "_law_spoilt" "_law_spoilt" (defArgs s_law_spoilt) (defBody s_law_spoilt) (defScope s_law_spoilt) [] [] f fd)
    (G_law_draw : Fn P w K mg base "_law_draw" 3 ["tray", "many"] [] (fs_law_draw))
    (G_law_sign : Fn P w K mg base "_law_sign" 4 ["tray"] [] (fs_law_sign_v1))
    (G_law_word : Fn P w K mg base "_law_word" 4 ["tray"] [] (fs_law_word_v1)) : FnOk P w K mg base (L2.CX P w) 5 f fd ["tray", "text"] (lSp K (fs_law_spoilt)) := by
  refine zdef F sc_law_spoilt (fun p vs h q => by first | exact congrArg List.length q | exact congrArg List.length q.1 | (obtain ⟨_, _⟩ := p; first | exact congrArg List.length q | exact congrArg List.length q.1) | (obtain ⟨_, _, _⟩ := p; first | exact congrArg List.length q | exact congrArg List.length q.1) | (obtain ⟨_, _, _, _⟩ := p; first | exact congrArg List.length q | exact congrArg List.length q.1) | (obtain ⟨_, _, _, _, _⟩ := p; first | exact congrArg List.length q | exact congrArg List.length q.1)) fun cdv A outer s H E hr => ⟨r_law_spoilt, ?_, fun p vs h Q X g q hp hx => rd_law_spoilt g q hp⟩
  exact zb_cons (zs_set (i := 2) sc_law_spoilt.nd rfl (Or.inl rfl) (zcall tkd G_law_draw (hr.mono (by decide)) rfl (za_cons (zv 0) (za_cons (zint) (za_nil)))))
      (zb_cons (zs_if (ztc op_lt (s_lt) (zv 2) (zint) (nomark _)) (zb_cons (zs_set (i := 3) sc_law_spoilt.nd rfl (Or.inl rfl) (zcall tkd G_law_draw (hr.mono (by decide)) rfl (za_cons (zv 0) (za_cons (zop op_add s_add (zcallB call_len s_len rfl T.g_len PySem.boot_len (za_cons (zv 1) (za_nil))) (zint)) (za_nil)))))
      (zb_one (zs_ret (zop op_add_str s_addS (zop op_add_str s_addS (zslice sl_str s_slS (zv 1) (zo_none) (zo_some (zv 3))) (zix ix_seq s_ix (zlst (za_cons (zstr) (za_cons (zcall tkd G_law_sign (hr.mono (by decide)) rfl (za_cons (zv 0) (za_nil))) (za_nil)))) (zcallTy call_int1 s_int rfl T.g_int (by decide +kernel) (za_cons (zcmp op_gt (s_gt) (zv 2) (zint) (nomark _)) (za_nil))) (fun _ _ => rfl))) (zslice sl_str s_slS (zv 1) (zo_some (zop op_add s_add (zv 3) (zcallTy call_int1 s_int rfl T.g_int (by decide +kernel) (za_cons (zcmp op_lt (s_lt) (zv 2) (zint) (nomark _)) (za_nil))))) (zo_none)))))) (zb_nil))
      (zb_cons (zs_set (i := 4) sc_law_spoilt.nd rfl (Or.inl rfl) (zbm PySem.F.plainAttrs_str PySem.F.slot_str_split PySem.F.type_str_split mt_split s_split (zv 1) (za_cons (zstr) (za_nil))))
      (zb_cons (zs_set (i := 3) sc_law_spoilt.nd rfl (Or.inl rfl) (zcall tkd G_law_draw (hr.mono (by decide)) rfl (za_cons (zv 0) (za_cons (zcallB call_len s_len rfl T.g_len PySem.boot_len (za_cons (zv 4) (za_nil))) (za_nil)))))
      (zb_cons (zs_if (ztc op_eq (s_eqS) (zv 2) (zint) (nomark _)) (zb_one (zs_asg (zcall tkd G_law_word (hr.mono (by decide)) rfl (za_cons (zv 0) (za_nil))) (zg_sub (W0 := WF) s_setL set_list (zv 4) (zv 3)))) (zb_one (zs_if (ztc op_eq (s_eqS) (zv 2) (zint) (nomark _)) (zb_one (zs_expr (zbm PySem.F.plainAttrs_list PySem.F.slot_list_pop PySem.F.type_list_pop mt_popAt s_popAt (zv 4) (za_cons (zv 3) (za_nil))))) (zb_one (zs_if (ztc op_eq (s_eqS) (zv 2) (zint) (nomark _)) (zb_one (zs_expr (zbm PySem.F.plainAttrs_list PySem.F.slot_list_insert PySem.F.type_list_insert mt_insert s_insert (zv 4) (za_cons (zcall tkd G_law_draw (hr.mono (by decide)) rfl (za_cons (zv 0) (za_cons (zop op_add s_add (zcallB call_len s_len rfl T.g_len PySem.boot_len (za_cons (zv 4) (za_nil))) (zint)) (za_nil)))) (za_cons (zix ix_seq s_ix (zv 4) (zv 3) (fun _ _ => rfl)) (za_nil)))))) (zb_cons (zs_set (i := 5) sc_law_spoilt.nd rfl (Or.inl rfl) (zbm PySem.F.plainAttrs_str PySem.F.slot_str_split PySem.F.type_str_split mt_split s_split (zv 1) (za_cons (zstr) (za_nil))))
      (zb_cons (zs_set (i := 6) sc_law_spoilt.nd rfl (Or.inl rfl) (zix ix_seq s_ix (zv 5) (zop op_mod s_mod (zv 3) (zcallB call_len s_len rfl T.g_len PySem.boot_len (za_cons (zv 5) (za_nil)))) (fun _ _ => rfl)))
      (zb_cons (zs_if (ztw (zwor (ztc op_eq (s_eqS) (zop op_mod s_mod (zv 3) (zint)) (zint) (nomark _)) (zw1 (ztc op_gt (s_gt) (zcallB call_len s_len rfl T.g_len PySem.boot_len (za_cons (zv 6) (za_nil))) (zint) (nomark _))))) (zb_one (zs_set (i := 6) sc_law_spoilt.nd rfl (Or.inl rfl) (zstr))) (zb_nil))
      (zb_one (zs_ret (zbm PySem.F.plainAttrs_str PySem.F.slot_str_join PySem.F.type_str_join mt_join s_join (zstr) (za_cons (zop op_cat s_cat (zv 5) (zop op_rep s_rep (zlst (za_cons (zv 6) (za_nil))) (zix ix_seq s_ix (zlst (za_cons (zint) (za_cons (zcallB (call_max2 rfl) s_max2 rfl T.g_max (by decide +kernel) (za_cons (zint) (za_cons (zop op_sub s_sub (zint) (zcallB call_len s_len rfl T.g_len PySem.boot_len (za_cons (zv 5) (za_nil)))) (za_nil)))) (za_nil)))) (zcall tkd G_law_draw (hr.mono (by decide)) rfl (za_cons (zv 0) (za_cons (zint) (za_nil)))) (fun _ _ => rfl)))) (za_nil)))))))))))))
      (zb_one (zs_ret (zbm PySem.F.plainAttrs_str PySem.F.slot_str_join PySem.F.type_str_join mt_join s_join (zstr) (za_cons (zv 4) (za_nil)))))))))
theorem ok_World___len__ (T : Tx w K mg) (F : FunD K "__len__" "World.__len__" (defArgs s_World___len__) (defBody s_World___len__) (defScope s_World___len__) [] [] f fd) : FnOk P w K mg base (L2.CX P w) 3 f fd ["self"] (lSp K (fs_World___len__ (cl K))) := by
  refine zdef F sc_World___len__ (fun p vs h q => by first | exact congrArg List.length q | exact congrArg List.length q.1 | (obtain ⟨_, _⟩ := p; first | exact congrArg List.length q | exact congrArg List.length q.1) | (obtain ⟨_, _, _⟩ := p; first | exact congrArg List.length q | exact congrArg List.length q.1) | (obtain ⟨_, _, _, _⟩ := p; first | exact congrArg List.length q | exact congrArg List.length q.1) | (obtain ⟨_, _, _, _, _⟩ := p; first | exact congrArg List.length q | exact congrArg List.length q.1)) fun cdv A outer s H E hr => ⟨r_World___len__ (cl K), ?_, fun p vs h Q X g q hp hx => rd_World___len__ g q hp⟩
  exact zb_one (zs_ret (zcallB call_len s_len rfl T.g_len PySem.boot_len (za_cons (zfld T.c_World T.n_World_houses_kept (zv 0)) (za_nil))))
theorem ok_World_house (T : Tx w K mg) (F : FunD K "house" "World.house" (defArgs s_World_house) (defBody s_World_house) (defScope s_World_house) [] [] f fd)
    (E_NoHouse : Ex P w K mg base "NoHouse" (cl K "NoHouse")) : FnOk P w K mg base (L2.CX P w) 3 f fd ["self", "number"] (lSp K (fs_World_house (cl K))) := by
  refine zdef F sc_World_house (fun p vs h q => by first | exact congrArg List.length q | exact congrArg List.length q.1 | (obtain ⟨_, _⟩ := p; first | exact congrArg List.length q | exact congrArg List.length q.1) | (obtain ⟨_, _, _⟩ := p; first | exact congrArg List.length q | exact congrArg List.length q.1) | (obtain ⟨_, _, _, _⟩ := p; first | exact congrArg List.length q | exact congrArg List.length q.1) | (obtain ⟨_, _, _, _, _⟩ := p; first | exact congrArg List.length q | exact congrArg List.length q.1)) fun cdv A outer s H E hr => ⟨r_World_house (cl K), ?_, fun p vs h Q X g q hp hx => rd_World_house g q hp hx⟩
  exact zb_cons (zs_if (ztw (zwor (ztc op_lt (s_lt) (zv 1) (zint) (nomark _)) (zw1 (ztc op_ge (s_ge) (zv 1) (zcallB call_len s_len rfl T.g_len PySem.boot_len (za_cons (zfld T.c_World T.n_World_houses_kept (zv 0)) (za_nil))) (nomark _))))) (zb_one (zs_raise tkd rfl E_NoHouse (hr.mono (by decide)) rfl (zv 1))) (zb_nil))
      (zb_one (zs_ret (zcallTy call_list_of s_list rfl T.g_list (by decide +kernel) (za_cons (zix ix_seq s_ix (zfld T.c_World T.n_World_houses_kept (zv 0)) (zv 1) (fun _ _ => rfl)) (za_nil)))))
theorem ok_law_told (T : Tx w K mg) (F : FunD K "_law_told" "_law_told" (defArgs s_law_told) (defBody s_law_told) (defScope s_law_told) [] [] f fd)
    (G_World___len__ : Mt P w K mg base (cl K "World") "__len__" 3 ["self"] [] (fs_World___len__ (cl K)))
    (G_World_house : Mt P w K mg base (cl K "World") "house" 3 ["self", "number"] [] (fs_World_house (cl K)))
    (G_law_alike : Fn P w K mg base "_law_alike" 8 ["found", "due"] [] (fs_law_alike 5)) : FnOk P w K mg base (L2.CX P w) 9 f fd ["world", "houses"] (lSp K (fs_law_told_v1 (cl K))) := by
  refine zdef F sc_law_told (fun p vs h q => by first | exact congrArg List.length q | exact congrArg List.length q.1 | (obtain ⟨_, _⟩ := p; first | exact congrArg List.length q | exact congrArg List.length q.1) | (obtain ⟨_, _, _⟩ := p; first | exact congrArg List.length q | exact congrArg List.length q.1) | (obtain ⟨_, _, _, _⟩ := p; first | exact congrArg List.length q | exact congrArg List.length q.1) | (obtain ⟨_, _, _, _, _⟩ := p; first | exact congrArg List.length q | exact congrArg List.length q.1)) fun cdv A outer s H E hr => ⟨r_law_told_v1 (cl K), ?_, fun p vs h Q X g q hp hx => rd_law_told_v1 g q hp⟩
  exact zb_cons (zs_if (ztc op_ne (s_neS) (zlenO G_World___len__ (hr.mono (by decide)) rfl T.g_len (za_cons (zv 0) (za_nil))) (zcallB call_len s_len rfl T.g_len PySem.boot_len (za_cons (zv 1) (za_nil))) (nomark _)) (zb_one (zs_ret (zbl))) (zb_nil))
      (zb_cons (zs_for psd rfl (zi_r1 rfl T.g_range (zcallB call_len s_len rfl T.g_len PySem.boot_len (za_cons (zv 1) (za_nil)))) (zg_name (i := 2) sc_law_told.nd rfl (Or.inl rfl))
      (zb_one (zs_if (ztnot (ztv (zcall tkd G_law_alike (hr.mono (by decide)) rfl (za_cons (zmeth tkd T.c_World G_World_house (hr.mono (by decide)) (zv 0) (za_cons (zv 2) (za_nil))) (za_cons (zix ix_seq s_ix (zv 1) (zv 2) (fun _ _ => rfl)) (za_nil)))))) (zb_one (zs_ret (zbl))) (zb_nil))))
      (zb_one (zs_ret (zbl))))
theorem ok_law_tray (T : Tx w K mg) (F : FunD K "_law_tray" "_law_tray" (defArgs s_law_tray) (defBody s_law_tray) (defScope s_law_tray) [] [] f fd) : FnOk P w K mg base (L2.CX P w) 3 f fd ["script"] (lSp K (fs_law_tray)) := by
  refine zdef F sc_law_tray (fun p vs h q => by first | exact congrArg List.length q | exact congrArg List.length q.1 | (obtain ⟨_, _⟩ := p; first | exact congrArg List.length q | exact congrArg List.length q.1) | (obtain ⟨_, _, _⟩ := p; first | exact congrArg List.length q | exact congrArg List.length q.1) | (obtain ⟨_, _, _, _⟩ := p; first | exact congrArg List.length q | exact congrArg List.length q.1) | (obtain ⟨_, _, _, _, _⟩ := p; first | exact congrArg List.length q | exact congrArg List.length q.1)) fun cdv A outer s H E hr => ⟨r_law_tray, ?_, fun p vs h Q X g q hp hx => rd_law_tray g q hp⟩
  exact zb_cons (zs_set (i := 1) sc_law_tray.nd rfl (Or.inl rfl) (zint))
      (zb_cons (zs_set (i := 2) sc_law_tray.nd rfl (Or.inl rfl) (zlst (za_nil)))
      (zb_cons (zs_for psd rfl (zi_list (zv 0)) (zg_name (i := 3) sc_law_tray.nd rfl (Or.inl rfl))
      (zb_cons (zs_set (i := 1) sc_law_tray.nd rfl (Or.inl rfl) (zop op_mod s_mod (zop op_add s_add (zop op_mul s_mul (zv 1) (zint)) (zv 3)) (zop op_sub s_sub (zop op_pow s_pow (zint) (zint)) (zint))))
      (zb_cons (zs_set (i := 4) sc_law_tray.nd rfl (Or.inl rfl) (zcallB (call_max2 rfl) s_max2 rfl T.g_max (by decide +kernel) (za_cons (zv 3) (za_cons (zop op_sub s_sub (zint) (zv 3)) (za_nil)))))
      (zb_one (zs_if (ztc op_ge (s_ge) (zv 4) (zop op_pow s_pow (zint) (zint)) (nomark _)) (zb_one (zs_expr (zbm PySem.F.plainAttrs_list PySem.F.slot_list_append PySem.F.type_list_append mt_append s_append (zv 2) (za_cons (zop op_sub s_sub (zv 4) (zop op_pow s_pow (zint) (zint))) (za_nil))))) (zb_nil))))))
      (zb_one (zs_ret (zlst (za_cons (zv 2) (za_cons (zint) (za_cons (zv 1) (za_cons (zint) (za_nil))))))))))
theorem ok_law_sizes (T : Tx w K mg) (F : FunD K "_law_sizes" "_law_sizes" (defArgs s_law_sizes) (defBody s_law_sizes) (defScope s_law_sizes) [] [] f fd)
    (G_law_draw : Fn P w K mg base "_law_draw" 3 ["tray", "many"] [] (fs_law_draw)) : FnOk P w K mg base (L2.CX P w) 4 f fd ["tray"] (lSp K (fs_law_sizes)) := by
  refine zdef F sc_law_sizes (fun p vs h q => by first | exact congrArg List.length q | exact congrArg List.length q.1 | (obtain ⟨_, _⟩ := p; first | exact congrArg List.length q | exact congrArg List.length q.1) | (obtain ⟨_, _, _⟩ := p; first | exact congrArg List.length q | exact congrArg List.length q.1) | (obtain ⟨_, _, _, _⟩ := p; first | exact congrArg List.length q | exact congrArg List.length q.1) | (obtain ⟨_, _, _, _, _⟩ := p; first | exact congrArg List.length q | exact congrArg List.length q.1)) fun cdv A outer s H E hr => ⟨r_law_sizes, ?_, fun p vs h Q X g q hp hx => rd_law_sizes g q hp⟩
  exact zb_cons (zs_set (i := 1) sc_law_sizes.nd rfl (Or.inl rfl) (zcall tkd G_law_draw (hr.mono (by decide)) rfl (za_cons (zv 0) (za_cons (zint) (za_nil)))))
      (zb_cons (zs_set (i := 2) sc_law_sizes.nd rfl (Or.inr rfl) (zlst (za_cons (zint) (za_cons (zint) (za_nil)))))
      (zb_cons (zs_if (ztc op_eq (s_eqS) (zv 1) (zint) (nomark _)) (zb_one (zs_set (i := 2) sc_law_sizes.nd rfl (Or.inr rfl) (zlst (za_cons (zint) (za_cons (zint) (za_nil)))))) (zb_nil))
      (zb_cons (zs_set (i := 3) sc_law_sizes.nd rfl (Or.inl rfl) (zop op_add s_add (zint) (zcall tkd G_law_draw (hr.mono (by decide)) rfl (za_cons (zv 0) (za_cons (zix ix_seq s_ix (zv 2) (zint) (fun _ _ => rfl)) (za_nil))))))
      (zb_one (zs_ret (zlc (own := [("k", 4)]) tg1_ok rfl sc_law_sizes.nd (zi_r1 rfl T.g_range (zv 3)) (blkOk_by (own := [("k", 4)]) (N := ["tray", "wide", "bounds", "many", "k"]) (sc := defScope s_law_sizes) (by decide +kernel)) (fun _ _ _ _ _ => pg_name (i := 4) sc_law_sizes.nd rfl (Or.inl rfl)) (fun _ _ _ _ _ => zts_nil) (fun _ _ _ _ _ => zcall takes0 G_law_draw (hr.mono (by decide)) rfl (za_cons (zv 0) (za_cons (zix ix_seq s_ix (zv 2) (zint) (fun _ _ => rfl)) (za_nil))))))))))
theorem ok_law_any (T : Tx w K mg) (F : FunD K "_law_any" "_law_any" (defArgs s_law_any) (defBody s_law_any) (defScope s_law_any) [] [] f fd)
    (G_law_draw : Fn P w K mg base "_law_draw" 3 ["tray", "many"] [] (fs_law_draw)) : FnOk P w K mg base (L2.CX P w) 4 f fd ["tray"] (lSp K (fs_law_any)) := by
  refine zdef F sc_law_any (fun p vs h q => by first | exact congrArg List.length q | exact congrArg List.length q.1 | (obtain ⟨_, _⟩ := p; first | exact congrArg List.length q | exact congrArg List.length q.1) | (obtain ⟨_, _, _⟩ := p; first | exact congrArg List.length q | exact congrArg List.length q.1) | (obtain ⟨_, _, _, _⟩ := p; first | exact congrArg List.length q | exact congrArg List.length q.1) | (obtain ⟨_, _, _, _, _⟩ := p; first | exact congrArg List.length q | exact congrArg List.length q.1)) fun cdv A outer s H E hr => ⟨r_law_any, ?_, fun p vs h Q X g q hp hx => rd_law_any g q hp⟩
  exact zb_cons (zs_set (i := 1) sc_law_any.nd rfl (Or.inl rfl) (zcall tkd G_law_draw (hr.mono (by decide)) rfl (za_cons (zv 0) (za_cons (zint) (za_nil)))))
      (zb_cons (zs_if (ztc op_lt (s_lt) (zv 1) (zint) (nomark _)) (zb_one (zs_ret (zop op_sub s_sub (zcall tkd G_law_draw (hr.mono (by decide)) rfl (za_cons (zv 0) (za_cons (zint) (za_nil)))) (zint)))) (zb_nil))
      (zb_cons (zs_set (i := 2) sc_law_any.nd rfl (Or.inl rfl) (zcall tkd G_law_draw (hr.mono (by decide)) rfl (za_cons (zv 0) (za_cons (zop op_pow s_pow (zint) (zint)) (za_nil)))))
      (zb_cons (zs_for psd rfl (zi_r1 rfl T.g_range (zint)) (zg_name (i := 3) sc_law_any.nd rfl (Or.inl rfl))
      (zb_one (zs_set (i := 2) sc_law_any.nd rfl (Or.inl rfl) (zop op_add s_add (zop op_mul s_mul (zv 2) (zop op_pow s_pow (zint) (zint))) (zcall tkd G_law_draw (hr.mono (by decide)) rfl (za_cons (zv 0) (za_cons (zop op_pow s_pow (zint) (zint)) (za_nil))))))))
      (zb_one (zs_ret (zop op_mul s_mul (zv 2) (zop op_sub s_sub (zint) (zop op_mul s_mul (zint) (zv 1)))))))))
theorem ok_law_ref (T : Tx w K mg) (F : FunD K "_law_ref" "_law_ref" (defArgs s_law_ref) (defBody s_law_ref) (defScope s_law_ref) [] [] f fd)
    (G_law_draw : Fn P w K mg base "_law_draw" 3 ["tray", "many"] [] (fs_law_draw)) : FnOk P w K mg base (L2.CX P w) 4 f fd ["tray", "sizes"] (lSp K (fs_law_ref)) := by
  refine zdef F sc_law_ref (fun p vs h q => by first | exact congrArg List.length q | exact congrArg List.length q.1 | (obtain ⟨_, _⟩ := p; first | exact congrArg List.length q | exact congrArg List.length q.1) | (obtain ⟨_, _, _⟩ := p; first | exact congrArg List.length q | exact congrArg List.length q.1) | (obtain ⟨_, _, _, _⟩ := p; first | exact congrArg List.length q | exact congrArg List.length q.1) | (obtain ⟨_, _, _, _, _⟩ := p; first | exact congrArg List.length q | exact congrArg List.length q.1)) fun cdv A outer s H E hr => ⟨r_law_ref, ?_, fun p vs h Q X g q hp hx => rd_law_ref g q hp⟩
  exact zb_cons (zs_set (i := 2) sc_law_ref.nd rfl (Or.inl rfl) (zcall tkd G_law_draw (hr.mono (by decide)) rfl (za_cons (zv 0) (za_cons (zcallB (cr_sum rfl) s_sum rfl T.g_sum (by decide +kernel) (za_cons (zv 1) (za_nil))) (za_nil)))))
      (zb_cons (zs_set (i := 3) sc_law_ref.nd rfl (Or.inl rfl) (zint))
      (zb_cons (zs_for psd rfl (zi_list (zv 1)) (zg_name (i := 4) sc_law_ref.nd rfl (Or.inl rfl))
      (zb_cons (zs_if (ztc op_lt (s_lt) (zv 2) (zv 4) (nomark _)) (zb_one (zs_ret (ztup (za_cons (zstr) (za_cons (zv 3) (za_cons (zv 2) (za_nil))))))) (zb_nil))
      (zb_cons (zs_set (i := 2) sc_law_ref.nd rfl (Or.inl rfl) (zop op_sub s_sub (zv 2) (zv 4)))
      (zb_one (zs_set (i := 3) sc_law_ref.nd rfl (Or.inl rfl) (zop op_add s_add (zv 3) (zint)))))))
      (zb_one (zs_ret (znon)))))
theorem ok_law_thing (T : Tx w K mg) (F : FunD K "_law_thing" "_law_thing" (defArgs s_law_thing) (defBody s_law_thing) (defScope s_law_thing) [] [] f fd)
    (G_law_any : Fn P w K mg base "_law_any" 4 ["tray"] [] (fs_law_any))
    (G_law_draw : Fn P w K mg base "_law_draw" 3 ["tray", "many"] [] (fs_law_draw))
    (G_law_ref : Fn P w K mg base "_law_ref" 4 ["tray", "sizes"] [] (fs_law_ref)) : FnOk P w K mg base (L2.CX P w) 5 f fd ["tray", "sizes"] (lSp K (fs_law_thing)) := by
  refine zdef F sc_law_thing (fun p vs h q => by first | exact congrArg List.length q | exact congrArg List.length q.1 | (obtain ⟨_, _⟩ := p; first | exact congrArg List.length q | exact congrArg List.length q.1) | (obtain ⟨_, _, _⟩ := p; first | exact congrArg List.length q | exact congrArg List.length q.1) | (obtain ⟨_, _, _, _⟩ := p; first | exact congrArg List.length q | exact congrArg List.length q.1) | (obtain ⟨_, _, _, _, _⟩ := p; first | exact congrArg List.length q | exact congrArg List.length q.1)) fun cdv A outer s H E hr => ⟨r_law_thing, ?_, fun p vs h Q X g q hp hx => rd_law_thing g q hp⟩
  exact zb_cons (zs_set (i := 2) sc_law_thing.nd rfl (Or.inl rfl) (zcall tkd G_law_draw (hr.mono (by decide)) rfl (za_cons (zv 0) (za_cons (zint) (za_nil)))))
      (zb_cons (zs_if (ztc op_lt (s_lt) (zv 2) (zint) (nomark _)) (zb_one (zs_ret (ztup (za_cons (zstr) (za_cons (zcall tkd G_law_any (hr.mono (by decide)) rfl (za_cons (zv 0) (za_nil))) (za_nil)))))) (zb_nil))
      (zb_cons (zs_if (ztc op_lt (s_lt) (zv 2) (zint) (nomark _)) (zb_cons (zs_set (i := 3) sc_law_thing.nd rfl (Or.inl rfl) (zcall tkd G_law_draw (hr.mono (by decide)) rfl (za_cons (zv 0) (za_cons (zix ix_seq s_ix (zlst (za_cons (zint) (za_cons (zint) (za_nil)))) (zop op_fdivW s_divW (zcall tkd G_law_draw (hr.mono (by decide)) rfl (za_cons (zv 0) (za_cons (zint) (za_nil)))) (zint)) (fun _ _ => rfl)) (za_nil)))))
      (zb_one (zs_ret (ztup (za_cons (zstr) (za_cons (zcallTy call_tuple_of s_tuple rfl T.g_tuple (by decide +kernel) (za_cons (zlc (own := [("k", 4)]) tg1_ok rfl sc_law_thing.nd (zi_r1 rfl T.g_range (zv 3)) (blkOk_by (own := [("k", 4)]) (N := ["tray", "sizes", "kind", "many", "k"]) (sc := defScope s_law_thing) (by decide +kernel)) (fun _ _ _ _ _ => pg_name (i := 4) sc_law_thing.nd rfl (Or.inl rfl)) (fun _ _ _ _ _ => zts_nil) (fun _ _ _ _ _ => zcall takes0 G_law_ref (hr.mono (by decide)) rfl (za_cons (zv 0) (za_cons (zv 1) (za_nil))))) (za_nil))) (za_nil))))))) (zb_nil))
      (zb_cons (zs_if (ztc op_lt (s_lt) (zv 2) (zint) (nomark _)) (zb_one (zs_ret (ztup (za_cons (zstr) (za_cons (zcall tkd G_law_ref (hr.mono (by decide)) rfl (za_cons (zv 0) (za_cons (zv 1) (za_nil)))) (za_nil)))))) (zb_nil))
      (zb_one (zs_ret (zix ix_seq s_ix (zlst (za_cons (ztup (za_cons (zstr) (za_nil))) (za_cons (ztup (za_cons (zstr) (za_nil))) (za_nil)))) (zop op_sub s_sub (zv 2) (zint)) (fun _ _ => rfl)))))))
theorem ok_law_world (T : Tx w K mg) (F : FunD K "_law_world" "_law_world" (defArgs s_law_world) (defBody s_law_world) (defScope s_law_world) [] [] f fd)
    (G_law_sizes : Fn P w K mg base "_law_sizes" 4 ["tray"] [] (fs_law_sizes))
    (G_law_thing : Fn P w K mg base "_law_thing" 5 ["tray", "sizes"] [] (fs_law_thing)) : FnOk P w K mg base (L2.CX P w) 6 f fd ["tray"] (lSp K (fs_law_world_v1)) := by
  refine zdef F sc_law_world (fun p vs h q => by first | exact congrArg List.length q | exact congrArg List.length q.1 | (obtain ⟨_, _⟩ := p; first | exact congrArg List.length q | exact congrArg List.length q.1) | (obtain ⟨_, _, _⟩ := p; first | exact congrArg List.length q | exact congrArg List.length q.1) | (obtain ⟨_, _, _, _⟩ := p; first | exact congrArg List.length q | exact congrArg List.length q.1) | (obtain ⟨_, _, _, _, _⟩ := p; first | exact congrArg List.length q | exact congrArg List.length q.1)) fun cdv A outer s H E hr => ⟨r_law_world_v1, ?_, fun p vs h Q X g q hp hx => rd_law_world_v1 g q hp⟩
  exact zb_cons (zs_set (i := 1) sc_law_world.nd rfl (Or.inr rfl) (zcall tkd G_law_sizes (hr.mono (by decide)) rfl (za_cons (zv 0) (za_nil))))
      (zb_cons (zs_set (i := 2) sc_law_world.nd rfl (Or.inl rfl) (zlst (za_nil)))
      (zb_cons (zs_for psd rfl (zi_list (zv 1)) (zg_name (i := 3) sc_law_world.nd rfl (Or.inl rfl))
      (zb_one (zs_expr (zbm PySem.F.plainAttrs_list PySem.F.slot_list_append PySem.F.type_list_append mt_append s_append (zv 2) (za_cons (zlc (own := [("k", 4)]) tg1_ok rfl sc_law_world.nd (zi_r1 rfl T.g_range (zv 3)) (blkOk_by (own := [("k", 4)]) (N := ["tray", "sizes", "houses", "size", "k"]) (sc := defScope s_law_world) (by decide +kernel)) (fun _ _ _ _ _ => pg_name (i := 4) sc_law_world.nd rfl (Or.inl rfl)) (fun _ _ _ _ _ => zts_nil) (fun _ _ _ _ _ => zcall takes0 G_law_thing (hr.mono (by decide)) rfl (za_cons (zv 0) (za_cons (zv 1) (za_nil))))) (za_nil))))))
      (zb_one (zs_ret (zv 2)))))
theorem ok_is_there (T : Tx w K mg) (F : FunD K "is_there" "is_there" (defArgs s_is_there) (defBody s_is_there) (defScope s_is_there) [] [] f fd) : FnOk P w K mg base (L2.CX P w) 3 f fd ["houses", "ref"] (lSp K (fs_is_there)) := by
  refine zdef F sc_is_there (fun p vs h q => by first | exact congrArg List.length q | exact congrArg List.length q.1 | (obtain ⟨_, _⟩ := p; first | exact congrArg List.length q | exact congrArg List.length q.1) | (obtain ⟨_, _, _⟩ := p; first | exact congrArg List.length q | exact congrArg List.length q.1) | (obtain ⟨_, _, _, _⟩ := p; first | exact congrArg List.length q | exact congrArg List.length q.1) | (obtain ⟨_, _, _, _, _⟩ := p; first | exact congrArg List.length q | exact congrArg List.length q.1)) fun cdv A outer s H E hr => ⟨r_is_there, ?_, fun p vs h Q X g q hp hx => rd_is_there g q hp⟩
  exact zb_cons (zs_if (ztw (zwor (ztc op_ne (s_neS) (zix ix_seq s_ix (zv 1) (zint) (fun _ _ => rfl)) (zstr) (nomark _)) (zwor (ztc op_lt (s_lt) (zix ix_seq s_ix (zv 1) (zint) (fun _ _ => rfl)) (zint) (nomark _)) (zw1 (ztc op_ge (s_ge) (zix ix_seq s_ix (zv 1) (zint) (fun _ _ => rfl)) (zcallB call_len s_len rfl T.g_len PySem.boot_len (za_cons (zv 0) (za_nil))) (nomark _)))))) (zb_one (zs_ret (zbl))) (zb_nil))
      (zb_one (zs_ret (zchain op_le op_lt (s_le) (s_lt) (zint) (zix ix_seq s_ix (zv 1) (zint) (fun _ _ => rfl)) (zcallB call_len s_len rfl T.g_len PySem.boot_len (za_cons (zix ix_seq s_ix (zv 0) (zix ix_seq s_ix (zv 1) (zint) (fun _ _ => rfl)) (fun _ _ => rfl)) (za_nil))))))
theorem ok_refs_of (T : Tx w K mg) (F : FunD K "refs_of" "refs_of" (defArgs s_refs_of) (defBody s_refs_of) (defScope s_refs_of) [] [] f fd) : FnOk P w K mg base (L2.CX P w) 3 f fd ["thing"] (lSp K (fs_refs_of)) := by
  refine zdef F sc_refs_of (fun p vs h q => by first | exact congrArg List.length q | exact congrArg List.length q.1 | (obtain ⟨_, _⟩ := p; first | exact congrArg List.length q | exact congrArg List.length q.1) | (obtain ⟨_, _, _⟩ := p; first | exact congrArg List.length q | exact congrArg List.length q.1) | (obtain ⟨_, _, _, _⟩ := p; first | exact congrArg List.length q | exact congrArg List.length q.1) | (obtain ⟨_, _, _, _, _⟩ := p; first | exact congrArg List.length q | exact congrArg List.length q.1)) fun cdv A outer s H E hr => ⟨r_refs_of, ?_, fun p vs h Q X g q hp hx => rd_refs_of g q hp⟩
  exact zb_cons (zs_if (ztc op_eq (s_eqS) (zix ix_seq s_ix (zv 0) (zint) (fun _ _ => rfl)) (zstr) (nomark _)) (zb_one (zs_ret (zcallTy call_list_of s_list rfl T.g_list (by decide +kernel) (za_cons (zix ix_seq s_ix (zv 0) (zint) (fun _ _ => rfl)) (za_nil))))) (zb_nil))
      (zb_cons (zs_if (ztc op_eq (s_eqS) (zix ix_seq s_ix (zv 0) (zint) (fun _ _ => rfl)) (zstr) (nomark _)) (zb_one (zs_ret (zlst (za_cons (zix ix_seq s_ix (zv 0) (zint) (fun _ _ => rfl)) (za_nil))))) (zb_nil))
      (zb_one (zs_ret (zlst (za_nil)))))
theorem ok_is_good (T : Tx w K mg) (F : FunD K "is_good" "is_good" (defArgs s_is_good) (defBody s_is_good) (defScope s_is_good) [] [] f fd)
    (G_is_there : Fn P w K mg base "is_there" 3 ["houses", "ref"] [] (fs_is_there))
    (G_refs_of : Fn P w K mg base "refs_of" 3 ["thing"] [] (fs_refs_of)) : FnOk P w K mg base (L2.CX P w) 4 f fd ["houses", "things"] (lSp K (fs_is_good)) := by
  refine zdef F sc_is_good (fun p vs h q => by first | exact congrArg List.length q | exact congrArg List.length q.1 | (obtain ⟨_, _⟩ := p; first | exact congrArg List.length q | exact congrArg List.length q.1) | (obtain ⟨_, _, _⟩ := p; first | exact congrArg List.length q | exact congrArg List.length q.1) | (obtain ⟨_, _, _, _⟩ := p; first | exact congrArg List.length q | exact congrArg List.length q.1) | (obtain ⟨_, _, _, _, _⟩ := p; first | exact congrArg List.length q | exact congrArg List.length q.1)) fun cdv A outer s H E hr => ⟨r_is_good, ?_, fun p vs h Q X g q hp hx => rd_is_good g q hp⟩
  exact zb_cons (zs_if (ztc op_gt (s_gt) (zcallB call_len s_len rfl T.g_len PySem.boot_len (za_cons (zv 1) (za_nil))) (zglobI rfl T.i_MOST_THINGS) (nomark _)) (zb_one (zs_ret (zbl))) (zb_nil))
      (zb_cons (zs_for psd rfl (zi_list (zv 1)) (zg_name (i := 2) sc_is_good.nd rfl (Or.inl rfl))
      (zb_cons (zs_set (i := 3) sc_is_good.nd rfl (Or.inl rfl) (zcall tkd G_refs_of (hr.mono (by decide)) rfl (za_cons (zv 2) (za_nil))))
      (zb_cons (zs_if (ztc op_gt (s_gt) (zcallB call_len s_len rfl T.g_len PySem.boot_len (za_cons (zv 3) (za_nil))) (zglobI rfl T.i_MOST_REFS) (nomark _)) (zb_one (zs_ret (zbl))) (zb_nil))
      (zb_one (zs_for psd rfl (zi_list (zv 3)) (zg_name (i := 4) sc_is_good.nd rfl (Or.inl rfl))
      (zb_one (zs_if (ztnot (ztv (zcall tkd G_is_there (hr.mono (by decide)) rfl (za_cons (zv 0) (za_cons (zv 4) (za_nil)))))) (zb_one (zs_ret (zbl))) (zb_nil))))))))
      (zb_one (zs_ret (zbl))))
theorem ok_World___init__ (T : Tx w K mg) (F : FunD K "__init__" "World.__init__" (defArgs s_World___init__) (defBody s_World___init__) (defScope s_World___init__) [] [] f fd)
    (G_is_good : Fn P w K mg base "is_good" 4 ["houses", "things"] [] (fs_is_good))
    (E_NoWorld : Ex P w K mg base "NoWorld" (cl K "NoWorld")) : FnOk P w K mg base (L2.CX P w) 5 f fd ["self", "houses"] (lSp K (fs_World___init__ (cl K))) := by
  refine zdef F sc_World___init__ (fun p vs h q => by first | exact congrArg List.length q | exact congrArg List.length q.1 | (obtain ⟨_, _⟩ := p; first | exact congrArg List.length q | exact congrArg List.length q.1) | (obtain ⟨_, _, _⟩ := p; first | exact congrArg List.length q | exact congrArg List.length q.1) | (obtain ⟨_, _, _, _⟩ := p; first | exact congrArg List.length q | exact congrArg List.length q.1) | (obtain ⟨_, _, _, _, _⟩ := p; first | exact congrArg List.length q | exact congrArg List.length q.1)) fun cdv A outer s H E hr => ⟨r_World___init__ (cl K), ?_, fun p vs h Q X g q hp hx => rd_World___init__ g q hp hx⟩
  exact zb_cons (zs_if (ztw (zwor (ztc op_lt (s_lt) (zcallB call_len s_len rfl T.g_len PySem.boot_len (za_cons (zv 1) (za_nil))) (zint) (nomark _)) (zw1 (ztc op_gt (s_gt) (zcallB call_len s_len rfl T.g_len PySem.boot_len (za_cons (zv 1) (za_nil))) (zglobI rfl T.i_MOST_HOUSES) (nomark _))))) (zb_one (zs_raise tkd rfl E_NoWorld (hr.mono (by decide)) rfl (znon))) (zb_nil))
      (zb_cons (zs_for psd rfl (zi_list (zv 1)) (zg_name (i := 2) sc_World___init__.nd rfl (Or.inl rfl))
      (zb_one (zs_if (ztnot (ztv (zcall tkd G_is_good (hr.mono (by decide)) rfl (za_cons (zv 1) (za_cons (zv 2) (za_nil)))))) (zb_one (zs_raise tkd rfl E_NoWorld (hr.mono (by decide)) rfl (znon))) (zb_nil))))
      (zb_one (zs_fld T.c_World T.n_World_houses_kept (zv 0) (zlc (own := [("things", 2)]) tg1_ok rfl sc_World___init__.nd (zi_list (zv 1)) (blkOk_by (own := [("things", 2)]) (N := ["self", "houses", "things"]) (sc := defScope s_World___init__) (by decide +kernel)) (fun _ _ _ _ _ => pg_name (i := 2) sc_World___init__.nd rfl (Or.inl rfl)) (fun _ _ _ _ _ => zts_nil) (fun _ _ _ _ _ => zcallTy call_list_of s_list rfl T.g_list (by decide +kernel) (za_cons (zv 2) (za_nil)))))))
theorem okN_World___init__ (T : Tx w K mg) (F : FunD K "__init__" "World.__init__" (defArgs s_World___init__) (defBody s_World___init__) (defScope s_World___init__) [] [] f fd)
    (G_is_good : Fn P w K mg base "is_good" 4 ["houses", "things"] [] (fs_is_good))
    (E_NoWorld : Ex P w K mg base "NoWorld" (cl K "NoWorld")) : FnOk P w K mg base (L2N.CX P w) 5 f fd ["self", "houses"] (lSp K (fs_World___init__ (cl K))) := by
  refine zdefN F sc_World___init__ (fun p vs h q => by first | exact congrArg List.length q | exact congrArg List.length q.1 | (obtain ⟨_, _⟩ := p; first | exact congrArg List.length q | exact congrArg List.length q.1) | (obtain ⟨_, _, _⟩ := p; first | exact congrArg List.length q | exact congrArg List.length q.1) | (obtain ⟨_, _, _, _⟩ := p; first | exact congrArg List.length q | exact congrArg List.length q.1) | (obtain ⟨_, _, _, _, _⟩ := p; first | exact congrArg List.length q | exact congrArg List.length q.1)) fun cdv A outer s H E hr => ⟨r_World___init__ (cl K), ?_, fun p vs h Q X g q hp hx => rd_World___init__ g q hp hx⟩
  exact zb_cons (zs_if (ztw (zwor (ztc op_lt (s_lt) (zcallB call_len s_len rfl T.g_len PySem.boot_len (za_cons (zv 1) (za_nil))) (zint) (nomark _)) (zw1 (ztc op_gt (s_gt) (zcallB call_len s_len rfl T.g_len PySem.boot_len (za_cons (zv 1) (za_nil))) (zglobI rfl T.i_MOST_HOUSES) (nomark _))))) (zb_one (zs_raiseN tkn rfl E_NoWorld (hr.mono (by decide)) rfl (znon))) (zb_nil))
      (zb_cons (zs_for psn rfl (zi_list (zv 1)) (zg_name (i := 2) sc_World___init__.nd rfl (Or.inl rfl))
      (zb_one (zs_if (ztnot (ztv (zcallQ (fun _ _ _ _ _ z => z) G_is_good (hr.mono (by decide)) rfl (za_cons (zv 1) (za_cons (zv 2) (za_nil)))))) (zb_one (zs_raiseN tkn rfl E_NoWorld (hr.mono (by decide)) rfl (znon))) (zb_nil))))
      (zb_one (zs_fld T.c_World T.n_World_houses_kept (zv 0) (zlc (own := [("things", 2)]) tg1_ok rfl sc_World___init__.nd (zi_list (zv 1)) (blkOk_by (own := [("things", 2)]) (N := ["self", "houses", "things"]) (sc := defScope s_World___init__) (by decide +kernel)) (fun _ _ _ _ _ => pg_name (i := 2) sc_World___init__.nd rfl (Or.inl rfl)) (fun _ _ _ _ _ => zts_nil) (fun _ _ _ _ _ => zcallTy call_list_of s_list rfl T.g_list (by decide +kernel) (za_cons (zv 2) (za_nil)))))))
theorem ok_is_number (T : Tx w K mg) (F : FunD K "is_number" "is_number" (defArgs s_is_number) (defBody s_is_number) (defScope s_is_number) [] [] f fd) : FnOk P w K mg base (L2.CX P w) 3 f fd ["word"] (lSp K (fs_is_number)) := by
  refine zdef F sc_is_number (fun p vs h q => by first | exact congrArg List.length q | exact congrArg List.length q.1 | (obtain ⟨_, _⟩ := p; first | exact congrArg List.length q | exact congrArg List.length q.1) | (obtain ⟨_, _, _⟩ := p; first | exact congrArg List.length q | exact congrArg List.length q.1) | (obtain ⟨_, _, _, _⟩ := p; first | exact congrArg List.length q | exact congrArg List.length q.1) | (obtain ⟨_, _, _, _, _⟩ := p; first | exact congrArg List.length q | exact congrArg List.length q.1)) fun cdv A outer s H E hr => ⟨r_is_number, ?_, fun p vs h Q X g q hp hx => rd_is_number g q hp⟩
  exact zb_cons (zs_if (ztw (zwor (ztc op_eq (s_eqS) (zv 0) (zstr) (nomark _)) (zw1 (ztc op_gt (s_gt) (zcallB call_len s_len rfl T.g_len PySem.boot_len (za_cons (zv 0) (za_nil))) (zglobI rfl T.i_MOST_FIGURES) (nomark _))))) (zb_one (zs_ret (zbl))) (zb_nil))
      (zb_cons (zs_for psd rfl (zi_str (zv 0)) (zg_name (i := 1) sc_is_number.nd rfl (Or.inl rfl))
      (zb_one (zs_if (ztc op_notIn_sign (s_notInSign) (zv 1) (zglobS rfl T.s_FIGURES) rfl) (zb_one (zs_ret (zbl))) (zb_nil))))
      (zb_one (zs_ret (zor (zcmp op_eq (s_eqS) (zcallB call_len s_len rfl T.g_len PySem.boot_len (za_cons (zv 0) (za_nil))) (zint) (nomark _)) (zone (zcmp op_ne (s_neS) (zix ix_seq s_ix (zv 0) (zint) (fun _ _ => rfl)) (zstr) (nomark _)))))))
theorem ok_is_signed (T : Tx w K mg) (F : FunD K "is_signed" "is_signed" (defArgs s_is_signed) (defBody s_is_signed) (defScope s_is_signed) [] [] f fd)
    (G_is_number : Fn P w K mg base "is_number" 3 ["word"] [] (fs_is_number)) : FnOk P w K mg base (L2.CX P w) 4 f fd ["word"] (lSp K (fs_is_signed)) := by
  refine zdef F sc_is_signed (fun p vs h q => by first | exact congrArg List.length q | exact congrArg List.length q.1 | (obtain ⟨_, _⟩ := p; first | exact congrArg List.length q | exact congrArg List.length q.1) | (obtain ⟨_, _, _⟩ := p; first | exact congrArg List.length q | exact congrArg List.length q.1) | (obtain ⟨_, _, _, _⟩ := p; first | exact congrArg List.length q | exact congrArg List.length q.1) | (obtain ⟨_, _, _, _, _⟩ := p; first | exact congrArg List.length q | exact congrArg List.length q.1)) fun cdv A outer s H E hr => ⟨r_is_signed, ?_, fun p vs h Q X g q hp hx => rd_is_signed g q hp⟩
  exact zb_cons (zs_if (ztc op_eq (s_eqS) (zslice sl_str s_slS (zv 0) (zo_none) (zo_some (zint))) (zstr) (nomark _)) (zb_one (zs_ret (zand (zcall tkd G_is_number (hr.mono (by decide)) rfl (za_cons (zslice sl_str s_slS (zv 0) (zo_some (zint)) (zo_none)) (za_nil))) (zone (zcmp op_ne (s_neS) (zv 0) (zstr) (nomark _)))))) (zb_nil))
      (zb_one (zs_ret (zcall tkd G_is_number (hr.mono (by decide)) rfl (za_cons (zv 0) (za_nil)))))
theorem ok_ref_in (T : Tx w K mg) (F : FunD K "ref_in" "ref_in" (defArgs s_ref_in) (defBody s_ref_in) (defScope s_ref_in) [] [] f fd)
    (G_is_number : Fn P w K mg base "is_number" 3 ["word"] [] (fs_is_number)) : FnOk P w K mg base (L2.CX P w) 4 f fd ["word"] (lSp K (fs_ref_in)) := by
  refine zdef F sc_ref_in (fun p vs h q => by first | exact congrArg List.length q | exact congrArg List.length q.1 | (obtain ⟨_, _⟩ := p; first | exact congrArg List.length q | exact congrArg List.length q.1) | (obtain ⟨_, _, _⟩ := p; first | exact congrArg List.length q | exact congrArg List.length q.1) | (obtain ⟨_, _, _, _⟩ := p; first | exact congrArg List.length q | exact congrArg List.length q.1) | (obtain ⟨_, _, _, _, _⟩ := p; first | exact congrArg List.length q | exact congrArg List.length q.1)) fun cdv A outer s H E hr => ⟨r_ref_in, ?_, fun p vs h Q X g q hp hx => rd_ref_in g q hp⟩
  exact zb_cons (zs_asg (zbm PySem.F.plainAttrs_str PySem.F.slot_str_partition PySem.F.type_str_partition mt_partition s_partition (zv 0) (za_cons (zstr) (za_nil))) (zg_tup rfl (zgs_cons (zg_name (i := 1) sc_ref_in.nd rfl (Or.inl rfl)) (zgs_cons (zg_name (i := 2) sc_ref_in.nd rfl (Or.inl rfl)) (zgs_cons (zg_name (i := 3) sc_ref_in.nd rfl (Or.inl rfl)) (zgs_nil))))))
      (zb_cons (zs_if (ztw (zwor (ztc op_eq (s_eqS) (zv 2) (zstr) (nomark _)) (zwor (ztnot (ztv (zcall tkd G_is_number (hr.mono (by decide)) rfl (za_cons (zv 1) (za_nil))))) (zw1 (ztnot (ztv (zcall tkd G_is_number (hr.mono (by decide)) rfl (za_cons (zv 3) (za_nil))))))))) (zb_one (zs_ret (znon))) (zb_nil))
      (zb_one (zs_ret (ztup (za_cons (zstr) (za_cons (zcallTy call_int_str s_intS rfl T.g_int (by decide +kernel) (za_cons (zv 1) (za_nil))) (za_cons (zcallTy call_int_str s_intS rfl T.g_int (by decide +kernel) (za_cons (zv 3) (za_nil))) (za_nil))))))))
theorem ok_shelf_in (T : Tx w K mg) (F : FunD K "shelf_in" "shelf_in" (defArgs s_shelf_in) (defBody s_shelf_in) (defScope s_shelf_in) [] [] f fd)
    (G_ref_in : Fn P w K mg base "ref_in" 4 ["word"] [] (fs_ref_in)) : FnOk P w K mg base (L2.CX P w) 5 f fd ["text"] (lSp K (fs_shelf_in)) := by
  refine zdef F sc_shelf_in (fun p vs h q => by first | exact congrArg List.length q | exact congrArg List.length q.1 | (obtain ⟨_, _⟩ := p; first | exact congrArg List.length q | exact congrArg List.length q.1) | (obtain ⟨_, _, _⟩ := p; first | exact congrArg List.length q | exact congrArg List.length q.1) | (obtain ⟨_, _, _, _⟩ := p; first | exact congrArg List.length q | exact congrArg List.length q.1) | (obtain ⟨_, _, _, _, _⟩ := p; first | exact congrArg List.length q | exact congrArg List.length q.1)) fun cdv A outer s H E hr => ⟨r_shelf_in, ?_, fun p vs h Q X g q hp hx => rd_shelf_in g q hp⟩
  exact zb_cons (zs_if (ztc op_eq (s_eqS) (zv 0) (zstr) (nomark _)) (zb_one (zs_ret (ztup (za_cons (zstr) (za_cons (ztup (za_nil)) (za_nil)))))) (zb_nil))
      (zb_cons (zs_setLc (i := 2) (own := [("word", 1)]) tg1_ok rfl sc_shelf_in.nd rfl rfl (sw_true rfl rfl rfl (by decide +kernel)) (zi_list (zbm PySem.F.plainAttrs_str PySem.F.slot_str_split PySem.F.type_str_split mt_split s_split (zv 0) (za_cons (zstr) (za_nil)))) (blkOk_by (own := [("word", 1)]) (N := ["text", "word", "refs"]) (sc := defScope s_shelf_in) (by decide +kernel)) (fun _ _ _ _ _ => pg_name (i := 1) sc_shelf_in.nd rfl (Or.inl rfl)) (fun _ _ _ _ _ => zts_nil) (fun _ _ _ _ _ => zcall takes0 G_ref_in (hr.mono (by decide)) rfl (za_cons (zv 1) (za_nil))))
      (zb_cons (zs_if (ztc (op_inD (hu65 hr)) (s_inD) (znon) (zv 2) rfl) (zb_one (zs_ret (znon))) (zb_nil))
      (zb_one (zs_ret (ztup (za_cons (zstr) (za_cons (zcallTy call_tuple_of s_tuple rfl T.g_tuple (by decide +kernel) (za_cons (zv 2) (za_nil))) (za_nil))))))))
theorem ok_thing_in (T : Tx w K mg) (F : FunD K "thing_in" "thing_in" (defArgs s_thing_in) (defBody s_thing_in) (defScope s_thing_in) [] [] f fd)
    (G_is_signed : Fn P w K mg base "is_signed" 4 ["word"] [] (fs_is_signed))
    (G_ref_in : Fn P w K mg base "ref_in" 4 ["word"] [] (fs_ref_in))
    (G_shelf_in : Fn P w K mg base "shelf_in" 5 ["text"] [] (fs_shelf_in)) : FnOk P w K mg base (L2.CX P w) 6 f fd ["word"] (lSp K (fs_thing_in)) := by
  refine zdef F sc_thing_in (fun p vs h q => by first | exact congrArg List.length q | exact congrArg List.length q.1 | (obtain ⟨_, _⟩ := p; first | exact congrArg List.length q | exact congrArg List.length q.1) | (obtain ⟨_, _, _⟩ := p; first | exact congrArg List.length q | exact congrArg List.length q.1) | (obtain ⟨_, _, _, _⟩ := p; first | exact congrArg List.length q | exact congrArg List.length q.1) | (obtain ⟨_, _, _, _, _⟩ := p; first | exact congrArg List.length q | exact congrArg List.length q.1)) fun cdv A outer s H E hr => ⟨r_thing_in, ?_, fun p vs h Q X g q hp hx => rd_thing_in g q hp⟩
  exact zb_cons (zs_if (ztc op_eq (s_eqS) (zv 0) (zstr) (nomark _)) (zb_one (zs_ret (ztup (za_cons (zstr) (za_nil))))) (zb_nil))
      (zb_cons (zs_if (ztc op_eq (s_eqS) (zv 0) (zstr) (nomark _)) (zb_one (zs_ret (ztup (za_cons (zstr) (za_nil))))) (zb_nil))
      (zb_cons (zs_if (ztw (zwand (ztc op_eq (s_eqS) (zslice sl_str s_slS (zv 0) (zo_none) (zo_some (zint))) (zstr) (nomark _)) (zw1 (ztv (zcall tkd G_is_signed (hr.mono (by decide)) rfl (za_cons (zslice sl_str s_slS (zv 0) (zo_some (zint)) (zo_none)) (za_nil))))))) (zb_one (zs_ret (ztup (za_cons (zstr) (za_cons (zcallTy call_int_str s_intS rfl T.g_int (by decide +kernel) (za_cons (zslice sl_str s_slS (zv 0) (zo_some (zint)) (zo_none)) (za_nil))) (za_nil)))))) (zb_nil))
      (zb_cons (zs_if (ztc op_eq (s_eqS) (zslice sl_str s_slS (zv 0) (zo_none) (zo_some (zint))) (zstr) (nomark _)) (zb_one (zs_ret (zcall tkd G_shelf_in (hr.mono (by decide)) rfl (za_cons (zslice sl_str s_slS (zv 0) (zo_some (zint)) (zo_none)) (za_nil))))) (zb_nil))
      (zb_cons (zs_if (ztw (zwand (ztc op_eq (s_eqS) (zslice sl_str s_slS (zv 0) (zo_none) (zo_some (zint))) (zstr) (nomark _)) (zw1 (ztnotN (zcall tkd G_ref_in (hr.mono (by decide)) rfl (za_cons (zslice sl_str s_slS (zv 0) (zo_some (zint)) (zo_none)) (za_nil))))))) (zb_one (zs_ret (ztup (za_cons (zstr) (za_cons (zcall tkd G_ref_in (hr.mono (by decide)) rfl (za_cons (zslice sl_str s_slS (zv 0) (zo_some (zint)) (zo_none)) (za_nil))) (za_nil)))))) (zb_nil))
      (zb_one (zs_ret (znon)))))))
theorem ok_house_in (T : Tx w K mg) (F : FunD K "house_in" "house_in" (defArgs s_house_in) (defBody s_house_in) (defScope s_house_in) [] [] f fd)
    (G_thing_in : Fn P w K mg base "thing_in" 6 ["word"] [] (fs_thing_in)) : FnOk P w K mg base (L2.CX P w) 7 f fd ["text"] (lSp K (fs_house_in)) := by
  refine zdef F sc_house_in (fun p vs h q => by first | exact congrArg List.length q | exact congrArg List.length q.1 | (obtain ⟨_, _⟩ := p; first | exact congrArg List.length q | exact congrArg List.length q.1) | (obtain ⟨_, _, _⟩ := p; first | exact congrArg List.length q | exact congrArg List.length q.1) | (obtain ⟨_, _, _, _⟩ := p; first | exact congrArg List.length q | exact congrArg List.length q.1) | (obtain ⟨_, _, _, _, _⟩ := p; first | exact congrArg List.length q | exact congrArg List.length q.1)) fun cdv A outer s H E hr => ⟨r_house_in, ?_, fun p vs h Q X g q hp hx => rd_house_in g q hp⟩
  exact zb_cons (zs_if (ztc op_eq (s_eqS) (zv 0) (zstr) (nomark _)) (zb_one (zs_ret (zlst (za_nil)))) (zb_nil))
      (zb_one (zs_ret (zlc (own := [("word", 1)]) tg1_ok rfl sc_house_in.nd (zi_list (zbm PySem.F.plainAttrs_str PySem.F.slot_str_split PySem.F.type_str_split mt_split s_split (zv 0) (za_cons (zstr) (za_nil)))) (blkOk_by (own := [("word", 1)]) (N := ["text", "word"]) (sc := defScope s_house_in) (by decide +kernel)) (fun _ _ _ _ _ => pg_name (i := 1) sc_house_in.nd rfl (Or.inl rfl)) (fun _ _ _ _ _ => zts_nil) (fun _ _ _ _ _ => zcall takes0 G_thing_in (hr.mono (by decide)) rfl (za_cons (zv 1) (za_nil))))))
theorem ok_read_world (T : Tx w K mg) (F : FunD K "read_world" "read_world" (defArgs s_read_world) (defBody s_read_world) (defScope s_read_world) [] [] f fd)
    (G_World___init__ : Ck P w K mg base "World" (cl K "World") 5 ["self", "houses"] [] (fs_World___init__ (cl K)))
    (G_house_in : Fn P w K mg base "house_in" 7 ["text"] [] (fs_house_in))
    (E_NoText : Ex P w K mg base "NoText" (cl K "NoText"))
    (GN_World___init__ : CkN P w K mg base "World" (cl K "World") 5 ["self", "houses"] [] (fs_World___init__ (cl K)))
    (EH_NoText : ExH P w K mg base "NoText" (cl K "NoText")) : FnOk P w K mg base (L2.CX P w) 8 f fd ["text"] (lSp K (fs_read_world_x (cl K))) := by
  refine zdef F sc_read_world (fun p vs h q => by first | exact congrArg List.length q | exact congrArg List.length q.1 | (obtain ⟨_, _⟩ := p; first | exact congrArg List.length q | exact congrArg List.length q.1) | (obtain ⟨_, _, _⟩ := p; first | exact congrArg List.length q | exact congrArg List.length q.1) | (obtain ⟨_, _, _, _⟩ := p; first | exact congrArg List.length q | exact congrArg List.length q.1) | (obtain ⟨_, _, _, _, _⟩ := p; first | exact congrArg List.length q | exact congrArg List.length q.1)) fun cdv A outer s H E hr => ⟨r_read_world_x (cl K), ?_, fun p vs h Q X g q hp hx => rd_read_world_x g q hp hx⟩
  exact zb_cons (zs_setLc (i := 2) (own := [("part", 1)]) tg1_ok rfl sc_read_world.nd rfl rfl (sw_true rfl rfl rfl (by decide +kernel)) (zi_list (zbm PySem.F.plainAttrs_str PySem.F.slot_str_split PySem.F.type_str_split mt_split s_split (zv 0) (za_cons (zstr) (za_nil)))) (blkOk_by (own := [("part", 1)]) (N := ["text", "part", "houses", "things"]) (sc := defScope s_read_world) (by decide +kernel)) (fun _ _ _ _ _ => pg_name (i := 1) sc_read_world.nd rfl (Or.inl rfl)) (fun _ _ _ _ _ => zts_nil) (fun _ _ _ _ _ => zcall takes0 G_house_in (hr.mono (by decide)) rfl (za_cons (zv 1) (za_nil))))
      (zb_cons (zs_for psd rfl (zi_list (zv 2)) (zg_name (i := 3) sc_read_world.nd rfl (Or.inl rfl))
      (zb_one (zs_if (ztc (op_inD (hu65 hr)) (s_inD) (znon) (zv 3) rfl) (zb_one (zs_raise tkd rfl E_NoText (hr.mono (by decide)) rfl (zv 0))) (zb_nil))))
      (zb_one (zs_try_onlyX rfl rfl ⟨rfl, by decide, .inl T.gl_NoWorld⟩ pad tkd (all_cons T.xm_NoWorld__NoWorld (all_nil)) (all_nil)
      (fun WX pnX xeX tkX psX => zb_one (zs_ret (zmakeN tkX GN_World___init__ (hr.mono (by decide)) rfl (za_cons (zv 2) (za_nil)))))
      (fun ea eoe epn tks hot => zb_one (zs_raiseH tks hot EH_NoText (L2H.roomH_mark (hr.mono (by decide)) _) rfl (zv 0))))))
theorem ok_law (T : Tx w K mg) (F : FunD K "law" "law" (defArgs s_law) (defBody s_law) (defScope s_law) [] [] f fd)
    (G_law_alike : Fn P w K mg base "_law_alike" 8 ["found", "due"] [] (fs_law_alike 5))
    (G_law_draw : Fn P w K mg base "_law_draw" 3 ["tray", "many"] [] (fs_law_draw))
    (G_law_houses_of : Fn P w K mg base "_law_houses_of" 6 ["text"] [] (fs_law_houses_of))
    (G_law_odd : Fn P w K mg base "_law_odd" 4 ["tray"] [] (fs_law_odd))
    (G_law_shorter : Fn P w K mg base "_law_shorter" 6 ["houses"] [] (fs_law_shorter_v1))
    (G_law_shown : Fn P w K mg base "_law_shown" 5 ["houses"] [] (fs_law_shown))
    (G_law_spoilt : Fn P w K mg base "_law_spoilt" 5 ["tray", "text"] [] (fs_law_spoilt))
    (G_law_told : Fn P w K mg base "_law_told" 9 ["world", "houses"] [] (fs_law_told_v1 (cl K)))
    (G_law_tray : Fn P w K mg base "_law_tray" 3 ["script"] [] (fs_law_tray))
    (G_law_world : Fn P w K mg base "_law_world" 6 ["tray"] [] (fs_law_world_v1))
    (G_read_world : Fn P w K mg base "read_world" 8 ["text"] [] (fs_read_world_x (cl K))) : FnOk P w K mg base CX0 10 f fd ["script"] (lSp K ⟨Unit, fun _ => preL, fun _ _ v _ => v = .bl true, fun _ _ _ _ _ => False⟩) := by
  refine zlaw F sc_law (fun vs h ⟨ns, q, _⟩ => congrArg List.length q) fun cdv A outer s H E hr => ⟨r_law_k05 (cl K), ?_, fun vs h Q q hp => rd_law_k05 q hp⟩
  exact zb_cons (zs_set (i := 1) sc_law.nd rfl (Or.inl rfl) (zcall tkl G_law_tray (hr.mono (by decide)) rfl (za_cons (zv 0) (za_nil))))
      (zb_cons (zs_for psl rfl (zi_r1 rfl T.g_range (zop op_add s_add (zint) (zcallB call_len s_len rfl T.g_len PySem.boot_len (za_cons (zslice sl_list s_slL (zv 0) (zo_none) (zo_some (zint))) (za_nil))))) (zg_name (i := 2) sc_law.nd rfl (Or.inl rfl))
      (zb_cons (zs_set (i := 3) sc_law.nd rfl (Or.inl rfl) (zcall tkl G_law_draw (hr.mono (by decide)) rfl (za_cons (zv 1) (za_cons (zint) (za_nil)))))
      (zb_cons (zs_set (i := 4) sc_law.nd rfl (Or.inl rfl) (zcall tkl G_law_draw (hr.mono (by decide)) rfl (za_cons (zv 1) (za_cons (zint) (za_nil)))))
      (zb_cons (zs_set (i := 5) sc_law.nd rfl (Or.inl rfl) (zstr))
      (zb_cons (zs_if (ztc op_eq (s_eqS) (zv 4) (zint) (nomark _)) (zb_one (zs_set (i := 5) sc_law.nd rfl (Or.inl rfl) (zcall tkl G_law_odd (hr.mono (by decide)) rfl (za_cons (zv 1) (za_nil))))) (zb_cons (zs_set (i := 5) sc_law.nd rfl (Or.inl rfl) (zcall tkl G_law_shown (hr.mono (by decide)) rfl (za_cons (zcall tkl G_law_shorter (hr.mono (by decide)) rfl (za_cons (zcall tkl G_law_world (hr.mono (by decide)) rfl (za_cons (zv 1) (za_nil))) (za_nil))) (za_nil))))
      (zb_one (zs_for psl rfl (zi_r1 rfl T.g_range (zv 3)) (zg_name (i := 6) sc_law.nd rfl (Or.inl rfl))
      (zb_one (zs_set (i := 5) sc_law.nd rfl (Or.inl rfl) (zcall tkl G_law_spoilt (hr.mono (by decide)) rfl (za_cons (zv 1) (za_cons (zv 5) (za_nil))))))))))
      (zb_cons (zs_set (i := 7) sc_law.nd rfl (Or.inl rfl) (zcall tkl G_law_houses_of (hr.mono (by decide)) rfl (za_cons (zv 5) (za_nil))))
      (zb_cons (zs_set (i := 8) sc_law.nd rfl (Or.inl rfl) (znon))
      (zb_cons (zs_set (i := 9) sc_law.nd rfl (Or.inl rfl) (zlst (za_nil)))
      (zb_cons (zs_try_as rfl rfl sc_law.nd (i := 10) rfl rfl ⟨rfl, by decide, .inl T.gl_NoText⟩ tkl (all_cons T.xm_NoText__NoText (all_nil)) (all_cons T.xn_NoWorld__NoText (all_nil))
      (fun W0 pn0 xe0 tk0 ps0 => zb_one (zs_set (i := 8) sc_law.nd rfl (Or.inl rfl) (zcall tk0 G_read_world (hr.mono (by decide)) rfl (za_cons (zv 5) (za_nil)))))
      (fun ea eoe eC edd epn ehC ehz ehv => zb_one (zs_set (i := 9) sc_law.nd rfl (Or.inl rfl) (zlst (za_cons (zxf ((all_cons (P := fun C => ErrC K C) T.er_NoText (all_nil)) eC ehC) ehz ehv (zv 10)) (za_cons (zerr_is ((all_cons (P := fun C => ErrC K C) T.er_NoText (all_nil)) eC ehC) ehz ehv rfl T.g_isinstance (za_cons (zv 10) (za_cons (zcls rfl T.gl_SentError) za_nil)) rfl ((all_cons (P := fun C => PySem.W.kitOne K (.ref C) (.ref (cl K "SentError")) = some true) T.kt_NoText__SentError (all_nil)) eC ehC)) (za_cons (zerr_is ((all_cons (P := fun C => ErrC K C) T.er_NoText (all_nil)) eC ehC) ehz ehv rfl T.g_isinstance (za_cons (zv 10) (za_cons (ztyp rfl T.g_ValueError (by decide +kernel)) za_nil)) rfl ((all_cons (P := fun C => PySem.W.kitOne K (.ref C) (.type "ValueError") = some true) T.ky_NoText__ValueError (all_nil)) eC ehC)) (za_cons (zerr_no ((all_cons (P := fun C => ErrC K C) T.er_NoText (all_nil)) eC ehC) ehz ehv rfl T.g_isinstance (zv 10) (.cons (zcls rfl T.gl_NoAsker) ((all_cons (P := fun C => PySem.W.kitOne K (.ref C) (.ref (cl K "NoAsker")) = some false) T.kf_NoText__NoAsker (all_nil)) eC ehC) (.cons (zcls rfl T.gl_NoHouse) ((all_cons (P := fun C => PySem.W.kitOne K (.ref C) (.ref (cl K "NoHouse")) = some false) T.kf_NoText__NoHouse (all_nil)) eC ehC) (.cons (zcls rfl T.gl_NoLog) ((all_cons (P := fun C => PySem.W.kitOne K (.ref C) (.ref (cl K "NoLog")) = some false) T.kf_NoText__NoLog (all_nil)) eC ehC) (.cons (zcls rfl T.gl_NoRow) ((all_cons (P := fun C => PySem.W.kitOne K (.ref C) (.ref (cl K "NoRow")) = some false) T.kf_NoText__NoRow (all_nil)) eC ehC) (.cons (zcls rfl T.gl_NoScript) ((all_cons (P := fun C => PySem.W.kitOne K (.ref C) (.ref (cl K "NoScript")) = some false) T.kf_NoText__NoScript (all_nil)) eC ehC) (.cons (zcls rfl T.gl_NoStep) ((all_cons (P := fun C => PySem.W.kitOne K (.ref C) (.ref (cl K "NoStep")) = some false) T.kf_NoText__NoStep (all_nil)) eC ehC) (.cons (zcls rfl T.gl_NotSettled) ((all_cons (P := fun C => PySem.W.kitOne K (.ref C) (.ref (cl K "NotSettled")) = some false) T.kf_NoText__NotSettled (all_nil)) eC ehC) (.cons (zcls rfl T.gl_NoThing) ((all_cons (P := fun C => PySem.W.kitOne K (.ref C) (.ref (cl K "NoThing")) = some false) T.kf_NoText__NoThing (all_nil)) eC ehC) (.cons (zcls rfl T.gl_NoWorld) ((all_cons (P := fun C => PySem.W.kitOne K (.ref C) (.ref (cl K "NoWorld")) = some false) T.kf_NoText__NoWorld (all_nil)) eC ehC) (.cons (zcls rfl T.gl_TooMany) ((all_cons (P := fun C => PySem.W.kitOne K (.ref C) (.ref (cl K "TooMany")) = some false) T.kf_NoText__TooMany (all_nil)) eC ehC) (.cons (zcls rfl T.gl_Twice) ((all_cons (P := fun C => PySem.W.kitOne K (.ref C) (.ref (cl K "Twice")) = some false) T.kf_NoText__Twice (all_nil)) eC ehC) (.nil)))))))))))) (by simp)) (za_nil)))))))))
      (zb_cons (zs_if (ztw (zwand (ztisN (zv 7)) (zw1 (ztnot (ztv (zcall tkl G_law_alike (hr.mono (by decide)) rfl (za_cons (zv 9) (za_cons (zlst (za_cons (zv 5) (za_cons (zbl) (za_cons (zbl) (za_cons (zbl) (za_nil)))))) (za_nil))))))))) (zb_one (zs_ret (zbl))) (zb_nil))
      (zb_one (zs_if (ztw (zwand (ztnotN (zv 7)) (zw1 (ztw (zwor (ztc (op_neD hr.units) (s_neD) (zv 9) (zlst (za_nil)) (nomark _)) (zw1 (ztnot (ztv (zcall tkl G_law_told (hr.mono (by decide)) rfl (za_cons (zv 8) (za_cons (zv 7) (za_nil)))))))))))) (zb_one (zs_ret (zbl))) (zb_nil)))))))))))))
      (zb_one (zs_ret (zbl))))
end
theorem facts {P : Program} {w : World} (hww : w = Wrl.w) {K : PySem.W.Frag} {h : Heap} {mg : Str → Option Value} {f : Addr} (X : K.In h) (G : h.Ns mainGlobals mg) (hfa : mg ("law" : Str) = some (.ref f)) (ce : SaysE fa fn tb xs fb w K) :
    ∃ fd : FuncData, (∀ (s : Shared) (v : Value), BindsTo s fd ⟨[v], []⟩ [("script", v)]) ∧ ∀ base : Heap, FnOk P w K mg base CX0 10 f fd ["script"] (lSp K ⟨Unit, fun _ => preL, fun _ _ v _ => v = .bl true, fun _ _ _ _ _ => False⟩) := by
  have c := ce.d
  have T : Tx w K mg := ⟨He.cls_ok (c.fact 0), ce.err 0, He.free_ok X G (c.fact 1), He.free_ok X G (c.fact 2), He.free_ok X G (c.fact 3), He.free_ok X G (c.fact 4), He.free_ok X G (c.fact 5), He.free_ok X G (c.fact 6), He.free_ok X G (c.fact 7), He.free_ok X G (c.fact 8), He.free_ok X G (c.fact 9), He.free_ok X G (c.fact 10), He.free_ok X G (c.fact 11), He.glo_ok X G (c.fact 12), He.glo_ok X G (c.fact 13), He.glo_ok X G (c.fact 14), He.glo_ok X G (c.fact 15), He.glo_ok X G (c.fact 16), He.glo_ok X G (c.fact 17), He.glo_ok X G (c.fact 18), He.glo_ok X G (c.fact 19), He.glo_ok X G (c.fact 20), He.glo_ok X G (c.fact 21), He.glo_ok X G (c.fact 22), He.glo_ok X G (c.fact 23), He.glo_ok X G (c.fact 24), He.int_ok X G (c.fact 25), He.int_ok X G (c.fact 26), He.int_ok X G (c.fact 27), He.int_ok X G (c.fact 28), ce.kit 1, ce.kit 2, ce.kit 3, ce.kit 4, ce.kit 5, ce.kit 6, ce.kit 7, ce.kit 8, ce.kit 9, ce.kit 10, ce.kit 11, ce.kit 12, ce.kitT 13, He.noat_ok (c.fact 29), He.str_ok X G (c.fact 30), He.exm_ok (c.fact 31), He.exm_ok (c.fact 32), He.exm_ok (c.fact 33)⟩
  obtain ⟨fdl, Fl⟩ := c.def_ 34 (d := d_law) rfl
  have ef := hfa.symm.trans (He.glo_ok X G (c.fact 69))
  cases ef
  have b := FunD.bindsA (ps := ["script"]) Fl fun _ _ _ _ _ _ us hl => match us, hl with | [_], _ => rfl
  refine ⟨fdl, fun s v => b s [v] rfl, fun base => ?_⟩
  obtain ⟨fd_law_alike, FD_law_alike⟩ := c.def_ 0 (d := d_law_alike) rfl
  obtain ⟨fd_law_draw, FD_law_draw⟩ := c.def_ 1 (d := d_law_draw) rfl
  obtain ⟨fd_law_figures, FD_law_figures⟩ := c.def_ 2 (d := d_law_figures) rfl
  obtain ⟨fd_law_ref_of, FD_law_ref_of⟩ := c.def_ 3 (d := d_law_ref_of) rfl
  obtain ⟨fd_law_thing_of, FD_law_thing_of⟩ := c.def_ 4 (d := d_law_thing_of) rfl
  obtain ⟨fd_law_houses_of, FD_law_houses_of⟩ := c.def_ 5 (d := d_law_houses_of) rfl
  obtain ⟨fd_law_odd, FD_law_odd⟩ := c.def_ 6 (d := d_law_odd) rfl
  obtain ⟨fd_law_ref_shown, FD_law_ref_shown⟩ := c.def_ 7 (d := d_law_ref_shown) rfl
  obtain ⟨fd_law_thing_shown, FD_law_thing_shown⟩ := c.def_ 8 (d := d_law_thing_shown) rfl
  obtain ⟨fd_law_shown, FD_law_shown⟩ := c.def_ 9 (d := d_law_shown) rfl
  obtain ⟨fd_law_shorter, FD_law_shorter⟩ := c.def_ 10 (d := d_law_shorter) rfl
  obtain ⟨fd_law_sign, FD_law_sign⟩ := c.def_ 11 (d := d_law_sign) rfl
  obtain ⟨fd_law_word, FD_law_word⟩ := c.def_ 12 (d := d_law_word) rfl
  obtain ⟨fd_law_spoilt, FD_law_spoilt⟩ := c.def_ 13 (d := d_law_spoilt) rfl
  obtain ⟨fd_World___len__, FD_World___len__⟩ := c.def_ 14 (d := d_World___len__) rfl
  obtain ⟨fd_World_house, FD_World_house⟩ := c.def_ 15 (d := d_World_house) rfl
  obtain ⟨fd_law_told, FD_law_told⟩ := c.def_ 16 (d := d_law_told) rfl
  obtain ⟨fd_law_tray, FD_law_tray⟩ := c.def_ 17 (d := d_law_tray) rfl
  obtain ⟨fd_law_sizes, FD_law_sizes⟩ := c.def_ 18 (d := d_law_sizes) rfl
  obtain ⟨fd_law_any, FD_law_any⟩ := c.def_ 19 (d := d_law_any) rfl
  obtain ⟨fd_law_ref, FD_law_ref⟩ := c.def_ 20 (d := d_law_ref) rfl
  obtain ⟨fd_law_thing, FD_law_thing⟩ := c.def_ 21 (d := d_law_thing) rfl
  obtain ⟨fd_law_world, FD_law_world⟩ := c.def_ 22 (d := d_law_world) rfl
  obtain ⟨fd_is_there, FD_is_there⟩ := c.def_ 23 (d := d_is_there) rfl
  obtain ⟨fd_refs_of, FD_refs_of⟩ := c.def_ 24 (d := d_refs_of) rfl
  obtain ⟨fd_is_good, FD_is_good⟩ := c.def_ 25 (d := d_is_good) rfl
  obtain ⟨fd_World___init__, FD_World___init__⟩ := c.def_ 26 (d := d_World___init__) rfl
  obtain ⟨fd_is_number, FD_is_number⟩ := c.def_ 27 (d := d_is_number) rfl
  obtain ⟨fd_is_signed, FD_is_signed⟩ := c.def_ 28 (d := d_is_signed) rfl
  obtain ⟨fd_ref_in, FD_ref_in⟩ := c.def_ 29 (d := d_ref_in) rfl
  obtain ⟨fd_shelf_in, FD_shelf_in⟩ := c.def_ 30 (d := d_shelf_in) rfl
  obtain ⟨fd_thing_in, FD_thing_in⟩ := c.def_ 31 (d := d_thing_in) rfl
  obtain ⟨fd_house_in, FD_house_in⟩ := c.def_ 32 (d := d_house_in) rfl
  obtain ⟨fd_read_world, FD_read_world⟩ := c.def_ 33 (d := d_read_world) rfl
  have FD_law := Fl
  obtain ⟨fd_SentError___init__, FD_SentError___init__⟩ := c.def_ 35 (d := d_SentError___init__) rfl
  have oe_SentError := ok_what (P := P) (w := w) (mg := mg) (base := base) FD_SentError___init__ sc_SentError___init__ rfl rfl
  have E_NoHouse : Ex P w K mg base "NoHouse" (cl K "NoHouse") := ex_of (y := "SentError") oe_SentError (He.glo_ok X G (c.fact 13)) (ce.ex 0) (FunD.bindsN FD_SentError___init__ fun _ _ _ _ _ _ us hl => match us, hl with | [_, _], _ => rfl)
  have E_NoText : Ex P w K mg base "NoText" (cl K "NoText") := ex_of (y := "SentError") oe_SentError (He.glo_ok X G (c.fact 18)) (ce.ex 1) (FunD.bindsN FD_SentError___init__ fun _ _ _ _ _ _ us hl => match us, hl with | [_, _], _ => rfl)
  have E_NoWorld : Ex P w K mg base "NoWorld" (cl K "NoWorld") := ex_of (y := "SentError") oe_SentError (He.glo_ok X G (c.fact 20)) (ce.ex 2) (FunD.bindsN FD_SentError___init__ fun _ _ _ _ _ _ us hl => match us, hl with | [_, _], _ => rfl)
  have oeH_SentError := okH_what (P := P) (w := w) (mg := mg) (base := base) FD_SentError___init__ sc_SentError___init__ rfl rfl
  have EH_NoText : ExH P w K mg base "NoText" (cl K "NoText") := exH_of (y := "SentError") oeH_SentError (He.glo_ok X G (c.fact 18)) (ce.ex 1) (FunD.bindsN FD_SentError___init__ fun _ _ _ _ _ _ us hl => match us, hl with | [_, _], _ => rfl)
  have o_law_alike := ok_law_alike (P := P) (w := w) (mg := mg) (base := base) T FD_law_alike (He.glo_ok X G (c.fact 34)) 5
  have o_law_draw := ok_law_draw (P := P) (w := w) (mg := mg) (base := base) T FD_law_draw
  have o_law_figures := ok_law_figures (P := P) (w := w) (mg := mg) (base := base) T FD_law_figures
  have G_law_figures : Fn P w K mg base "_law_figures" 3 ["word"] [] (fs_law_figures) := ⟨⟨_, _, [], [], o_law_figures, He.glo_ok X G (c.fact 35), FD_law_figures.kp, .nil, fun _ => rels_nil.mpr rfl, (FunD.bindsN FD_law_figures fun _ _ _ _ _ _ us hl => match us, hl with | [_], _ => rfl)⟩⟩
  have o_law_ref_of := ok_law_ref_of (P := P) (w := w) (mg := mg) (base := base) T FD_law_ref_of G_law_figures
  have G_law_ref_of : Fn P w K mg base "_law_ref_of" 4 ["word", "sizes"] [] (fs_law_ref_of) := ⟨⟨_, _, [], [], o_law_ref_of, He.glo_ok X G (c.fact 36), FD_law_ref_of.kp, .nil, fun _ => rels_nil.mpr rfl, (FunD.bindsN FD_law_ref_of fun _ _ _ _ _ _ us hl => match us, hl with | [_, _], _ => rfl)⟩⟩
  have o_law_thing_of := ok_law_thing_of (P := P) (w := w) (mg := mg) (base := base) T FD_law_thing_of G_law_figures G_law_ref_of
  have G_law_thing_of : Fn P w K mg base "_law_thing_of" 5 ["word", "sizes"] [] (fs_law_thing_of) := ⟨⟨_, _, [], [], o_law_thing_of, He.glo_ok X G (c.fact 37), FD_law_thing_of.kp, .nil, fun _ => rels_nil.mpr rfl, (FunD.bindsN FD_law_thing_of fun _ _ _ _ _ _ us hl => match us, hl with | [_, _], _ => rfl)⟩⟩
  have o_law_houses_of := ok_law_houses_of (P := P) (w := w) (mg := mg) (base := base) T FD_law_houses_of G_law_thing_of
  have G_law_draw : Fn P w K mg base "_law_draw" 3 ["tray", "many"] [] (fs_law_draw) := ⟨⟨_, _, [], [], o_law_draw, He.glo_ok X G (c.fact 38), FD_law_draw.kp, .nil, fun _ => rels_nil.mpr rfl, (FunD.bindsN FD_law_draw fun _ _ _ _ _ _ us hl => match us, hl with | [_, _], _ => rfl)⟩⟩
  have o_law_odd := ok_law_odd (P := P) (w := w) (mg := mg) (base := base) T FD_law_odd G_law_draw
  have o_law_ref_shown := ok_law_ref_shown (P := P) (w := w) (mg := mg) (base := base) T FD_law_ref_shown
  have G_law_ref_shown : Fn P w K mg base "_law_ref_shown" 3 ["ref"] [] (fs_law_ref_shown) := ⟨⟨_, _, [], [], o_law_ref_shown, He.glo_ok X G (c.fact 39), FD_law_ref_shown.kp, .nil, fun _ => rels_nil.mpr rfl, (FunD.bindsN FD_law_ref_shown fun _ _ _ _ _ _ us hl => match us, hl with | [_], _ => rfl)⟩⟩
  have o_law_thing_shown := ok_law_thing_shown (P := P) (w := w) (mg := mg) (base := base) T FD_law_thing_shown G_law_ref_shown
  have G_law_thing_shown : Fn P w K mg base "_law_thing_shown" 4 ["thing"] [] (fs_law_thing_shown) := ⟨⟨_, _, [], [], o_law_thing_shown, He.glo_ok X G (c.fact 40), FD_law_thing_shown.kp, .nil, fun _ => rels_nil.mpr rfl, (FunD.bindsN FD_law_thing_shown fun _ _ _ _ _ _ us hl => match us, hl with | [_], _ => rfl)⟩⟩
  have o_law_shown := ok_law_shown (P := P) (w := w) (mg := mg) (base := base) T FD_law_shown G_law_thing_shown
  have G_law_shown : Fn P w K mg base "_law_shown" 5 ["houses"] [] (fs_law_shown) := ⟨⟨_, _, [], [], o_law_shown, He.glo_ok X G (c.fact 41), FD_law_shown.kp, .nil, fun _ => rels_nil.mpr rfl, (FunD.bindsN FD_law_shown fun _ _ _ _ _ _ us hl => match us, hl with | [_], _ => rfl)⟩⟩
  have o_law_shorter := ok_law_shorter (P := P) (w := w) (mg := mg) (base := base) T FD_law_shorter G_law_shown
  have o_law_sign := ok_law_sign (P := P) (w := w) (mg := mg) (base := base) T FD_law_sign G_law_draw
  have o_law_word := ok_law_word (P := P) (w := w) (mg := mg) (base := base) T FD_law_word G_law_draw
  have G_law_sign : Fn P w K mg base "_law_sign" 4 ["tray"] [] (fs_law_sign_v1) := ⟨⟨_, _, [], [], o_law_sign, He.glo_ok X G (c.fact 42), FD_law_sign.kp, .nil, fun _ => rels_nil.mpr rfl, (FunD.bindsN FD_law_sign fun _ _ _ _ _ _ us hl => match us, hl with | [_], _ => rfl)⟩⟩
  have G_law_word : Fn P w K mg base "_law_word" 4 ["tray"] [] (fs_law_word_v1) := ⟨⟨_, _, [], [], o_law_word, He.glo_ok X G (c.fact 43), FD_law_word.kp, .nil, fun _ => rels_nil.mpr rfl, (FunD.bindsN FD_law_word fun _ _ _ _ _ _ us hl => match us, hl with | [_], _ => rfl)⟩⟩
  have o_law_spoilt := ok_law_spoilt (P := P) (w := w) (mg := mg) (base := base) T FD_law_spoilt G_law_draw G_law_sign G_law_word
  have o_World___len__ := ok_World___len__ (P := P) (w := w) (mg := mg) (base := base) T FD_World___len__
  have o_World_house := ok_World_house (P := P) (w := w) (mg := mg) (base := base) T FD_World_house E_NoHouse
  have G_World___len__ : Mt P w K mg base (cl K "World") "__len__" 3 ["self"] [] (fs_World___len__ (cl K)) := ⟨⟨_, _, [], [], o_World___len__, He.meth_ok (c.fact 44), .nil, fun _ => rels_nil.mpr rfl, (FunD.bindsN FD_World___len__ fun _ _ _ _ _ _ us hl => match us, hl with | [_], _ => rfl)⟩⟩
  have G_World_house : Mt P w K mg base (cl K "World") "house" 3 ["self", "number"] [] (fs_World_house (cl K)) := ⟨⟨_, _, [], [], o_World_house, He.meth_ok (c.fact 45), .nil, fun _ => rels_nil.mpr rfl, (FunD.bindsN FD_World_house fun _ _ _ _ _ _ us hl => match us, hl with | [_, _], _ => rfl)⟩⟩
  have G_law_alike : Fn P w K mg base "_law_alike" 8 ["found", "due"] [] (fs_law_alike 5) := ⟨⟨_, _, [], [], o_law_alike, He.glo_ok X G (c.fact 34), FD_law_alike.kp, .nil, fun _ => rels_nil.mpr rfl, (FunD.bindsN FD_law_alike fun _ _ _ _ _ _ us hl => match us, hl with | [_, _], _ => rfl)⟩⟩
  have o_law_told := ok_law_told (P := P) (w := w) (mg := mg) (base := base) T FD_law_told G_World___len__ G_World_house G_law_alike
  have o_law_tray := ok_law_tray (P := P) (w := w) (mg := mg) (base := base) T FD_law_tray
  have o_law_sizes := ok_law_sizes (P := P) (w := w) (mg := mg) (base := base) T FD_law_sizes G_law_draw
  have o_law_any := ok_law_any (P := P) (w := w) (mg := mg) (base := base) T FD_law_any G_law_draw
  have o_law_ref := ok_law_ref (P := P) (w := w) (mg := mg) (base := base) T FD_law_ref G_law_draw
  have G_law_any : Fn P w K mg base "_law_any" 4 ["tray"] [] (fs_law_any) := ⟨⟨_, _, [], [], o_law_any, He.glo_ok X G (c.fact 46), FD_law_any.kp, .nil, fun _ => rels_nil.mpr rfl, (FunD.bindsN FD_law_any fun _ _ _ _ _ _ us hl => match us, hl with | [_], _ => rfl)⟩⟩
  have G_law_ref : Fn P w K mg base "_law_ref" 4 ["tray", "sizes"] [] (fs_law_ref) := ⟨⟨_, _, [], [], o_law_ref, He.glo_ok X G (c.fact 47), FD_law_ref.kp, .nil, fun _ => rels_nil.mpr rfl, (FunD.bindsN FD_law_ref fun _ _ _ _ _ _ us hl => match us, hl with | [_, _], _ => rfl)⟩⟩
  have o_law_thing := ok_law_thing (P := P) (w := w) (mg := mg) (base := base) T FD_law_thing G_law_any G_law_draw G_law_ref
  have G_law_sizes : Fn P w K mg base "_law_sizes" 4 ["tray"] [] (fs_law_sizes) := ⟨⟨_, _, [], [], o_law_sizes, He.glo_ok X G (c.fact 48), FD_law_sizes.kp, .nil, fun _ => rels_nil.mpr rfl, (FunD.bindsN FD_law_sizes fun _ _ _ _ _ _ us hl => match us, hl with | [_], _ => rfl)⟩⟩
  have G_law_thing : Fn P w K mg base "_law_thing" 5 ["tray", "sizes"] [] (fs_law_thing) := ⟨⟨_, _, [], [], o_law_thing, He.glo_ok X G (c.fact 49), FD_law_thing.kp, .nil, fun _ => rels_nil.mpr rfl, (FunD.bindsN FD_law_thing fun _ _ _ _ _ _ us hl => match us, hl with | [_, _], _ => rfl)⟩⟩
  have o_law_world := ok_law_world (P := P) (w := w) (mg := mg) (base := base) T FD_law_world G_law_sizes G_law_thing
  have o_is_there := ok_is_there (P := P) (w := w) (mg := mg) (base := base) T FD_is_there
  have o_refs_of := ok_refs_of (P := P) (w := w) (mg := mg) (base := base) T FD_refs_of
  have G_is_there : Fn P w K mg base "is_there" 3 ["houses", "ref"] [] (fs_is_there) := ⟨⟨_, _, [], [], o_is_there, He.glo_ok X G (c.fact 50), FD_is_there.kp, .nil, fun _ => rels_nil.mpr rfl, (FunD.bindsN FD_is_there fun _ _ _ _ _ _ us hl => match us, hl with | [_, _], _ => rfl)⟩⟩
  have G_refs_of : Fn P w K mg base "refs_of" 3 ["thing"] [] (fs_refs_of) := ⟨⟨_, _, [], [], o_refs_of, He.glo_ok X G (c.fact 51), FD_refs_of.kp, .nil, fun _ => rels_nil.mpr rfl, (FunD.bindsN FD_refs_of fun _ _ _ _ _ _ us hl => match us, hl with | [_], _ => rfl)⟩⟩
  have o_is_good := ok_is_good (P := P) (w := w) (mg := mg) (base := base) T FD_is_good G_is_there G_refs_of
  have G_is_good : Fn P w K mg base "is_good" 4 ["houses", "things"] [] (fs_is_good) := ⟨⟨_, _, [], [], o_is_good, He.glo_ok X G (c.fact 52), FD_is_good.kp, .nil, fun _ => rels_nil.mpr rfl, (FunD.bindsN FD_is_good fun _ _ _ _ _ _ us hl => match us, hl with | [_, _], _ => rfl)⟩⟩
  have o_World___init__ := ok_World___init__ (P := P) (w := w) (mg := mg) (base := base) T FD_World___init__ G_is_good E_NoWorld
  have oN_World___init__ := okN_World___init__ (P := P) (w := w) (mg := mg) (base := base) T FD_World___init__ G_is_good E_NoWorld
  have o_is_number := ok_is_number (P := P) (w := w) (mg := mg) (base := base) T FD_is_number
  have G_is_number : Fn P w K mg base "is_number" 3 ["word"] [] (fs_is_number) := ⟨⟨_, _, [], [], o_is_number, He.glo_ok X G (c.fact 53), FD_is_number.kp, .nil, fun _ => rels_nil.mpr rfl, (FunD.bindsN FD_is_number fun _ _ _ _ _ _ us hl => match us, hl with | [_], _ => rfl)⟩⟩
  have o_is_signed := ok_is_signed (P := P) (w := w) (mg := mg) (base := base) T FD_is_signed G_is_number
  have o_ref_in := ok_ref_in (P := P) (w := w) (mg := mg) (base := base) T FD_ref_in G_is_number
  have G_ref_in : Fn P w K mg base "ref_in" 4 ["word"] [] (fs_ref_in) := ⟨⟨_, _, [], [], o_ref_in, He.glo_ok X G (c.fact 54), FD_ref_in.kp, .nil, fun _ => rels_nil.mpr rfl, (FunD.bindsN FD_ref_in fun _ _ _ _ _ _ us hl => match us, hl with | [_], _ => rfl)⟩⟩
  have o_shelf_in := ok_shelf_in (P := P) (w := w) (mg := mg) (base := base) T FD_shelf_in G_ref_in
  have G_is_signed : Fn P w K mg base "is_signed" 4 ["word"] [] (fs_is_signed) := ⟨⟨_, _, [], [], o_is_signed, He.glo_ok X G (c.fact 55), FD_is_signed.kp, .nil, fun _ => rels_nil.mpr rfl, (FunD.bindsN FD_is_signed fun _ _ _ _ _ _ us hl => match us, hl with | [_], _ => rfl)⟩⟩
  have G_shelf_in : Fn P w K mg base "shelf_in" 5 ["text"] [] (fs_shelf_in) := ⟨⟨_, _, [], [], o_shelf_in, He.glo_ok X G (c.fact 56), FD_shelf_in.kp, .nil, fun _ => rels_nil.mpr rfl, (FunD.bindsN FD_shelf_in fun _ _ _ _ _ _ us hl => match us, hl with | [_], _ => rfl)⟩⟩
  have o_thing_in := ok_thing_in (P := P) (w := w) (mg := mg) (base := base) T FD_thing_in G_is_signed G_ref_in G_shelf_in
  have G_thing_in : Fn P w K mg base "thing_in" 6 ["word"] [] (fs_thing_in) := ⟨⟨_, _, [], [], o_thing_in, He.glo_ok X G (c.fact 57), FD_thing_in.kp, .nil, fun _ => rels_nil.mpr rfl, (FunD.bindsN FD_thing_in fun _ _ _ _ _ _ us hl => match us, hl with | [_], _ => rfl)⟩⟩
  have o_house_in := ok_house_in (P := P) (w := w) (mg := mg) (base := base) T FD_house_in G_thing_in
  have G_World___init__ : Ck P w K mg base "World" (cl K "World") 5 ["self", "houses"] [] (fs_World___init__ (cl K)) := ⟨⟨_, _, [], [], o_World___init__, He.glo_ok X G (c.fact 58), He.mkr_ok (c.fact 59), .nil, fun _ => rels_nil.mpr rfl, (FunD.bindsN FD_World___init__ fun _ _ _ _ _ _ us hl => match us, hl with | [_, _], _ => rfl)⟩⟩
  have G_house_in : Fn P w K mg base "house_in" 7 ["text"] [] (fs_house_in) := ⟨⟨_, _, [], [], o_house_in, He.glo_ok X G (c.fact 60), FD_house_in.kp, .nil, fun _ => rels_nil.mpr rfl, (FunD.bindsN FD_house_in fun _ _ _ _ _ _ us hl => match us, hl with | [_], _ => rfl)⟩⟩
  have GN_World___init__ : CkN P w K mg base "World" (cl K "World") 5 ["self", "houses"] [] (fs_World___init__ (cl K)) := ⟨⟨_, _, [], [], oN_World___init__, He.glo_ok X G (c.fact 58), He.mkr_ok (c.fact 59), .nil, fun _ => rels_nil.mpr rfl, (FunD.bindsN FD_World___init__ fun _ _ _ _ _ _ us hl => match us, hl with | [_, _], _ => rfl)⟩⟩
  have o_read_world := ok_read_world (P := P) (w := w) (mg := mg) (base := base) T FD_read_world G_World___init__ G_house_in E_NoText GN_World___init__ EH_NoText
  have G_law_houses_of : Fn P w K mg base "_law_houses_of" 6 ["text"] [] (fs_law_houses_of) := ⟨⟨_, _, [], [], o_law_houses_of, He.glo_ok X G (c.fact 61), FD_law_houses_of.kp, .nil, fun _ => rels_nil.mpr rfl, (FunD.bindsN FD_law_houses_of fun _ _ _ _ _ _ us hl => match us, hl with | [_], _ => rfl)⟩⟩
  have G_law_odd : Fn P w K mg base "_law_odd" 4 ["tray"] [] (fs_law_odd) := ⟨⟨_, _, [], [], o_law_odd, He.glo_ok X G (c.fact 62), FD_law_odd.kp, .nil, fun _ => rels_nil.mpr rfl, (FunD.bindsN FD_law_odd fun _ _ _ _ _ _ us hl => match us, hl with | [_], _ => rfl)⟩⟩
  have G_law_shorter : Fn P w K mg base "_law_shorter" 6 ["houses"] [] (fs_law_shorter_v1) := ⟨⟨_, _, [], [], o_law_shorter, He.glo_ok X G (c.fact 63), FD_law_shorter.kp, .nil, fun _ => rels_nil.mpr rfl, (FunD.bindsN FD_law_shorter fun _ _ _ _ _ _ us hl => match us, hl with | [_], _ => rfl)⟩⟩
  have G_law_spoilt : Fn P w K mg base "_law_spoilt" 5 ["tray", "text"] [] (fs_law_spoilt) := ⟨⟨_, _, [], [], o_law_spoilt, He.glo_ok X G (c.fact 64), FD_law_spoilt.kp, .nil, fun _ => rels_nil.mpr rfl, (FunD.bindsN FD_law_spoilt fun _ _ _ _ _ _ us hl => match us, hl with | [_, _], _ => rfl)⟩⟩
  have G_law_told : Fn P w K mg base "_law_told" 9 ["world", "houses"] [] (fs_law_told_v1 (cl K)) := ⟨⟨_, _, [], [], o_law_told, He.glo_ok X G (c.fact 65), FD_law_told.kp, .nil, fun _ => rels_nil.mpr rfl, (FunD.bindsN FD_law_told fun _ _ _ _ _ _ us hl => match us, hl with | [_, _], _ => rfl)⟩⟩
  have G_law_tray : Fn P w K mg base "_law_tray" 3 ["script"] [] (fs_law_tray) := ⟨⟨_, _, [], [], o_law_tray, He.glo_ok X G (c.fact 66), FD_law_tray.kp, .nil, fun _ => rels_nil.mpr rfl, (FunD.bindsN FD_law_tray fun _ _ _ _ _ _ us hl => match us, hl with | [_], _ => rfl)⟩⟩
  have G_law_world : Fn P w K mg base "_law_world" 6 ["tray"] [] (fs_law_world_v1) := ⟨⟨_, _, [], [], o_law_world, He.glo_ok X G (c.fact 67), FD_law_world.kp, .nil, fun _ => rels_nil.mpr rfl, (FunD.bindsN FD_law_world fun _ _ _ _ _ _ us hl => match us, hl with | [_], _ => rfl)⟩⟩
  have G_read_world : Fn P w K mg base "read_world" 8 ["text"] [] (fs_read_world_x (cl K)) := ⟨⟨_, _, [], [], o_read_world, He.glo_ok X G (c.fact 68), FD_read_world.kp, .nil, fun _ => rels_nil.mpr rfl, (FunD.bindsN FD_read_world fun _ _ _ _ _ _ us hl => match us, hl with | [_], _ => rfl)⟩⟩
  exact ok_law T FD_law G_law_alike G_law_draw G_law_houses_of G_law_odd G_law_shorter G_law_shown G_law_spoilt G_law_told G_law_tray G_law_world G_read_world
end K05
end Z
theorem PySem.Challenge.cw_sentahead_k05_texts_of_no_world_holds : PySem.Challenge.rw_sentahead_k05_texts_of_no_world.Holds := by
  exact Z.K05.pre (by intro _ w hww K h mg f X G hfa ce; exact Z.K05.facts hww X G hfa ce)

