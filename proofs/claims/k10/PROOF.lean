import PyProof.Rows.All
import Wide.All
import OpenK.AllK
import Wide.FinOn
import HandS.ForMost
import HandS.ForExc
import HandS.Wide
import HandS.Defaults
import HandS.CallSlots
import HandS.IsInst
import HandS.Deep
import HandS.HeadHook2
import HandS.Head2
import HandS.HeadEnd
import KE.KeyNested
import KE.KDictWalk
import KE.SortData
import HandS.DictTup
import HandS.MakeKwOnly
import HandS.ExcInit
import HandS.MakeKw
import HandS.Head0
import HandS.Head1
import HandS.HeadHook1
import HandS.HeadHook3
import HandS.Sort
import HandS.TryOnly
import HandS.TryMany
import HandS.ExcField
import HandS.ExcIs
import HandS.RaiseFrom
import HandS.SuiteRaise
import HandS.NoneIn
import HandS.FStr
import KE.KCallOwn
import HandS.TupAny
import HandS.Text
import PyProof.StrOps2
import PyProof.InstNe
import HandS.More
import HandS.OwnEq
import HandS.TupLen
import KE.KDictSum
import KE.KDictCopyH
import KE.GoesMore
import KE.GoesZip
import KE.KTurns
import HandS.Exc
import PySem.Challenge.RW_sentahead_k10_whole_each_by_its_own_call
set_option Elab.async false
set_option linter.all false
set_option maxRecDepth 100000
set_option maxHeartbeats 4000000
/-!  -/
namespace Z
/-! Z1 -/
/-! Values as trees over the hand layer: the base. -/
open PySem PySem.Spec L2

abbrev Fr := PySem.W.Frag
/-- the world in which all runs (its hashes) -/
class Wrl where
  w : PySem.World

/-- a value: tuples, lists and instances that are never changed again are values; .ref a: an object that is owned -/
inductive Val where
  | non | bl (b : Bool) | int (i : Int) | str (x : Str) | tup (xs : List Val) | lst (xs : List Val) | scr (xs : List Val)
  | obj (C : Addr) (fs : List (Str × Val)) | ref (a : Addr) | ty (n : String) | exc (a dd : Addr) (v : Val) | err (C a dd : Addr) (v : Val)
/-- the object of a caught exception, held on to -/
def ErrO (cls : Value) (d : Option Addr) (a : Addr) : HO := .ext fun h => ∃ oe, h.get? a = some oe ∧ Zc cls d oe ∧ ∃ vs, oe.data = .fields vs

mutual
def Rel (K : Fr) (S : Hp) : Val → V → Prop
  | .non, w => w = .non
  | .bl b, w => w = .bl b
  | .int i, w => w = .int i
  | .str x, w => w = .str x
  | .tup xs, w => ∃ a ws, w = .ref a ∧ S a = some (.tup ws) ∧ Rels K S xs ws
  | .lst xs, w => ∃ a ws, w = .ref a ∧ S a = some (.lst ws) ∧ Rels K S xs ws
  | .scr xs, w => ∃ a ws, w = .ref a ∧ SqL K S a ws ∧ Rels K S xs ws
  | .obj C fs, w => ∃ a dx gs, w = .ref a ∧ S a = some (.ins C dx gs) ∧ RelF K S fs gs
  | .ref a, w => w = .ref a
  | .ty n, w => w = .ty n
  | .exc a dd v, w => w = .ref a ∧ ∃ u, S dd = some (.xd [("what", u)]) ∧ Rel K S v u
  | .err C a dd v, w => w = .ref a ∧ S a = some (ErrO (.ref C) (some dd) a) ∧ ∃ u, S dd = some (.xd [("what", u)]) ∧ Rel K S v u
def Rels (K : Fr) (S : Hp) : List Val → List V → Prop
  | [], ws => ws = []
  | x :: xs, ws => ∃ w r, ws = w :: r ∧ Rel K S x w ∧ Rels K S xs r
def RelF (K : Fr) (S : Hp) : List (Str × Val) → List (Str × V) → Prop
  | [], gs => gs = []
  | f :: fs, gs => ∃ w r, gs = (f.1, w) :: r ∧ Rel K S f.2 w ∧ RelF K S fs r
end

/-- S' keeps all of S -/
def Sub (S S' : Hp) : Prop := ∀ a o, S a = some o → S' a = some o
theorem Sub.refl (S : Hp) : Sub S S := fun _ _ h => h
theorem Sub.trans {S S1 S2 : Hp} (a : Sub S S1) (b : Sub S1 S2) : Sub S S2 := fun c o h => b c o (a c o h)
theorem Sub.free {S S' : Hp} (e : Sub S S') {l : Addr} (h : S' l = none) : S l = none := by
  cases q : S l with
  | none => rfl
  | some o => rw [e l o q] at h; cases h
theorem Sub.seqL {K : Fr} {S S' : Hp} {a : Addr} {xs : List V} (e : Sub S S') (h : SqL K S a xs) : SqL K S' a xs := by
  rcases h with (h | ⟨o, h⟩) | h
  · exact .inl (.inl (e _ _ h))
  · exact .inl (.inr ⟨o, e _ _ h⟩)
  · exact .inr h
theorem Sub.upd {S : Hp} {p : Addr} {o : HO} (h : S p = none) : Sub S (upd S p o) := fun a u e => by
  rw [upd_ne (ne_of_none e h)]; exact e

mutual
theorem Rel.mono {K : Fr} {S S' : Hp} (e : Sub S S') : ∀ (x : Val) (w : V), Rel K S x w → Rel K S' x w
  | .non, _, h => by unfold Rel at *; exact h
  | .bl _, _, h => by unfold Rel at *; exact h
  | .int _, _, h => by unfold Rel at *; exact h
  | .str _, _, h => by unfold Rel at *; exact h
  | .tup xs, _, h => by
    unfold Rel at *; obtain ⟨a, ws, e1, h1, h2⟩ := h; exact ⟨a, ws, e1, e _ _ h1, Rels.mono e xs ws h2⟩
  | .lst xs, _, h => by
    unfold Rel at *; obtain ⟨a, ws, e1, h1, h2⟩ := h; exact ⟨a, ws, e1, e _ _ h1, Rels.mono e xs ws h2⟩
  | .scr xs, _, h => by
    unfold Rel at *; obtain ⟨a, ws, e1, h1, h2⟩ := h; exact ⟨a, ws, e1, e.seqL h1, Rels.mono e xs ws h2⟩
  | .obj C fs, _, h => by
    unfold Rel at *; obtain ⟨a, dx, gs, e1, h1, h2⟩ := h; exact ⟨a, dx, gs, e1, e _ _ h1, RelF.mono e fs gs h2⟩
  | .ref _, _, h => by unfold Rel at *; exact h
  | .ty _, _, h => by unfold Rel at *; exact h
  | .exc a dd v, _, h => by unfold Rel at *; obtain ⟨e1, u, h1, h2⟩ := h; exact ⟨e1, u, e _ _ h1, Rel.mono e v u h2⟩
  | .err C a dd v, _, h => by unfold Rel at *; obtain ⟨e1, e2, u, h1, h2⟩ := h; exact ⟨e1, e _ _ e2, u, e _ _ h1, Rel.mono e v u h2⟩
theorem Rels.mono {K : Fr} {S S' : Hp} (e : Sub S S') : ∀ (xs : List Val) (ws : List V), Rels K S xs ws → Rels K S' xs ws
  | [], _, h => by unfold Rels at *; exact h
  | x :: xs, _, h => by
    unfold Rels at *; obtain ⟨w, r, e1, h1, h2⟩ := h; exact ⟨w, r, e1, Rel.mono e x w h1, Rels.mono e xs r h2⟩
theorem RelF.mono {K : Fr} {S S' : Hp} (e : Sub S S') : ∀ (xs : List (Str × Val)) (ws : List (Str × V)), RelF K S xs ws → RelF K S' xs ws
  | [], _, h => by unfold RelF at *; exact h
  | x :: xs, _, h => by
    unfold RelF at *; obtain ⟨w, r, e1, h1, h2⟩ := h; exact ⟨w, r, e1, Rel.mono e x.2 w h1, RelF.mono e xs r h2⟩
end

section
variable {K : Fr} {S S' : Hp}
theorem rel_exc {a dd : Addr} {v : Val} {w : V} : Rel K S (.exc a dd v) w ↔ w = .ref a ∧ ∃ u, S dd = some (.xd [("what", u)]) ∧ Rel K S v u := by
  constructor <;> intro h
  · unfold Rel at h; exact h
  · unfold Rel; exact h
theorem rel_err {C a dd : Addr} {v : Val} {w : V} : Rel K S (.err C a dd v) w ↔ w = .ref a ∧ S a = some (ErrO (.ref C) (some dd) a) ∧ ∃ u, S dd = some (.xd [("what", u)]) ∧ Rel K S v u := by
  constructor <;> intro h
  · unfold Rel at h; exact h
  · unfold Rel; exact h
theorem rel_non {w : V} : Rel K S .non w ↔ w = .non := by unfold Rel; rfl
theorem rel_bl {b : Bool} {w : V} : Rel K S (.bl b) w ↔ w = .bl b := by unfold Rel; rfl
theorem rel_int {i : Int} {w : V} : Rel K S (.int i) w ↔ w = .int i := by unfold Rel; rfl
theorem rel_str {x : Str} {w : V} : Rel K S (.str x) w ↔ w = .str x := by unfold Rel; rfl
theorem rel_ref {a : Addr} {w : V} : Rel K S (.ref a) w ↔ w = .ref a := by unfold Rel; rfl
theorem rel_ty {n : String} {w : V} : Rel K S (.ty n) w ↔ w = .ty n := by unfold Rel; rfl
theorem rel_tup {xs : List Val} {w : V} : Rel K S (.tup xs) w ↔ ∃ a ws, w = .ref a ∧ S a = some (.tup ws) ∧ Rels K S xs ws := by
  constructor <;> intro h
  · unfold Rel at h; exact h
  · unfold Rel; exact h
theorem rel_lst {xs : List Val} {w : V} : Rel K S (.lst xs) w ↔ ∃ a ws, w = .ref a ∧ S a = some (.lst ws) ∧ Rels K S xs ws := by
  constructor <;> intro h
  · unfold Rel at h; exact h
  · unfold Rel; exact h
theorem rel_scr {xs : List Val} {w : V} : Rel K S (.scr xs) w ↔ ∃ a ws, w = .ref a ∧ SqL K S a ws ∧ Rels K S xs ws := by
  constructor <;> intro h
  · unfold Rel at h; exact h
  · unfold Rel; exact h
theorem rel_obj {C : Addr} {fs : List (Str × Val)} {w : V} : Rel K S (.obj C fs) w ↔ ∃ a dx gs, w = .ref a ∧ S a = some (.ins C dx gs) ∧ RelF K S fs gs := by
  constructor <;> intro h
  · unfold Rel at h; exact h
  · unfold Rel; exact h
theorem rels_nil {ws : List V} : Rels K S [] ws ↔ ws = [] := by unfold Rels; rfl
theorem rels_cons {x : Val} {xs : List Val} {ws : List V} : Rels K S (x :: xs) ws ↔ ∃ w r, ws = w :: r ∧ Rel K S x w ∧ Rels K S xs r := by
  constructor <;> intro h
  · unfold Rels at h; exact h
  · unfold Rels; exact h
theorem relf_nil {ws : List (Str × V)} : RelF K S [] ws ↔ ws = [] := by unfold RelF; rfl
theorem relf_cons {x : Str × Val} {xs : List (Str × Val)} {ws : List (Str × V)} : RelF K S (x :: xs) ws ↔ ∃ w r, ws = (x.1, w) :: r ∧ Rel K S x.2 w ∧ RelF K S xs r := by
  constructor <;> intro h
  · unfold RelF at h; exact h
  · unfold RelF; exact h
theorem Rels.length : ∀ {xs : List Val} {ws : List V}, Rels K S xs ws → xs.length = ws.length
  | [], _, h => by rw [rels_nil] at h; subst h; rfl
  | x :: xs, _, h => by
    rw [rels_cons] at h; obtain ⟨w, r, rfl, _, h2⟩ := h
    simp [Rels.length h2]
theorem Rels.get : ∀ {xs : List Val} {ws : List V} {i : Nat} {x : Val}, Rels K S xs ws → xs[i]? = some x → ∃ w, ws[i]? = some w ∧ Rel K S x w
  | [], _, _, _, h, e => by simp at e
  | y :: xs, _, 0, x, h, e => by
    rw [rels_cons] at h; obtain ⟨w, r, rfl, h1, h2⟩ := h
    simp at e; subst e; exact ⟨w, rfl, h1⟩
  | y :: xs, _, i + 1, x, h, e => by
    rw [rels_cons] at h; obtain ⟨w, r, rfl, h1, h2⟩ := h
    obtain ⟨u, h3, h4⟩ := Rels.get (i := i) (x := x) h2 (by simpa using e)
    exact ⟨u, by simpa using h3, h4⟩
theorem Rels.app : ∀ {xs ys : List Val} {us ws : List V}, Rels K S xs us → Rels K S ys ws → Rels K S (xs ++ ys) (us ++ ws)
  | [], _, _, _, h, g => by rw [rels_nil] at h; subst h; exact g
  | x :: xs, ys, _, ws, h, g => by
    rw [rels_cons] at h; obtain ⟨w, r, rfl, h1, h2⟩ := h
    show Rels K S (x :: (xs ++ ys)) (w :: (r ++ ws))
    exact rels_cons.mpr ⟨w, _, rfl, h1, Rels.app h2 g⟩
theorem Rels.one {x : Val} {w : V} (h : Rel K S x w) : Rels K S [x] [w] := rels_cons.mpr ⟨w, [], rfl, h, rels_nil.mpr rfl⟩
theorem Rels.set : ∀ {xs : List Val} {us : List V} {x : Val} {w : V} (i : Nat), Rels K S xs us → Rel K S x w → Rels K S (xs.set i x) (us.set i w)
  | [], _, _, _, _, h, _ => by rw [rels_nil] at h; subst h; exact rels_nil.mpr rfl
  | y :: xs, _, x, w, 0, h, g => by
    rw [rels_cons] at h; obtain ⟨u, r, rfl, h1, h2⟩ := h
    exact rels_cons.mpr ⟨w, r, rfl, g, h2⟩
  | y :: xs, _, x, w, i + 1, h, g => by
    rw [rels_cons] at h; obtain ⟨u, r, rfl, h1, h2⟩ := h
    exact rels_cons.mpr ⟨u, r.set i w, rfl, h1, Rels.set i h2 g⟩
theorem Rels.erase : ∀ {xs : List Val} {us : List V} (i : Nat), Rels K S xs us → Rels K S (xs.eraseIdx i) (us.eraseIdx i)
  | [], _, _, h => by rw [rels_nil] at h; subst h; exact rels_nil.mpr rfl
  | y :: xs, _, 0, h => by
    rw [rels_cons] at h; obtain ⟨u, r, rfl, h1, h2⟩ := h
    exact h2
  | y :: xs, _, i + 1, h => by
    rw [rels_cons] at h; obtain ⟨u, r, rfl, h1, h2⟩ := h
    exact rels_cons.mpr ⟨u, r.eraseIdx i, rfl, h1, Rels.erase i h2⟩
theorem Rels.take : ∀ {xs : List Val} {us : List V} (i : Nat), Rels K S xs us → Rels K S (xs.take i) (us.take i)
  | [], _, i, h => by rw [rels_nil] at h; subst h; simp; exact rels_nil.mpr rfl
  | y :: xs, _, 0, h => by simp; exact rels_nil.mpr rfl
  | y :: xs, _, i + 1, h => by
    rw [rels_cons] at h; obtain ⟨u, r, rfl, h1, h2⟩ := h
    exact rels_cons.mpr ⟨u, r.take i, rfl, h1, Rels.take i h2⟩
theorem Rels.drop : ∀ {xs : List Val} {us : List V} (i : Nat), Rels K S xs us → Rels K S (xs.drop i) (us.drop i)
  | [], _, i, h => by rw [rels_nil] at h; subst h; simp; exact rels_nil.mpr rfl
  | y :: xs, _, 0, h => h
  | y :: xs, _, i + 1, h => by
    rw [rels_cons] at h; obtain ⟨u, r, rfl, h1, h2⟩ := h
    exact Rels.drop i h2
theorem Rels.ints : ∀ {ns : List Int} {ws : List V}, Rels K S (ns.map Val.int) ws ↔ ws = ns.map V.int
  | [], ws => by simp [rels_nil]
  | n :: ns, ws => by
    simp only [List.map_cons, rels_cons, rel_int]
    constructor
    · rintro ⟨w, r, rfl, rfl, h⟩; rw [Rels.ints.mp h]
    · intro h; exact ⟨_, _, h, rfl, Rels.ints.mpr rfl⟩
theorem RelF.lookup : ∀ {fs : List (Str × Val)} {gs : List (Str × V)} {f : Str} {x : Val}, RelF K S fs gs → fs.lookup f = some x → ∃ w, gs.lookup f = some w ∧ Rel K S x w
  | [], _, _, _, h, e => by simp at e
  | (n, y) :: fs, _, f, x, h, e => by
    rw [relf_cons] at h; obtain ⟨w, r, rfl, h1, h2⟩ := h
    simp only [List.lookup] at e ⊢
    cases q : f == n with
    | true => rw [q] at e; simp at e; subst e; exact ⟨w, rfl, h1⟩
    | false => rw [q] at e; exact RelF.lookup h2 e
theorem RelF.lookup_none : ∀ {fs : List (Str × Val)} {gs : List (Str × V)} {f : Str}, RelF K S fs gs → fs.lookup f = none → gs.lookup f = none
  | [], _, _, h, e => by rw [relf_nil] at h; subst h; rfl
  | (n, y) :: fs, _, f, h, e => by
    rw [relf_cons] at h; obtain ⟨w, r, rfl, h1, h2⟩ := h
    simp only [List.lookup] at e ⊢
    cases q : f == n with
    | true => rw [q] at e; simp at e
    | false => rw [q] at e; exact RelF.lookup_none h2 e
theorem RelF.length : ∀ {xs : List (Str × Val)} {ws : List (Str × V)}, RelF K S xs ws → xs.length = ws.length
  | [], _, h => by rw [relf_nil] at h; subst h; rfl
  | x :: xs, _, h => by
    rw [relf_cons] at h; obtain ⟨w, r, rfl, _, h2⟩ := h
    simp [RelF.length h2]
end

/-- stores a field -/
def putv (f : Str) (v : Val) : List (Str × Val) → List (Str × Val)
  | [] => [(f, v)]
  | (n, w) :: r => if n = f then (n, v) :: r else (n, w) :: putv f v r
/-! Z2 -/
/-! the owned heap, the tie to the layer's heap, the judgements -/

/-- an owned object -/
inductive Ob where
  | lst (xs : List Val) | dK (kvs : List (Key × Val)) | dT (kvs : List (List Key × Val)) | ins (C : Addr) (fs : List (Str × Val))
  /-- a dict whose keys are tuples of any depth; one that is walked (it stands as it is) -/
  | dN (kvs : List (NestedKey × Val)) | lk (u : HO) (kvs : List (NestedKey × Val))
abbrev Ev := List (Option Val)
abbrev Hh := Addr → Option Ob
def hup (h : Hh) (a : Addr) (o : Ob) : Hh := fun b => if b = a then some o else h b
def hdel (h : Hh) (a : Addr) : Hh := fun b => if b = a then none else h b
theorem hup_same {h : Hh} {a : Addr} {o : Ob} : hup h a o a = some o := by unfold hup; rw [if_pos rfl]
theorem hup_ne {h : Hh} {a b : Addr} {o : Ob} (n : b ≠ a) : hup h a o b = h b := by unfold hup; rw [if_neg n]
theorem hdel_same {h : Hh} {a : Addr} : hdel h a a = none := by unfold hdel; rw [if_pos rfl]
theorem hdel_ne {h : Hh} {a b : Addr} (n : b ≠ a) : hdel h a b = h b := by unfold hdel; rw [if_neg n]
theorem hup_hup {h : Hh} {a : Addr} {o u : Ob} : hup (hup h a o) a u = hup h a u := by
  funext b; unfold hup
  by_cases e : b = a
  · rw [if_pos e, if_pos e]
  · simp [e]
theorem hdel_hup {h : Hh} {a : Addr} {o : Ob} (n : h a = none) : hdel (hup h a o) a = h := by
  funext b; unfold hup hdel; split
  · rename_i e; rw [e, n]
  · rename_i e; exact if_neg e
theorem hup_comm {h : Hh} {a b : Addr} {o u : Ob} (n : a ≠ b) : hup (hup h a o) b u = hup (hup h b u) a o := by
  funext c; unfold hup
  by_cases e : c = b
  · have e2 : ¬ c = a := fun z => n (z.symm.trans e)
    simp [e, e2, n.symm]
  · by_cases e2 : c = a
    · simp [e, e2, n]
    · simp [e, e2]
theorem hne {h : Hh} {a b : Addr} {o : Ob} (x : h a = some o) (y : h b = none) : a ≠ b := by
  intro e; subst e; rw [x] at y; cases y

def RelKV {κ : Type} (K : Fr) (S : Hp) : List (κ × Val) → List (κ × V) → Prop := Paired fun p q => p.1 = q.1 ∧ Rel K S p.2 q.2
/-- the dict at d with just these entries -/
def dNo (d : Addr) (es : Array DictEntry) (ep : Nat) : HO := .ext fun h => (d == sysModules) = false ∧ ∃ o, h.get? d = some o ∧ o.ExactDict ∧ o.data = .dict es ep
mutual
def keyN : NestedKey → Val
  | .none => .non
  | .num i => .int i
  | .text x => .str x
  | .tup ks => .tup (keysN ks)
def keysN : List NestedKey → List Val
  | [] => []
  | k :: ks => keyN k :: keysN ks
end
variable [Wrl]
def entN (x : NestedKey × Addr × Value) : DictEntry := ⟨x.1.hash Wrl.w, .ref x.2.1, x.2.2⟩
/-- an entry of such a dict -/
def RelN (K : Fr) (S : Hp) (p : NestedKey × Val) (q : NestedKey × Addr × Value) : Prop := p.1 = q.1 ∧ p.1.depth ≤ 8 ∧ Rel K S (keyN p.1) (.ref q.2.1) ∧ ∃ w, Rel K S p.2 w ∧ RelV w q.2.2
def DctN (K : Fr) (S : Hp) (kvs : List (NestedKey × Val)) (o : HO) : Prop := ∃ d es ep xs, o = dNo d es ep ∧ kvs.length ≤ sizeLine ∧ es.toList = xs.map entN ∧ Paired (RelN K S) kvs xs ∧ (xs.map (·.1)).Nodup
def RelOb (K : Fr) (S : Hp) : Ob → HO → Prop
  | .dN kvs, o => DctN K S kvs o
  | .lk u kvs, o => o = u ∧ DctN K S kvs o
  | .lst xs, o => ∃ ws, o = .lst ws ∧ Rels K S xs ws
  | .dK kvs, o => ∃ ws, o = .dK ws ∧ RelKV K S kvs ws
  | .dT kvs, o => ∃ ws, o = .dT ws ∧ RelKV K S kvs ws
  | .ins C fs, o => ∃ dx gs, o = .ins C dx gs ∧ RelF K S fs gs
theorem RelKV.mono {κ : Type} {K : Fr} {S S' : Hp} (e : Sub S S') {xs : List (κ × Val)} {ws : List (κ × V)} (h : RelKV K S xs ws) : RelKV K S' xs ws :=
  Paired.mapP h fun p q z => ⟨z.1, Rel.mono e _ _ z.2⟩
theorem RelN.mono {K : Fr} {S S' : Hp} (e : Sub S S') {p : NestedKey × Val} {q : NestedKey × Addr × Value} (h : RelN K S p q) : RelN K S' p q := by
  obtain ⟨h1, h0, h2, w, h3, h4⟩ := h
  exact ⟨h1, h0, Rel.mono e _ _ h2, w, Rel.mono e _ _ h3, h4⟩
theorem DctN.mono {K : Fr} {S S' : Hp} (e : Sub S S') {kvs : List (NestedKey × Val)} {o : HO} (h : DctN K S kvs o) : DctN K S' kvs o := by
  obtain ⟨d, es, ep, xs, h1, h2, h3, h4, h5⟩ := h
  exact ⟨d, es, ep, xs, h1, h2, h3, Paired.mapP h4 fun p q z => z.mono e, h5⟩
theorem RelOb.notup {K : Fr} {S : Hp} {o : Ob} {ws : List V} (x : RelOb K S o (.tup ws)) : False := by
  cases o with
  | lst xs => obtain ⟨_, e, _⟩ := x; cases e
  | dK xs => obtain ⟨_, e, _⟩ := x; cases e
  | dT xs => obtain ⟨_, e, _⟩ := x; cases e
  | ins C fs => obtain ⟨_, _, e, _⟩ := x; cases e
  | dN xs => obtain ⟨_, _, _, _, e, _⟩ := x; cases e
  | lk u xs => obtain ⟨_, _, _, _, _, e, _⟩ := x; cases e
theorem RelOb.mono {K : Fr} {S S' : Hp} (e : Sub S S') {o : Ob} {u : HO} (h : RelOb K S o u) : RelOb K S' o u := by
  cases o with
  | lst xs => obtain ⟨ws, e1, h1⟩ := h; exact ⟨ws, e1, Rels.mono e _ _ h1⟩
  | dK xs => obtain ⟨ws, e1, h1⟩ := h; exact ⟨ws, e1, h1.mono e⟩
  | dT xs => obtain ⟨ws, e1, h1⟩ := h; exact ⟨ws, e1, h1.mono e⟩
  | ins C fs => obtain ⟨dx, gs, e1, h1⟩ := h; exact ⟨dx, gs, e1, RelF.mono e _ _ h1⟩
  | dN kvs => exact DctN.mono e h
  | lk u kvs => exact ⟨h.1, DctN.mono e h.2⟩

/-- S: what never changes again; F: held back; h: owned; H: the layer's heap -/
structure R (K : Fr) (S F H : Hp) (h : Hh) : Prop where
  sub : Sub S H
  frm : ∀ a o, F a = some o → H a = some o ∧ S a = none ∧ h a = none
  own : ∀ a o, h a = some o → S a = none ∧ ∃ u, H a = some u ∧ RelOb K S o u
  ntp : ∀ a ws, F a ≠ some (.tup ws)
def Rls (K : Fr) (S : Hp) (ρ : Ev) (σ : St) : Prop := ρ.length = σ.length ∧ ∀ (i : Nat) (v : Val), ρ[i]? = some (some v) → ∃ w, σ[i]? = some (some w) ∧ Rel K S v w

section
variable {K : Fr} {S S' F H : Hp} {h : Hh} {ρ : Ev} {σ : St} {a p : Addr} {o : Ob} {u : HO}
theorem Rls.mono (e : Sub S S') (r : Rls K S ρ σ) : Rls K S' ρ σ := ⟨r.1, fun i v q => by
  obtain ⟨w, h1, h2⟩ := r.2 i v q; exact ⟨w, h1, Rel.mono e _ _ h2⟩⟩
theorem Rls.set (r : Rls K S ρ σ) (i : Nat) {v : Val} {w : V} (x : Rel K S v w) : Rls K S (ρ.set i (some v)) (σ.set i (some w)) := ⟨by simp [r.1], fun j y q => by
  by_cases e : i = j
  · subst e
    have hl : i < ρ.length := by
      obtain ⟨z, _⟩ := List.getElem?_eq_some_iff.mp q
      simpa using z
    rw [List.getElem?_set_self (by simpa using hl)] at q
    cases q
    exact ⟨w, by rw [List.getElem?_set_self (by rw [← r.1]; exact hl)], x⟩
  · rw [List.getElem?_set_ne e] at q ⊢
    exact r.2 j y q⟩
theorem Rls.unset (r : Rls K S ρ σ) (i : Nat) {w : Option V} : Rls K S (ρ.set i none) (σ.set i w) := ⟨by simp [r.1], fun j y q => by
  by_cases e : i = j
  · subst e
    have hl : i < ρ.length := by
      obtain ⟨z, _⟩ := List.getElem?_eq_some_iff.mp q
      simpa using z
    rw [List.getElem?_set_self (by simpa using hl)] at q
    cases q
  · rw [List.getElem?_set_ne e] at q ⊢
    exact r.2 j y q⟩
/-- a new object that is never changed again -/
theorem R.frozen (r : R K S F H h) (n : H p = none) : R K (upd S p u) F (upd H p u) h ∧ Sub S (upd S p u) := by
  have nS : S p = none := r.sub.free n
  refine ⟨⟨fun a o e => ?_, fun a o e => ?_, fun a o e => ?_, r.ntp⟩, Sub.upd nS⟩
  · by_cases q : a = p
    · subst q; rw [upd_same] at e ⊢; exact e
    · rw [upd_ne q] at e ⊢; exact r.sub _ _ e
  · obtain ⟨h1, h2, h3⟩ := r.frm a o e
    have q : a ≠ p := ne_of_none h1 n
    exact ⟨by rw [upd_ne q]; exact h1, by rw [upd_ne q]; exact h2, h3⟩
  · obtain ⟨h1, v, h2, h3⟩ := r.own a o e
    have q : a ≠ p := ne_of_none h2 n
    exact ⟨by rw [upd_ne q]; exact h1, v, by rw [upd_ne q]; exact h2, h3.mono (Sub.upd nS)⟩
/-- a new object that is owned -/
theorem R.owned (r : R K S F H h) (n : H p = none) (x : RelOb K S o u) : R K S F (upd H p u) (hup h p o) := by
  have nS : S p = none := r.sub.free n
  refine ⟨fun a o e => ?_, fun a o e => ?_, fun a o e => ?_, r.ntp⟩
  · rw [upd_ne (ne_of_none e nS)]; exact r.sub _ _ e
  · obtain ⟨h1, h2, h3⟩ := r.frm a o e
    have q : a ≠ p := ne_of_none h1 n
    exact ⟨by rw [upd_ne q]; exact h1, h2, by rw [hup_ne q]; exact h3⟩
  · by_cases q : a = p
    · subst q; rw [hup_same] at e; cases e; exact ⟨nS, u, upd_same, x⟩
    · rw [hup_ne q] at e
      obtain ⟨h1, v, h2, h3⟩ := r.own a o e
      exact ⟨h1, v, by rw [upd_ne q]; exact h2, h3⟩
theorem R.fresh (r : R K S F H h) (n : H p = none) : h p = none := by
  cases q : h p with
  | none => rfl
  | some o => obtain ⟨_, u, h2, _⟩ := r.own _ _ q; rw [n] at h2; cases h2
/-- a store into an owned object -/
theorem R.store {o' : Ob} (r : R K S F H h) (e : h p = some o') (x : RelOb K S o u) : R K S F (upd H p u) (hup h p o) := by
  obtain ⟨nS, v, hv, _⟩ := r.own _ _ e
  refine ⟨fun a o e => ?_, fun a o q => ?_, fun a o e => ?_, r.ntp⟩
  · rw [upd_ne (ne_of_none e nS)]; exact r.sub _ _ e
  · obtain ⟨h1, h2, h3⟩ := r.frm a o q
    have q : a ≠ p := fun z => by subst z; rw [h3] at e; cases e
    exact ⟨by rw [upd_ne q]; exact h1, h2, by rw [hup_ne q]; exact h3⟩
  · by_cases q : a = p
    · subst q; rw [hup_same] at e; cases e; exact ⟨nS, u, upd_same, x⟩
    · rw [hup_ne q] at e
      obtain ⟨h1, v, h2, h3⟩ := r.own a o e
      exact ⟨h1, v, by rw [upd_ne q]; exact h2, h3⟩
/-- what is owned is let go -/
theorem R.drop {h' : Hh} (r : R K S F H h) (e : ∀ a o, h' a = some o → h a = some o) : R K S F H h' :=
  ⟨r.sub, fun a o q => ⟨(r.frm a o q).1, (r.frm a o q).2.1, (by
    cases z : h' a with
    | none => rfl
    | some o' => have h3 := (r.frm a o q).2.2; rw [e _ _ z] at h3; cases h3)⟩, fun a o q => r.own a o (e _ _ q), r.ntp⟩
/-- an owned object is never changed again -/
theorem R.freeze (r : R K S F H h) (e : h p = some o) : ∃ u, RelOb K S o u ∧ R K (upd S p u) F H (hdel h p) ∧ Sub S (upd S p u) := by
  obtain ⟨nS, u, hu, x⟩ := r.own _ _ e
  refine ⟨u, x, ⟨fun a o e => ?_, fun a o q => ?_, fun a o q => ?_, r.ntp⟩, Sub.upd nS⟩
  · by_cases q : a = p
    · subst q; rw [upd_same] at e; cases e; exact hu
    · rw [upd_ne q] at e; exact r.sub _ _ e
  · obtain ⟨h1, h2, h3⟩ := r.frm a o q
    have q : a ≠ p := fun z => by subst z; rw [h3] at e; cases e
    exact ⟨h1, by rw [upd_ne q]; exact h2, by rw [hdel_ne q]; exact h3⟩
  · by_cases z : a = p
    · subst z; rw [hdel_same] at q; cases q
    · rw [hdel_ne z] at q
      obtain ⟨h1, v, h2, h3⟩ := r.own a o q
      exact ⟨by rw [upd_ne z]; exact h1, v, h2, h3.mono (Sub.upd nS)⟩
/-- held back -/
theorem R.hold (r : R K S F H h) (e : h p = some o) : ∃ u, H p = some u ∧ RelOb K S o u ∧ R K S (upd F p u) H (hdel h p) := by
  obtain ⟨nS, u, hu, x⟩ := r.own _ _ e
  refine ⟨u, hu, x, ⟨r.sub, fun a v q => ?_, fun a o q => ?_, fun a ws z => ?_⟩⟩
  · by_cases z : a = p
    · subst z; rw [upd_same] at q; cases q; exact ⟨hu, nS, hdel_same⟩
    · rw [upd_ne z] at q
      obtain ⟨h1, h2, h3⟩ := r.frm a _ q
      exact ⟨h1, h2, by rw [hdel_ne z]; exact h3⟩
  · by_cases z : a = p
    · subst z; rw [hdel_same] at q; cases q
    · rw [hdel_ne z] at q; exact r.own a o q
  · by_cases y : a = p
    · subst y; rw [upd_same] at z; cases z
      exact x.notup.elim
    · rw [upd_ne y] at z; exact r.ntp a ws z
/-- taken back from what is held -/
theorem R.unhold (r : R K S (upd F p u) H h) (n : F p = none) (x : RelOb K S o u) : H p = some u ∧ R K S F H (hup h p o) := by
  obtain ⟨h1, h2, h3⟩ := r.frm p u upd_same
  refine ⟨h1, r.sub, fun a v q => ?_, fun a v q => ?_, fun a ws z => ?_⟩
  · have z : a ≠ p := ne_of_none q n
    obtain ⟨g1, g2, g3⟩ := r.frm a v (by rw [upd_ne z]; exact q)
    exact ⟨g1, g2, by rw [hup_ne z]; exact g3⟩
  · by_cases z : a = p
    · subst z; rw [hup_same] at q; cases q; exact ⟨h2, u, h1, x⟩
    · rw [hup_ne z] at q; exact r.own a v q
  · have y : a ≠ p := ne_of_none z n
    exact r.ntp a ws (by rw [upd_ne y]; exact z)
end

/-! ### the judgements -/
abbrev KQ := Val → Hh → Prop
abbrev XQ := Addr → Val → Hh → Prop
abbrev XS := Addr → Val → Ev → Hh → Prop
abbrev WE := Ev → Hh → XQ → KQ → Prop
abbrev WT := Ev → Hh → XQ → (Bool → Hh → Prop) → Prop
abbrev WA := Ev → Hh → XQ → (List Val → Hh → Prop) → Prop
abbrev EH := Ev → Hh → Prop
/-- nx, rt, bk, ct, xe -/
abbrev WS := EH → KQ → EH → EH → XS → EH

section
variable (K : Fr) (S F : Hp)
def LQ (Q' : KQ) (Q : VK) : Prop := ∀ v h' S' w H', Q' v h' → Sub S S' → R K S' F H' h' → Rel K S' v w → Q w H'
def LB (Q' : Bool → Hh → Prop) (Q : Bool → Hp → Prop) : Prop := ∀ v h' S' H', Q' v h' → Sub S S' → R K S' F H' h' → Q v H'
def LA (Q' : List Val → Hh → Prop) (Q : List V → Hp → Prop) : Prop := ∀ v h' S' w H', Q' v h' → Sub S S' → R K S' F H' h' → Rels K S' v w → Q w H'
def LN (Q' : EH) (Q : St → Hp → Prop) : Prop := ∀ ρ h' S' σ H', Q' ρ h' → Sub S S' → R K S' F H' h' → Rls K S' ρ σ → Q σ H'
def LX (E' : XQ) (W : WX) (σ : St) : Prop := ∀ C v h' S' w d H', E' C v h' → Sub S S' → R K S' F H' h' → Rel K S' v w → S' d = some (.xd [("what", w)]) → W (.ref C) (some d) σ H'
def LXS (E' : XS) (W : WX) : Prop := ∀ C v ρ h' S' w d σ H', E' C v ρ h' → Sub S S' → R K S' F H' h' → Rls K S' ρ σ → Rel K S' v w → S' d = some (.xd [("what", w)]) → W (.ref C) (some d) σ H'
end
section
variable {K : Fr} {S S1 F : Hp}
theorem LQ.mono {Q' : KQ} {Q : VK} (l : LQ K S F Q' Q) (e : Sub S S1) : LQ K S1 F Q' Q := fun v h' S' w H' q e' => l v h' S' w H' q (e.trans e')
theorem LB.mono {Q' : Bool → Hh → Prop} {Q : Bool → Hp → Prop} (l : LB K S F Q' Q) (e : Sub S S1) : LB K S1 F Q' Q := fun v h' S' H' q e' => l v h' S' H' q (e.trans e')
theorem LA.mono {Q' : List Val → Hh → Prop} {Q : List V → Hp → Prop} (l : LA K S F Q' Q) (e : Sub S S1) : LA K S1 F Q' Q := fun v h' S' w H' q e' => l v h' S' w H' q (e.trans e')
theorem LN.mono {Q' : EH} {Q : St → Hp → Prop} (l : LN K S F Q' Q) (e : Sub S S1) : LN K S1 F Q' Q := fun v h' S' w H' q e' => l v h' S' w H' q (e.trans e')
theorem LX.mono {E' : XQ} {W : WX} {σ : St} (l : LX K S F E' W σ) (e : Sub S S1) : LX K S1 F E' W σ := fun C v h' S' w d H' q e' => l C v h' S' w d H' q (e.trans e')
theorem LXS.mono {E' : XS} {W : WX} (l : LXS K S F E' W) (e : Sub S S1) : LXS K S1 F E' W := fun C v ρ h' S' w d σ H' q e' => l C v ρ h' S' w d σ H' q (e.trans e')
theorem LXS.at {E' : XS} {W : WX} {ρ : Ev} {σ : St} (l : LXS K S F E' W) (r : Rls K S ρ σ) : LX K S F (fun C v h => E' C v ρ h) W σ := fun C v h' S' w d H' q e' r' x z => l C v ρ h' S' w d σ H' q e' r' (r.mono e') x z
end
section
variable (K : Fr) (W : WX)
def lE (t : WE) : L2.TE := fun σ H Q => ∃ S F ρ h E' Q', R K S F H h ∧ Rls K S ρ σ ∧ t ρ h E' Q' ∧ LQ K S F Q' Q ∧ LX K S F E' W σ
def lT (t : WT) : L2.TT := fun σ H Q => ∃ S F ρ h E' Q', R K S F H h ∧ Rls K S ρ σ ∧ t ρ h E' Q' ∧ LB K S F Q' Q ∧ LX K S F E' W σ
def lA (t : WA) : L2.TA := fun σ H Q => ∃ S F ρ h E' Q', R K S F H h ∧ Rls K S ρ σ ∧ t ρ h E' Q' ∧ LA K S F Q' Q ∧ LX K S F E' W σ
def lS (t : WS) : L2.TS := fun D σ H => ∃ S F ρ h nx rt bk ct xe, R K S F H h ∧ Rls K S ρ σ ∧ t nx rt bk ct xe ρ h ∧ LN K S F nx D.nx ∧ LQ K S F rt D.rt ∧ LN K S F bk D.bk ∧ LN K S F ct D.ct ∧ LXS K S F xe W
end
structure ZE (X : Cx) (W : WX) (e : Expr) (t : WE) : Prop where
  pe : PE X e (lE X.K W t)
structure ZT (X : Cx) (W : WX) (e : Expr) (t : WT) : Prop where
  pt : PT X e (lT X.K W t)
structure ZW (X : Cx) (W : WX) (e : Expr) (t : WT) : Prop where
  pw : PW X e (lT X.K W t)
structure ZA (X : Cx) (W : WX) (es : List Expr) (t : WA) : Prop where
  pa : PA X es (lA X.K W t)
structure ZS (X : Cx) (W : WX) (st : Stmt) (t : WS) : Prop where
  ps : PS X st (lS X.K W t)
structure ZB (X : Cx) (W : WX) (st : List Stmt) (t : WS) : Prop where
  pss : PSs X st (lS X.K W t)
theorem pe_imp {X : Cx} {e : Expr} {t t' : L2.TE} (h : PE X e t) (i : ∀ σ H Q, t' σ H Q → t σ H Q) : PE X e t' := ⟨fun pins s σ H Q I q => h.run pins s σ H Q I (i _ _ _ q)⟩
theorem pt_imp {X : Cx} {e : Expr} {t t' : L2.TT} (h : PT X e t) (i : ∀ σ H Q, t' σ H Q → t σ H Q) : PT X e t' := ⟨fun pins s σ H Q I q => h.run pins s σ H Q I (i _ _ _ q)⟩
theorem pw_imp {X : Cx} {e : Expr} {t t' : L2.TT} (h : PW X e t) (i : ∀ σ H Q, t' σ H Q → t σ H Q) : PW X e t' := ⟨fun w pins s σ H Q I q => h.run w pins s σ H Q I (i _ _ _ q)⟩
theorem pa_imp {X : Cx} {e : List Expr} {t t' : L2.TA} (h : PA X e t) (i : ∀ σ H Q, t' σ H Q → t σ H Q) : PA X e t' := ⟨fun w pins s σ H Q I q => h.run w pins s σ H Q I (i _ _ _ q)⟩
theorem ps_imp {X : Cx} {e : Stmt} {t t' : L2.TS} (h : PS X e t) (i : ∀ D σ H, t' D σ H → t D σ H) : PS X e t' := ⟨fun pins s σ H D I q => h.run pins s σ H D I (i _ _ _ q)⟩
theorem pss_imp {X : Cx} {e : List Stmt} {t t' : L2.TS} (h : PSs X e t) (i : ∀ D σ H, t' D σ H → t D σ H) : PSs X e t' := ⟨fun pins s σ H D I q => h.run pins s σ H D I (i _ _ _ q)⟩

/-! ### names, constants, displays -/
section
variable {X : Cx} {W : WX} {pos : Pos}
def wVar (i : Nat) : WE := fun ρ h _ Q => ∃ v, ρ[i]? = some (some v) ∧ Q v h
def wC (v : Val) : WE := fun _ h _ Q => Q v h
theorem zv (i : Nat) {x : Str} {pos : Pos} (hN : X.N[i]? = some x := by rfl) (hv : Vis X.env.scope x := by first | exact Or.inl rfl | exact Or.inr (Or.inl rfl) | exact Or.inr (Or.inr rfl)) (hd : (x == ("__debug__" : Str)) = false := by decide)
    (hcd : (x == ("__classdict__" : Str)) = false := by decide) : ZE X W (.Name x pos) (wVar i) :=
  ⟨pe_imp (pe_var hN hv hd hcd) fun σ H Q ⟨S, F, ρ, h, E', Q', r, rl, ⟨v, e, q⟩, lq, _⟩ => by
    obtain ⟨w, e1, x1⟩ := rl.2 i v e
    exact ⟨w, e1, lq v h S w H q (Sub.refl S) r x1⟩⟩
theorem zc {e : Expr} {v : Val} {w : V} (hp : PE X e (tC w)) (hr : ∀ S, Rel X.K S v w) : ZE X W e (wC v) :=
  ⟨pe_imp hp fun σ H Q ⟨S, F, ρ, h, E', Q', r, rl, q, lq, _⟩ => lq v h S w H q (Sub.refl S) r (hr S)⟩
theorem zint {i j} : ZE X W (.Constant (.int i) j pos) (wC (.int i)) := zc pe_int fun _ => rel_int.mpr rfl
theorem zbl {i j} : ZE X W (.Constant (.bool i) j pos) (wC (.bl i)) := zc pe_bl fun _ => rel_bl.mpr rfl
theorem znon {j} : ZE X W (.Constant .none j pos) (wC .non) := zc pe_non fun _ => rel_non.mpr rfl
theorem zstr {i j} : ZE X W (.Constant (.str i) j pos) (wC (.str i)) := zc pe_str fun _ => rel_str.mpr rfl
/-- a module's constant -/
theorem zglob {x : Str} {v : Val} {w : V} {u : Value} (hg : Gl X x) (hm : X.mg x = some u) (r : RelV w u) (hr : ∀ S, Rel X.K S v w) (hd : (x == ("__debug__" : Str)) = false := by decide) : ZE X W (.Name x pos) (wC v) := zc (pe_glob hg hm r hd) hr

def wNil : WA := fun _ h _ Q => Q [] h
def wCons (ta : WE) (tr : WA) : WA := fun ρ h E Q => ta ρ h E fun x h1 => tr ρ h1 E fun xs h2 => Q (x :: xs) h2
theorem za_nil : ZA X W [] wNil := ⟨pa_imp pa_nil fun σ H Q ⟨S, F, ρ, h, E', Q', r, rl, q, lq, _⟩ => lq [] h S [] H q (Sub.refl S) r (rels_nil.mpr rfl)⟩
theorem za_cons {e : Expr} {es : List Expr} {ta : WE} {t : WA} (ha : ZE X W e ta) (hr : ZA X W es t) (hs : starEach (e :: es) X.env = (false, eval e X.env) :: starEach es X.env := by rfl) : ZA X W (e :: es) (wCons ta t) :=
  ⟨pa_imp (pa_cons ha.pe hr.pa hs) fun σ H Q ⟨S, F, ρ, h, E', Q', r, rl, q, lq, lx⟩ =>
    ⟨S, F, ρ, h, E', _, r, rl, q, fun x h1 S1 w H1 q1 s1 r1 x1 => ⟨S1, F, ρ, h1, E', _, r1, rl.mono s1, q1, fun xs h2 S2 ws H2 q2 s2 r2 x2 =>
      lq _ h2 S2 _ H2 q2 (s1.trans s2) r2 (rels_cons.mpr ⟨w, ws, rfl, Rel.mono s2 _ _ x1, x2⟩), lx.mono s1⟩, lx⟩⟩
def small (n : Nat) : Prop := n ≤ 16000000
theorem small.line {n : Nat} (h : small n) : n ≤ sizeLine := by
  have e := sizeLine_eq
  unfold small at h; omega
def wTup (t : WA) : WE := fun ρ h E Q => t ρ h E fun xs h1 => small xs.length ∧ Q (.tup xs) h1
/-- a new list: owned, or never changed again -/
def NewL (xs : List Val) (h : Hh) (Q : KQ) : Prop := (∀ a, h a = none → Q (.ref a) (hup h a (.lst xs))) ∨ Q (.lst xs) h
def wLst (t : WA) : WE := fun ρ h E Q => t ρ h E fun xs h1 => small xs.length ∧ NewL xs h1 Q
theorem newl {K : Fr} {S F H : Hp} {h : Hh} {xs : List Val} {ws : List V} {Q' : KQ} {Q : VK} {p : Addr} (r : R K S F H h) (x : Rels K S xs ws) (q : NewL xs h Q') (lq : LQ K S F Q' Q) (n : H p = none) : Q (.ref p) (upd H p (.lst ws)) := by
  rcases q with q | q
  · exact lq _ _ S _ _ (q p (r.fresh n)) (Sub.refl S) (r.owned n ⟨ws, rfl, x⟩) (rel_ref.mpr rfl)
  · obtain ⟨r2, s2⟩ := r.frozen (u := .lst ws) n
    exact lq _ _ _ _ _ q s2 r2 (rel_lst.mpr ⟨p, ws, rfl, upd_same, Rels.mono s2 _ _ x⟩)
theorem newt {K : Fr} {S F H : Hp} {h : Hh} {xs : List Val} {ws : List V} {Q' : KQ} {Q : VK} {p : Addr} (r : R K S F H h) (x : Rels K S xs ws) (q : Q' (.tup xs) h) (lq : LQ K S F Q' Q) (n : H p = none) : Q (.ref p) (upd H p (.tup ws)) := by
  obtain ⟨r2, s2⟩ := r.frozen (u := .tup ws) n
  exact lq _ _ _ _ _ q s2 r2 (rel_tup.mpr ⟨p, ws, rfl, upd_same, Rels.mono s2 _ _ x⟩)
theorem ztup {es : List Expr} {t : WA} {x1} (ha : ZA X W es t) : ZE X W (.Tuple es x1 pos) (wTup t) :=
  ⟨pe_imp (pe_tup ha.pa) fun σ H Q ⟨S, F, ρ, h, E', Q', r, rl, q, lq, lx⟩ =>
    ⟨S, F, ρ, h, E', _, r, rl, q, fun xs h1 S1 ws H1 q1 s1 r1 x1 => ⟨by rw [← x1.length]; exact q1.1.line, fun p n => newt r1 x1 q1.2 (lq.mono s1) n⟩, lx⟩⟩
theorem zlst {es : List Expr} {t : WA} (ha : ZA X W es t) : ZE X W (.List es pos) (wLst t) :=
  ⟨pe_imp (pe_lst ha.pa) fun σ H Q ⟨S, F, ρ, h, E', Q', r, rl, q, lq, lx⟩ =>
    ⟨S, F, ρ, h, E', _, r, rl, q, fun xs h1 S1 ws H1 q1 s1 r1 x1 => ⟨by rw [← x1.length]; exact q1.1.line, fun p n => newl r1 x1 q1.2 (lq.mono s1) n⟩, lx⟩⟩

/-! ### operators -/
abbrev W2 := Val → Val → Hh → KQ → Prop
def Snd2 (K : Fr) (r' : W2) (r : R2) : Prop := ∀ S F H h x y v w Q' Q, R K S F H h → Rel K S x v → Rel K S y w → r' x y h Q' → LQ K S F Q' Q → r v w H Q
def wOp (r : W2) (ta tb : WE) : WE := fun ρ h E Q => ta ρ h E fun x h1 => tb ρ h1 E fun y h2 => r x y h2 Q
theorem zop {a b : Expr} {ta tb : WE} {op : Operator} {r : R2} {r' : W2} (o : OpR X (binaryOp op) r) (s : Snd2 X.K r' r) (ha : ZE X W a ta) (hb : ZE X W b tb) : ZE X W (.BinOp a op b pos) (wOp r' ta tb) :=
  ⟨pe_imp (pe_op o ha.pe hb.pe) fun σ H Q ⟨S, F, ρ, h, E', Q', r, rl, q, lq, lx⟩ =>
    ⟨S, F, ρ, h, E', _, r, rl, q, fun x h1 S1 v H1 q1 s1 r1 x1 => ⟨S1, F, ρ, h1, E', _, r1, rl.mono s1, q1, fun y h2 S2 w H2 q2 s2 r2 x2 =>
      s S2 F H2 h2 x y v w _ Q r2 (Rel.mono s2 _ _ x1) x2 q2 ((lq.mono s1).mono s2), lx.mono s1⟩, lx⟩⟩
/-- two ints -/
def wI (C : Int → Int → Prop) (g : Int → Int → Val) : W2 := fun x y h Q => ∃ i j, x = .int i ∧ y = .int j ∧ C i j ∧ Q (g i j) h
def wI0 (g : Int → Int → Val) : W2 := fun x y h Q => ∃ i j, x = .int i ∧ y = .int j ∧ Q (g i j) h
theorem snd_I {K : Fr} {C : Int → Int → Prop} {g : Int → Int → Val} {g' : Int → Int → V} (hg : ∀ S i j, Rel K S (g i j) (g' i j)) : Snd2 K (wI C g) (rI C g') := fun S F H h x y v w Q' Q r rx ry q lq => by
  obtain ⟨i, j, rfl, rfl, c, q⟩ := q
  exact ⟨i, j, rel_int.mp rx, rel_int.mp ry, c, lq _ _ S _ _ q (Sub.refl S) r (hg S i j)⟩
theorem snd_I0 {K : Fr} {g : Int → Int → Val} {g' : Int → Int → V} (hg : ∀ S i j, Rel K S (g i j) (g' i j)) : Snd2 K (wI0 g) (rI0 g') := fun S F H h x y v w Q' Q r rx ry q lq => by
  obtain ⟨i, j, rfl, rfl, q⟩ := q
  exact ⟨i, j, rel_int.mp rx, rel_int.mp ry, lq _ _ S _ _ q (Sub.refl S) r (hg S i j)⟩
end
/-! Z3 -/
/-! tests, comparisons, subscripts, fields -/
section
variable {X : Cx} {W : WX} {pos : Pos}
/-! ### readings that fall through -/
/-! ### comparisons as values and as tests -/
theorem zcmp {a b : Expr} {ta tb : WE} {op : CmpOp} {r : R2} {r' : W2} (o : OpR X (compareOp op) r) (s : Snd2 X.K r' r) (ha : ZE X W a ta) (hb : ZE X W b tb) (h1 : behindInMarks op b = false) : ZE X W (.Compare a [op] [b] pos) (wOp r' ta tb) :=
  ⟨pe_imp (pe_cmpR o ha.pe hb.pe h1) fun σ H Q ⟨S, F, ρ, h, E', Q', r, rl, q, lq, lx⟩ =>
    ⟨S, F, ρ, h, E', _, r, rl, q, fun x h1 S1 v H1 q1 s1 r1 x1 => ⟨S1, F, ρ, h1, E', _, r1, rl.mono s1, q1, fun y h2 S2 w H2 q2 s2 r2 x2 =>
      s S2 F H2 h2 x y v w _ Q r2 (Rel.mono s2 _ _ x1) x2 q2 ((lq.mono s1).mono s2), lx.mono s1⟩, lx⟩⟩
/-- an expression that gives True or False, as a test -/
def wTv (t : WE) : WT := fun ρ h E Q => t ρ h E fun v h1 => ∃ c, v = .bl c ∧ Q c h1
theorem ztv {e : Expr} {t : WE} (h : ZE X W e t) (he : ∀ whole, isTrue e X.env whole = (do let v ← whole; standAt e.pos; holding [v] (truthy v)) := by intro _; rfl) : ZT X W e (wTv t) :=
  ⟨pt_imp (pt_val h.pe he) fun σ H Q ⟨S, F, ρ, h, E', Q', r, rl, q, lq, lx⟩ =>
    ⟨S, F, ρ, h, E', _, r, rl, q, fun x h1 S1 v H1 q1 s1 r1 x1 => by
      obtain ⟨c, rfl, q1⟩ := q1
      exact ⟨c, rel_bl.mp x1, lq _ _ _ _ q1 s1 r1⟩, lx⟩⟩
theorem ztc {a b : Expr} {ta tb : WE} {op : CmpOp} {r : R2} {r' : W2} (o : OpR X (compareOp op) r) (s : Snd2 X.K r' r) (ha : ZE X W a ta) (hb : ZE X W b tb) (h1 : behindInMarks op b = false) : ZT X W (.Compare a [op] [b] pos) (wTv (wOp r' ta tb)) :=
  ⟨pt_imp (pt_cmpR o ha.pe hb.pe h1) fun σ H Q ⟨S, F, ρ, h, E', Q', r, rl, q, lq, lx⟩ =>
    ⟨S, F, ρ, h, E', _, r, rl, q, fun x h1 S1 v H1 q1 s1 r1 x1 => ⟨S1, F, ρ, h1, E', _, r1, rl.mono s1, q1, fun y h2 S2 w H2 q2 s2 r2 x2 =>
      s S2 F H2 h2 x y v w _ _ r2 (Rel.mono s2 _ _ x1) x2 q2 fun z h3 S3 u H3 q3 s3 r3 x3 => by
        obtain ⟨c, rfl, q3⟩ := q3
        exact ⟨c, rel_bl.mp x3, lq _ _ _ _ q3 ((s1.trans s2).trans s3) r3⟩, lx.mono s1⟩, lx⟩⟩
def wNot (t : WT) : WT := fun ρ h E Q => t ρ h E fun b h1 => Q (!b) h1
theorem ztnot {a : Expr} {t : WT} (h : ZT X W a t) : ZT X W (.UnaryOp .Not a pos) (wNot t) :=
  ⟨pt_imp (pt_not h.pt) fun σ H Q ⟨S, F, ρ, h, E', Q', r, rl, q, lq, lx⟩ =>
    ⟨S, F, ρ, h, E', _, r, rl, q, fun b h1 S1 H1 q1 s1 r1 => lq _ _ _ _ q1 s1 r1, lx⟩⟩
def wAnd (t u : WT) : WT := fun ρ h E Q => t ρ h E fun c h1 => if c = true then u ρ h1 E Q else Q false h1
def wOr (t u : WT) : WT := fun ρ h E Q => t ρ h E fun c h1 => if c = true then Q true h1 else u ρ h1 E Q
theorem zw1 {op} {a : Expr} {t : WT} (h : ZT X W a t) : ZW X W (.BoolOp op [a] pos) t := ⟨by cases op with
  | And => exact pw_and1 h.pt
  | Or => exact pw_or1 h.pt⟩
theorem zwand {a b : Expr} {rest : List Expr} {t u : WT} (h : ZT X W a t) (h2 : ZW X W (.BoolOp .And (b :: rest) pos) u) : ZW X W (.BoolOp .And (a :: b :: rest) pos) (wAnd t u) :=
  ⟨pw_imp (pw_and h.pt h2.pw) fun σ H Q ⟨S, F, ρ, h, E', Q', r, rl, q, lq, lx⟩ =>
    ⟨S, F, ρ, h, E', _, r, rl, q, fun c h1 S1 H1 q1 s1 r1 => by
      cases c with
      | true => exact iteT ⟨S1, F, ρ, h1, E', Q', r1, rl.mono s1, q1, lq.mono s1, lx.mono s1⟩
      | false => exact iteF (lq _ _ _ _ q1 s1 r1), lx⟩⟩
theorem zwor {a b : Expr} {rest : List Expr} {t u : WT} (h : ZT X W a t) (h2 : ZW X W (.BoolOp .Or (b :: rest) pos) u) : ZW X W (.BoolOp .Or (a :: b :: rest) pos) (wOr t u) :=
  ⟨pw_imp (pw_or h.pt h2.pw) fun σ H Q ⟨S, F, ρ, h, E', Q', r, rl, q, lq, lx⟩ =>
    ⟨S, F, ρ, h, E', _, r, rl, q, fun c h1 S1 H1 q1 s1 r1 => by
      cases c with
      | true => exact iteT (lq _ _ _ _ q1 s1 r1)
      | false => exact iteF ⟨S1, F, ρ, h1, E', Q', r1, rl.mono s1, q1, lq.mono s1, lx.mono s1⟩, lx⟩⟩
theorem ztw {a : Expr} {t : WT} (h : ZW X W a t) : ZT X W a t := ⟨h.pw.pt⟩
/-- and, or, not of True, False as values -/
def wAndV (ta tb : WE) : WE := fun ρ h E Q => ta ρ h E fun x h1 => ∃ c, x = .bl c ∧ if c = true then tb ρ h1 E Q else Q (.bl false) h1
def wOrV (ta tb : WE) : WE := fun ρ h E Q => ta ρ h E fun x h1 => ∃ c, x = .bl c ∧ if c = true then Q (.bl true) h1 else tb ρ h1 E Q
def wNotV (ta : WE) : WE := fun ρ h E Q => ta ρ h E fun x h1 => ∃ c, x = .bl c ∧ Q (.bl (!c)) h1
theorem zone {op} {a : Expr} {t : WE} (h : ZE X W a t) : ZE X W (.BoolOp op [a] pos) t := ⟨pe_one h.pe⟩
theorem zand {a b : Expr} {rest : List Expr} {t u : WE} (h : ZE X W a t) (h2 : ZE X W (.BoolOp .And (b :: rest) pos) u) : ZE X W (.BoolOp .And (a :: b :: rest) pos) (wAndV t u) :=
  ⟨pe_imp (pe_and h.pe h2.pe) fun σ H Q ⟨S, F, ρ, h, E', Q', r, rl, q, lq, lx⟩ =>
    ⟨S, F, ρ, h, E', _, r, rl, q, fun x h1 S1 v H1 q1 s1 r1 x1 => by
      obtain ⟨c, rfl, q1⟩ := q1
      refine ⟨c, rel_bl.mp x1, ?_⟩
      cases c with
      | true => exact iteT ⟨S1, F, ρ, h1, E', Q', r1, rl.mono s1, q1, lq.mono s1, lx.mono s1⟩
      | false => exact iteF (lq _ _ _ _ _ q1 s1 r1 (rel_bl.mpr rfl)), lx⟩⟩
theorem znot {a : Expr} {t : WE} (h : ZE X W a t) : ZE X W (.UnaryOp .Not a pos) (wNotV t) :=
  ⟨pe_imp (pe_not h.pe) fun σ H Q ⟨S, F, ρ, h, E', Q', r, rl, q, lq, lx⟩ =>
    ⟨S, F, ρ, h, E', _, r, rl, q, fun x h1 S1 v H1 q1 s1 r1 x1 => by
      obtain ⟨c, rfl, q1⟩ := q1
      exact ⟨c, rel_bl.mp x1, lq _ _ _ _ _ q1 s1 r1 (rel_bl.mpr rfl)⟩, lx⟩⟩
def wIfE (c : WT) (ta tb : WE) : WE := fun ρ h E Q => c ρ h E fun b h1 => if b = true then ta ρ h1 E Q else tb ρ h1 E Q
theorem zifE {c a b : Expr} {tc : WT} {ta tb : WE} (hc : ZT X W c tc) (ha : ZE X W a ta) (hb : ZE X W b tb) : ZE X W (.IfExp c a b pos) (wIfE tc ta tb) :=
  ⟨pe_imp (pe_ifExp hc.pt ha.pe hb.pe) fun σ H Q ⟨S, F, ρ, h, E', Q', r, rl, q, lq, lx⟩ =>
    ⟨S, F, ρ, h, E', _, r, rl, q, fun c h1 S1 H1 q1 s1 r1 => by
      cases c with
      | true => exact iteT ⟨S1, F, ρ, h1, E', Q', r1, rl.mono s1, q1, lq.mono s1, lx.mono s1⟩
      | false => exact iteF ⟨S1, F, ρ, h1, E', Q', r1, rl.mono s1, q1, lq.mono s1, lx.mono s1⟩, lx⟩⟩
/-- a < b < c -/
def wChain (r r' : W2) (ta tb tc : WE) : WE := fun ρ h E Q => ta ρ h E fun x h1 => tb ρ h1 E fun y h2 => r x y h2 fun z h3 => ∃ k, z = .bl k ∧ if k = true then tc ρ h3 E fun u h4 => r' y u h4 Q else Q (.bl false) h3
theorem zchain {a b c : Expr} {ta tb tc : WE} {op op' : CmpOp} {r r' : R2} {s s' : W2} (o : OpR X (compareOp op) r) (o' : OpR X (compareOp op') r') (q : Snd2 X.K s r) (q' : Snd2 X.K s' r') (ha : ZE X W a ta) (hb : ZE X W b tb) (hc : ZE X W c tc)
    (hl : lastMarks [op, op'] [b, c] = false := by rfl) : ZE X W (.Compare a [op, op'] [b, c] pos) (wChain s s' ta tb tc) :=
  ⟨pe_imp (pe_chain o o' ha.pe hb.pe hc.pe hl) fun σ H Q ⟨S, F, ρ, h, E', Q', r0, rl, p, lq, lx⟩ =>
    ⟨S, F, ρ, h, E', _, r0, rl, p, fun x h1 S1 v H1 q1 s1 r1 x1 => ⟨S1, F, ρ, h1, E', _, r1, rl.mono s1, q1, fun y h2 S2 w H2 q2 s2 r2 x2 =>
      q S2 F H2 h2 x y v w _ _ r2 (Rel.mono s2 _ _ x1) x2 q2 fun z h3 S3 u H3 q3 s3 r3 x3 => by
        obtain ⟨k, rfl, q3⟩ := q3
        refine ⟨k, rel_bl.mp x3, ?_⟩
        cases k with
        | true => exact iteT ⟨S3, F, ρ, h3, E', _, r3, ((rl.mono s1).mono s2).mono s3, iteT' q3, fun z4 h4 S4 w4 H4 q4 s4 r4 x4 =>
            q' S4 F H4 h4 y z4 w w4 _ Q r4 (Rel.mono (s3.trans s4) _ _ x2) x4 q4 ((((lq.mono s1).mono s2).mono s3).mono s4), ((lx.mono s1).mono s2).mono s3⟩
        | false => exact iteF (lq _ _ _ _ _ (iteF' q3) ((s1.trans s2).trans s3) r3 (rel_bl.mpr rfl)), lx.mono s1⟩, lx⟩⟩
where
  iteT' {A B : Prop} (h : if true = true then A else B) : A := by rw [if_pos rfl] at h; exact h
  iteF' {A B : Prop} (h : if false = true then A else B) : B := by rw [if_neg Bool.false_ne_true] at h; exact h

/-! ### the operators -/
def wAdd : W2 := wI0 fun i j => .int (i + j)
def wSub : W2 := wI0 fun i j => .int (i - j)
def wMul : W2 := wI CMul fun i j => .int (i * j)
def wMod : W2 := wI (fun _ j => 0 < j) fun i j => .int (i % j)
def wDivW : W2 := wI CDivW fun i j => .int (i / j)
def wPow : W2 := wI CPow fun i j => .int (i ^ j.toNat)
theorem s_add {K : Fr} : Snd2 K wAdd (rI0 fun i j => .int (i + j)) := snd_I0 fun _ _ _ => rel_int.mpr rfl
theorem s_sub {K : Fr} : Snd2 K wSub (rI0 fun i j => .int (i - j)) := snd_I0 fun _ _ _ => rel_int.mpr rfl
theorem s_mul {K : Fr} : Snd2 K wMul (rI CMul fun i j => .int (i * j)) := snd_I fun _ _ _ => rel_int.mpr rfl
theorem s_mod {K : Fr} : Snd2 K wMod (rI (fun _ j => 0 < j) fun i j => .int (i % j)) := snd_I fun _ _ _ => rel_int.mpr rfl
theorem s_divW {K : Fr} : Snd2 K wDivW (rI CDivW fun i j => .int (i / j)) := snd_I fun _ _ _ => rel_int.mpr rfl
theorem s_pow {K : Fr} : Snd2 K wPow (rI CPow fun i j => .int (i ^ j.toNat)) := snd_I fun _ _ _ => rel_int.mpr rfl
def wLt : W2 := wI0 fun i j => .bl (decide (i < j))
def wLe : W2 := wI0 fun i j => .bl (decide (i ≤ j))
def wGt : W2 := wI0 fun i j => .bl (decide (j < i))
def wGe : W2 := wI0 fun i j => .bl (decide (j ≤ i))
theorem s_lt {K : Fr} : Snd2 K wLt (rI0 fun i j => .bl (decide (i < j))) := snd_I0 fun _ _ _ => rel_bl.mpr rfl
theorem s_le {K : Fr} : Snd2 K wLe (rI0 fun i j => .bl (decide (i ≤ j))) := snd_I0 fun _ _ _ => rel_bl.mpr rfl
theorem s_gt {K : Fr} : Snd2 K wGt (rI0 fun i j => .bl (decide (j < i))) := snd_I0 fun _ _ _ => rel_bl.mpr rfl
theorem s_ge {K : Fr} : Snd2 K wGe (rI0 fun i j => .bl (decide (j ≤ i))) := snd_I0 fun _ _ _ => rel_bl.mpr rfl
/-- scalars: == -/
def scalar : Val → Val → Bool
  | .non, .non => true | .non, .int _ => true | .int _, .non => true | .non, .bl _ => true | .bl _, .non => true | .non, .str _ => true | .str _, .non => true
  | .int _, .int _ => true | .bl _, .bl _ => true | .str _, .str _ => true
  | .int _, .str _ => true | .str _, .int _ => true | .bl _, .str _ => true | .str _, .bl _ => true
  | _, _ => false
def seqv : Val → Val → Bool
  | .int i, .int j => decide (i = j)
  | .str x, .str y => decide (x = y)
  | .bl a, .bl b => decide (a = b)
  | .non, .non => true
  | _, _ => false
def wEqS : W2 := fun x y h Q => scalar x y = true ∧ Q (.bl (seqv x y)) h
def wNeS : W2 := fun x y h Q => scalar x y = true ∧ Q (.bl (!seqv x y)) h
theorem scalar_rel {K : Fr} {S : Hp} {x y : Val} {v w : V} (rx : Rel K S x v) (ry : Rel K S y w) (h : scalar x y = true) : scal v w = true ∧ decide (v = w) = seqv x y := by
  cases x <;> cases y <;> first | (simp [scalar] at h; done) | skip
  all_goals
    (first | rw [rel_non] at rx | rw [rel_int] at rx | rw [rel_str] at rx | rw [rel_bl] at rx)
    (first | rw [rel_non] at ry | rw [rel_int] at ry | rw [rel_str] at ry | rw [rel_bl] at ry)
    subst rx ry
    exact ⟨rfl, by simp [seqv]⟩
theorem s_eqS {K : Fr} : Snd2 K wEqS rEq := fun S F H h x y v w Q' Q r rx ry q lq => by
  obtain ⟨a, b⟩ := scalar_rel rx ry q.1
  exact ⟨a, by rw [b]; exact lq _ _ S _ _ q.2 (Sub.refl S) r (rel_bl.mpr rfl)⟩
theorem s_neS {K : Fr} : Snd2 K wNeS rNe := fun S F H h x y v w Q' Q r rx ry q lq => by
  obtain ⟨a, b⟩ := scalar_rel rx ry q.1
  exact ⟨a, by rw [b]; exact lq _ _ S _ _ q.2 (Sub.refl S) r (rel_bl.mpr rfl)⟩
/-! ### data of any depth -/
mutual
inductive Dv (h : Hh) : Val → PyData → Prop
  | non : Dv h .non .none
  | bl (b : Bool) : Dv h (.bl b) (.bool b)
  | int (i : Int) : Dv h (.int i) (.int i)
  | str (x : Str) : Dv h (.str x) (.str x)
  | lst {xs : List Val} {ds : List PyData} : Dvs h xs ds → Dv h (.lst xs) (.list ds)
  | scr {xs : List Val} {ds : List PyData} : Dvs h xs ds → Dv h (.scr xs) (.list ds)
  | tup {xs : List Val} {ds : List PyData} : Dvs h xs ds → Dv h (.tup xs) (.tuple ds)
  | ref {a : Addr} {xs : List Val} {ds : List PyData} : h a = some (.lst xs) → Dvs h xs ds → Dv h (.ref a) (.list ds)
inductive Dvs (h : Hh) : List Val → List PyData → Prop
  | nil : Dvs h [] []
  | cons {v : Val} {vs : List Val} {d : PyData} {ds : List PyData} : Dv h v d → Dvs h vs ds → Dvs h (v :: vs) (d :: ds)
end
mutual
theorem Dv.dp {K : Fr} {S F H : Hp} {h : Hh} (r : R K S F H h) : ∀ (d : PyData) (x : Val) (v : V), Dv h x d → Rel K S x v → Dp K H v d
  | .none, _, _, q, x => by cases q; rw [rel_non] at x; subst x; exact .non
  | .bool b, _, _, q, x => by cases q; rw [rel_bl] at x; subst x; exact .bl b
  | .int i, _, _, q, x => by cases q; rw [rel_int] at x; subst x; exact .int i
  | .str i, _, _, q, x => by cases q; rw [rel_str] at x; subst x; exact .str i
  | .list ds, _, _, q, x => by
    cases q with
    | lst q =>
      rw [rel_lst] at x
      obtain ⟨a, ws, rfl, h1, h2⟩ := x
      exact .lst (.of (r.sub _ _ h1)) (Dvs.dp r ds _ _ q h2)
    | scr q =>
      rw [rel_scr] at x
      obtain ⟨a, ws, rfl, h1, h2⟩ := x
      exact .lst (r.sub.seqL h1) (Dvs.dp r ds _ _ q h2)
    | ref e q =>
      rw [rel_ref] at x
      subst x
      obtain ⟨_, u, h1, ws, rfl, h2⟩ := r.own _ _ e
      exact .lst (.of h1) (Dvs.dp r ds _ _ q h2)
  | .tuple ds, _, _, q, x => by
    cases q with
    | tup q =>
      rw [rel_tup] at x
      obtain ⟨a, ws, rfl, h1, h2⟩ := x
      exact .tup (.of (r.sub _ _ h1)) (Dvs.dp r ds _ _ q h2)
  | .dict _, _, _, q, _ => by cases q
theorem Dvs.dp {K : Fr} {S F H : Hp} {h : Hh} (r : R K S F H h) : ∀ (ds : List PyData) (xs : List Val) (vs : List V), Dvs h xs ds → Rels K S xs vs → DpAll K H vs ds
  | [], _, _, q, x => by cases q; rw [rels_nil] at x; subst x; exact .nil
  | d :: ds, _, _, q, x => by
    cases q with
    | cons q1 q2 =>
      rw [rels_cons] at x
      obtain ⟨w, r', rfl, h1, h2⟩ := x
      exact .cons (Dv.dp r d _ _ q1 h1) (Dvs.dp r ds _ _ q2 h2)
end
def wEqD : W2 := fun x y h Q => ∃ d e, Dv h x d ∧ Dv h y e ∧ SeqAt.shaped d = true ∧ SeqAt.shaped e = true ∧ Q (.bl (PyData.eqv d e)) h
def wNeD : W2 := fun x y h Q => ∃ d e, Dv h x d ∧ Dv h y e ∧ SeqAt.shaped d = true ∧ SeqAt.shaped e = true ∧ Q (.bl (!PyData.eqv d e)) h
theorem s_eqD {K : Fr} : Snd2 K wEqD (rEqD K) := fun S F H h x y v w Q' Q r rx ry q lq => by
  obtain ⟨d, e, h1, h2, h3, h4, q⟩ := q
  exact ⟨d, e, h1.dp r _ _ _ rx, h2.dp r _ _ _ ry, h3, h4, lq _ _ S _ _ q (Sub.refl S) r (rel_bl.mpr rfl)⟩
theorem s_neD {K : Fr} : Snd2 K wNeD (rNeD K) := fun S F H h x y v w Q' Q r rx ry q lq => by
  obtain ⟨d, e, h1, h2, h3, h4, q⟩ := q
  exact ⟨d, e, h1.dp r _ _ _ rx, h2.dp r _ _ _ ry, h3, h4, lq _ _ S _ _ q (Sub.refl S) r (rel_bl.mpr rfl)⟩
def wNotInD : W2 := fun x y h Q => ∃ d ds, Dv h x d ∧ Dv h y (.list ds) ∧ SeqAt.shaped d = true ∧ SeqAt.shaped (.list ds) = true ∧ Q (.bl (!ds.any fun z => PyData.eqv z d)) h
theorem s_notInD {K : Fr} : Snd2 K wNotInD (rNotInD K) := fun S F H h x y v w Q' Q r rx ry q lq => by
  obtain ⟨d, e, h1, h2, h3, h4, q⟩ := q
  exact ⟨d, e, h1.dp r _ _ _ rx, h2.dp r _ _ _ ry, h3, h4, lq _ _ S _ _ q (Sub.refl S) r (rel_bl.mpr rfl)⟩
/-- what a list or a tuple holds -/
inductive Seqq (h : Hh) : Val → List Val → Prop
  | lst (xs) : Seqq h (.lst xs) xs
  | scr (xs) : Seqq h (.scr xs) xs
  | ref {a xs} : h a = some (.lst xs) → Seqq h (.ref a) xs
theorem Seqq.l {K : Fr} {S F H : Hp} {h : Hh} {x : Val} {xs : List Val} {v : V} (q : Seqq h x xs) (r : R K S F H h) (x : Rel K S x v) : ∃ a ws, v = .ref a ∧ SqL K H a ws ∧ Rels K S xs ws := by
  cases q with
  | lst => rw [rel_lst] at x; obtain ⟨a, ws, e, h1, h2⟩ := x; exact ⟨a, ws, e, .of (r.sub _ _ h1), h2⟩
  | scr => rw [rel_scr] at x; obtain ⟨a, ws, e, h1, h2⟩ := x; exact ⟨a, ws, e, r.sub.seqL h1, h2⟩
  | ref e =>
    rw [rel_ref] at x
    obtain ⟨_, u, h1, ws, rfl, h2⟩ := r.own _ _ e
    exact ⟨_, ws, x, .of h1, h2⟩
theorem rel_tupH {K : Fr} {S F H : Hp} {h : Hh} {xs : List Val} {v : V} (r : R K S F H h) (x : Rel K S (.tup xs) v) : ∃ a ws, v = .ref a ∧ SqT K H a ws ∧ Rels K S xs ws := by
  rw [rel_tup] at x; obtain ⟨a, ws, e, h1, h2⟩ := x; exact ⟨a, ws, e, .of (r.sub _ _ h1), h2⟩
/-- x in t (texts, ints, bools, None in a list or tuple of such) -/
def flat : Val → Bool
  | .non => true | .bl _ => true | .int _ => true | .str _ => true | _ => false
theorem rels_atI {K : Fr} {S : Hp} {xs : List Val} {ws : List V} {i : Int} {v : Val} (x : Rels K S xs ws) (e : L2.atI xs i = some v) : ∃ w, L2.atI ws i = some w ∧ Rel K S v w := by
  unfold L2.atI at e ⊢
  rw [← x.length]
  cases q : L2.ixN xs.length i with
  | none => rw [q] at e; cases e
  | some j =>
    rw [q] at e
    exact x.get (show xs[j]? = some v from e)
/-! ### subscripts -/
def wIxL : W2 := fun x y h Q => ∃ xs i v, Seqq h x xs ∧ y = .int i ∧ L2.atI xs i = some v ∧ Q v h
def wIxT : W2 := fun x y h Q => ∃ xs i v, x = .tup xs ∧ y = .int i ∧ L2.atI xs i = some v ∧ Q v h
def wIxS : W2 := fun x y h Q => ∃ z i c, x = .str z ∧ y = .int i ∧ z.length ≤ sizeLine ∧ L2.atI z.cps.toList i = some c ∧ Q (.str ⟨#[c]⟩) h
theorem s_ixL {K : Fr} : Snd2 K wIxL (rIxL K) := fun S F H h x y v w Q' Q r rx ry q lq => by
  obtain ⟨xs, i, v, h1, rfl, h3, q⟩ := q
  obtain ⟨a, ws, e, g1, g2⟩ := h1.l r rx
  obtain ⟨u, g3, g4⟩ := rels_atI g2 h3
  exact ⟨a, ws, i, u, e, rel_int.mp ry, g1, g3, lq _ _ S _ _ q (Sub.refl S) r g4⟩
theorem s_ixT {K : Fr} : Snd2 K wIxT (rIxT K) := fun S F H h x y v w Q' Q r rx ry q lq => by
  obtain ⟨xs, i, v, rfl, rfl, h3, q⟩ := q
  obtain ⟨a, ws, e, g1, g2⟩ := rel_tupH r rx
  obtain ⟨u, g3, g4⟩ := rels_atI g2 h3
  exact ⟨a, ws, i, u, e, rel_int.mp ry, g1, g3, lq _ _ S _ _ q (Sub.refl S) r g4⟩
theorem s_ixS {K : Fr} : Snd2 K wIxS rIxS := fun S F H h x y v w Q' Q r rx ry q lq => by
  obtain ⟨z, i, c, rfl, rfl, h2, h3, q⟩ := q
  exact ⟨z, i, c, rel_str.mp rx, rel_int.mp ry, h2, h3, lq _ _ S _ _ q (Sub.refl S) r (rel_str.mpr rfl)⟩
theorem zix {a b : Expr} {ta tb : WE} {r : R2} {r' : W2} (o : IxR X r) (s : Snd2 X.K r' r) (ha : ZE X W a ta) (hb : ZE X W b tb) (hi : PlainIx b) : ZE X W (.Subscript a b pos) (wOp r' ta tb) :=
  ⟨pe_imp (pe_ix o ha.pe hb.pe hi) fun σ H Q ⟨S, F, ρ, h, E', Q', r, rl, q, lq, lx⟩ =>
    ⟨S, F, ρ, h, E', _, r, rl, q, fun x h1 S1 v H1 q1 s1 r1 x1 => ⟨S1, F, ρ, h1, E', _, r1, rl.mono s1, q1, fun y h2 S2 w H2 q2 s2 r2 x2 =>
      s S2 F H2 h2 x y v w _ Q r2 (Rel.mono s2 _ _ x1) x2 q2 ((lq.mono s1).mono s2), lx.mono s1⟩, lx⟩⟩
/-! ### None -/
def isNon : Val → Bool
  | .non => true
  | _ => false
def wIsN (ta : WE) : WE := fun ρ h E Q => ta ρ h E fun x h1 => Q (.bl (isNon x)) h1
def wNotN (ta : WE) : WE := fun ρ h E Q => ta ρ h E fun x h1 => Q (.bl (!isNon x)) h1
theorem non_dec {K : Fr} {S : Hp} {x : Val} {v : V} (h : Rel K S x v) : decide (v = .non) = isNon x := by
  cases x with
  | non => rw [rel_non] at h; subst h; rfl
  | bl _ => rw [rel_bl] at h; subst h; rfl
  | int _ => rw [rel_int] at h; subst h; rfl
  | str _ => rw [rel_str] at h; subst h; rfl
  | ref _ => rw [rel_ref] at h; subst h; rfl
  | ty _ => rw [rel_ty] at h; subst h; rfl
  | exc _ _ _ => rw [rel_exc] at h; obtain ⟨rfl, _⟩ := h; rfl
  | err _ _ _ _ => rw [rel_err] at h; obtain ⟨rfl, _⟩ := h; rfl
  | tup _ => rw [rel_tup] at h; obtain ⟨_, _, rfl, _⟩ := h; rfl
  | lst _ => rw [rel_lst] at h; obtain ⟨_, _, rfl, _⟩ := h; rfl
  | scr _ => rw [rel_scr] at h; obtain ⟨_, _, rfl, _⟩ := h; rfl
  | obj _ _ => rw [rel_obj] at h; obtain ⟨_, _, _, rfl, _⟩ := h; rfl
theorem zisN {a : Expr} {ta : WE} {j pos'} (ha : ZE X W a ta) : ZE X W (.Compare a [.Is] [.Constant .none j pos'] pos) (wIsN ta) :=
  ⟨pe_imp (pe_cmp (pc_isN ha.pe) rfl) fun σ H Q ⟨S, F, ρ, h, E', Q', r, rl, q, lq, lx⟩ =>
    ⟨S, F, ρ, h, E', _, r, rl, q, fun x h1 S1 v H1 q1 s1 r1 x1 => by show Q (V.bl (decide (v = V.non))) H1; rw [non_dec x1]; exact lq _ _ _ _ _ q1 s1 r1 (rel_bl.mpr rfl), lx⟩⟩
theorem ztisN {a : Expr} {ta : WE} {j pos'} (ha : ZE X W a ta) (h1 : behindInMarks .Is (.Constant .none j pos') = false := by rfl) : ZT X W (.Compare a [.Is] [.Constant .none j pos'] pos) (wTv (wIsN ta)) :=
  ⟨pt_imp (pt_cmpR op_isN ha.pe pe_non h1) fun σ H Q ⟨S, F, ρ, h, E', Q', r, rl, q, lq, lx⟩ =>
    ⟨S, F, ρ, h, E', _, r, rl, q, fun x h1 S1 v H1 q1 s1 r1 x1 => ⟨rfl, decide (v = V.non), rfl, by
      obtain ⟨c, e, q2⟩ := q1
      rw [non_dec x1]
      cases e
      exact lq _ _ _ _ q2 s1 r1⟩, lx⟩⟩
theorem ztnotN {a : Expr} {ta : WE} {j pos'} (ha : ZE X W a ta) (h1 : behindInMarks .IsNot (.Constant .none j pos') = false := by rfl) : ZT X W (.Compare a [.IsNot] [.Constant .none j pos'] pos) (wTv (wNotN ta)) :=
  ⟨pt_imp (pt_cmpR op_notN ha.pe pe_non h1) fun σ H Q ⟨S, F, ρ, h, E', Q', r, rl, q, lq, lx⟩ =>
    ⟨S, F, ρ, h, E', _, r, rl, q, fun x h1 S1 v H1 q1 s1 r1 x1 => ⟨rfl, !decide (v = V.non), rfl, by
      obtain ⟨c, e, q2⟩ := q1
      rw [non_dec x1]
      cases e
      exact lq _ _ _ _ q2 s1 r1⟩, lx⟩⟩
/-! ### slices -/
abbrev WO := Ev → Hh → XQ → (Option Int → Hh → Prop) → Prop
structure ZO (X : Cx) (W : WX) (e : Option Expr) (t : WO) : Prop where
  po : PO X e (fun σ H Q => ∃ S F ρ h E' Q', R X.K S F H h ∧ Rls X.K S ρ σ ∧ t ρ h E' Q' ∧ (∀ v h' S' H', Q' v h' → Sub S S' → R X.K S' F H' h' → Q v H') ∧ LX X.K S F E' W σ)
theorem po_imp {X : Cx} {e : Option Expr} {t t' : TO} (h : PO X e t) (i : ∀ σ H Q, t' σ H Q → t σ H Q) : PO X e t' := ⟨fun pins s σ H Q I q => h.run pins s σ H Q I (i _ _ _ q)⟩
def wNoPart : WO := fun _ h _ Q => Q none h
def wPart (t : WE) : WO := fun ρ h E Q => t ρ h E fun x h1 => ∃ i, x = .int i ∧ Q (some i) h1
theorem zo_none : ZO X W none wNoPart := ⟨po_imp po_none fun σ H Q ⟨S, F, ρ, h, E', Q', r, rl, q, lq, lx⟩ => lq _ _ _ _ q (Sub.refl S) r⟩
theorem zo_some {e : Expr} {te : WE} (h : ZE X W e te) : ZO X W (some e) (wPart te) := ⟨po_imp (po_some h.pe) fun σ H Q ⟨S, F, ρ, h, E', Q', r, rl, q, lq, lx⟩ =>
  ⟨S, F, ρ, h, E', _, r, rl, q, fun x h1 S1 v H1 q1 s1 r1 x1 => by
    obtain ⟨i, rfl, q1⟩ := q1
    exact ⟨i, rel_int.mp x1, lq _ _ _ _ q1 s1 r1⟩, lx⟩⟩
abbrev W3 := Val → Option Int → Option Int → Hh → KQ → Prop
def Snd3 (K : Fr) (r' : W3) (r : V → Option Int → Option Int → Hp → VK → Prop) : Prop := ∀ S F H h x v lo hi Q' Q, R K S F H h → Rel K S x v → r' x lo hi h Q' → LQ K S F Q' Q → r v lo hi H Q
def wSl (r : W3) (te : WE) (tl th : WO) : WE := fun ρ h E Q => te ρ h E fun x h1 => tl ρ h1 E fun l h2 => th ρ h2 E fun u h3 => r x l u h3 Q
theorem zslice {e : Expr} {te : WE} {lo hi : Option Expr} {tl th : WO} {p2 : Pos} {r : V → Option Int → Option Int → Hp → VK → Prop} {r' : W3} (o : SlR X r) (s : Snd3 X.K r' r) (he : ZE X W e te) (hl : ZO X W lo tl) (hh : ZO X W hi th) :
    ZE X W (.Subscript e (.Slice lo hi none p2) pos) (wSl r' te tl th) :=
  ⟨pe_imp (pe_slice o he.pe hl.po hh.po) fun σ H Q ⟨S, F, ρ, h, E', Q', r, rl, q, lq, lx⟩ =>
    ⟨S, F, ρ, h, E', _, r, rl, q, fun x h1 S1 v H1 q1 s1 r1 x1 => ⟨S1, F, ρ, h1, E', _, r1, rl.mono s1, q1, fun l h2 S2 H2 q2 s2 r2 =>
      ⟨S2, F, ρ, h2, E', _, r2, (rl.mono s1).mono s2, q2, fun u h3 S3 H3 q3 s3 r3 => s S3 F H3 h3 x v l u _ Q r3 (Rel.mono (s2.trans s3) _ _ x1) q3 (((lq.mono s1).mono s2).mono s3), (lx.mono s1).mono s2⟩, lx.mono s1⟩, lx⟩⟩
def cut {α : Type} (xs : List α) (lo hi : Option Int) : List α := (xs.drop (HT.sIx xs.length 0 lo)).take (HT.sIx xs.length xs.length hi - HT.sIx xs.length 0 lo)
def wSlL : W3 := fun x lo hi h Q => ∃ xs, Seqq h x xs ∧ NewL (cut xs lo hi) h Q
theorem s_slL {K : Fr} : Snd3 K wSlL (rSlL K) := fun S F H h x v lo hi Q' Q r rx q lq => by
  obtain ⟨xs, h1, q⟩ := q
  obtain ⟨a, ws, e, g1, g2⟩ := h1.l r rx
  refine ⟨a, ws, e, g1, fun p n => newl r ?_ q lq n⟩
  have e2 : cutV ws lo hi = cut ws lo hi := rfl
  rw [e2]
  unfold cut
  rw [g2.length]
  exact (g2.drop _).take _
end
/-! Z4 -/
/-! fields, statements, targets, loops, comprehensions -/
section
variable {X : Cx} {W : WX} {pos : Pos}
/-! ### fields -/
inductive Ins (h : Hh) : Val → Addr → List (Str × Val) → Prop
  | obj (C fs) : Ins h (.obj C fs) C fs
  | ref {a C fs} : h a = some (.ins C fs) → Ins h (.ref a) C fs
theorem Ins.l {K : Fr} {S F H : Hp} {h : Hh} {x : Val} {C : Addr} {fs : List (Str × Val)} {v : V} (q : Ins h x C fs) (r : R K S F H h) (x : Rel K S x v) : ∃ a dx gs, v = .ref a ∧ H a = some (.ins C dx gs) ∧ RelF K S fs gs := by
  cases q with
  | obj => rw [rel_obj] at x; obtain ⟨a, dx, gs, e, h1, h2⟩ := x; exact ⟨a, dx, gs, e, r.sub _ _ h1, h2⟩
  | ref e =>
    rw [rel_ref] at x
    obtain ⟨_, u, h1, dx, gs, rfl, h2⟩ := r.own _ _ e
    exact ⟨_, dx, gs, x, h1, h2⟩
def wFld (C : Addr) (ta : WE) (f : Str) : WE := fun ρ h E Q => ta ρ h E fun x h1 => ∃ fs v, Ins h1 x C fs ∧ fs.lookup f = some v ∧ Q v h1
theorem zfld {e : Expr} {f : Str} {ta : WE} {C : Addr} (c : Cls X.K C) (n : NoAttr X.K C f) (he : ZE X W e ta) (hb : attributeBase e f X.env (eval e X.env) = eval e X.env := by rfl) : ZE X W (.Attribute e f pos) (wFld C ta f) :=
  ⟨pe_imp (pe_fld he.pe hb) fun σ H Q ⟨S, F, ρ, h, E', Q', r, rl, q, lq, lx⟩ =>
    ⟨S, F, ρ, h, E', _, r, rl, q, fun x h1 S1 v H1 q1 s1 r1 x1 => by
      obtain ⟨fs, y, q2, q3, q4⟩ := q1
      obtain ⟨a, dx, gs, e1, e2, e3⟩ := q2.l r1 x1
      obtain ⟨u, e4, e5⟩ := e3.lookup q3
      exact ⟨a, C, dx, gs, u, e1, e2, c, n, e4, lq _ _ _ _ _ q4 s1 r1 e5⟩, lx⟩⟩
theorem relf_put {K : Fr} {S : Hp} {f : Str} {v : Val} {w : V} (x : Rel K S v w) : ∀ {fs : List (Str × Val)} {gs : List (Str × V)}, RelF K S fs gs → RelF K S (putv f v fs) (putF f w gs)
  | [], _, h => by rw [relf_nil] at h; subst h; exact relf_cons.mpr ⟨w, [], rfl, x, relf_nil.mpr rfl⟩
  | (n, y) :: fs, _, h => by
    rw [relf_cons] at h; obtain ⟨u, r, rfl, h1, h2⟩ := h
    unfold putv putF
    by_cases e : n = f
    · rw [if_pos e, if_pos e]; exact relf_cons.mpr ⟨w, r, rfl, x, h2⟩
    · rw [if_neg e, if_neg e]; exact relf_cons.mpr ⟨u, _, rfl, h1, relf_put x h2⟩
/-! ### statements -/
def atx (xe : XS) (ρ : Ev) : XQ := fun C v h => xe C v ρ h
def wNext : WS := fun nx _ _ _ _ ρ h => nx ρ h
def wSeq (t u : WS) : WS := fun nx rt bk ct xe ρ h => t (u nx rt bk ct xe) rt bk ct xe ρ h
theorem zb_nil : ZB X W [] wNext := ⟨pss_imp pss_nil fun D σ H ⟨S, F, ρ, h, nx, rt, bk, ct, xe, r, rl, q, ln, lr, lb, lc, lx⟩ => ln _ _ _ _ _ q (Sub.refl S) r rl⟩
theorem zb_cons {st : Stmt} {rest : List Stmt} {t u : WS} (h1 : ZS X W st t) (h2 : ZB X W rest u) : ZB X W (st :: rest) (wSeq t u) :=
  ⟨pss_imp (pss_cons h1.ps h2.pss) fun D σ H ⟨S, F, ρ, h, nx, rt, bk, ct, xe, r, rl, q, ln, lr, lb, lc, lx⟩ =>
    ⟨S, F, ρ, h, _, rt, bk, ct, xe, r, rl, q, fun ρ1 h1 S1 σ1 H1 q1 s1 r1 rl1 => ⟨S1, F, ρ1, h1, nx, rt, bk, ct, xe, r1, rl1, q1, ln.mono s1, lr.mono s1, lb.mono s1, lc.mono s1, lx.mono s1⟩, lr, lb, lc, lx⟩⟩
theorem zb_one {st : Stmt} {t : WS} (h1 : ZS X W st t) : ZB X W [st] t := ⟨pss_one h1.ps⟩
/-- what is owned may be let go or be fixed for ever, at any time -/
def Shf (K : Fr) (ρ : Ev) (h : Hh) (ρ2 : Ev) (h2 : Hh) : Prop := ∀ S F H σ, R K S F H h → Rls K S ρ σ → ∃ S2, Sub S S2 ∧ R K S2 F H h2 ∧ Rls K S2 ρ2 σ
def wGhost (K : Fr) (t : WS) : WS := fun nx rt bk ct xe ρ h => ∃ ρ2 h2, Shf K ρ h ρ2 h2 ∧ t nx rt bk ct xe ρ2 h2
theorem zb_ghost {sts : List Stmt} {t : WS} (h1 : ZB X W sts t) : ZB X W sts (wGhost X.K t) :=
  ⟨pss_imp h1.pss fun D σ H ⟨S, F, ρ, h, nx, rt, bk, ct, xe, r, rl, ⟨ρ2, h2, sh, q⟩, ln, lr, lb, lc, lx⟩ => by
    obtain ⟨S2, s2, r2, rl2⟩ := sh S F H σ r rl
    exact ⟨S2, F, ρ2, h2, nx, rt, bk, ct, xe, r2, rl2, q, ln.mono s2, lr.mono s2, lb.mono s2, lc.mono s2, lx.mono s2⟩⟩
def wExpr (te : WE) : WS := fun nx _ _ _ xe ρ h => te ρ h (atx xe ρ) fun _ h1 => nx ρ h1
theorem zs_expr {e : Expr} {te : WE} (he : ZE X W e te) (hs : swapsWith e none pos.line X.env = pure false := by rfl) : ZS X W (.Expr e pos) (wExpr te) :=
  ⟨ps_imp (ps_expr he.pe hs) fun D σ H ⟨S, F, ρ, h, nx, rt, bk, ct, xe, r, rl, q, ln, lr, lb, lc, lx⟩ =>
    ⟨S, F, ρ, h, _, _, r, rl, q, fun x h1 S1 v H1 q1 s1 r1 x1 => ln _ _ _ _ _ q1 s1 r1 (rl.mono s1), lx.at rl⟩⟩
def wRet (te : WE) : WS := fun _ rt _ _ xe ρ h => te ρ h (atx xe ρ) rt
theorem zs_ret {e : Expr} {te : WE} (he : ZE X W e te) : ZS X W (.Return (some e) pos) (wRet te) :=
  ⟨ps_imp (ps_ret he.pe) fun D σ H ⟨S, F, ρ, h, nx, rt, bk, ct, xe, r, rl, q, ln, lr, lb, lc, lx⟩ => ⟨S, F, ρ, h, _, _, r, rl, q, lr, lx.at rl⟩⟩
def wIf (c : WT) (t u : WS) : WS := fun nx rt bk ct xe ρ h => c ρ h (atx xe ρ) fun b h1 => if b = true then t nx rt bk ct xe ρ h1 else u nx rt bk ct xe ρ h1
theorem zs_if {c : Expr} {a b : List Stmt} {tc : WT} {t u : WS} (hc : ZT X W c tc) (ha : ZB X W a t) (hb : ZB X W b u) : ZS X W (.If c a b pos) (wIf tc t u) :=
  ⟨ps_imp (ps_if hc.pt ha.pss hb.pss) fun D σ H ⟨S, F, ρ, h, nx, rt, bk, ct, xe, r, rl, q, ln, lr, lb, lc, lx⟩ =>
    ⟨S, F, ρ, h, _, _, r, rl, q, fun b h1 S1 H1 q1 s1 r1 => by
      cases b with
      | true => exact iteT ⟨S1, F, ρ, h1, nx, rt, bk, ct, xe, r1, rl.mono s1, q1, ln.mono s1, lr.mono s1, lb.mono s1, lc.mono s1, lx.mono s1⟩
      | false => exact iteF ⟨S1, F, ρ, h1, nx, rt, bk, ct, xe, r1, rl.mono s1, q1, ln.mono s1, lr.mono s1, lb.mono s1, lc.mono s1, lx.mono s1⟩, lx.at rl⟩⟩
def wFldS (C : Addr) (ta tv : WE) (f : Str) : WS := fun nx _ _ _ xe ρ h => tv ρ h (atx xe ρ) fun y h1 => ta ρ h1 (atx xe ρ) fun x h2 => ∃ a fs, x = .ref a ∧ h2 a = some (.ins C fs) ∧ fs.length < 1000 ∧ nx ρ (hup h2 a (.ins C (putv f y fs)))
theorem zs_fld {o value : Expr} {f : Str} {ta tv : WE} {C : Addr} {pos' : Pos} (c : Cls X.K C) (n : NoAttr X.K C f) (ho : ZE X W o ta) (hv : ZE X W value tv) (hs : swapsWith value (some (.Attribute o f pos')) pos.line X.env = pure false := by rfl) :
    ZS X W (.Assign [.Attribute o f pos'] value pos) (wFldS C ta tv f) :=
  ⟨ps_imp (ps_fld ho.pe hv.pe hs) fun D σ H ⟨S, F, ρ, h, nx, rt, bk, ct, xe, r, rl, q, ln, lr, lb, lc, lx⟩ =>
    ⟨S, F, ρ, h, _, _, r, rl, q, fun y h1 S1 w H1 q1 s1 r1 x1 => ⟨S1, F, ρ, h1, _, _, r1, rl.mono s1, q1, fun x h2 S2 v H2 q2 s2 r2 x2 => by
      obtain ⟨a, fs, rfl, e2, l, q3⟩ := q2
      obtain ⟨b, u, e3, dx, gs, rfl, e4⟩ := r2.own _ _ e2
      rw [rel_ref] at x2
      refine ⟨a, C, dx, gs, x2, e3, c, n, by rw [← e4.length]; exact l, ?_⟩
      exact ln _ _ S2 _ _ q3 (s1.trans s2) (r2.store e2 ⟨dx, _, rfl, relf_put (Rel.mono s2 _ _ x1) e4⟩) ((rl.mono s1).mono s2), (lx.mono s1).at (rl.mono s1)⟩, lx.at rl⟩⟩
/-! ### targets -/
abbrev WG := Val → Ev → Hh → EH → Prop
abbrev WGs := List Val → Ev → Hh → EH → Prop
def lG (K : Fr) (t : WG) : L2.TG := fun w σ H Q => ∃ S F v ρ h Q', R K S F H h ∧ Rls K S ρ σ ∧ Rel K S v w ∧ t v ρ h Q' ∧ LN K S F Q' Q
def lGs (K : Fr) (t : WGs) : L2.TGs := fun w σ H Q => ∃ S F v ρ h Q', R K S F H h ∧ Rls K S ρ σ ∧ Rels K S v w ∧ t v ρ h Q' ∧ LN K S F Q' Q
structure ZG (X : Cx) (e : Expr) (t : WG) : Prop where
  pg : PG X e (lG X.K t)
structure ZGs (X : Cx) (es : List Expr) (t : WGs) : Prop where
  pgs : PGs X es (lGs X.K t)
theorem pg_imp {X : Cx} {e : Expr} {t t' : L2.TG} (h : PG X e t) (i : ∀ w σ H Q, t' w σ H Q → t w σ H Q) : PG X e t' := by
  obtain ⟨run⟩ := h
  exact ⟨by first | exact fun v pins s σ H w Q a b c => run v pins s σ H w Q a b (i _ _ _ _ c) | exact fun pins s σ H w Q u a b c => run pins s σ H w Q u a b (i _ _ _ _ c) | exact fun pins s σ H v u Q a b c => run pins s σ H v u Q a b (i _ _ _ _ c)⟩
theorem pgs_imp {X : Cx} {e : List Expr} {t t' : L2.TGs} (h : PGs X e t) (i : ∀ w σ H Q, t' w σ H Q → t w σ H Q) : PGs X e t' := by
  obtain ⟨run⟩ := h
  exact ⟨by first | exact fun v pins s σ H w Q a b c => run v pins s σ H w Q a b (i _ _ _ _ c) | exact fun pins s σ H w Q u a b c => run pins s σ H w Q u a b (i _ _ _ _ c)⟩
def wgName (i : Nat) : WG := fun v ρ h Q => Q (ρ.set i (some v)) h
def wgNil : WGs := fun vs ρ h Q => vs = [] ∧ Q ρ h
def wgCons (t : WG) (u : WGs) : WGs := fun vs ρ h Q => ∃ v r, vs = v :: r ∧ t v ρ h fun ρ1 h1 => u r ρ1 h1 Q
def wgTup (n : Nat) (t : WGs) : WG := fun v ρ h Q => ∃ xs, v = .tup xs ∧ xs.length = n ∧ t xs ρ h Q
theorem zg_name {i : Nat} {x : Str} (hN : X.N.Nodup) (hi : X.N[i]? = some x) (hx : Loc X.env.scope x) (hf : X.fn x = true ∨ X.env.scope.names.lookup x = some .local := by first | exact .inl rfl | exact .inr rfl | assumption) : ZG X (.Name x pos) (wgName i) :=
  ⟨pg_imp (pg_name hN hi hx hf) fun w σ H Q ⟨S, F, v, ρ, h, Q', r, rl, x, q, ln⟩ => ln _ _ _ _ _ q (Sub.refl S) r (rl.set i x)⟩
theorem zgs_nil : ZGs X [] wgNil := ⟨pgs_imp pgs_nil fun w σ H Q ⟨S, F, v, ρ, h, Q', r, rl, x, ⟨e, q⟩, ln⟩ => by
  subst e; rw [rels_nil] at x; exact ⟨x, ln _ _ _ _ _ q (Sub.refl S) r rl⟩⟩
theorem zgs_cons {e : Expr} {es : List Expr} {t : WG} {u : WGs} (h1 : ZG X e t) (h2 : ZGs X es u)
    (ha : (assignEach (e :: es) X.env).map (·.2) = assign e X.env :: (assignEach es X.env).map (·.2) := by rfl) : ZGs X (e :: es) (wgCons t u) :=
  ⟨pgs_imp (pgs_cons h1.pg h2.pgs ha) fun w σ H Q ⟨S, F, v, ρ, h, Q', r, rl, x, q, ln⟩ => by
    obtain ⟨y, ys, rfl, q⟩ := q
    rw [rels_cons] at x
    obtain ⟨w1, ws, rfl, x1, x2⟩ := x
    exact ⟨w1, ws, rfl, S, F, y, ρ, h, _, r, rl, x1, q, fun ρ1 h1 S1 σ1 H1 q1 s1 r1 rl1 => ⟨S1, F, ys, ρ1, h1, Q', r1, rl1, Rels.mono s1 _ _ x2, q1, ln.mono s1⟩⟩⟩
theorem zg_tup {es : List Expr} {k : Nat} {t : WGs} {n : Nat} (hc : X.calm = true) (h : ZGs X es t) (hl : (assignEach es X.env).length = n := by rfl) (hf : (assignEach es X.env).findIdx? (·.1) = none := by rfl) : ZG X (.Tuple es k pos) (wgTup n t) :=
  ⟨pg_imp (pg_tup hc h.pgs hl hf) fun w σ H Q ⟨S, F, v, ρ, h, Q', r, rl, x, q, ln⟩ => by
    obtain ⟨xs, rfl, hn, q⟩ := q
    obtain ⟨a, ws, e, g1, g2⟩ := rel_tupH r x
    exact ⟨a, ws, e, g1, by rw [← g2.length]; exact hn, S, F, xs, ρ, h, Q', r, rl, g2, q, ln⟩⟩
/-- xs[i] = e, d[k] = e -/
abbrev WSet := Val → Val → Val → Hh → (Hh → Prop) → Prop
def SndSet (K : Fr) (t' : WSet) (t : TSet) : Prop := ∀ S F H h o i x v w u (Q' : Hh → Prop) (Q : Hp → Prop), R K S F H h → Rel K S o v → Rel K S i w → Rel K S x u → t' o i x h Q' → (∀ h' S' H', Q' h' → Sub S S' → R K S' F H' h' → Q H') → t v w u H Q
def wgSub (to ti : WE) (t : WSet) (E : XQ) : WG := fun v ρ h Q => to ρ h E fun o h1 => ti ρ h1 E fun i h2 => t o i v h2 fun h3 => Q ρ h3
theorem zg_sub {W0 : WX} {o i : Expr} {to ti : WE} {t : TSet} {t' : WSet} (s : SndSet X.K t' t) (hs : PSet X t) (ho : ZE X W0 o to) (hi : ZE X W0 i ti)
    (he : ∀ v : Value, assign (.Subscript o i pos) X.env v = (do
      let ov ← holding [v] (eval o X.env)
      let iv ← holding [v, ov] (eval i X.env)
      standAt pos
      holding [v, ov, iv] (setItem ov iv v)
      release [v, ov, iv] []) := by intro _; rfl) : ZG X (.Subscript o i pos) (wgSub to ti t' fun _ _ _ => False) :=
  ⟨pg_imp (pg_sub ho.pe hi.pe hs he) fun w σ H Q ⟨S, F, v, ρ, h, Q', r, rl, x, q, ln⟩ =>
    have nox : ∀ S, LX X.K S F (fun _ _ _ => False) W0 σ := fun S _ _ _ _ _ _ _ q => q.elim
    ⟨S, F, ρ, h, _, _, r, rl, q, fun o1 h1 S1 v1 H1 q1 s1 r1 x1 => ⟨S1, F, ρ, h1, _, _, r1, rl.mono s1, q1, fun i1 h2 S2 w2 H2 q2 s2 r2 x2 =>
      s S2 F H2 h2 o1 i1 v v1 w2 w _ _ r2 (Rel.mono s2 _ _ x1) x2 (Rel.mono (s1.trans s2) _ _ x) q2 fun h3 S3 H3 q3 s3 r3 => ln _ _ _ _ _ q3 ((s1.trans s2).trans s3) r3 (rl.mono ((s1.trans s2).trans s3)), nox S1⟩, nox S⟩⟩
def wSetL : WSet := fun o i v h Q => ∃ p xs k j, o = .ref p ∧ i = .int k ∧ h p = some (.lst xs) ∧ L2.ixN xs.length k = some j ∧ Q (hup h p (.lst (xs.set j v)))
theorem s_setL {K : Fr} : SndSet K wSetL rSetL := fun S F H h o i x v w u Q' Q r ro ri rx q l => by
  obtain ⟨p, xs, k, j, rfl, rfl, e, hj, q⟩ := q
  obtain ⟨nS, uu, e1, ws, rfl, e2⟩ := r.own _ _ e
  exact ⟨p, ws, k, j, rel_ref.mp ro, rel_int.mp ri, e1, by rw [← e2.length]; exact hj, l _ S _ q (Sub.refl S) (r.store e ⟨_, rfl, e2.set j rx⟩)⟩
def wAsg (te : WE) (g : WG) : WS := fun nx _ _ _ xe ρ h => te ρ h (atx xe ρ) fun v h1 => g v ρ h1 nx
theorem zs_asg {tg e : Expr} {te : WE} {g : WG} (he : ZE X W e te) (hg : ZG X tg g) (hs : swapsWithSole [tg] e pos.line X.env = pure false := by rfl) (hw : swappedStores [tg] e X.env = pure none := by rfl)
    (ha : (assignEach [tg] X.env).map (·.2) = [assign tg X.env] := by rfl) : ZS X W (.Assign [tg] e pos) (wAsg te g) :=
  ⟨ps_imp (ps_asg he.pe hg.pg hs hw ha) fun D σ H ⟨S, F, ρ, h, nx, rt, bk, ct, xe, r, rl, q, ln, lr, lb, lc, lx⟩ =>
    ⟨S, F, ρ, h, _, _, r, rl, q, fun x h1 S1 v H1 q1 s1 r1 x1 => ⟨S1, F, x, ρ, h1, nx, r1, rl.mono s1, x1, q1, ln.mono s1⟩, lx.at rl⟩⟩
theorem zs_set {i : Nat} {x : Str} {e : Expr} {te : WE} {pos' : Pos} (hN : X.N.Nodup) (hi : X.N[i]? = some x) (hx : Loc X.env.scope x) (he : ZE X W e te) (hs : swapsWith e (some (.Name x pos')) pos.line X.env = pure false := by rfl)
    (hf : X.fn x = true ∨ X.env.scope.names.lookup x = some .local := by first | exact .inl rfl | exact .inr rfl | assumption) : ZS X W (.Assign [.Name x pos'] e pos) (wAsg te (wgName i)) :=
  ⟨ps_imp (ps_set hN hi hx he.pe hs hf) fun D σ H ⟨S, F, ρ, h, nx, rt, bk, ct, xe, r, rl, q, ln, lr, lb, lc, lx⟩ =>
    ⟨S, F, ρ, h, _, _, r, rl, q, fun x h1 S1 v H1 q1 s1 r1 x1 => ln _ _ _ _ _ q1 s1 r1 ((rl.mono s1).set i x1), lx.at rl⟩⟩
/-! ### while -/
def wWhile (c : WT) (tb : WS) : WS := fun nx rt _ _ xe ρ h => ∃ I : Nat → EH, (∃ m, I m ρ h) ∧ ∀ m ρ h, I m ρ h → c ρ h (atx xe ρ) fun b h1 =>
  if b = true then tb (fun ρ2 h2 => ∃ m2, m2 < m ∧ I m2 ρ2 h2) rt nx (fun ρ2 h2 => ∃ m2, m2 < m ∧ I m2 ρ2 h2) xe ρ h1 else nx ρ h1
theorem zs_while {c : Expr} {body : List Stmt} {tc : WT} {tb : WS} (hp : PassesOwn (model X.prog X.w) X.A X.env X.xe) (hc : ZT X W c tc) (hb : ZB X W body tb) : ZS X W (.While c body [] pos) (wWhile tc tb) :=
  ⟨ps_imp (ps_while hp hc.pt hb.pss) fun D σ H ⟨S, F, ρ, h, nx, rt, bk, ct, xe, r, rl, q, ln, lr, lb, lc, lx⟩ => by
    obtain ⟨I, ⟨m, q0⟩, turn⟩ := q
    refine ⟨fun m σ H => ∃ S1 ρ h, Sub S S1 ∧ R X.K S1 F H h ∧ Rls X.K S1 ρ σ ∧ I m ρ h, ⟨m, S, ρ, h, Sub.refl S, r, rl, q0⟩, ?_⟩
    rintro m σ1 H1 ⟨S1, ρ1, h1, s1, r1, rl1, i1⟩
    refine ⟨S1, F, ρ1, h1, _, _, r1, rl1, turn m ρ1 h1 i1, fun b h2 S2 H2 q2 s2 r2 => ?_, (lx.mono s1).at rl1⟩
    have s12 := s1.trans s2
    cases b with
    | true =>
      refine iteT ⟨_, fun σ' H' q => q, S2, F, ρ1, h2, _, rt, nx, _, xe, r2, rl1.mono s2, q2, fun ρ3 h3 S3 σ3 H3 q3 s3 r3 rl3 => ?_, lr.mono s12, ln.mono s12, fun ρ3 h3 S3 σ3 H3 q3 s3 r3 rl3 => ?_, lx.mono s12⟩
      · obtain ⟨m2, hm, i3⟩ := q3
        exact ⟨m2, hm, S3, ρ3, h3, s12.trans s3, r3, rl3, i3⟩
      · obtain ⟨m2, hm, i3⟩ := q3
        exact ⟨m2, hm, S3, ρ3, h3, s12.trans s3, r3, rl3, i3⟩
    | false => exact iteF (ln _ _ _ _ _ q2 s12 r2 (rl1.mono s2))⟩
/-! ### what is walked -/
structure JOk (K : Fr) (J : It) (S : Hp) (xs : List Val) (chk : Hh → Prop) : Prop where
  go : ∀ i x S' F H h, xs[i]? = some x → Sub S S' → R K S' F H h → chk h → J.go i H ∧ ∀ w H', J.yld i H w H' → ∃ S2, Sub S' S2 ∧ R K S2 F H' h ∧ Rel K S2 x w
  stop : ∀ i S' F H h, xs.length ≤ i → Sub S S' → R K S' F H h → chk h → J.stop i H
abbrev WI := Ev → Hh → XQ → (List Val → (Hh → Prop) → Hh → Prop) → Prop
def lI (K : Fr) (W : WX) (t : WI) : L2.TI := fun σ H Rr => ∃ S F ρ h E' G, R K S F H h ∧ Rls K S ρ σ ∧ t ρ h E' G ∧ LX K S F E' W σ ∧ ∀ xs chk h' S' H' J, G xs chk h' → Sub S S' → R K S' F H' h' → JOk K J S' xs chk → Rr J H'
structure ZI (X : Cx) (W : WX) (tg iter : Expr) (t : WI) : Prop where
  pi : PI X tg iter (lI X.K W t)
theorem pi_imp {X : Cx} {tg e : Expr} {t t' : L2.TI} (h : PI X tg e t) (i : ∀ σ H Q, t' σ H Q → t σ H Q) : PI X tg e t' := ⟨fun pins s σ H Q I q => h.run pins s σ H Q I (i _ _ _ q)⟩
/-- the items of a list: one that is owned stays as it is while it is walked -/
def Its (h : Hh) (v : Val) (G : List Val → (Hh → Prop) → Hh → Prop) : Prop := (∃ xs, (v = .lst xs ∨ v = .scr xs) ∧ G xs (fun _ => True) h) ∨ ∃ a xs, v = .ref a ∧ h a = some (.lst xs) ∧ G xs (fun h => h a = some (.lst xs)) h
def wiL (t : WE) : WI := fun ρ h E G => t ρ h E fun v h1 => Its h1 v G
end
/-! Z5 -/
/-! loops over lists, tuples, ranges, enumerate, zip, texts; comprehensions -/
section
variable {X : Cx} {W : WX} {pos : Pos}
theorem jok_frozen {K : Fr} {S : Hp} {a : Addr} {ws : List V} {xs : List Val} {chk : Hh → Prop} (h1 : SqL K S a ws) (h2 : Rels K S xs ws) : JOk K (Itl K a) S xs chk where
  go := fun i x S' F H h e s r _ => by
    obtain ⟨w, e2, x2⟩ := h2.get e
    have g := r.sub.seqL (s.seqL h1)
    exact ⟨⟨ws, w, g, e2⟩, fun u H' ⟨eH, y⟩ => by
      subst eH
      have z := y ws g
      rw [e2] at z; cases z
      exact ⟨S', Sub.refl _, r, Rel.mono s _ _ x2⟩⟩
  stop := fun i S' F H h e s r _ => ⟨ws, r.sub.seqL (s.seqL h1), by rw [← h2.length]; exact e⟩
theorem jok_owned {K : Fr} {S : Hp} {a : Addr} {xs : List Val} : JOk K (Itl K a) S xs (fun h => h a = some (.lst xs)) where
  go := fun i x S' F H h e s r c => by
    obtain ⟨_, u, h1, ws, rfl, h2⟩ := r.own _ _ c
    obtain ⟨w, e2, x2⟩ := h2.get e
    exact ⟨⟨ws, w, .of h1, e2⟩, fun u H' ⟨eH, y⟩ => by
      subst eH
      have z := y ws (.of h1)
      rw [e2] at z; cases z
      exact ⟨S', Sub.refl _, r, x2⟩⟩
  stop := fun i S' F H h e s r c => by
    obtain ⟨_, u, h1, ws, rfl, h2⟩ := r.own _ _ c
    exact ⟨ws, .of h1, by rw [← h2.length]; exact e⟩
theorem zi_list {tg l : Expr} {tl : WE} (hl : ZE X W l tl) : ZI X W tg l (wiL tl) :=
  ⟨pi_imp (pi_list hl.pe) fun σ H Rr ⟨S, F, ρ, h, E', G, r, rl, q, lx, g⟩ => ⟨S, F, ρ, h, E', _, r, rl, q, fun v h1 S1 w H1 q1 s1 r1 x1 => by
    rcases q1 with ⟨xs, e, q1⟩ | ⟨a, xs, rfl, e, q1⟩
    · have k : ∃ a ws, w = .ref a ∧ SqL X.K S1 a ws ∧ Rels X.K S1 xs ws := by
        rcases e with rfl | rfl
        · rw [rel_lst] at x1; obtain ⟨a, ws, e, h1, h2⟩ := x1; exact ⟨a, ws, e, .of h1, h2⟩
        · rw [rel_scr] at x1; exact x1
      obtain ⟨a, ws, e, h1, h2⟩ := k
      exact ⟨a, e, ⟨ws, r1.sub.seqL h1⟩, g _ _ _ _ _ _ q1 s1 r1 (jok_frozen h1 h2)⟩
    · rw [rel_ref] at x1
      obtain ⟨_, u, h1, ws, rfl, h2⟩ := r1.own _ _ e
      exact ⟨a, x1, ⟨ws, .of h1⟩, g _ _ _ _ _ _ q1 s1 r1 jok_owned⟩, lx⟩⟩
def wiT (t : WE) : WI := fun ρ h E G => t ρ h E fun v h1 => ∃ xs, v = .tup xs ∧ G xs (fun _ => True) h1
theorem cons_nil {K : Fr} {W : WX} {ta : WE} {σ : L2.St} {H : Hp} {Q : List V → Hp → Prop} {S F : Hp} {ρ : Ev} {h : Hh} {E' : XQ} {Q' : KQ} (r : R K S F H h) (rl : Rls K S ρ σ) (q : ta ρ h E' Q') (lx : LX K S F E' W σ) (l : ∀ v h' S' w H', Q' v h' → Sub S S' → R K S' F H' h' → Rel K S' v w → Q [w] H') : lA K W (wCons ta wNil) σ H Q := by
  refine ⟨S, F, ρ, h, E', fun vs h' => ∃ v, vs = [v] ∧ Q' v h', r, rl, ?_, fun vs h' S' ws H' q1 s1 r1 x1 => ?_, lx⟩
  · show ta ρ h E' fun x h1 => ∃ v, [x] = [v] ∧ Q' v h1
    have e : (fun (x : Val) (h1 : Hh) => ∃ v, [x] = [v] ∧ Q' v h1) = Q' := by
      funext x h1
      simp
    rw [e]
    exact q
  · obtain ⟨v, rfl, q1⟩ := q1
    rw [rels_cons] at x1
    obtain ⟨w1, ws, rfl, x1, x2⟩ := x1
    rw [rels_nil] at x2; subst x2
    exact l _ _ _ _ _ q1 s1 r1 x1
def rng (lo : Int) (n : Nat) : List Val := (List.range n).map fun (i : Nat) => Val.int (lo + (i : Int))
theorem rng_len {lo : Int} {n : Nat} : (rng lo n).length = n := by simp [rng]
theorem rng_get {lo : Int} {n i : Nat} {x : Val} (h : (rng lo n)[i]? = some x) : i < n ∧ x = .int (lo + i) := by
  unfold rng at h
  rw [List.getElem?_map] at h
  by_cases e : i < n
  · rw [List.getElem?_range e] at h; cases h; exact ⟨e, rfl⟩
  · rw [List.getElem?_eq_none (by simpa using e)] at h; cases h
theorem jok_rng {K : Fr} {S : Hp} {lo : Int} {n : Nat} {chk : Hh → Prop} : JOk K (Itr lo n) S (rng lo n) chk where
  go := fun i x S' F H h e s r _ => by
    obtain ⟨h1, rfl⟩ := rng_get e
    exact ⟨h1, fun w H' ⟨e1, e2⟩ => by subst e1 e2; exact ⟨S', Sub.refl _, r, rel_int.mpr rfl⟩⟩
  stop := fun i S' F H h e s r _ => by rw [rng_len] at e; exact e
def wiR1 (t : WE) : WI := fun ρ h E G => t ρ h E fun v h1 => ∃ j : Int, v = .int j ∧ -(2 ^ 62) ≤ j ∧ j < 2 ^ 62 ∧ G (rng 0 j.toNat) (fun _ => True) h1
theorem zi_r1 {tg a : Expr} {ta : WE} {p : Pos} (hg : Gl X "range") (hm : X.mg "range" = none) (ha : ZE X W a ta) (hs : starEach [a] X.env = (false, eval a X.env) :: starEach [] X.env := by rfl) (hs1 : starEach [a] X.env = [(false, eval a X.env)] := by rfl) : ZI X W tg (.Call (.Name "range" p) [a] [] pos) (wiR1 ta) :=
  ⟨pi_imp (pi_range1 hg hm (za_cons ha za_nil hs).pa hs1) fun σ H Rr ⟨S, F, ρ, h, E', G, r, rl, q, lx, g⟩ => cons_nil r rl q lx fun v h1 S1 w H1 q1 s1 r1 x1 => by
    obtain ⟨j, rfl, b1, b2, q1⟩ := q1
    rw [rel_int] at x1; subst x1
    exact ⟨j, rfl, b1, b2, g _ _ _ _ _ _ q1 s1 r1 jok_rng⟩⟩
/-- a list walked with its turns' numbers -/
def enumV : Nat → List Val → List Val
  | _, [] => []
  | n, x :: xs => .tup [.int (n : Int), x] :: enumV (n + 1) xs
theorem enumV_get : ∀ {xs : List Val} {n i : Nat}, (enumV n xs)[i]? = xs[i]?.map fun x => Val.tup [.int ((n + i : Nat) : Int), x]
  | [], _, _ => by simp [enumV]
  | x :: xs, n, 0 => by simp [enumV]
  | x :: xs, n, i + 1 => by
    show (enumV (n + 1) xs)[i]? = _
    rw [enumV_get]
    have e : n + 1 + i = n + (i + 1) := by omega
    rw [e]
    simp
theorem enumV_len : ∀ {xs : List Val} {n : Nat}, (enumV n xs).length = xs.length
  | [], _ => rfl
  | x :: xs, n => by show (enumV (n + 1) xs).length + 1 = _; rw [enumV_len]; rfl
theorem jok_enum {K : Fr} {J0 : It} {S : Hp} {a : Addr} {xs : List Val} {chk : Hh → Prop} (k : ∀ S' F H h, Sub S S' → R K S' F H h → chk h → ∃ ws, SqL K H a ws ∧ Rels K S' xs ws) : JOk K (Ite K a) S (enumV 0 xs) chk where
  go := fun i x S' F H h e s r c => by
    obtain ⟨ws, g, h2⟩ := k S' F H h s r c
    rw [enumV_get] at e
    cases q : xs[i]? with
    | none => rw [q] at e; cases e
    | some y =>
      rw [q] at e
      cases e
      obtain ⟨w, e2, x2⟩ := h2.get q
      exact ⟨⟨ws, w, g, e2⟩, fun u H' ⟨T, z, eu, hT, eH, y1⟩ => by
        subst eu eH
        have zz := y1 ws g
        rw [e2] at zz; cases zz
        obtain ⟨r2, s2⟩ := r.frozen (u := .tup [.int (i : Int), w]) hT
        refine ⟨_, s2, r2, rel_tup.mpr ⟨T, _, rfl, upd_same, ?_⟩⟩
        exact rels_cons.mpr ⟨_, _, rfl, rel_int.mpr (by simp), Rels.one (Rel.mono s2 _ _ x2)⟩⟩
  stop := fun i S' F H h e s r c => by
    obtain ⟨ws, g, h2⟩ := k S' F H h s r c
    rw [enumV_len] at e
    exact ⟨ws, g, by rw [← h2.length]; exact e⟩
/-- a list, walked: what the layer asks -/
theorem its_l {K : Fr} {S1 F H1 : Hp} {v : Val} {w : V} {h1 : Hh} {G : List Val → (Hh → Prop) → Hh → Prop} (q : Its h1 v G) (r1 : R K S1 F H1 h1) (x1 : Rel K S1 v w) : ∃ a ws xs chk, w = .ref a ∧ SqL K H1 a ws ∧ G xs chk h1 ∧ chk h1 ∧ xs.length = ws.length ∧
    (∀ S' F H h, Sub S1 S' → R K S' F H h → chk h → ∃ ws, SqL K H a ws ∧ Rels K S' xs ws) := by
  rcases q with ⟨xs, e, q1⟩ | ⟨a, xs, rfl, e, q1⟩
  · have k : ∃ a ws, w = .ref a ∧ SqL K S1 a ws ∧ Rels K S1 xs ws := by
      rcases e with rfl | rfl
      · rw [rel_lst] at x1; obtain ⟨a, ws, e, h1, h2⟩ := x1; exact ⟨a, ws, e, .of h1, h2⟩
      · rw [rel_scr] at x1; exact x1
    obtain ⟨a, ws, e, h1, h2⟩ := k
    exact ⟨a, ws, xs, _, e, r1.sub.seqL h1, q1, trivial, h2.length, fun S' F H h s r _ => ⟨ws, r.sub.seqL (s.seqL h1), Rels.mono s _ _ h2⟩⟩
  · rw [rel_ref] at x1
    obtain ⟨_, u, h1, ws, rfl, h2⟩ := r1.own _ _ e
    refine ⟨a, ws, xs, _, x1, .of h1, q1, e, h2.length, fun S' F H h s r c => ?_⟩
    obtain ⟨_, u, h3, ws, rfl, h4⟩ := r.own _ _ c
    exact ⟨ws, .of h3, h4⟩
def wiE (t : WE) : WI := fun ρ h E G => t ρ h E fun v h1 => Its h1 v fun xs chk h => G (enumV 0 xs) chk h
theorem zi_enum {e : Expr} {ta : WE} {p tpos : Pos} {elts : List Expr} {kk : Nat} (hg : Gl X "enumerate") (hm : X.mg "enumerate" = none) (ha : ZE X W e ta) (hs : starEach [e] X.env = (false, eval e X.env) :: starEach [] X.env := by rfl) (hs1 : starEach [e] X.env = [(false, eval e X.env)] := by rfl) :
    ZI X W (.Tuple elts kk tpos) (.Call (.Name "enumerate" p) [e] [] pos) (wiE ta) :=
  ⟨pi_imp (pi_enum hg hm (za_cons ha za_nil hs).pa hs1) fun σ H Rr ⟨S, F, ρ, h, E', G, r, rl, q, lx, g⟩ => cons_nil r rl q lx fun v h1 S1 w H1 q1 s1 r1 x1 => by
    obtain ⟨a, ws, xs, chk, e, h1, h2, h3, h4, h5⟩ := its_l q1 r1 x1
    exact ⟨a, ws, by rw [e], h1, g _ _ _ _ _ _ h2 s1 r1 (jok_enum (J0 := Itl X.K a) h5)⟩⟩
def zipV : List Val → List Val → List Val
  | x :: xs, y :: ys => .tup [x, y] :: zipV xs ys
  | _, _ => []
def wiZ (t u : WE) : WI := fun ρ h E G => t ρ h E fun v h1 => u ρ h1 E fun w h2 => Its h2 v fun xs c1 _ => Its h2 w fun ys c2 _ => G (zipV xs ys) (fun h => c1 h ∧ c2 h) h2
/-- the signs of a text -/
def sgn (c : Nat) : Val := .str ⟨#[c]⟩
def wiS (t : WE) : WI := fun ρ h E G => t ρ h E fun v h1 => ∃ x : Str, v = .str x ∧ G (x.cps.toList.map sgn) (fun _ => True) h1
/-! ### for -/
def wFor (wi : WI) (g : WG) (tb : WS) : WS := fun nx rt _ _ xe ρ h => wi ρ h (atx xe ρ) fun xs chk h1 => ∃ I : Nat → EH, I 0 ρ h1 ∧ ∀ i ρ h, I i ρ h → chk h ∧ (xs.length ≤ i → nx ρ h) ∧
  ∀ x, xs[i]? = some x → g x ρ h fun ρ2 h2 => tb (I (i + 1)) rt nx (I (i + 1)) xe ρ2 h2
theorem zs_for {tg iter : Expr} {body : List Stmt} {wi : WI} {g : WG} {tb : WS} (hp : PassesOwn (model X.prog X.w) X.A X.env X.xe) (hc : X.calm = true) (hi : ZI X W tg iter wi) (hg : ZG X tg g) (hb : ZB X W body tb)
    (hs : ∀ x, foldedSetIterable iter X.env x = pure x := by intro _; rfl) : ZS X W (.For tg iter body [] pos) (wFor wi g tb) :=
  ⟨ps_imp (ps_for hp hc hi.pi hg.pg hb.pss hs) fun D σ H ⟨S, F, ρ, h, nx, rt, bk, ct, xe, r, rl, q, ln, lr, lb, lc, lx⟩ =>
    ⟨S, F, ρ, h, _, _, r, rl, q, lx.at rl, fun xs chk h1 S1 H1 J q1 s1 r1 jok => by
      obtain ⟨I, i0, turn⟩ := q1
      refine ⟨fun i m σ H => m = xs.length - i ∧ ∃ S2 ρ h, Sub S1 S2 ∧ R X.K S2 F H h ∧ Rls X.K S2 ρ σ ∧ I i ρ h, ⟨_, rfl, S1, ρ, h1, Sub.refl _, r1, rl.mono s1, i0⟩, ?_⟩
      rintro i m σ2 H2 ⟨rfl, S2, ρ2, h2, s2, r2, rl2, i2⟩
      obtain ⟨c, fin, step⟩ := turn i ρ2 h2 i2
      have s12 := s1.trans s2
      by_cases hl : xs.length ≤ i
      · exact .inl ⟨jok.stop i S2 F H2 h2 hl s2 r2 c, ln _ _ _ _ _ (fin hl) s12 r2 rl2⟩
      · have hx : xs[i]? = some (xs[i]'(by omega)) := List.getElem?_eq_getElem (by omega)
        obtain ⟨go, yld⟩ := jok.go i _ S2 F H2 h2 hx s2 r2 c
        refine .inr ⟨go, _, fun σ' H' z => z, fun w H3 y => ?_⟩
        obtain ⟨S3, s3, r3, x3⟩ := yld w H3 y
        have s13 := s12.trans s3
        refine ⟨S3, F, _, ρ2, h2, _, r3, rl2.mono s3, x3, step _ hx, fun ρ4 h4 S4 σ4 H4 q4 s4 r4 rl4 => ?_⟩
        have s14 := s13.trans s4
        refine ⟨S4, F, ρ4, h4, _, rt, nx, _, xe, r4, rl4, q4, fun ρ5 h5 S5 σ5 H5 q5 s5 r5 rl5 => ?_, lr.mono s14, ln.mono s14, fun ρ5 h5 S5 σ5 H5 q5 s5 r5 rl5 => ?_, lx.mono s14⟩
        · exact ⟨_, by omega, rfl, S5, ρ5, h5, ((s2.trans s3).trans s4).trans s5, r5, rl5, q5⟩
        · exact ⟨_, by omega, rfl, S5, ρ5, h5, ((s2.trans s3).trans s4).trans s5, r5, rl5, q5⟩⟩⟩
end
/-! Z6 -/
/-! comprehensions; calls of built-ins; methods of built-in types -/
section
variable {X : Cx} {W : WX} {pos : Pos}
/-! ### comprehensions -/
def WF : WX := fun _ _ _ _ => False
theorem lxF {K : Fr} {S F : Hp} {σ : L2.St} {W : WX} : LX K S F (fun _ _ _ => False) W σ := fun _ _ _ _ _ _ _ q => q.elim
def wipeV (ρ : Ev) : List Nat → Ev
  | [] => ρ
  | v :: vs => (wipeV ρ vs).set v none
theorem rls_wipe {K : Fr} {S : Hp} {ρ : Ev} {σ : L2.St} (r : Rls K S ρ σ) : ∀ vs : List Nat, Rls K S (wipeV ρ vs) (wipe σ vs)
  | [] => r
  | v :: vs => (rls_wipe r vs).unset v
structure ZTs (X : Cx) (W : WX) (es : List Expr) (t : WT) : Prop where
  pts : PTs X es (lT X.K W t)
theorem pts_imp {X : Cx} {e : List Expr} {t t' : L2.TT} (h : PTs X e t) (i : ∀ σ H Q, t' σ H Q → t σ H Q) : PTs X e t' := ⟨fun pins s σ H Q I q => h.run pins s σ H Q I (i _ _ _ q)⟩
def wYes : WT := fun _ h _ Q => Q true h
theorem zts_nil : ZTs X W [] wYes := ⟨pts_imp pts_nil fun σ H Q ⟨S, F, ρ, h, E', Q', r, rl, q, lq, lx⟩ => lq _ _ _ _ q (Sub.refl S) r⟩
theorem zts_one {c : Expr} {t : WT} (h : ZT X W c t) : ZTs X W [c] t := ⟨pts_one h.pt⟩
/-- the comprehension's loop: I tells what is made so far -/
def wLcB (tg : Val → Ev → (Ev → Prop) → Prop) (xs : List Val) (chk : Hh → Prop) (tt : WT) (te : WE) (vs : List Nat) (ρ : Ev) (h : Hh) (Q : KQ) : Prop :=
  ∃ I : Nat → List Val → Hh → Prop, I 0 [] h ∧ ∀ i acc h, I i acc h → chk h ∧ (xs.length ≤ i → NewL acc h Q) ∧ ∀ x, xs[i]? = some x → tg x (wipeV ρ vs) fun ρ2 =>
    tt ρ2 h (fun _ _ _ => False) fun b h3 => if b = true then te ρ2 h3 (fun _ _ _ => False) (fun y h4 => acc.length < 16000000 ∧ I (i + 1) (acc ++ [y]) h4) else I (i + 1) acc h3
def tg1 (i : Nat) : Val → Ev → (Ev → Prop) → Prop := fun x ρ Q => Q (ρ.set i (some x))
def wLc (wi : WI) (tg : Val → Ev → (Ev → Prop) → Prop) (tt : WT) (te : WE) (vs : List Nat) : WE := fun ρ h E Q => wi ρ h E fun xs chk h1 => wLcB tg xs chk tt te vs ρ h1 Q
/-- a target's two readings: the layer's and ours -/
def TgOk (K : Fr) (g : L2.TG) (tg : Val → Ev → (Ev → Prop) → Prop) (vs : List Nat) : Prop := ∀ S F H h x w (ρ : Ev) (σ : L2.St) (Q' : Ev → Prop) (Q : L2.St → Hp → Prop), R K S F H h → Rel K S x w → Rls K S (wipeV ρ vs) (wipe σ vs) → tg x (wipeV ρ vs) Q' →
  (∀ ρ2 σ2, Q' ρ2 → Rls K S ρ2 σ2 → wipe σ2 vs = wipe σ vs → Q σ2 H) → g w (wipe σ vs) H Q
theorem tg1_ok {K : Fr} {i : Nat} : TgOk K (gName i) (tg1 i) [i] := fun S F H h x w ρ σ Q' Q r rx rl q l => by
  refine l _ _ q (rl.set i rx) ?_
  simp [wipe]
/-- a frame's new object -/
theorem R.held {K : Fr} {S F H : Hp} {h : Hh} {p : Addr} {u : HO} (r : R K S F H h) (n : H p = none) (nt : ∀ ws, u ≠ .tup ws := by intro ws z; cases z) : R K S (upd F p u) (upd H p u) h := by
  have nS : S p = none := r.sub.free n
  refine ⟨fun a o e => ?_, fun a o e => ?_, fun a o e => ?_, fun a ws z => by
    by_cases y : a = p
    · subst y; rw [upd_same] at z; cases z; exact nt _ rfl
    · rw [upd_ne y] at z; exact r.ntp a ws z⟩
  · rw [upd_ne (ne_of_none e nS)]; exact r.sub _ _ e
  · by_cases q : a = p
    · subst q; rw [upd_same] at e ⊢; exact ⟨e, nS, r.fresh n⟩
    · rw [upd_ne q] at e
      rw [upd_ne q]
      exact r.frm a o e
  · obtain ⟨h1, v, h2, h3⟩ := r.own a o e
    have q : a ≠ p := ne_of_none h2 n
    exact ⟨h1, v, by rw [upd_ne q]; exact h2, h3⟩
theorem R.reheld {K : Fr} {S F H : Hp} {h : Hh} {p : Addr} {u v : HO} (r : R K S (upd F p u) H h) (n : F p = none) (nt : ∀ ws, v ≠ .tup ws := by intro ws z; cases z) : R K S (upd F p v) (upd H p v) h := by
  obtain ⟨e1, e2, e3⟩ := r.frm p u upd_same
  refine ⟨fun a o e => ?_, fun a o e => ?_, fun a o e => ?_, fun a ws z => by
    by_cases y : a = p
    · subst y; rw [upd_same] at z; cases z; exact nt _ rfl
    · rw [upd_ne y] at z; exact r.ntp a ws (by rw [upd_ne y]; exact z)⟩
  · rw [upd_ne (ne_of_none e e2)]; exact r.sub _ _ e
  · by_cases q : a = p
    · subst q; rw [upd_same] at e ⊢; exact ⟨e, e2, e3⟩
    · rw [upd_ne q] at e
      rw [upd_ne q]
      exact r.frm a o (by rw [upd_ne q]; exact e)
  · obtain ⟨h1, v, h2, h3⟩ := r.own a o e
    have q : a ≠ p := fun z => by subst z; rw [e3] at e; cases e
    exact ⟨h1, v, by rw [upd_ne q]; exact h2, h3⟩
theorem R.held_freeze {K : Fr} {S F H : Hp} {h : Hh} {p : Addr} {u : HO} (r : R K S (upd F p u) H h) (n : F p = none) : R K (upd S p u) F H h ∧ Sub S (upd S p u) := by
  obtain ⟨e1, e2, e3⟩ := r.frm p u upd_same
  refine ⟨⟨fun a o e => ?_, fun a o e => ?_, fun a o e => ?_, fun a ws z => r.ntp a ws (by rw [upd_ne (ne_of_none z n)]; exact z)⟩, Sub.upd e2⟩
  · by_cases q : a = p
    · subst q; rw [upd_same] at e; cases e; exact e1
    · rw [upd_ne q] at e; exact r.sub _ _ e
  · have q : a ≠ p := ne_of_none e n
    obtain ⟨g1, g2, g3⟩ := r.frm a o (by rw [upd_ne q]; exact e)
    exact ⟨g1, by rw [upd_ne q]; exact g2, g3⟩
  · obtain ⟨h1, v, h2, h3⟩ := r.own a o e
    have q : a ≠ p := fun z => by subst z; rw [e3] at e; cases e
    exact ⟨by rw [upd_ne q]; exact h1, v, h2, h3.mono (Sub.upd e2)⟩
theorem zlc_run {K : Fr} {W W' : WX} {wi : WI} {g : L2.TG} {tg : Val → Ev → (Ev → Prop) → Prop} {tt : WT} {te : WE} {vs : List Nat} (gk : TgOk K g tg vs) {σ : L2.St} {H : Hp} {Q : VK} (q : lE K W (wLc wi tg tt te vs) σ H Q) : tLc (lI K W wi) g (lT K W' tt) (lE K W' te) vs σ H Q := by
  obtain ⟨S, F, ρ, h, E', Q', r, rl, q, lq, lx⟩ := q
  refine ⟨S, F, ρ, h, E', _, r, rl, q, lx, fun xs chk h1 S1 H1 J q1 s1 r1 jok D hD => ?_⟩
  obtain ⟨I, i0, turn⟩ := q1
  have nF : F D = none := by
    cases z : F D with
    | none => rfl
    | some o => have := (r1.frm _ _ z).1; rw [hD] at this; cases this
  refine ⟨fun i m H => m = xs.length - i ∧ ∃ S2 h acc wacc, Sub S1 S2 ∧ R K S2 (upd F D (.lst wacc)) H h ∧ Rels K S2 acc wacc ∧ I i acc h, ⟨_, rfl, S1, h1, [], [], Sub.refl _, r1.held hD, rels_nil.mpr rfl, i0⟩, ?_⟩
  rintro i m H2 ⟨rfl, S2, h2, acc, wacc, s2, r2, xa, i2⟩
  obtain ⟨c, fin, step⟩ := turn i acc h2 i2
  have s12 := s1.trans s2
  by_cases hl : xs.length ≤ i
  · refine .inl ⟨jok.stop i S2 _ H2 h2 hl s2 r2 c, ?_⟩
    rcases fin hl with q | q
    · have e3 := (r2.frm D _ upd_same).2.2
      exact lq _ _ S2 _ _ (q D e3) s12 (r2.unhold nF (o := .lst acc) ⟨wacc, rfl, xa⟩).2 (rel_ref.mpr rfl)
    · obtain ⟨r3, s3⟩ := r2.held_freeze nF
      exact lq _ _ _ _ _ q (s12.trans s3) r3 (rel_lst.mpr ⟨D, wacc, rfl, upd_same, Rels.mono s3 _ _ xa⟩)
  · have hx : xs[i]? = some (xs[i]'(by omega)) := List.getElem?_eq_getElem (by omega)
    obtain ⟨go, yld⟩ := jok.go i _ S2 _ H2 h2 hx s2 r2 c
    refine .inr ⟨go, _, fun H' z => z, fun w H3 y => ?_⟩
    obtain ⟨S3, s3, r3, x3⟩ := yld w H3 y
    refine gk S3 _ H3 h2 _ w ρ σ _ _ r3 x3 (rls_wipe (rl.mono (s12.trans s3)) vs) (step _ hx) fun ρ2 σ2 q2 rl2 ew => ⟨ew, ?_⟩
    refine ⟨S3, _, ρ2, h2, _, _, r3, rl2, q2, fun b h4 S4 H4 q4 s4 r4 => ?_, lxF⟩
    cases b with
    | true =>
      refine iteT ⟨S4, _, ρ2, h4, _, _, r4, rl2.mono s4, (by rw [if_pos rfl] at q4; exact q4), fun v h5 S5 w5 H5 q5 s5 r5 x5 => ?_, lxF⟩
      have e5 := (r5.frm D _ upd_same).1
      have xa5 := Rels.mono ((s3.trans s4).trans s5) _ _ xa
      have ln := xa5.length
      have hz := sizeLine_eq
      exact ⟨wacc, e5, by rw [← ln]; have := q5.1; omega, _, by omega, rfl, S5, h5, acc ++ [v], wacc ++ [w5], ((s2.trans s3).trans s4).trans s5, r5.reheld nF, xa5.app (Rels.one x5), q5.2⟩
    | false =>
      rw [if_neg Bool.false_ne_true] at q4
      refine iteF ⟨_, ?_, rfl, S4, h4, acc, wacc, (s2.trans s3).trans s4, r4, Rels.mono (s3.trans s4) _ _ xa, q4⟩
      omega
/-- [elt for x in iter if ..] -/
theorem zlc {elt tg0 iter : Expr} {ifs : List Expr} {scope : Scope} {own : List (Str × Nat)} {wi : WI} {g : L2.TG} {tg : Val → Ev → (Ev → Prop) → Prop} {tt : WT} {te : WE} (gk : TgOk X.K g tg (own.map (·.2))) (hc : X.calm = true) (hN : X.N.Nodup) (hi : ZI X W tg0 iter wi) (ok : BlkOk X.N X.env.scope scope own)
    (hg : ∀ (s : Shared) (H : Hp) (C : Addr) (cl : List (Str × Addr)) (fp : List Addr), PG (X.blk s H scope (compEnvC scope cl C X.env) fp) tg0 g)
    (ht : ∀ (s : Shared) (H : Hp) (C : Addr) (cl : List (Str × Addr)) (fp : List Addr), ZTs (X.blk s H scope (compEnvC scope cl C X.env) fp) WF ifs tt)
    (he : ∀ (s : Shared) (H : Hp) (C : Addr) (cl : List (Str × Addr)) (fp : List Addr), ZE (X.blk s H scope (compEnvC scope cl C X.env) fp) WF elt te)
    (hs : ∀ x, foldedSetIterable iter X.env x = pure x := by intro _; rfl) : ZE X W (.ListComp elt [{ target := tg0, iter := iter, ifs := ifs, is_async := 0 }] scope pos) (wLc wi tg tt te (own.map (·.2))) :=
  ⟨pe_imp (pe_lc hc hN hi.pi ok hg (fun s H C cl fp => (ht s H C cl fp).pts) (fun s H C cl fp => (he s H C cl fp).pe) hs) fun σ H Q q => zlc_run gk q⟩
/-- y = [elt for x in iter if ..] -/
theorem zs_setLc {i : Nat} {y : Str} {py spos : Pos} {elt tg0 iter : Expr} {ifs : List Expr} {scope : Scope} {own : List (Str × Nat)} {wi : WI} {g : L2.TG} {tg : Val → Ev → (Ev → Prop) → Prop} {tt : WT} {te : WE} (gk : TgOk X.K g tg (own.map (·.2))) (hc : X.calm = true) (hN : X.N.Nodup) (hy : X.N[i]? = some y)
    (hk : X.env.scope.names.lookup y = some .local) (hsw : swapsWith (.ListComp elt [{ target := tg0, iter := iter, ifs := ifs, is_async := 0 }] scope pos) (some (.Name y py)) spos.line X.env = pure true) (hi : ZI X W tg0 iter wi) (ok : BlkOk X.N X.env.scope scope own)
    (hg : ∀ (s : Shared) (H : Hp) (C : Addr) (cl : List (Str × Addr)) (fp : List Addr), PG (X.blk s H scope (compEnvC scope cl C X.env) fp) tg0 g)
    (ht : ∀ (s : Shared) (H : Hp) (C : Addr) (cl : List (Str × Addr)) (fp : List Addr), ZTs (X.blk s H scope (compEnvC scope cl C X.env) fp) WF ifs tt)
    (he : ∀ (s : Shared) (H : Hp) (C : Addr) (cl : List (Str × Addr)) (fp : List Addr), ZE (X.blk s H scope (compEnvC scope cl C X.env) fp) WF elt te)
    (hs : ∀ x, foldedSetIterable iter X.env x = pure x := by intro _; rfl) : ZS X W (.Assign [.Name y py] (.ListComp elt [{ target := tg0, iter := iter, ifs := ifs, is_async := 0 }] scope pos) spos) (wAsg (wLc wi tg tt te (own.map (·.2))) (wgName i)) :=
  ⟨ps_imp (ps_setLc hc hN hy hk hsw hi.pi ok hg (fun s H C cl fp => (ht s H C cl fp).pts) (fun s H C cl fp => (he s H C cl fp).pe) hs) fun D σ H ⟨S, F, ρ, h, nx, rt, bk, ct, xe, r, rl, q, ln, lr, lb, lc, lx⟩ =>
    zlc_run (W := W) (W' := WF) gk ⟨S, F, ρ, h, _, _, r, rl, q, fun x h1 S1 v H1 q1 s1 r1 x1 => ln _ _ _ _ _ q1 s1 r1 ((rl.mono s1).set i x1), lx.at rl⟩⟩

/-! ### calls of built-ins -/
abbrev WC := List Val → Hh → KQ → Prop
def SndC (K : Fr) (r' : WC) (r : List V → Hp → VK → Prop) : Prop := ∀ S F H h xs vs Q' Q, R K S F H h → Rels K S xs vs → r' xs h Q' → LQ K S F Q' Q → r vs H Q
def wCB (r : WC) (t : WA) : WE := fun ρ h E Q => t ρ h E fun vs h1 => r vs h1 Q
theorem zcallB {x : Str} {p : Pos} {e : Expr} {es : List Expr} {t : WA} {id : String} {r : List V → Hp → VK → Prop} {r' : WC} (hc : CallR X (.builtin id) r) (s : SndC X.K r' r) (hg : Gl X x) (hm : X.mg x = none) (hv : bootBuiltins x = some (.builtin id)) (ha : ZA X W (e :: es) t)
    (hn : x ≠ "__name__" := by decide) (hdb : (x == ("__debug__" : Str)) = false := by decide) (he : starEach (e :: es) X.env = (false, eval e X.env) :: starEach es X.env := by rfl) (hpl : (backTo pos (starEach es X.env)).any (·.1) = false := by rfl) :
    ZE X W (.Call (.Name x p) (e :: es) [] pos) (wCB r' t) :=
  ⟨pe_imp (pe_callB hc hg hm hv ha.pa hn hdb he hpl) fun σ H Q ⟨S, F, ρ, h, E', Q', r, rl, q, lq, lx⟩ =>
    ⟨S, F, ρ, h, E', _, r, rl, q, fun vs h1 S1 ws H1 q1 s1 r1 x1 => s S1 F H1 h1 vs ws _ Q r1 x1 q1 (lq.mono s1), lx⟩⟩
theorem zcallTy {x : Str} {p : Pos} {e : Expr} {es : List Expr} {t : WA} {T : String} {r : List V → Hp → VK → Prop} {r' : WC} (hc : CallR X (.type T) r) (s : SndC X.K r' r) (hg : Gl X x) (hm : X.mg x = none) (hv : bootBuiltins x = some (.type T)) (ha : ZA X W (e :: es) t)
    (hn : x ≠ "__name__" := by decide) (hdb : (x == ("__debug__" : Str)) = false := by decide) (he : starEach (e :: es) X.env = (false, eval e X.env) :: starEach es X.env := by rfl) (hpl : (backTo pos (starEach es X.env)).any (·.1) = false := by rfl) :
    ZE X W (.Call (.Name x p) (e :: es) [] pos) (wCB r' t) :=
  ⟨pe_imp (pe_callTy hc hg hm hv ha.pa hn hdb he hpl) fun σ H Q ⟨S, F, ρ, h, E', Q', r, rl, q, lq, lx⟩ =>
    ⟨S, F, ρ, h, E', _, r, rl, q, fun vs h1 S1 ws H1 q1 s1 r1 x1 => s S1 F H1 h1 vs ws _ Q r1 x1 q1 (lq.mono s1), lx⟩⟩
/-- a built-in class as a value -/
theorem ztyp {x : Str} {n : String} (hg : Gl X x) (hm : X.mg x = none) (hv : bootBuiltins x = some (.type n)) (hn : x ≠ "__name__" := by decide) (hd : (x == ("__debug__" : Str)) = false := by decide) : ZE X W (.Name x pos) (wC (.ty n)) :=
  zc (pe_bltn (v := .ty n) hg hm hv rfl hn hd) fun _ => rel_ty.mpr rfl
theorem rels_1 {K : Fr} {S : Hp} {x : Val} {vs : List V} (h : Rels K S [x] vs) : ∃ w, vs = [w] ∧ Rel K S x w := by
  rw [rels_cons] at h
  obtain ⟨w, r, rfl, h1, h2⟩ := h
  rw [rels_nil] at h2; subst h2
  exact ⟨w, rfl, h1⟩
theorem rels_2 {K : Fr} {S : Hp} {x y : Val} {vs : List V} (h : Rels K S [x, y] vs) : ∃ w u, vs = [w, u] ∧ Rel K S x w ∧ Rel K S y u := by
  rw [rels_cons] at h
  obtain ⟨w, r, rfl, h1, h2⟩ := h
  obtain ⟨u, rfl, h3⟩ := rels_1 h2
  exact ⟨w, u, rfl, h1, h3⟩
/-- len -/
inductive LenN (h : Hh) : Val → Nat → Prop
  | lst {x xs} : Seqq h x xs → LenN h x xs.length
  | tup {xs} : LenN h (.tup xs) xs.length
  | str {z : Str} : z.length ≤ sizeLine → LenN h (.str z) z.length
theorem LenN.l {K : Fr} {S F H : Hp} {h : Hh} {x : Val} {n : Nat} {v : V} (q : LenN h x n) (r : R K S F H h) (x1 : Rel K S x v) : LenV K v H n := by
  cases q with
  | lst q => obtain ⟨a, ws, rfl, h1, h2⟩ := q.l r x1; exact .inl ⟨ws, h1, h2.length⟩
  | tup => obtain ⟨a, ws, rfl, h1, h2⟩ := rel_tupH r x1; exact .inr ⟨ws, h1, h2.length⟩
  | str e => rw [rel_str] at x1; subst x1; exact ⟨e, rfl⟩
def cLen : WC := fun vs h Q => ∃ x n, vs = [x] ∧ LenN h x n ∧ Q (.int (n : Int)) h
theorem s_len {K : Fr} : SndC K cLen (fun xs H Q => ∃ x n, xs = [x] ∧ LenV K x H n ∧ Q (.int n) H) := fun S F H h xs vs Q' Q r rx q lq => by
  obtain ⟨x, n, rfl, q1, q⟩ := q
  obtain ⟨w, rfl, x1⟩ := rels_1 rx
  exact ⟨w, n, rfl, q1.l r x1, lq _ _ S _ _ q (Sub.refl S) r (rel_int.mpr rfl)⟩
/-- max(a, b), min(a, b) of ints -/
def cMax2 : WC := fun vs h Q => ∃ i j, vs = [.int i, .int j] ∧ Q (.int (if j > i then j else i)) h
theorem s_max2 {K : Fr} : SndC K cMax2 (fun xs H Q => ∃ i j, xs = [V.int i, V.int j] ∧ Q (V.int (if j > i then j else i)) H) := fun S F H h xs vs Q' Q r rx q lq => by
  obtain ⟨i, j, rfl, q⟩ := q
  obtain ⟨w, u, rfl, x1, x2⟩ := rels_2 rx
  rw [rel_int] at x1 x2; subst x1 x2
  exact ⟨i, j, rfl, lq _ _ S _ _ q (Sub.refl S) r (rel_int.mpr rfl)⟩
def cMin2 : WC := fun vs h Q => ∃ i j, vs = [.int i, .int j] ∧ Q (.int (if j < i then j else i)) h
/-- isinstance(x, T) of built-in classes -/
inductive TyN (h : Hh) : Val → String → Prop
  | non : TyN h .non "NoneType"
  | bl (b) : TyN h (.bl b) "bool"
  | int (i) : TyN h (.int i) "int"
  | str (z) : TyN h (.str z) "str"
  | tup (xs) : TyN h (.tup xs) "tuple"
  | lst {x xs} : Seqq h x xs → TyN h x "list"
theorem TyN.l {K : Fr} {S F H : Hp} {h : Hh} {x : Val} {n : String} {v : V} (q : TyN h x n) (r : R K S F H h) (x1 : Rel K S x v) : TyX K H v (.type n) := by
  cases q with
  | non => rw [rel_non] at x1; subst x1; exact .base .non
  | bl b => rw [rel_bl] at x1; subst x1; exact .base (.bl b)
  | int i => rw [rel_int] at x1; subst x1; exact .base (.int i)
  | str z => rw [rel_str] at x1; subst x1; exact .base (.str z)
  | tup xs =>
    obtain ⟨a, ws, rfl, h1, h2⟩ := rel_tupH r x1
    rcases h1 with (h1 | ⟨o, h1⟩) | ⟨o, its, m, h1, h3, _⟩
    · exact .base (.tup h1)
    · exact .fTuple h1
    · exact .kTuple h1 h3
  | lst q =>
    obtain ⟨a, ws, rfl, h1, h2⟩ := q.l r x1
    rcases h1 with (h1 | ⟨o, h1⟩) | ⟨o, its, m, h1, h3, _⟩
    · exact .base (.lst h1)
    · exact .base (.frz h1)
    · exact .kList h1 h3
def cIsi : WC := fun vs h Q => ∃ x n T b, vs = [x, .ty T] ∧ TyN h x n ∧ kitB n T = some b ∧ Q (.bl b) h
theorem s_isi {K : Fr} : SndC K cIsi (rIsi K) := fun S F H h xs vs Q' Q r rx q lq => by
  obtain ⟨x, n, T, b, rfl, q1, q2, q⟩ := q
  obtain ⟨w, u, rfl, x1, x2⟩ := rels_2 rx
  rw [rel_ty] at x2; subst x2
  exact ⟨w, .ty T, .type n, .type T, b, rfl, .ty T, q1.l r x1, kit_ty q2, lq _ _ S _ _ q (Sub.refl S) r (rel_bl.mpr rfl)⟩
/-- list(x), tuple(x) -/
inductive SeqT (h : Hh) : Val → List Val → Prop
  | lst {x xs} : Seqq h x xs → SeqT h x xs
  | tup (xs) : SeqT h (.tup xs) xs
theorem SeqT.l {K : Fr} {S F H : Hp} {h : Hh} {x : Val} {xs : List Val} {v : V} (q : SeqT h x xs) (r : R K S F H h) (x1 : Rel K S x v) : ∃ a ws, v = .ref a ∧ (SqL K H a ws ∨ SqT K H a ws) ∧ Rels K S xs ws := by
  cases q with
  | lst q => obtain ⟨a, ws, e, h1, h2⟩ := q.l r x1; exact ⟨a, ws, e, .inl h1, h2⟩
  | tup => obtain ⟨a, ws, e, h1, h2⟩ := rel_tupH r x1; exact ⟨a, ws, e, .inr h1, h2⟩
def cList : WC := fun vs h Q => ∃ x xs, vs = [x] ∧ SeqT h x xs ∧ NewL xs h Q
theorem s_list {K : Fr} : SndC K cList (fun xs H Q => ∃ p ys, xs = [V.ref p] ∧ (SqL K H p ys ∨ SqT K H p ys) ∧ ∀ (l : Addr), H l = none → Q (V.ref l) (upd H l (HO.lst ys))) := fun S F H h xs vs Q' Q r rx q lq => by
  obtain ⟨x, ys, rfl, q1, q⟩ := q
  obtain ⟨w, rfl, x1⟩ := rels_1 rx
  obtain ⟨a, ws, rfl, h1, h2⟩ := q1.l r x1
  exact ⟨a, ws, rfl, h1, fun l n => newl r h2 q lq n⟩
def cTuple : WC := fun vs h Q => ∃ x xs, vs = [x] ∧ SeqT h x xs ∧ Q (.tup xs) h
theorem s_tuple {K : Fr} : SndC K cTuple (fun xs H Q => ∃ p ys, xs = [V.ref p] ∧ ((SqL K H p ys ∧ ∀ (l : Addr), H l = none → Q (V.ref l) (upd H l (HO.tup ys))) ∨ SqT K H p ys ∧ Q (V.ref p) H)) := fun S F H h xs vs Q' Q r rx q lq => by
  obtain ⟨x, ys, rfl, q1, q⟩ := q
  obtain ⟨w, rfl, x1⟩ := rels_1 rx
  cases q1 with
  | lst q1 =>
    obtain ⟨a, ws, rfl, h1, h2⟩ := q1.l r x1
    exact ⟨a, ws, rfl, .inl ⟨h1, fun l n => newt r h2 q lq n⟩⟩
  | tup =>
    obtain ⟨a, ws, rfl, h1, h2⟩ := rel_tupH r x1
    exact ⟨a, ws, rfl, .inr ⟨h1, lq _ _ S _ _ q (Sub.refl S) r x1⟩⟩
/-- sum(xs) of ints -/
def cSum : WC := fun vs h Q => ∃ (x : Val) (ns : List Int), vs = [x] ∧ Seqq h x (ns.map Val.int) ∧ Q (.int ns.sum) h
theorem s_sum {K : Fr} : SndC K cSum (rSum K) := fun S F H h xs vs Q' Q r rx q lq => by
  obtain ⟨x, ns, rfl, q1, q⟩ := q
  obtain ⟨w, rfl, x1⟩ := rels_1 rx
  obtain ⟨a, ws, rfl, h1, h2⟩ := q1.l r x1
  rw [Rels.ints] at h2; subst h2
  exact ⟨a, ns, rfl, h1, lq _ _ S _ _ q (Sub.refl S) r (rel_int.mpr rfl)⟩
/-- int(n), int(flag) -/
def cInt : WC := fun vs h Q => (∃ i, vs = [.int i] ∧ Q (.int i) h) ∨ ∃ k, vs = [.bl k] ∧ Q (.int (if k then 1 else 0)) h
/-! ### methods of built-in types -/
abbrev WM := Val → List Val → Hh → KQ → Prop
def SndM (K : Fr) (r' : WM) (r : V → List V → Hp → VK → Prop) : Prop := ∀ S F H h x v xs vs Q' Q, R K S F H h → Rel K S x v → Rels K S xs vs → r' x xs h Q' → LQ K S F Q' Q → r v vs H Q
inductive TyM (h : Hh) : String → Val → Prop
  | str (z) : TyM h "str" (.str z)
  | lst {x xs} : Seqq h x xs → TyM h "list" x
  | dK {a kvs} : h a = some (.dK kvs) → TyM h "dict" (.ref a)
  | dT {a kvs} : h a = some (.dT kvs) → TyM h "dict" (.ref a)
theorem TyM.l {K : Fr} {S F H : Hp} {h : Hh} {x : Val} {T : String} {v : V} (q : TyM h T x) (r : R K S F H h) (x1 : Rel K S x v) : tyV K T v H := by
  cases q with
  | str z => rw [rel_str] at x1; subst x1; exact rfl
  | lst q => obtain ⟨a, ws, rfl, h1, h2⟩ := q.l r x1; exact .inl ⟨rfl, ws, h1⟩
  | dK e => rw [rel_ref] at x1; subst x1; obtain ⟨_, u, h1, ws, rfl, _⟩ := r.own _ _ e; exact .inr (.inr (.inl ⟨rfl, .inl ⟨_, h1⟩⟩))
  | dT e => rw [rel_ref] at x1; subst x1; obtain ⟨_, u, h1, ws, rfl, _⟩ := r.own _ _ e; exact .inr (.inr (.inl ⟨rfl, .inr ⟨_, h1⟩⟩))
def wBM (T : String) (r : WM) (to : WE) (t : WA) : WE := fun ρ h E Q => to ρ h E fun x h1 => TyM h1 T x ∧ t ρ h1 E fun xs h2 => r x xs h2 Q
def wBM0 (T : String) (r : WM) (to : WE) : WE := fun ρ h E Q => to ρ h E fun x h1 => TyM h1 T x ∧ r x [] h1 Q
theorem zbm {o e : Expr} {es : List Expr} {to : WE} {t : WA} {name : Str} {apos cpos : Pos} {T id : String} {r : V → List V → Hp → VK → Prop} {r' : WM} (hp : PlainAttrs T) (hs : Slot T name id) (hd : typeOf (.builtin id) = pure (.type "method_descriptor")) (hr : MtR X id r) (s : SndM X.K r' r) (ho : ZE X W o to) (ha : ZA X W (e :: es) t)
    (hb : attributeBase o name X.env (eval o X.env) = eval o X.env := by rfl)
    (hq : ((((backTo cpos (starEach (e :: es) X.env)).all fun x => !x.1) && (backToKw cpos (keywordEach [] X.env)).all fun x => x.1.isSome) && decide (((e :: es).length + ([] : List Keyword).length + if ([] : List Keyword).isEmpty = true then 0 else 1) < 30)) = true := by rfl)
    (hl : (apos.endLine == cpos.line) = true := by rfl) (he : starEach (e :: es) X.env = (false, eval e X.env) :: starEach es X.env := by rfl) (hpl : (backTo cpos (starEach es X.env)).any (·.1) = false := by rfl) :
    ZE X W (.Call (.Attribute o name apos) (e :: es) [] cpos) (wBM T r' to t) :=
  ⟨pe_imp (pe_bm hp hs hd hr ho.pe ha.pa hb hq hl he hpl) fun σ H Q ⟨S, F, ρ, h, E', Q', r, rl, q, lq, lx⟩ =>
    ⟨S, F, ρ, h, E', _, r, rl, q, fun x h1 S1 v H1 q1 s1 r1 x1 => ⟨q1.1.l r1 x1, S1, F, ρ, h1, E', _, r1, rl.mono s1, q1.2, fun xs h2 S2 vs H2 q2 s2 r2 x2 =>
      s S2 F H2 h2 x v xs vs _ Q r2 (Rel.mono s2 _ _ x1) x2 q2 ((lq.mono s1).mono s2), lx.mono s1⟩, lx⟩⟩
def mAppend : WM := fun x vs h Q => ∃ l xs y, x = .ref l ∧ vs = [y] ∧ h l = some (.lst xs) ∧ xs.length < 16000000 ∧ Q .non (hup h l (.lst (xs ++ [y])))
theorem s_append {K : Fr} : SndM K mAppend rAppend := fun S F H h x v xs vs Q' Q r rx rxs q lq => by
  obtain ⟨l, ys, y, rfl, rfl, e, hl, q⟩ := q
  obtain ⟨w, rfl, x1⟩ := rels_1 rxs
  rw [rel_ref] at rx
  obtain ⟨_, u, h1, ws, rfl, h2⟩ := r.own _ _ e
  have hz := sizeLine_eq
  exact ⟨l, ws, w, rx, rfl, h1, by rw [← h2.length]; omega, lq _ _ S _ _ q (Sub.refl S) (r.store e ⟨_, rfl, h2.app (Rels.one x1)⟩) (rel_non.mpr rfl)⟩
def mPopAt : WM := fun x vs h Q => ∃ l xs i k y, x = .ref l ∧ vs = [.int i] ∧ h l = some (.lst xs) ∧ -(2 ^ 63) ≤ i ∧ i < 2 ^ 63 ∧ seqIndex? i xs.length = some k ∧ xs[k]? = some y ∧ Q y (hup h l (.lst (xs.eraseIdx k)))
theorem s_popAt {K : Fr} : SndM K mPopAt rPopAt := fun S F H h x v xs vs Q' Q r rx rxs q lq => by
  obtain ⟨l, ys, i, k, y, rfl, rfl, e, b1, b2, hk, hy, q⟩ := q
  obtain ⟨w, rfl, x1⟩ := rels_1 rxs
  rw [rel_ref] at rx
  rw [rel_int] at x1; subst x1
  obtain ⟨_, u, h1, ws, rfl, h2⟩ := r.own _ _ e
  obtain ⟨w2, e2, x2⟩ := h2.get hy
  exact ⟨l, ws, i, k, w2, rx, rfl, h1, b1, b2, by rw [← h2.length]; exact hk, e2, lq _ _ S _ _ q (Sub.refl S) (r.store e ⟨_, rfl, h2.erase k⟩) x2⟩
end
/-! Z7 -/
/-! own defs: promises, calls, methods, instances; a def by its body -/
open PyProof.Rows
/-- a promise: parameters, what must hold ahead, what holds behind, what is let out -/
structure FS where
  P : Type
  pre : P → List Val → Hh → Prop
  post : P → Hh → Val → Hh → Prop
  xpost : P → Hh → Addr → Val → Hh → Prop := fun _ _ _ _ _ => False
def FS.sp (fs : FS) (vs : List Val) (h : Hh) (E : XQ) (Q : KQ) : Prop := ∃ p, fs.pre p vs h ∧ (∀ v h', fs.post p h v h' → Q v h') ∧ ∀ C v h', fs.xpost p h C v h' → E C v h'
def lSp (K : Fr) (fs : FS) : L2.Sp := fun ws H Q E => ∃ S F vs h E' Q', R K S F H h ∧ Rels K S vs ws ∧ fs.sp vs h E' Q' ∧ LQ K S F Q' Q ∧
  ∀ C v h' S' w d H', E' C v h' → Sub S S' → R K S' F H' h' → Rel K S' v w → S' d = some (.xd [("what", w)]) → E (.ref C) (some d) H'
/-- a def of the module that keeps a promise; dv: what fills up behind the written arguments -/
structure Fn (P : Program) (w : World) (K : Fr) (mg : Str → Option Value) (base : Heap) (x : Str) (k : Nat) (ps : List Str) (dv : List Val) (fs : FS) : Prop where
  ex : ∃ (f : Addr) (fd : FuncData) (dvs : List V) (ds : List Value), FnOk P w K mg base (L2.CX P w) k f fd ps (lSp K fs) ∧ mg x = some (.ref f) ∧ PySem.W.keepIn K (.ref f) = true ∧ Vals dvs ds ∧ (∀ S, Rels K S dv dvs) ∧ Binds K fd ps ds
/-- a method of the class at C -/
structure Mt (P : Program) (w : World) (K : Fr) (mg : Str → Option Value) (base : Heap) (C : Addr) (m : Str) (k : Nat) (ps : List Str) (dv : List Val) (fs : FS) : Prop where
  ex : ∃ (f : Addr) (fd : FuncData) (dvs : List V) (ds : List Value), FnOk P w K mg base (L2.CX P w) k f fd ps (lSp K fs) ∧ Meth K C m f ∧ Vals dvs ds ∧ (∀ S, Rels K S dv dvs) ∧ Binds K fd ps ds
/-- a class that is made -/
structure Ck (P : Program) (w : World) (K : Fr) (mg : Str → Option Value) (base : Heap) (x : Str) (C : Addr) (k : Nat) (ps : List Str) (dv : List Val) (fs : FS) : Prop where
  ex : ∃ (f : Addr) (fd : FuncData) (dvs : List V) (ds : List Value), FnOk P w K mg base (L2.CX P w) k f fd ps (lSp K fs) ∧ mg x = some (.ref C) ∧ Mk K C f ∧ Vals dvs ds ∧ (∀ S, Rels K S dv dvs) ∧ Binds K fd ps ds
section
variable {X : Cx} {W : WX} {pos : Pos} {k : Nat} {x m : Str} {ps : List Str} {dv : List Val} {fs : FS} {C : Addr} {p apos : Pos} {e o : Expr} {es : List Expr} {t : WA} {ta : WE}
def wCall (fs : FS) (dv : List Val) (t : WA) : WE := fun ρ h E Q => t ρ h E fun vs h1 => fs.sp (vs ++ dv) h1 E Q
theorem lsp_of {K : Fr} {W : WX} {S F H : Hp} {h : Hh} {σ : L2.St} {vs : List Val} {ws : List V} {E' : XQ} {Q' : KQ} {Q : VK} (r : R K S F H h) (x : Rels K S vs ws) (q : fs.sp vs h E' Q') (lq : LQ K S F Q' Q) (lx : LX K S F E' W σ) : lSp K fs ws H Q (L2.WE W σ) :=
  ⟨S, F, vs, h, E', Q', r, x, q, lq, lx⟩
theorem zcall (tk : Takes X W) (G : Fn X.prog X.w X.K X.mg X.base x k ps dv fs) (hr : Room k X.A) (hg : Gl X x) (ha : ZA X W (e :: es) t) (hdb : (x == ("__debug__" : Str)) = false := by decide)
    (he : starEach (e :: es) X.env = (false, eval e X.env) :: starEach es X.env := by rfl) (hpl : (backTo pos (starEach es X.env)).any (·.1) = false := by rfl) : ZE X W (.Call (.Name x p) (e :: es) [] pos) (wCall fs dv t) := by
  obtain ⟨f, fd, dvs, ds, F, hm, hk, hd, hdv, hb⟩ := G.ex
  exact ⟨pe_imp (pe_callSD F hr hg hm hk hb hd (fun σ => passAt tk σ) ha.pa hdb he hpl) fun σ H Q ⟨S, F, ρ, h, E', Q', r, rl, q, lq, lx⟩ =>
    ⟨S, F, ρ, h, E', _, r, rl, q, fun vs h1 S1 ws H1 q1 s1 r1 x1 => lsp_of r1 (x1.app (hdv S1)) q1 (lq.mono s1) (lx.mono s1), lx⟩⟩
/-- o.m(e, ..) -/
def wMeth (C : Addr) (m : Str) (fs : FS) (dv : List Val) (ta : WE) (t : WA) : WE := fun ρ h E Q => ta ρ h E fun x h1 => ∃ fl, Ins h1 x C fl ∧ fl.lookup m = none ∧ t ρ h1 E fun vs h2 => fs.sp (x :: (vs ++ dv)) h2 E Q
theorem zmeth {pl : Sem Bool} (tk : Takes X W) (c : Cls X.K C) (G : Mt X.prog X.w X.K X.mg X.base C m k ps dv fs) (hr : Room k X.A) (ho : ZE X W o ta) (ha : ZA X W (e :: es) t)
    (hst : starEach (e :: es) X.env = (false, eval e X.env) :: starEach es X.env := by rfl) (hpl : (backTo pos (starEach es X.env)).any (·.1) = false := by rfl)
    (ht : eval (.Call (.Attribute o m apos) (e :: es) [] pos) X.env = (do
      let ov ← eval o X.env
      standAt apos.atName
      let (f, first) ← holding [ov] (getMethod ov m pl)
      callWith pos f first (backTo pos (starEach (e :: es) X.env)) (backToKw pos (keywordEach [] X.env))) := by rfl) : ZE X W (.Call (.Attribute o m apos) (e :: es) [] pos) (wMeth C m fs dv ta t) := by
  obtain ⟨f, fd, dvs, ds, F, hm, hd, hdv, hb⟩ := G.ex
  refine ⟨⟨fun pins s σ H Q I h => ?_⟩⟩
  obtain ⟨S, Fr, ρ, h, E', Q', r, rl, q, lq, lx⟩ := h
  refine PySem.W.methodCall_KW (pl := pl) (thn (ho.pe.run pins s σ H (fun v H1 => ∃ S1 h1 x, Sub S S1 ∧ R X.K S1 Fr H1 h1 ∧ Rel X.K S1 x v ∧ _) I ⟨S, Fr, ρ, h, E', _, r, rl, q, fun y h1 S1 v H1 q1 s1 r1 x1 => ⟨S1, h1, y, s1, r1, x1, q1⟩, lx⟩) fun u s1 ⟨y, H1, I1, rx, S1, h1, x1, ss1, r1, rx1, fl, q1, q2, q3⟩ => ?_) ht
  obtain ⟨a, dx, gs, e1, e2, e3⟩ := q1.l r1 rx1
  subst e1
  obtain rfl : u = Value.ref a := rx
  refine getmeth_ok I1 e2 c hm (e3.lookup_none q2) ?_
  refine PySem.W.callWith_K (first := [.ref a]) (h₀ := X.base) I.ok.mod.kin hm.kp (thn (ha.pa.run pos pins s1 σ H1 (fun ws H2 => lSp X.K fs (.ref a :: (ws ++ dvs)) H2 Q (L2.WE W σ)) I1 ?_) fun us s2 ⟨vs, H2, I2, rv, q4⟩ => ⟨I2.kIn, ?_⟩) hst hpl
  · exact ⟨S1, Fr, ρ, h1, E', _, r1, rl.mono ss1, q3, fun vs h2 S2 ws H2 q4 s2 r2 x2 => lsp_of r2 (rels_cons.mpr ⟨_, _, rfl, Rel.mono s2 _ _ rx1, x2.app (hdv S2)⟩) q4 ((lq.mono ss1).mono s2) ((lx.mono ss1).mono s2), lx.mono ss1⟩
  · exact run_fnSD (us := .ref a :: us) (vs := .ref a :: vs) (E := L2.WE W) F hr hb hd (passAt tk σ) I2 (.cons rfl rv) q4
/-- C(e, ..) -/
def MkEnd (C a : Addr) (h : Hh) (Q : KQ) : Prop := Q (.ref a) h ∨ ∃ fs, h a = some (.ins C fs) ∧ Q (.obj C fs) (hdel h a)
def wMake (C : Addr) (fs : FS) (dv : List Val) (t : WA) : WE := fun ρ h E Q => t ρ h E fun vs h1 => ∀ a, h1 a = none → fs.sp (.ref a :: (vs ++ dv)) (hup h1 a (.ins C [])) E (fun v h2 => v = .non ∧ MkEnd C a h2 Q)
/-- a new object that nobody speaks of -/
theorem R.extra {K : Fr} {S F H : Hp} {h : Hh} {q : Addr} {u : HO} (r : R K S F H h) (n : H q = none) : R K S F (upd H q u) h := by
  have nS : S q = none := r.sub.free n
  refine ⟨fun a o e => ?_, fun a o e => ?_, fun a o e => ?_, r.ntp⟩
  · rw [upd_ne (ne_of_none e nS)]; exact r.sub _ _ e
  · obtain ⟨h1, h2, h3⟩ := r.frm a o e
    exact ⟨by rw [upd_ne (ne_of_none h1 n)]; exact h1, h2, h3⟩
  · obtain ⟨h1, v, h2, h3⟩ := r.own a o e
    exact ⟨h1, v, by rw [upd_ne (ne_of_none h2 n)]; exact h2, h3⟩
theorem run_makeSD {CX : CXT} {f C : Addr} {fd : FuncData} {ps : List Str} {sp : L2.Sp} {dvs : List V} {ds : List Value} {E : L2.St → XK} {k : Nat} {pins : List (Addr × Obj)} {σ : L2.St} {H : Hp} {s : Shared} {Q : VK} {us : List Value} {vs : List V} (M : Mk X.K C f) (F : FnOk X.prog X.w X.K X.mg X.base CX k f fd ps sp) (hr : Room (k + 1) X.A) (hb : Binds X.K fd ps ds) (hd : Vals dvs ds)
    (hx : PassesAt CX X σ (E σ)) (I : L2.Inv X pins σ H s) (r : Vals vs us)
    (h : ∀ x dx, H x = none → H dx = none → dx ≠ x → sp (.ref x :: (vs ++ dvs)) (upd (upd H dx (.own x)) x (.ins C dx [])) (fun v H2 => v = .non ∧ Q (.ref x) H2) (E σ)) :
    wpAny (model X.prog X.w) X.A (call (.ref C) us) (EP X pins σ Q) X.xe s := by
  have hq := h (s.heap.objs.size + 1) s.heap.objs.size (I.hok.fresh (Nat.le_succ _)) (I.hok.fresh (Nat.le_refl _)) (Nat.ne_of_lt (Nat.lt_succ_self _))
  have I2 := L2.Inv.made (C := C) I
  have r2 : Vals (V.ref (s.heap.objs.size + 1) :: (vs ++ dvs)) (Value.ref (s.heap.objs.size + 1) :: (us ++ ds)) := .cons rfl (r.append hd)
  have hl : (Value.ref (s.heap.objs.size + 1) :: us ++ ds).length = ps.length := by
    have e := r2.length
    rw [F.len _ _ _ _ hq] at e
    exact e.symm
  refine wpAny_call (make_map (f := f) I.kIn M.makes M.init (beq_iff_eq.mp M.fn) (codeAny_mono (F.run _ X.stack _ _ ⟨Value.ref (s.heap.objs.size + 1) :: us, []⟩ (Value.ref (s.heap.objs.size + 1) :: (us ++ ds)) _ _ (E σ) (hr.make C us [])
    (I2.env0.make C us []) (hb _ (Value.ref (s.heap.objs.size + 1) :: us) I2.kIn hl) r2 hq) fun r s' hq' => ?_))
  cases r with
  | error e => exact hx pins _ _ e s' I2 hq'
  | ok fl =>
    cases fl with
    | ret u =>
      obtain ⟨v, H', I3, rv, ev, q3⟩ := I2.after hq'
      subst ev
      exact ⟨rv, ⟨V.ref (s.heap.objs.size + 1), H', I3, rfl, q3⟩⟩
    | next => exact False.elim hq'
    | brk => exact False.elim hq'
    | cont => exact False.elim hq'
theorem mk_sp {K : Fr} {W : WX} {S F H : Hp} {h : Hh} {σ : L2.St} {vs : List Val} {ws : List V} {E' : XQ} {Q' : KQ} {Q : VK} (r : R K S F H h) (x : Rels K S vs ws) (q : ∀ a, h a = none → fs.sp (.ref a :: vs) (hup h a (.ins C [])) E' (fun v h2 => v = .non ∧ MkEnd C a h2 Q')) (lq : LQ K S F Q' Q) (lx : LX K S F E' W σ) :
    ∀ x dx, H x = none → H dx = none → dx ≠ x → lSp K fs (.ref x :: ws) (upd (upd H dx (.own x)) x (.ins C dx [])) (fun v H2 => v = .non ∧ Q (.ref x) H2) (L2.WE W σ) := fun a dx n nd ne => by
  have n2 : upd H dx (.own a) a = none := by rw [upd_ne ne.symm]; exact n
  have r2 : R K S F (upd (upd H dx (.own a)) a (.ins C dx [])) (hup h a (.ins C [])) := (r.extra (u := .own a) nd).owned n2 ⟨dx, [], rfl, relf_nil.mpr rfl⟩
  refine ⟨S, F, .ref a :: vs, _, E', _, r2, rels_cons.mpr ⟨_, _, rfl, rel_ref.mpr rfl, x⟩, q a (r.fresh n), fun v h' S' w H' q1 s1 r1 x1 => ?_, lx⟩
  obtain ⟨rfl, q1⟩ := q1
  refine ⟨rel_non.mp x1, ?_⟩
  rcases q1 with q1 | ⟨fl, e1, q1⟩
  · exact lq _ _ _ _ _ q1 s1 r1 (rel_ref.mpr rfl)
  · obtain ⟨u, x2, r3, s3⟩ := r1.freeze e1
    obtain ⟨dy, gs, rfl, x3⟩ := x2
    exact lq _ _ _ _ _ q1 (s1.trans s3) r3 (rel_obj.mpr ⟨a, dy, gs, rfl, upd_same, RelF.mono s3 _ _ x3⟩)
theorem zmake (tk : Takes X W) (G : Ck X.prog X.w X.K X.mg X.base x C k ps dv fs) (hr : Room (k + 1) X.A) (hg : Gl X x) (ha : ZA X W (e :: es) t) (hdb : (x == ("__debug__" : Str)) = false := by decide)
    (he : starEach (e :: es) X.env = (false, eval e X.env) :: starEach es X.env := by rfl) (hpl : (backTo pos (starEach es X.env)).any (·.1) = false := by rfl) : ZE X W (.Call (.Name x p) (e :: es) [] pos) (wMake C fs dv t) := by
  obtain ⟨f, fd, dvs, ds, F, hm, M, hd, hdv, hb⟩ := G.ex
  refine ⟨⟨fun pins s σ H Q I h => ?_⟩⟩
  obtain ⟨S, Fr, ρ, h, E', Q', r, rl, q, lq, lx⟩ := h
  refine wpAny_Call_Name_kw (ld_glob I hg hm ?_ hdb)
  refine PySem.W.callWith_K (h₀ := X.base) I.ok.mod.kin M.kp (thn (ha.pa.run pos pins s σ H (fun ws H2 => ∃ S1 h1 vs, Sub S S1 ∧ R X.K S1 Fr H2 h1 ∧ Rels X.K S1 vs ws ∧ _) I ⟨S, Fr, ρ, h, E', _, r, rl, q, fun vs h1 S1 ws H1 q1 s1 r1 x1 => ⟨S1, h1, vs, s1, r1, x1, q1⟩, lx⟩) fun us s1 ⟨ws, H1, I1, rv, S1, h1, vs, s1, r1, x1, q1⟩ => ⟨I1.kIn, ?_⟩) he hpl
  exact run_makeSD (E := L2.WE W) M F hr hb hd (passAt tk σ) I1 rv (mk_sp r1 (x1.app (hdv S1)) q1 (lq.mono s1) (lx.mono s1))
end

/-! ### a def by its body -/
/-- a value and a heap may be told otherwise -/
def ShV (K : Fr) (v : Val) (h : Hh) (v2 : Val) (h2 : Hh) : Prop := ∀ S F H w, R K S F H h → Rel K S v w → ∃ S2, Sub S S2 ∧ R K S2 F H h2 ∧ Rel K S2 v2 w
def Good (K : Fr) (Q : KQ) : Prop := ∀ v h v2 h2, ShV K v h v2 h2 → Q v2 h2 → Q v h
def startV (N : List Str) (vs : List Val) : Ev := vs.map some ++ List.replicate (N.length - vs.length) none
theorem rls_start {K : Fr} {S : Hp} {N : List Str} {vs : List Val} {ws : List V} (x : Rels K S vs ws) : Rls K S (startV N vs) (L2.start N ws) := by
  unfold startV L2.start
  have hl := x.length
  refine ⟨by simp [hl], fun i v e => ?_⟩
  by_cases hi : i < vs.length
  · rw [List.getElem?_append_left (by simpa using hi), List.getElem?_map] at e
    cases q : vs[i]? with
    | none => rw [q] at e; cases e
    | some y =>
      rw [q] at e; cases e
      obtain ⟨w, e2, x2⟩ := x.get q
      exact ⟨w, by rw [List.getElem?_append_left (by simpa [← hl] using hi), List.getElem?_map, e2]; rfl, x2⟩
  · rw [List.getElem?_append_right (by simpa using hi)] at e
    rw [List.getElem?_replicate] at e
    split at e <;> cases e
section
variable {P : Program} {w : World} {K : Fr} {mg : Str → Option Value} {base : Heap} {x qual : Str} {params : Arguments} {body : List Stmt} {scope : Scope} {dvs : List V} {kws : List (Str × V)} {f : Addr} {fd : FuncData} {N ps : List Str} {k : Nat} {fs : FS}
abbrev Cxd (P : Program) (w : World) (K : Fr) (mg : Str → Option Value) (base : Heap) (N : List Str) (qual : Str) (scope : Scope) (f : Addr) (cdv : Value) (A : Around) (outer : List Env) (s : Shared) (H : Hp) (E : XK) : Cx := cxOf (L2.CX P w) P w K mg base N qual scope f cdv A outer s H E
abbrev Wd (E : XK) : WX := fun cls d _ H => E cls d H
theorem tkd {N : List Str} {qual : Str} {scope : Scope} {cdv : Value} {A : Around} {outer : List Env} {s : Shared} {H : Hp} {E : XK} : Takes (Cxd P w K mg base N qual scope f cdv A outer s H E) (Wd E) := takes_of rfl rfl rfl rfl
theorem psd {N : List Str} {qual : Str} {scope : Scope} {cdv : Value} {A : Around} {outer : List Env} {s : Shared} {H : Hp} {E : XK} : PassesOwn (model (Cxd P w K mg base N qual scope f cdv A outer s H E).prog (Cxd P w K mg base N qual scope f cdv A outer s H E).w) (Cxd P w K mg base N qual scope f cdv A outer s H E).A (Cxd P w K mg base N qual scope f cdv A outer s H E).env (Cxd P w K mg base N qual scope f cdv A outer s H E).xe := passes_of rfl
theorem zdef (F : FunD K x qual params body scope dvs kws f fd) (Sc : FnScope N ps scope) (len : ∀ p vs h, fs.pre p vs h → vs.length = ps.length)
    (hb : ∀ (cdv : Value) (A : Around) (outer : List Env) (s : Shared) (H : Hp) (E : XK), Room k (A.deeper (envOfC qual scope s.heap.objs.size f cdv)) →
      ∃ t, ZB (Cxd P w K mg base N qual scope f cdv A outer s H E) (Wd E) body t ∧ ∀ p vs h Q (X : XQ), Good K Q → fs.pre p vs h → (∀ v h', fs.post p h v h' → Q v h') → (∀ C v h', fs.xpost p h C v h' → X C v h') →
        t (fun _ h' => Q .non h') Q (fun _ _ => False) (fun _ _ => False) (fun C v _ h' => X C v h') (startV N vs) h) : FnOk P w K mg base (L2.CX P w) (k + 1) f fd ps (lSp K fs) := by
  refine F.ok Sc (fun ws H Q E ⟨S, Fr, vs, h, E', Q', r, rx, ⟨p, q, _⟩, _⟩ => rx.length.symm.trans (len _ _ _ q)) fun cdv A outer s H ws Q E hr hsp => ?_
  obtain ⟨t, ht, hq⟩ := hb cdv A outer s H E hr
  refine ⟨_, ht.pss, ?_⟩
  obtain ⟨S, Fr, vs, h, E', Q', r, rx, ⟨p, q, qp, qx⟩, lq, lx⟩ := hsp
  have gd : Good K (fun v h' => ∀ S' w H', Sub S S' → R K S' Fr H' h' → Rel K S' v w → Q w H') := fun v h v2 h2 sh q2 S' w H' s' r' x' => by
    obtain ⟨S2, s2, r2, x2⟩ := sh S' Fr H' w r' x'
    exact q2 S2 w H' (s'.trans s2) r2 x2
  have q0 := hq p vs h _ (fun C v h' => ∀ S' w d H', Sub S S' → R K S' Fr H' h' → Rel K S' v w → S' d = some (.xd [("what", w)]) → E (.ref C) (some d) H') gd q
    (fun v h' z S' w H' s' r' x' => lq _ _ _ _ _ (qp v h' z) s' r' x') (fun C v h' z S' w d H' s' r' x' e => lx _ _ _ _ _ _ _ (qx C v h' z) s' r' x' e)
  exact ⟨S, Fr, _, h, _, _, _, _, _, r, rls_start rx, q0, fun ρ h' S' σ H' z s' r' _ => z S' .non H' s' r' (rel_non.mpr rfl), fun v h' S' w H' z s' r' x' => z S' w H' s' r' x', fun _ _ _ _ _ z => z.elim, fun _ _ _ _ _ z => z.elim,
    fun C v ρ h' S' w d σ H' z s' r' _ x' e => z S' w d H' s' r' x' e⟩
/-- the law's own def -/
abbrev Cxl (P : Program) (w : World) (K : Fr) (mg : Str → Option Value) (base : Heap) (N : List Str) (qual : Str) (scope : Scope) (f : Addr) (cdv : Value) (A : Around) (outer : List Env) (s : Shared) (H : Hp) (E : XK) : Cx := cxOf CX0 P w K mg base N qual scope f cdv A outer s H E
theorem tkl {N : List Str} {qual : Str} {scope : Scope} {cdv : Value} {A : Around} {outer : List Env} {s : Shared} {H : Hp} {E : XK} : Takes (Cxl P w K mg base N qual scope f cdv A outer s H E) WF := takes0
theorem psl {N : List Str} {qual : Str} {scope : Scope} {cdv : Value} {A : Around} {outer : List Env} {s : Shared} {H : Hp} {E : XK} : PassesOwn (model (Cxl P w K mg base N qual scope f cdv A outer s H E).prog (Cxl P w K mg base N qual scope f cdv A outer s H E).w) (Cxl P w K mg base N qual scope f cdv A outer s H E).A (Cxl P w K mg base N qual scope f cdv A outer s H E).env (Cxl P w K mg base N qual scope f cdv A outer s H E).xe := passes_of (K := fun _ _ => False) (E₁ := fun _ _ => False) rfl
theorem zlaw {pre : List Val → Hh → Prop} (F : FunD K x qual params body scope dvs kws f fd) (Sc : FnScope N ps scope) (len : ∀ vs h, pre vs h → vs.length = ps.length)
    (hb : ∀ (cdv : Value) (A : Around) (outer : List Env) (s : Shared) (H : Hp) (E : XK), Room k (A.deeper (envOfC qual scope s.heap.objs.size f cdv)) →
      ∃ t, ZB (Cxl P w K mg base N qual scope f cdv A outer s H E) WF body t ∧ ∀ vs h Q, pre vs h → (∀ h', Q (.bl true) h') → t (fun _ h' => Q .non h') Q (fun _ _ => False) (fun _ _ => False) (fun _ _ _ _ => False) (startV N vs) h) :
    FnOk P w K mg base CX0 (k + 1) f fd ps (lSp K ⟨Unit, fun _ => pre, fun _ _ v _ => v = .bl true, fun _ _ _ _ _ => False⟩) := by
  refine F.ok Sc (fun ws H Q E ⟨S, Fr, vs, h, E', Q', r, rx, ⟨p, q, _⟩, _⟩ => rx.length.symm.trans (len _ _ q)) fun cdv A outer s H ws Q E hr hsp => ?_
  obtain ⟨t, ht, hq⟩ := hb cdv A outer s H E hr
  refine ⟨_, ht.pss, ?_⟩
  obtain ⟨S, Fr, vs, h, E', Q', r, rx, ⟨p, q, qp, qx⟩, lq, lx⟩ := hsp
  have q0 := hq vs h (fun v h' => ∀ S' w H', Sub S S' → R K S' Fr H' h' → Rel K S' v w → Q w H') q (fun h' S' w H' s' r' x' => lq _ _ _ _ _ (qp _ h' rfl) s' r' x')
  exact ⟨S, Fr, _, h, _, _, _, _, _, r, rls_start rx, q0, fun ρ h' S' σ H' z s' r' _ => z S' .non H' s' r' (rel_non.mpr rfl), fun v h' S' w H' z s' r' x' => z S' w H' s' r' x', fun _ _ _ _ _ z => z.elim, fun _ _ _ _ _ z => z.elim,
    fun C v ρ h' S' w d σ H' z => z.elim⟩
end
/-- what the law is handed -/
def preL : List Val → Hh → Prop := fun vs h => ∃ ns : List Int, vs = [.scr (ns.map Val.int)] ∧ ns.length ≤ 63 ∧ h = fun _ => none
/-- every object of the layer's heap, at the law's entry, is never changed again -/
theorem r_entry {K : Fr} {H : Hp} : R K H (fun _ => none) H (fun _ => none) := ⟨Sub.refl H, fun _ _ q => (nomatch q), fun _ _ q => (nomatch q), fun _ _ q => (nomatch q)⟩
theorem law_sp {K : Fr} {H : Hp} {a : Addr} {ns : List Int} (hl : ns.length ≤ 63) (hS : SqL K H a (ns.map V.int)) : lSp K ⟨Unit, fun _ => preL, fun _ _ v _ => v = .bl true, fun _ _ _ _ _ => False⟩ [.ref a] H (fun v _ => v = .bl true) fun _ _ _ => False :=
  ⟨H, fun _ => none, [.scr (ns.map Val.int)], fun _ => none, fun _ _ _ => False, fun v _ => v = .bl true, r_entry, Rels.one (rel_scr.mpr ⟨a, _, rfl, hS, Rels.ints.mpr rfl⟩), ⟨(), ⟨ns, rfl, hl, rfl⟩, fun _ _ z => z, fun _ _ _ z => z⟩,
    fun v h' S' w H' z _ _ x => by subst z; exact rel_bl.mp x, fun _ _ _ _ _ _ _ z => z.elim⟩
/-! Z8 -/
/-! more rules: one subscript for lists, tuples, texts; texts; chains as tests; minus; str, join, f-strings; list + list -/
section
variable {X : Cx} {W : WX} {pos : Pos}
inductive IxA (h : Hh) : Val → Int → Val → Prop
  | lst {x xs i v} : Seqq h x xs → L2.atI xs i = some v → IxA h x i v
  | tup {xs i v} : L2.atI xs i = some v → IxA h (.tup xs) i v
  | str {z : Str} {i c} : z.length ≤ sizeLine → L2.atI z.cps.toList i = some c → IxA h (.str z) i (.str ⟨#[c]⟩)
def wIx : W2 := fun x y h Q => ∃ i v, y = .int i ∧ IxA h x i v ∧ Q v h
theorem s_ix {K : Fr} : Snd2 K wIx (rIx K) := fun S F H h x y v w Q' Q r rx ry q lq => by
  obtain ⟨i, v, rfl, q1, q⟩ := q
  cases q1 with
  | lst h1 h3 => exact .inl (s_ixL S F H h _ _ _ _ _ _ r rx ry ⟨_, _, _, h1, rfl, h3, q⟩ lq)
  | tup h3 => exact .inr (.inl (s_ixT S F H h _ _ _ _ _ _ r rx ry ⟨_, _, _, rfl, rfl, h3, q⟩ lq))
  | str h1 h3 => exact .inr (.inr (s_ixS S F H h _ _ _ _ _ _ r rx ry ⟨_, _, _, rfl, rfl, h1, h3, q⟩ lq))
def wUn (ta : WE) : WE := fun ρ h E Q => ta ρ h E fun x h1 => ∃ i, x = .int i ∧ Q (.int (-i)) h1
/-- list + list: both stand tracked -/
inductive LstT (h : Hh) : Val → List Val → Prop
  | lst (xs) : LstT h (.lst xs) xs
  | ref {a xs} : h a = some (.lst xs) → LstT h (.ref a) xs
theorem LstT.l {K : Fr} {S F H : Hp} {h : Hh} {x : Val} {xs : List Val} {v : V} (q : LstT h x xs) (r : R K S F H h) (x : Rel K S x v) : ∃ a ws, v = .ref a ∧ H a = some (.lst ws) ∧ Rels K S xs ws := by
  cases q with
  | lst => rw [rel_lst] at x; obtain ⟨a, ws, e, h1, h2⟩ := x; exact ⟨a, ws, e, r.sub _ _ h1, h2⟩
  | ref e =>
    rw [rel_ref] at x
    obtain ⟨_, u, h1, ws, rfl, h2⟩ := r.own _ _ e
    exact ⟨_, ws, x, h1, h2⟩
def wCat : W2 := fun x y h Q => ∃ xs ys, LstT h x xs ∧ LstT h y ys ∧ small (xs.length + ys.length) ∧ NewL (xs ++ ys) h Q
theorem s_cat {K : Fr} : Snd2 K wCat rCat := fun S F H h x y v w Q' Q r rx ry q lq => by
  obtain ⟨xs, ys, h1, h2, hz, q⟩ := q
  obtain ⟨a, ws, rfl, g1, g2⟩ := h1.l r rx
  obtain ⟨b, us, rfl, g3, g4⟩ := h2.l r ry
  exact ⟨a, b, ws, us, rfl, rfl, g1, g3, by rw [← g2.length, ← g4.length]; exact hz.line, fun p n => newl r (g2.app g4) q lq n⟩
/-- a module's int, text -/
theorem zglobI {x : Str} {i : Int} (hg : Gl X x) (hm : ∃ t, X.mg x = some (.int i t)) (hd : (x == ("__debug__" : Str)) = false := by decide) : ZE X W (.Name x pos) (wC (.int i)) := by
  obtain ⟨t, hm⟩ := hm
  exact zglob (w := .int i) hg hm ⟨t, rfl⟩ (fun _ => rel_int.mpr rfl) hd
end
/-! ### steps through a reading -/
theorem i_seq {t u : WS} {nx rt bk ct xe ρ h} (q : t (u nx rt bk ct xe) rt bk ct xe ρ h) : wSeq t u nx rt bk ct xe ρ h := q
theorem i_next {nx : EH} {rt bk ct xe ρ h} (q : nx ρ h) : wNext nx rt bk ct xe ρ h := q
theorem i_expr {te : WE} {nx rt bk ct xe ρ h} (q : te ρ h (atx xe ρ) fun _ h1 => nx ρ h1) : wExpr te nx rt bk ct xe ρ h := q
theorem i_ret {te : WE} {nx rt bk ct xe ρ h} (q : te ρ h (atx xe ρ) rt) : wRet te nx rt bk ct xe ρ h := q
theorem i_if {c : WT} {t u : WS} {nx rt bk ct xe ρ h} (q : c ρ h (atx xe ρ) fun b h1 => if b = true then t nx rt bk ct xe ρ h1 else u nx rt bk ct xe ρ h1) : wIf c t u nx rt bk ct xe ρ h := q
theorem i_asg {te : WE} {g : WG} {nx rt bk ct xe ρ h} (q : te ρ h (atx xe ρ) fun v h1 => g v ρ h1 nx) : wAsg te g nx rt bk ct xe ρ h := q
theorem i_var {i : Nat} {v : Val} {ρ : Ev} {h E} {Q : KQ} (e : ρ[i]? = some (some v)) (q : Q v h) : wVar i ρ h E Q := ⟨v, e, q⟩
theorem i_c {v : Val} {ρ : Ev} {h E} {Q : KQ} (q : Q v h) : wC v ρ h E Q := q
theorem i_op {r : W2} {ta tb : WE} {ρ h E} {Q : KQ} (q : ta ρ h E fun x h1 => tb ρ h1 E fun y h2 => r x y h2 Q) : wOp r ta tb ρ h E Q := q
theorem i_add {i j : Int} {h} {Q : KQ} (q : Q (.int (i + j)) h) : wAdd (.int i) (.int j) h Q := ⟨i, j, rfl, rfl, q⟩
theorem i_sub {i j : Int} {h} {Q : KQ} (q : Q (.int (i - j)) h) : wSub (.int i) (.int j) h Q := ⟨i, j, rfl, rfl, q⟩
theorem i_mul {i j : Int} {h} {Q : KQ} (c : CMul i j) (q : Q (.int (i * j)) h) : wMul (.int i) (.int j) h Q := ⟨i, j, rfl, rfl, c, q⟩
theorem i_mod {i j : Int} {h} {Q : KQ} (c : 0 < j) (q : Q (.int (i % j)) h) : wMod (.int i) (.int j) h Q := ⟨i, j, rfl, rfl, c, q⟩
theorem i_divW {i j : Int} {h} {Q : KQ} (c : CDivW i j) (q : Q (.int (i / j)) h) : wDivW (.int i) (.int j) h Q := ⟨i, j, rfl, rfl, c, q⟩
theorem i_pow {i j : Int} {h} {Q : KQ} (c : CPow i j) (q : Q (.int (i ^ j.toNat)) h) : wPow (.int i) (.int j) h Q := ⟨i, j, rfl, rfl, c, q⟩
theorem i_lt {i j : Int} {h} {Q : KQ} (q : Q (.bl (decide (i < j))) h) : wLt (.int i) (.int j) h Q := ⟨i, j, rfl, rfl, q⟩
theorem i_le {i j : Int} {h} {Q : KQ} (q : Q (.bl (decide (i ≤ j))) h) : wLe (.int i) (.int j) h Q := ⟨i, j, rfl, rfl, q⟩
theorem i_gt {i j : Int} {h} {Q : KQ} (q : Q (.bl (decide (j < i))) h) : wGt (.int i) (.int j) h Q := ⟨i, j, rfl, rfl, q⟩
theorem i_ge {i j : Int} {h} {Q : KQ} (q : Q (.bl (decide (j ≤ i))) h) : wGe (.int i) (.int j) h Q := ⟨i, j, rfl, rfl, q⟩
theorem i_eqI {i j : Int} {h} {Q : KQ} (q : Q (.bl (decide (i = j))) h) : wEqS (.int i) (.int j) h Q := ⟨rfl, q⟩
theorem i_neI {i j : Int} {h} {Q : KQ} (q : Q (.bl (!decide (i = j))) h) : wNeS (.int i) (.int j) h Q := ⟨rfl, q⟩
theorem i_eqT {i j : Str} {h} {Q : KQ} (q : Q (.bl (decide (i = j))) h) : wEqS (.str i) (.str j) h Q := ⟨rfl, q⟩
theorem i_neT {i j : Str} {h} {Q : KQ} (q : Q (.bl (!decide (i = j))) h) : wNeS (.str i) (.str j) h Q := ⟨rfl, q⟩
theorem i_eqB {i j : Bool} {h} {Q : KQ} (q : Q (.bl (decide (i = j))) h) : wEqS (.bl i) (.bl j) h Q := ⟨rfl, q⟩
theorem i_neB {i j : Bool} {h} {Q : KQ} (q : Q (.bl (!decide (i = j))) h) : wNeS (.bl i) (.bl j) h Q := ⟨rfl, q⟩
theorem i_tv {t : WE} {ρ h E} {Q : Bool → Hh → Prop} (q : t ρ h E fun v h1 => ∃ c, v = .bl c ∧ Q c h1) : wTv t ρ h E Q := q
theorem i_bl {c : Bool} {h : Hh} {Q : Bool → Hh → Prop} (q : Q c h) : ∃ b, Val.bl c = .bl b ∧ Q b h := ⟨c, rfl, q⟩
theorem i_blV {c : Bool} {A : Bool → Prop} (q : A c) : ∃ b, Val.bl c = .bl b ∧ A b := ⟨c, rfl, q⟩
theorem i_not {t : WT} {ρ h E} {Q : Bool → Hh → Prop} (q : t ρ h E fun b h1 => Q (!b) h1) : wNot t ρ h E Q := q
theorem i_and {t u : WT} {ρ h E} {Q : Bool → Hh → Prop} (q : t ρ h E fun c h1 => if c = true then u ρ h1 E Q else Q false h1) : wAnd t u ρ h E Q := q
theorem i_or {t u : WT} {ρ h E} {Q : Bool → Hh → Prop} (q : t ρ h E fun c h1 => if c = true then Q true h1 else u ρ h1 E Q) : wOr t u ρ h E Q := q
theorem i_andV {ta tb : WE} {ρ h E} {Q : KQ} (q : ta ρ h E fun x h1 => ∃ c, x = .bl c ∧ if c = true then tb ρ h1 E Q else Q (.bl false) h1) : wAndV ta tb ρ h E Q := q
theorem i_orV {ta tb : WE} {ρ h E} {Q : KQ} (q : ta ρ h E fun x h1 => ∃ c, x = .bl c ∧ if c = true then Q (.bl true) h1 else tb ρ h1 E Q) : wOrV ta tb ρ h E Q := q
theorem i_notV {ta : WE} {ρ h E} {Q : KQ} (q : ta ρ h E fun x h1 => ∃ c, x = .bl c ∧ Q (.bl (!c)) h1) : wNotV ta ρ h E Q := q
theorem i_ifE {c : WT} {ta tb : WE} {ρ h E} {Q : KQ} (q : c ρ h E fun b h1 => if b = true then ta ρ h1 E Q else tb ρ h1 E Q) : wIfE c ta tb ρ h E Q := q
theorem i_isN {ta : WE} {ρ h E} {Q : KQ} (q : ta ρ h E fun x h1 => Q (.bl (isNon x)) h1) : wIsN ta ρ h E Q := q
theorem i_notN {ta : WE} {ρ h E} {Q : KQ} (q : ta ρ h E fun x h1 => Q (.bl (!isNon x)) h1) : wNotN ta ρ h E Q := q
theorem i_un {ta : WE} {ρ h E} {Q : KQ} (q : ta ρ h E fun x h1 => ∃ i, x = .int i ∧ Q (.int (-i)) h1) : wUn ta ρ h E Q := q
theorem i_int1 {i : Int} {A : Int → Prop} (q : A i) : ∃ j, Val.int i = .int j ∧ A j := ⟨i, rfl, q⟩
theorem i_nil {ρ h E} {Q : List Val → Hh → Prop} (q : Q [] h) : wNil ρ h E Q := q
theorem i_cons {ta : WE} {tr : WA} {ρ h E} {Q : List Val → Hh → Prop} (q : ta ρ h E fun x h1 => tr ρ h1 E fun xs h2 => Q (x :: xs) h2) : wCons ta tr ρ h E Q := q
theorem i_tup {t : WA} {ρ h E} {Q : KQ} (q : t ρ h E fun xs h1 => small xs.length ∧ Q (.tup xs) h1) : wTup t ρ h E Q := q
theorem i_lst {t : WA} {ρ h E} {Q : KQ} (q : t ρ h E fun xs h1 => small xs.length ∧ NewL xs h1 Q) : wLst t ρ h E Q := q
theorem i_small {n : Nat} {A : Prop} (e : n ≤ 16000000) (q : A) : small n ∧ A := ⟨e, q⟩
theorem i_cb {r : WC} {t : WA} {ρ h E} {Q : KQ} (q : t ρ h E fun vs h1 => r vs h1 Q) : wCB r t ρ h E Q := q
theorem i_call {fs : FS} {dv : List Val} {t : WA} {ρ h E} {Q : KQ} (q : t ρ h E fun vs h1 => fs.sp (vs ++ dv) h1 E Q) : wCall fs dv t ρ h E Q := q
theorem i_fld {C : Addr} {ta : WE} {f : Str} {ρ h E} {Q : KQ} (q : ta ρ h E fun x h1 => ∃ fs v, Ins h1 x C fs ∧ fs.lookup f = some v ∧ Q v h1) : wFld C ta f ρ h E Q := q
theorem i_fldS {C : Addr} {ta tv : WE} {f : Str} {nx rt bk ct xe ρ h} (q : tv ρ h (atx xe ρ) fun y h1 => ta ρ h1 (atx xe ρ) fun x h2 => ∃ a fs, x = .ref a ∧ h2 a = some (.ins C fs) ∧ fs.length < 1000 ∧ nx ρ (hup h2 a (.ins C (putv f y fs)))) : wFldS C ta tv f nx rt bk ct xe ρ h := q
theorem i_bm {T : String} {r : WM} {to : WE} {t : WA} {ρ h E} {Q : KQ} (q : to ρ h E fun x h1 => TyM h1 T x ∧ t ρ h1 E fun xs h2 => r x xs h2 Q) : wBM T r to t ρ h E Q := q
theorem i_sub_ {to ti : WE} {t : WSet} {E : XQ} {v ρ h} {Q : EH} (q : to ρ h E fun o h1 => ti ρ h1 E fun i h2 => t o i v h2 fun h3 => Q ρ h3) : wgSub to ti t E v ρ h Q := q
theorem i_lc {wi : WI} {tg tt te vs ρ h E} {Q : KQ} (q : wi ρ h E fun xs chk h1 => wLcB tg xs chk tt te vs ρ h1 Q) : wLc wi tg tt te vs ρ h E Q := q
theorem i_r1 {t : WE} {ρ h E G} (q : t ρ h E fun v h1 => ∃ j : Int, v = .int j ∧ -(2 ^ 62) ≤ j ∧ j < 2 ^ 62 ∧ G (rng 0 j.toNat) (fun _ => True) h1) : wiR1 t ρ h E G := q
theorem i_iL {t : WE} {ρ h E G} (q : t ρ h E fun v h1 => Its h1 v G) : wiL t ρ h E G := q
theorem i_iT {t : WE} {ρ h E G} (q : t ρ h E fun v h1 => ∃ xs, v = .tup xs ∧ G xs (fun _ => True) h1) : wiT t ρ h E G := q
theorem i_atx {xe : XS} {ρ C v h} (q : xe C v ρ h) : atx xe ρ C v h := q
theorem i_ifd {p : Prop} [Decidable p] {A B : Prop} (h1 : p → A) (h2 : ¬ p → B) : if decide p = true then A else B := by
  by_cases h : p
  · rw [decide_eq_true h]; exact iteT (h1 h)
  · rw [decide_eq_false h]; exact iteF (h2 h)
theorem i_ifn {p : Prop} [Decidable p] {A B : Prop} (h1 : ¬ p → A) (h2 : p → B) : if (!decide p) = true then A else B := by
  by_cases h : p
  · rw [decide_eq_true h]; exact iteF (h2 h)
  · rw [decide_eq_false h]; exact iteT (h1 h)
/-! Z9 -/
/-! steps over written slots; lookups; tables of small lemmas for readings -/
theorem i_var0 {v : Val} {r : Ev} {h E} {Q : KQ} (q : Q v h) : wVar 0 (some v :: r) h E Q := ⟨v, rfl, q⟩
theorem i_name0 {c : Option Val} {v : Val} {r : Ev} {h} {Q : EH} (q : Q (some v :: r) h) : wgName 0 v (c :: r) h Q := q
theorem i_var1 {a0 : Option Val} {v : Val} {r : Ev} {h E} {Q : KQ} (q : Q v h) : wVar 1 (a0 :: some v :: r) h E Q := ⟨v, rfl, q⟩
theorem i_name1 {a0 : Option Val} {c : Option Val} {v : Val} {r : Ev} {h} {Q : EH} (q : Q (a0 :: some v :: r) h) : wgName 1 v (a0 :: c :: r) h Q := q
theorem i_var2 {a0 a1 : Option Val} {v : Val} {r : Ev} {h E} {Q : KQ} (q : Q v h) : wVar 2 (a0 :: a1 :: some v :: r) h E Q := ⟨v, rfl, q⟩
theorem i_name2 {a0 a1 : Option Val} {c : Option Val} {v : Val} {r : Ev} {h} {Q : EH} (q : Q (a0 :: a1 :: some v :: r) h) : wgName 2 v (a0 :: a1 :: c :: r) h Q := q
theorem i_var3 {a0 a1 a2 : Option Val} {v : Val} {r : Ev} {h E} {Q : KQ} (q : Q v h) : wVar 3 (a0 :: a1 :: a2 :: some v :: r) h E Q := ⟨v, rfl, q⟩
theorem i_name3 {a0 a1 a2 : Option Val} {c : Option Val} {v : Val} {r : Ev} {h} {Q : EH} (q : Q (a0 :: a1 :: a2 :: some v :: r) h) : wgName 3 v (a0 :: a1 :: a2 :: c :: r) h Q := q
theorem i_var4 {a0 a1 a2 a3 : Option Val} {v : Val} {r : Ev} {h E} {Q : KQ} (q : Q v h) : wVar 4 (a0 :: a1 :: a2 :: a3 :: some v :: r) h E Q := ⟨v, rfl, q⟩
theorem i_name4 {a0 a1 a2 a3 : Option Val} {c : Option Val} {v : Val} {r : Ev} {h} {Q : EH} (q : Q (a0 :: a1 :: a2 :: a3 :: some v :: r) h) : wgName 4 v (a0 :: a1 :: a2 :: a3 :: c :: r) h Q := q
theorem i_var5 {a0 a1 a2 a3 a4 : Option Val} {v : Val} {r : Ev} {h E} {Q : KQ} (q : Q v h) : wVar 5 (a0 :: a1 :: a2 :: a3 :: a4 :: some v :: r) h E Q := ⟨v, rfl, q⟩
theorem i_name5 {a0 a1 a2 a3 a4 : Option Val} {c : Option Val} {v : Val} {r : Ev} {h} {Q : EH} (q : Q (a0 :: a1 :: a2 :: a3 :: a4 :: some v :: r) h) : wgName 5 v (a0 :: a1 :: a2 :: a3 :: a4 :: c :: r) h Q := q
theorem i_var6 {a0 a1 a2 a3 a4 a5 : Option Val} {v : Val} {r : Ev} {h E} {Q : KQ} (q : Q v h) : wVar 6 (a0 :: a1 :: a2 :: a3 :: a4 :: a5 :: some v :: r) h E Q := ⟨v, rfl, q⟩
theorem i_name6 {a0 a1 a2 a3 a4 a5 : Option Val} {c : Option Val} {v : Val} {r : Ev} {h} {Q : EH} (q : Q (a0 :: a1 :: a2 :: a3 :: a4 :: a5 :: some v :: r) h) : wgName 6 v (a0 :: a1 :: a2 :: a3 :: a4 :: a5 :: c :: r) h Q := q
theorem i_var7 {a0 a1 a2 a3 a4 a5 a6 : Option Val} {v : Val} {r : Ev} {h E} {Q : KQ} (q : Q v h) : wVar 7 (a0 :: a1 :: a2 :: a3 :: a4 :: a5 :: a6 :: some v :: r) h E Q := ⟨v, rfl, q⟩
theorem i_name7 {a0 a1 a2 a3 a4 a5 a6 : Option Val} {c : Option Val} {v : Val} {r : Ev} {h} {Q : EH} (q : Q (a0 :: a1 :: a2 :: a3 :: a4 :: a5 :: a6 :: some v :: r) h) : wgName 7 v (a0 :: a1 :: a2 :: a3 :: a4 :: a5 :: a6 :: c :: r) h Q := q
theorem i_var8 {a0 a1 a2 a3 a4 a5 a6 a7 : Option Val} {v : Val} {r : Ev} {h E} {Q : KQ} (q : Q v h) : wVar 8 (a0 :: a1 :: a2 :: a3 :: a4 :: a5 :: a6 :: a7 :: some v :: r) h E Q := ⟨v, rfl, q⟩
theorem i_name8 {a0 a1 a2 a3 a4 a5 a6 a7 : Option Val} {c : Option Val} {v : Val} {r : Ev} {h} {Q : EH} (q : Q (a0 :: a1 :: a2 :: a3 :: a4 :: a5 :: a6 :: a7 :: some v :: r) h) : wgName 8 v (a0 :: a1 :: a2 :: a3 :: a4 :: a5 :: a6 :: a7 :: c :: r) h Q := q
theorem i_var9 {a0 a1 a2 a3 a4 a5 a6 a7 a8 : Option Val} {v : Val} {r : Ev} {h E} {Q : KQ} (q : Q v h) : wVar 9 (a0 :: a1 :: a2 :: a3 :: a4 :: a5 :: a6 :: a7 :: a8 :: some v :: r) h E Q := ⟨v, rfl, q⟩
theorem i_name9 {a0 a1 a2 a3 a4 a5 a6 a7 a8 : Option Val} {c : Option Val} {v : Val} {r : Ev} {h} {Q : EH} (q : Q (a0 :: a1 :: a2 :: a3 :: a4 :: a5 :: a6 :: a7 :: a8 :: some v :: r) h) : wgName 9 v (a0 :: a1 :: a2 :: a3 :: a4 :: a5 :: a6 :: a7 :: a8 :: c :: r) h Q := q
theorem i_var10 {a0 a1 a2 a3 a4 a5 a6 a7 a8 a9 : Option Val} {v : Val} {r : Ev} {h E} {Q : KQ} (q : Q v h) : wVar 10 (a0 :: a1 :: a2 :: a3 :: a4 :: a5 :: a6 :: a7 :: a8 :: a9 :: some v :: r) h E Q := ⟨v, rfl, q⟩
theorem i_name10 {a0 a1 a2 a3 a4 a5 a6 a7 a8 a9 : Option Val} {c : Option Val} {v : Val} {r : Ev} {h} {Q : EH} (q : Q (a0 :: a1 :: a2 :: a3 :: a4 :: a5 :: a6 :: a7 :: a8 :: a9 :: some v :: r) h) : wgName 10 v (a0 :: a1 :: a2 :: a3 :: a4 :: a5 :: a6 :: a7 :: a8 :: a9 :: c :: r) h Q := q
theorem i_var11 {a0 a1 a2 a3 a4 a5 a6 a7 a8 a9 a10 : Option Val} {v : Val} {r : Ev} {h E} {Q : KQ} (q : Q v h) : wVar 11 (a0 :: a1 :: a2 :: a3 :: a4 :: a5 :: a6 :: a7 :: a8 :: a9 :: a10 :: some v :: r) h E Q := ⟨v, rfl, q⟩
theorem i_name11 {a0 a1 a2 a3 a4 a5 a6 a7 a8 a9 a10 : Option Val} {c : Option Val} {v : Val} {r : Ev} {h} {Q : EH} (q : Q (a0 :: a1 :: a2 :: a3 :: a4 :: a5 :: a6 :: a7 :: a8 :: a9 :: a10 :: some v :: r) h) : wgName 11 v (a0 :: a1 :: a2 :: a3 :: a4 :: a5 :: a6 :: a7 :: a8 :: a9 :: a10 :: c :: r) h Q := q
theorem i_var12 {a0 a1 a2 a3 a4 a5 a6 a7 a8 a9 a10 a11 : Option Val} {v : Val} {r : Ev} {h E} {Q : KQ} (q : Q v h) : wVar 12 (a0 :: a1 :: a2 :: a3 :: a4 :: a5 :: a6 :: a7 :: a8 :: a9 :: a10 :: a11 :: some v :: r) h E Q := ⟨v, rfl, q⟩
theorem i_name12 {a0 a1 a2 a3 a4 a5 a6 a7 a8 a9 a10 a11 : Option Val} {c : Option Val} {v : Val} {r : Ev} {h} {Q : EH} (q : Q (a0 :: a1 :: a2 :: a3 :: a4 :: a5 :: a6 :: a7 :: a8 :: a9 :: a10 :: a11 :: some v :: r) h) : wgName 12 v (a0 :: a1 :: a2 :: a3 :: a4 :: a5 :: a6 :: a7 :: a8 :: a9 :: a10 :: a11 :: c :: r) h Q := q
theorem i_var13 {a0 a1 a2 a3 a4 a5 a6 a7 a8 a9 a10 a11 a12 : Option Val} {v : Val} {r : Ev} {h E} {Q : KQ} (q : Q v h) : wVar 13 (a0 :: a1 :: a2 :: a3 :: a4 :: a5 :: a6 :: a7 :: a8 :: a9 :: a10 :: a11 :: a12 :: some v :: r) h E Q := ⟨v, rfl, q⟩
theorem i_name13 {a0 a1 a2 a3 a4 a5 a6 a7 a8 a9 a10 a11 a12 : Option Val} {c : Option Val} {v : Val} {r : Ev} {h} {Q : EH} (q : Q (a0 :: a1 :: a2 :: a3 :: a4 :: a5 :: a6 :: a7 :: a8 :: a9 :: a10 :: a11 :: a12 :: some v :: r) h) : wgName 13 v (a0 :: a1 :: a2 :: a3 :: a4 :: a5 :: a6 :: a7 :: a8 :: a9 :: a10 :: a11 :: a12 :: c :: r) h Q := q
theorem i_var14 {a0 a1 a2 a3 a4 a5 a6 a7 a8 a9 a10 a11 a12 a13 : Option Val} {v : Val} {r : Ev} {h E} {Q : KQ} (q : Q v h) : wVar 14 (a0 :: a1 :: a2 :: a3 :: a4 :: a5 :: a6 :: a7 :: a8 :: a9 :: a10 :: a11 :: a12 :: a13 :: some v :: r) h E Q := ⟨v, rfl, q⟩
theorem i_name14 {a0 a1 a2 a3 a4 a5 a6 a7 a8 a9 a10 a11 a12 a13 : Option Val} {c : Option Val} {v : Val} {r : Ev} {h} {Q : EH} (q : Q (a0 :: a1 :: a2 :: a3 :: a4 :: a5 :: a6 :: a7 :: a8 :: a9 :: a10 :: a11 :: a12 :: a13 :: some v :: r) h) : wgName 14 v (a0 :: a1 :: a2 :: a3 :: a4 :: a5 :: a6 :: a7 :: a8 :: a9 :: a10 :: a11 :: a12 :: a13 :: c :: r) h Q := q
theorem i_var15 {a0 a1 a2 a3 a4 a5 a6 a7 a8 a9 a10 a11 a12 a13 a14 : Option Val} {v : Val} {r : Ev} {h E} {Q : KQ} (q : Q v h) : wVar 15 (a0 :: a1 :: a2 :: a3 :: a4 :: a5 :: a6 :: a7 :: a8 :: a9 :: a10 :: a11 :: a12 :: a13 :: a14 :: some v :: r) h E Q := ⟨v, rfl, q⟩
theorem i_name15 {a0 a1 a2 a3 a4 a5 a6 a7 a8 a9 a10 a11 a12 a13 a14 : Option Val} {c : Option Val} {v : Val} {r : Ev} {h} {Q : EH} (q : Q (a0 :: a1 :: a2 :: a3 :: a4 :: a5 :: a6 :: a7 :: a8 :: a9 :: a10 :: a11 :: a12 :: a13 :: a14 :: some v :: r) h) : wgName 15 v (a0 :: a1 :: a2 :: a3 :: a4 :: a5 :: a6 :: a7 :: a8 :: a9 :: a10 :: a11 :: a12 :: a13 :: a14 :: c :: r) h Q := q
theorem i_var16 {a0 a1 a2 a3 a4 a5 a6 a7 a8 a9 a10 a11 a12 a13 a14 a15 : Option Val} {v : Val} {r : Ev} {h E} {Q : KQ} (q : Q v h) : wVar 16 (a0 :: a1 :: a2 :: a3 :: a4 :: a5 :: a6 :: a7 :: a8 :: a9 :: a10 :: a11 :: a12 :: a13 :: a14 :: a15 :: some v :: r) h E Q := ⟨v, rfl, q⟩
theorem i_name16 {a0 a1 a2 a3 a4 a5 a6 a7 a8 a9 a10 a11 a12 a13 a14 a15 : Option Val} {c : Option Val} {v : Val} {r : Ev} {h} {Q : EH} (q : Q (a0 :: a1 :: a2 :: a3 :: a4 :: a5 :: a6 :: a7 :: a8 :: a9 :: a10 :: a11 :: a12 :: a13 :: a14 :: a15 :: some v :: r) h) : wgName 16 v (a0 :: a1 :: a2 :: a3 :: a4 :: a5 :: a6 :: a7 :: a8 :: a9 :: a10 :: a11 :: a12 :: a13 :: a14 :: a15 :: c :: r) h Q := q
theorem i_var17 {a0 a1 a2 a3 a4 a5 a6 a7 a8 a9 a10 a11 a12 a13 a14 a15 a16 : Option Val} {v : Val} {r : Ev} {h E} {Q : KQ} (q : Q v h) : wVar 17 (a0 :: a1 :: a2 :: a3 :: a4 :: a5 :: a6 :: a7 :: a8 :: a9 :: a10 :: a11 :: a12 :: a13 :: a14 :: a15 :: a16 :: some v :: r) h E Q := ⟨v, rfl, q⟩
theorem i_name17 {a0 a1 a2 a3 a4 a5 a6 a7 a8 a9 a10 a11 a12 a13 a14 a15 a16 : Option Val} {c : Option Val} {v : Val} {r : Ev} {h} {Q : EH} (q : Q (a0 :: a1 :: a2 :: a3 :: a4 :: a5 :: a6 :: a7 :: a8 :: a9 :: a10 :: a11 :: a12 :: a13 :: a14 :: a15 :: a16 :: some v :: r) h) : wgName 17 v (a0 :: a1 :: a2 :: a3 :: a4 :: a5 :: a6 :: a7 :: a8 :: a9 :: a10 :: a11 :: a12 :: a13 :: a14 :: a15 :: a16 :: c :: r) h Q := q
theorem i_var18 {a0 a1 a2 a3 a4 a5 a6 a7 a8 a9 a10 a11 a12 a13 a14 a15 a16 a17 : Option Val} {v : Val} {r : Ev} {h E} {Q : KQ} (q : Q v h) : wVar 18 (a0 :: a1 :: a2 :: a3 :: a4 :: a5 :: a6 :: a7 :: a8 :: a9 :: a10 :: a11 :: a12 :: a13 :: a14 :: a15 :: a16 :: a17 :: some v :: r) h E Q := ⟨v, rfl, q⟩
theorem i_name18 {a0 a1 a2 a3 a4 a5 a6 a7 a8 a9 a10 a11 a12 a13 a14 a15 a16 a17 : Option Val} {c : Option Val} {v : Val} {r : Ev} {h} {Q : EH} (q : Q (a0 :: a1 :: a2 :: a3 :: a4 :: a5 :: a6 :: a7 :: a8 :: a9 :: a10 :: a11 :: a12 :: a13 :: a14 :: a15 :: a16 :: a17 :: some v :: r) h) : wgName 18 v (a0 :: a1 :: a2 :: a3 :: a4 :: a5 :: a6 :: a7 :: a8 :: a9 :: a10 :: a11 :: a12 :: a13 :: a14 :: a15 :: a16 :: a17 :: c :: r) h Q := q
theorem i_var19 {a0 a1 a2 a3 a4 a5 a6 a7 a8 a9 a10 a11 a12 a13 a14 a15 a16 a17 a18 : Option Val} {v : Val} {r : Ev} {h E} {Q : KQ} (q : Q v h) : wVar 19 (a0 :: a1 :: a2 :: a3 :: a4 :: a5 :: a6 :: a7 :: a8 :: a9 :: a10 :: a11 :: a12 :: a13 :: a14 :: a15 :: a16 :: a17 :: a18 :: some v :: r) h E Q := ⟨v, rfl, q⟩
theorem i_name19 {a0 a1 a2 a3 a4 a5 a6 a7 a8 a9 a10 a11 a12 a13 a14 a15 a16 a17 a18 : Option Val} {c : Option Val} {v : Val} {r : Ev} {h} {Q : EH} (q : Q (a0 :: a1 :: a2 :: a3 :: a4 :: a5 :: a6 :: a7 :: a8 :: a9 :: a10 :: a11 :: a12 :: a13 :: a14 :: a15 :: a16 :: a17 :: a18 :: some v :: r) h) : wgName 19 v (a0 :: a1 :: a2 :: a3 :: a4 :: a5 :: a6 :: a7 :: a8 :: a9 :: a10 :: a11 :: a12 :: a13 :: a14 :: a15 :: a16 :: a17 :: a18 :: c :: r) h Q := q
theorem i_var20 {a0 a1 a2 a3 a4 a5 a6 a7 a8 a9 a10 a11 a12 a13 a14 a15 a16 a17 a18 a19 : Option Val} {v : Val} {r : Ev} {h E} {Q : KQ} (q : Q v h) : wVar 20 (a0 :: a1 :: a2 :: a3 :: a4 :: a5 :: a6 :: a7 :: a8 :: a9 :: a10 :: a11 :: a12 :: a13 :: a14 :: a15 :: a16 :: a17 :: a18 :: a19 :: some v :: r) h E Q := ⟨v, rfl, q⟩
theorem i_name20 {a0 a1 a2 a3 a4 a5 a6 a7 a8 a9 a10 a11 a12 a13 a14 a15 a16 a17 a18 a19 : Option Val} {c : Option Val} {v : Val} {r : Ev} {h} {Q : EH} (q : Q (a0 :: a1 :: a2 :: a3 :: a4 :: a5 :: a6 :: a7 :: a8 :: a9 :: a10 :: a11 :: a12 :: a13 :: a14 :: a15 :: a16 :: a17 :: a18 :: a19 :: some v :: r) h) : wgName 20 v (a0 :: a1 :: a2 :: a3 :: a4 :: a5 :: a6 :: a7 :: a8 :: a9 :: a10 :: a11 :: a12 :: a13 :: a14 :: a15 :: a16 :: a17 :: a18 :: a19 :: c :: r) h Q := q
theorem i_var21 {a0 a1 a2 a3 a4 a5 a6 a7 a8 a9 a10 a11 a12 a13 a14 a15 a16 a17 a18 a19 a20 : Option Val} {v : Val} {r : Ev} {h E} {Q : KQ} (q : Q v h) : wVar 21 (a0 :: a1 :: a2 :: a3 :: a4 :: a5 :: a6 :: a7 :: a8 :: a9 :: a10 :: a11 :: a12 :: a13 :: a14 :: a15 :: a16 :: a17 :: a18 :: a19 :: a20 :: some v :: r) h E Q := ⟨v, rfl, q⟩
theorem i_name21 {a0 a1 a2 a3 a4 a5 a6 a7 a8 a9 a10 a11 a12 a13 a14 a15 a16 a17 a18 a19 a20 : Option Val} {c : Option Val} {v : Val} {r : Ev} {h} {Q : EH} (q : Q (a0 :: a1 :: a2 :: a3 :: a4 :: a5 :: a6 :: a7 :: a8 :: a9 :: a10 :: a11 :: a12 :: a13 :: a14 :: a15 :: a16 :: a17 :: a18 :: a19 :: a20 :: some v :: r) h) : wgName 21 v (a0 :: a1 :: a2 :: a3 :: a4 :: a5 :: a6 :: a7 :: a8 :: a9 :: a10 :: a11 :: a12 :: a13 :: a14 :: a15 :: a16 :: a17 :: a18 :: a19 :: a20 :: c :: r) h Q := q
theorem i_var22 {a0 a1 a2 a3 a4 a5 a6 a7 a8 a9 a10 a11 a12 a13 a14 a15 a16 a17 a18 a19 a20 a21 : Option Val} {v : Val} {r : Ev} {h E} {Q : KQ} (q : Q v h) : wVar 22 (a0 :: a1 :: a2 :: a3 :: a4 :: a5 :: a6 :: a7 :: a8 :: a9 :: a10 :: a11 :: a12 :: a13 :: a14 :: a15 :: a16 :: a17 :: a18 :: a19 :: a20 :: a21 :: some v :: r) h E Q := ⟨v, rfl, q⟩
theorem i_name22 {a0 a1 a2 a3 a4 a5 a6 a7 a8 a9 a10 a11 a12 a13 a14 a15 a16 a17 a18 a19 a20 a21 : Option Val} {c : Option Val} {v : Val} {r : Ev} {h} {Q : EH} (q : Q (a0 :: a1 :: a2 :: a3 :: a4 :: a5 :: a6 :: a7 :: a8 :: a9 :: a10 :: a11 :: a12 :: a13 :: a14 :: a15 :: a16 :: a17 :: a18 :: a19 :: a20 :: a21 :: some v :: r) h) : wgName 22 v (a0 :: a1 :: a2 :: a3 :: a4 :: a5 :: a6 :: a7 :: a8 :: a9 :: a10 :: a11 :: a12 :: a13 :: a14 :: a15 :: a16 :: a17 :: a18 :: a19 :: a20 :: a21 :: c :: r) h Q := q
theorem i_var23 {a0 a1 a2 a3 a4 a5 a6 a7 a8 a9 a10 a11 a12 a13 a14 a15 a16 a17 a18 a19 a20 a21 a22 : Option Val} {v : Val} {r : Ev} {h E} {Q : KQ} (q : Q v h) : wVar 23 (a0 :: a1 :: a2 :: a3 :: a4 :: a5 :: a6 :: a7 :: a8 :: a9 :: a10 :: a11 :: a12 :: a13 :: a14 :: a15 :: a16 :: a17 :: a18 :: a19 :: a20 :: a21 :: a22 :: some v :: r) h E Q := ⟨v, rfl, q⟩
theorem i_name23 {a0 a1 a2 a3 a4 a5 a6 a7 a8 a9 a10 a11 a12 a13 a14 a15 a16 a17 a18 a19 a20 a21 a22 : Option Val} {c : Option Val} {v : Val} {r : Ev} {h} {Q : EH} (q : Q (a0 :: a1 :: a2 :: a3 :: a4 :: a5 :: a6 :: a7 :: a8 :: a9 :: a10 :: a11 :: a12 :: a13 :: a14 :: a15 :: a16 :: a17 :: a18 :: a19 :: a20 :: a21 :: a22 :: some v :: r) h) : wgName 23 v (a0 :: a1 :: a2 :: a3 :: a4 :: a5 :: a6 :: a7 :: a8 :: a9 :: a10 :: a11 :: a12 :: a13 :: a14 :: a15 :: a16 :: a17 :: a18 :: a19 :: a20 :: a21 :: a22 :: c :: r) h Q := q
theorem i_var24 {a0 a1 a2 a3 a4 a5 a6 a7 a8 a9 a10 a11 a12 a13 a14 a15 a16 a17 a18 a19 a20 a21 a22 a23 : Option Val} {v : Val} {r : Ev} {h E} {Q : KQ} (q : Q v h) : wVar 24 (a0 :: a1 :: a2 :: a3 :: a4 :: a5 :: a6 :: a7 :: a8 :: a9 :: a10 :: a11 :: a12 :: a13 :: a14 :: a15 :: a16 :: a17 :: a18 :: a19 :: a20 :: a21 :: a22 :: a23 :: some v :: r) h E Q := ⟨v, rfl, q⟩
theorem i_name24 {a0 a1 a2 a3 a4 a5 a6 a7 a8 a9 a10 a11 a12 a13 a14 a15 a16 a17 a18 a19 a20 a21 a22 a23 : Option Val} {c : Option Val} {v : Val} {r : Ev} {h} {Q : EH} (q : Q (a0 :: a1 :: a2 :: a3 :: a4 :: a5 :: a6 :: a7 :: a8 :: a9 :: a10 :: a11 :: a12 :: a13 :: a14 :: a15 :: a16 :: a17 :: a18 :: a19 :: a20 :: a21 :: a22 :: a23 :: some v :: r) h) : wgName 24 v (a0 :: a1 :: a2 :: a3 :: a4 :: a5 :: a6 :: a7 :: a8 :: a9 :: a10 :: a11 :: a12 :: a13 :: a14 :: a15 :: a16 :: a17 :: a18 :: a19 :: a20 :: a21 :: a22 :: a23 :: c :: r) h Q := q
theorem i_var25 {a0 a1 a2 a3 a4 a5 a6 a7 a8 a9 a10 a11 a12 a13 a14 a15 a16 a17 a18 a19 a20 a21 a22 a23 a24 : Option Val} {v : Val} {r : Ev} {h E} {Q : KQ} (q : Q v h) : wVar 25 (a0 :: a1 :: a2 :: a3 :: a4 :: a5 :: a6 :: a7 :: a8 :: a9 :: a10 :: a11 :: a12 :: a13 :: a14 :: a15 :: a16 :: a17 :: a18 :: a19 :: a20 :: a21 :: a22 :: a23 :: a24 :: some v :: r) h E Q := ⟨v, rfl, q⟩
theorem i_name25 {a0 a1 a2 a3 a4 a5 a6 a7 a8 a9 a10 a11 a12 a13 a14 a15 a16 a17 a18 a19 a20 a21 a22 a23 a24 : Option Val} {c : Option Val} {v : Val} {r : Ev} {h} {Q : EH} (q : Q (a0 :: a1 :: a2 :: a3 :: a4 :: a5 :: a6 :: a7 :: a8 :: a9 :: a10 :: a11 :: a12 :: a13 :: a14 :: a15 :: a16 :: a17 :: a18 :: a19 :: a20 :: a21 :: a22 :: a23 :: a24 :: some v :: r) h) : wgName 25 v (a0 :: a1 :: a2 :: a3 :: a4 :: a5 :: a6 :: a7 :: a8 :: a9 :: a10 :: a11 :: a12 :: a13 :: a14 :: a15 :: a16 :: a17 :: a18 :: a19 :: a20 :: a21 :: a22 :: a23 :: a24 :: c :: r) h Q := q

theorem i_call0 {fs : FS} {t : WA} {ρ h E} {Q : KQ} (q : t ρ h E fun vs h1 => fs.sp vs h1 E Q) : wCall fs [] t ρ h E Q := by
  unfold wCall
  have e : (fun vs h1 => fs.sp (vs ++ []) h1 E Q) = fun vs h1 => fs.sp vs h1 E Q := by
    funext vs h1
    rw [List.append_nil]
  rw [e]
  exact q
theorem i_meth0 {C : Addr} {m : Str} {fs : FS} {ta : WE} {t : WA} {ρ h E} {Q : KQ} (q : ta ρ h E fun x h1 => ∃ fl, Ins h1 x C fl ∧ fl.lookup m = none ∧ t ρ h1 E fun vs h2 => fs.sp (x :: vs) h2 E Q) : wMeth C m fs [] ta t ρ h E Q := by
  unfold wMeth
  have e : ∀ x : Val, (fun vs h2 => fs.sp (x :: (vs ++ [])) h2 E Q) = fun vs h2 => fs.sp (x :: vs) h2 E Q := fun x => by
    funext vs h1
    rw [List.append_nil]
  simp only [e]
  exact q
theorem i_make0 {C : Addr} {fs : FS} {t : WA} {ρ h E} {Q : KQ} (q : t ρ h E fun vs h1 => ∀ a, h1 a = none → fs.sp (.ref a :: vs) (hup h1 a (.ins C [])) E (fun v h2 => v = .non ∧ MkEnd C a h2 Q)) : wMake C fs [] t ρ h E Q := by
  unfold wMake
  have e : (fun (vs : List Val) (h1 : Hh) => ∀ a, h1 a = none → fs.sp (.ref a :: (vs ++ [])) (hup h1 a (.ins C [])) E (fun v h2 => v = .non ∧ MkEnd C a h2 Q)) = fun vs h1 => ∀ a, h1 a = none → fs.sp (.ref a :: vs) (hup h1 a (.ins C [])) E (fun v h2 => v = .non ∧ MkEnd C a h2 Q) := by
    funext vs h1
    rw [List.append_nil]
  rw [e]
  exact q
theorem i_fldO {C : Addr} {fs : List (Str × Val)} {f : Str} {v : Val} {h : Hh} {A : Val → Prop} (l : fs.lookup f = some v) (q : A v) : ∃ gs u, Ins h (.obj C fs) C gs ∧ gs.lookup f = some u ∧ A u := ⟨fs, v, .obj C fs, l, q⟩
theorem i_fldR {C a : Addr} {fs : List (Str × Val)} {f : Str} {v : Val} {h : Hh} {A : Val → Prop} (e : h a = some (.ins C fs)) (l : fs.lookup f = some v) (q : A v) : ∃ gs u, Ins h (.ref a) C gs ∧ gs.lookup f = some u ∧ A u := ⟨fs, v, .ref e, l, q⟩
theorem i_mO {C : Addr} {fs : List (Str × Val)} {m : Str} {h : Hh} {A : Prop} (l : fs.lookup m = none) (q : A) : ∃ gs, Ins h (.obj C fs) C gs ∧ gs.lookup m = none ∧ A := ⟨fs, .obj C fs, l, q⟩
theorem i_mR {C a : Addr} {fs : List (Str × Val)} {m : Str} {h : Hh} {A : Prop} (e : h a = some (.ins C fs)) (l : fs.lookup m = none) (q : A) : ∃ gs, Ins h (.ref a) C gs ∧ gs.lookup m = none ∧ A := ⟨fs, .ref e, l, q⟩
theorem lk_hd {f : Str} {v : Val} {r : List (Str × Val)} : ((f, v) :: r).lookup f = some v := by simp
theorem lk_tl {f g : Str} {v : Val} {r : List (Str × Val)} {x : Option Val} (e : (f == g) = false) (h : r.lookup f = x) : ((g, v) :: r).lookup f = x := by
  simp only [List.lookup, e]; exact h
theorem lk_nil {f : Str} : ([] : List (Str × Val)).lookup f = none := rfl
theorem i_ixT {xs : List Val} {i : Int} {v : Val} {h} {Q : KQ} (e : L2.atI xs i = some v) (q : Q v h) : wIx (.tup xs) (.int i) h Q := ⟨i, v, rfl, .tup e, q⟩
theorem i_ixL {xs : List Val} {i : Int} {v : Val} {h} {Q : KQ} (e : L2.atI xs i = some v) (q : Q v h) : wIx (.lst xs) (.int i) h Q := ⟨i, v, rfl, .lst (.lst xs) e, q⟩
theorem i_ixR {a : Addr} {xs : List Val} {i : Int} {v : Val} {h : Hh} {Q : KQ} (e1 : h a = some (.lst xs)) (e : L2.atI xs i = some v) (q : Q v h) : wIx (.ref a) (.int i) h Q := ⟨i, v, rfl, .lst (.ref e1) e, q⟩
theorem i_setL {p : Addr} {xs : List Val} {k : Int} {j : Nat} {v : Val} {h : Hh} {Q : Hh → Prop} (e : h p = some (.lst xs)) (ej : L2.ixN xs.length k = some j) (q : Q (hup h p (.lst (xs.set j v)))) : wSetL (.ref p) (.int k) v h Q := ⟨p, xs, k, j, rfl, rfl, e, ej, q⟩
theorem i_tyL {h : Hh} {l : Addr} {xs : List Val} {A : Prop} (e : h l = some (.lst xs)) (q : A) : TyM h "list" (.ref l) ∧ A := ⟨.lst (.ref e), q⟩
theorem i_append {l : Addr} {xs : List Val} {y : Val} {h : Hh} {Q : KQ} (e : h l = some (.lst xs)) (hl : xs.length < 16000000) (q : Q .non (hup h l (.lst (xs ++ [y])))) : mAppend (.ref l) [y] h Q := ⟨l, xs, y, rfl, rfl, e, hl, q⟩
theorem i_newF {xs : List Val} {h : Hh} {Q : KQ} (q : Q (.lst xs) h) : NewL xs h Q := .inr q
theorem i_newO {xs : List Val} {h : Hh} {Q : KQ} (q : ∀ a, h a = none → Q (.ref a) (hup h a (.lst xs))) : NewL xs h Q := .inl q
theorem i_ifdt {p : Prop} [Decidable p] {A B : Prop} (c : p) (h : A) : if decide p = true then A else B := by rw [decide_eq_true c]; exact iteT h
theorem i_ifdf {p : Prop} [Decidable p] {A B : Prop} (c : ¬ p) (h : B) : if decide p = true then A else B := by rw [decide_eq_false c]; exact iteF h
theorem i_ifnt {p : Prop} [Decidable p] {A B : Prop} (c : ¬ p) (h : A) : if (!decide p) = true then A else B := by rw [decide_eq_false c]; exact iteT h
theorem i_ifnf {p : Prop} [Decidable p] {A B : Prop} (c : p) (h : B) : if (!decide p) = true then A else B := by rw [decide_eq_true c]; exact iteF h
theorem i_ift {b : Bool} {A B : Prop} (c : b = true) (h : A) : if b = true then A else B := by rw [c]; exact iteT h
theorem i_iff {b : Bool} {A B : Prop} (c : b = false) (h : B) : if b = true then A else B := by rw [c]; exact iteF h
theorem i_itsF {xs : List Val} {h : Hh} {G : List Val → (Hh → Prop) → Hh → Prop} (q : G xs (fun _ => True) h) : Its h (.lst xs) G := .inl ⟨xs, .inl rfl, q⟩
theorem i_itsS {xs : List Val} {h : Hh} {G : List Val → (Hh → Prop) → Hh → Prop} (q : G xs (fun _ => True) h) : Its h (.scr xs) G := .inl ⟨xs, .inr rfl, q⟩
theorem i_itsR {a : Addr} {xs : List Val} {h : Hh} {G : List Val → (Hh → Prop) → Hh → Prop} (e : h a = some (.lst xs)) (q : G xs (fun h => h a = some (.lst xs)) h) : Its h (.ref a) G := .inr ⟨a, xs, rfl, e, q⟩
theorem i_itsT {xs : List Val} {h : Hh} {G : List Val → (Hh → Prop) → Hh → Prop} (q : G xs (fun _ => True) h) : ∃ ys, Val.tup xs = .tup ys ∧ G ys (fun _ => True) h := ⟨xs, rfl, q⟩
theorem i_lenF {xs : List Val} {h : Hh} {Q : KQ} (q : Q (.int (xs.length : Int)) h) : cLen [.lst xs] h Q := ⟨_, _, rfl, .lst (.lst xs), q⟩
theorem i_lenT {xs : List Val} {h : Hh} {Q : KQ} (q : Q (.int (xs.length : Int)) h) : cLen [.tup xs] h Q := ⟨_, _, rfl, .tup, q⟩
theorem i_lenR {a : Addr} {xs : List Val} {h : Hh} {Q : KQ} (e : h a = some (.lst xs)) (q : Q (.int (xs.length : Int)) h) : cLen [.ref a] h Q := ⟨_, _, rfl, .lst (.ref e), q⟩
theorem i_listF {xs : List Val} {h : Hh} {Q : KQ} (q : NewL xs h Q) : cList [.lst xs] h Q := ⟨_, _, rfl, .lst (.lst xs), q⟩
theorem i_listT {xs : List Val} {h : Hh} {Q : KQ} (q : NewL xs h Q) : cList [.tup xs] h Q := ⟨_, _, rfl, .tup xs, q⟩
theorem i_listR {a : Addr} {xs : List Val} {h : Hh} {Q : KQ} (e : h a = some (.lst xs)) (q : NewL xs h Q) : cList [.ref a] h Q := ⟨_, _, rfl, .lst (.ref e), q⟩
theorem i_tupF {xs : List Val} {h : Hh} {Q : KQ} (q : Q (.tup xs) h) : cTuple [.lst xs] h Q := ⟨_, _, rfl, .lst (.lst xs), q⟩
theorem i_tupR {a : Addr} {xs : List Val} {h : Hh} {Q : KQ} (e : h a = some (.lst xs)) (q : Q (.tup xs) h) : cTuple [.ref a] h Q := ⟨_, _, rfl, .lst (.ref e), q⟩
theorem i_max {i j : Int} {h : Hh} {Q : KQ} (q : Q (.int (if j > i then j else i)) h) : cMax2 [.int i, .int j] h Q := ⟨i, j, rfl, q⟩
theorem i_min {i j : Int} {h : Hh} {Q : KQ} (q : Q (.int (if j < i then j else i)) h) : cMin2 [.int i, .int j] h Q := ⟨i, j, rfl, q⟩
theorem i_isi {x : Val} {n T : String} {b : Bool} {h : Hh} {Q : KQ} (e : TyN h x n) (k : kitB n T = some b) (q : Q (.bl b) h) : cIsi [x, .ty T] h Q := ⟨x, n, T, b, rfl, e, k, q⟩
theorem i_wgtup {n : Nat} {t : WGs} {xs : List Val} {ρ h} {Q : EH} (e : xs.length = n) (q : t xs ρ h Q) : wgTup n t (.tup xs) ρ h Q := ⟨xs, rfl, e, q⟩
theorem i_wgcons {t : WG} {u : WGs} {v : Val} {r : List Val} {ρ h} {Q : EH} (q : t v ρ h fun ρ1 h1 => u r ρ1 h1 Q) : wgCons t u (v :: r) ρ h Q := ⟨v, r, rfl, q⟩
theorem i_wgnil {ρ h} {Q : EH} (q : Q ρ h) : wgNil [] ρ h Q := ⟨rfl, q⟩
theorem i_wslL {te : WE} {tl th : WO} {r : W3} {ρ h E} {Q : KQ} (q : te ρ h E fun x h1 => tl ρ h1 E fun l h2 => th ρ h2 E fun u h3 => r x l u h3 Q) : wSl r te tl th ρ h E Q := q
theorem i_nopart {ρ h E} {Q : Option Int → Hh → Prop} (q : Q none h) : wNoPart ρ h E Q := q
theorem i_part {t : WE} {ρ h E} {Q : Option Int → Hh → Prop} (q : t ρ h E fun x h1 => ∃ i, x = .int i ∧ Q (some i) h1) : wPart t ρ h E Q := q
theorem i_tg1_0 {c : Option Val} {v : Val} {r : Ev} {Q : Ev → Prop} (q : Q (some v :: r)) : tg1 0 v (wipeV (c :: r) [0]) Q := q
theorem i_tg1_1 {a0 : Option Val} {c : Option Val} {v : Val} {r : Ev} {Q : Ev → Prop} (q : Q (a0 :: some v :: r)) : tg1 1 v (wipeV (a0 :: c :: r) [1]) Q := q
theorem i_tg1_2 {a0 a1 : Option Val} {c : Option Val} {v : Val} {r : Ev} {Q : Ev → Prop} (q : Q (a0 :: a1 :: some v :: r)) : tg1 2 v (wipeV (a0 :: a1 :: c :: r) [2]) Q := q
theorem i_tg1_3 {a0 a1 a2 : Option Val} {c : Option Val} {v : Val} {r : Ev} {Q : Ev → Prop} (q : Q (a0 :: a1 :: a2 :: some v :: r)) : tg1 3 v (wipeV (a0 :: a1 :: a2 :: c :: r) [3]) Q := q
theorem i_tg1_4 {a0 a1 a2 a3 : Option Val} {c : Option Val} {v : Val} {r : Ev} {Q : Ev → Prop} (q : Q (a0 :: a1 :: a2 :: a3 :: some v :: r)) : tg1 4 v (wipeV (a0 :: a1 :: a2 :: a3 :: c :: r) [4]) Q := q
theorem i_tg1_5 {a0 a1 a2 a3 a4 : Option Val} {c : Option Val} {v : Val} {r : Ev} {Q : Ev → Prop} (q : Q (a0 :: a1 :: a2 :: a3 :: a4 :: some v :: r)) : tg1 5 v (wipeV (a0 :: a1 :: a2 :: a3 :: a4 :: c :: r) [5]) Q := q
theorem i_tg1_6 {a0 a1 a2 a3 a4 a5 : Option Val} {c : Option Val} {v : Val} {r : Ev} {Q : Ev → Prop} (q : Q (a0 :: a1 :: a2 :: a3 :: a4 :: a5 :: some v :: r)) : tg1 6 v (wipeV (a0 :: a1 :: a2 :: a3 :: a4 :: a5 :: c :: r) [6]) Q := q
theorem i_tg1_7 {a0 a1 a2 a3 a4 a5 a6 : Option Val} {c : Option Val} {v : Val} {r : Ev} {Q : Ev → Prop} (q : Q (a0 :: a1 :: a2 :: a3 :: a4 :: a5 :: a6 :: some v :: r)) : tg1 7 v (wipeV (a0 :: a1 :: a2 :: a3 :: a4 :: a5 :: a6 :: c :: r) [7]) Q := q
theorem i_tg1_8 {a0 a1 a2 a3 a4 a5 a6 a7 : Option Val} {c : Option Val} {v : Val} {r : Ev} {Q : Ev → Prop} (q : Q (a0 :: a1 :: a2 :: a3 :: a4 :: a5 :: a6 :: a7 :: some v :: r)) : tg1 8 v (wipeV (a0 :: a1 :: a2 :: a3 :: a4 :: a5 :: a6 :: a7 :: c :: r) [8]) Q := q
theorem i_tg1_9 {a0 a1 a2 a3 a4 a5 a6 a7 a8 : Option Val} {c : Option Val} {v : Val} {r : Ev} {Q : Ev → Prop} (q : Q (a0 :: a1 :: a2 :: a3 :: a4 :: a5 :: a6 :: a7 :: a8 :: some v :: r)) : tg1 9 v (wipeV (a0 :: a1 :: a2 :: a3 :: a4 :: a5 :: a6 :: a7 :: a8 :: c :: r) [9]) Q := q
theorem i_tg1_10 {a0 a1 a2 a3 a4 a5 a6 a7 a8 a9 : Option Val} {c : Option Val} {v : Val} {r : Ev} {Q : Ev → Prop} (q : Q (a0 :: a1 :: a2 :: a3 :: a4 :: a5 :: a6 :: a7 :: a8 :: a9 :: some v :: r)) : tg1 10 v (wipeV (a0 :: a1 :: a2 :: a3 :: a4 :: a5 :: a6 :: a7 :: a8 :: a9 :: c :: r) [10]) Q := q
theorem i_tg1_11 {a0 a1 a2 a3 a4 a5 a6 a7 a8 a9 a10 : Option Val} {c : Option Val} {v : Val} {r : Ev} {Q : Ev → Prop} (q : Q (a0 :: a1 :: a2 :: a3 :: a4 :: a5 :: a6 :: a7 :: a8 :: a9 :: a10 :: some v :: r)) : tg1 11 v (wipeV (a0 :: a1 :: a2 :: a3 :: a4 :: a5 :: a6 :: a7 :: a8 :: a9 :: a10 :: c :: r) [11]) Q := q
theorem i_tg1_12 {a0 a1 a2 a3 a4 a5 a6 a7 a8 a9 a10 a11 : Option Val} {c : Option Val} {v : Val} {r : Ev} {Q : Ev → Prop} (q : Q (a0 :: a1 :: a2 :: a3 :: a4 :: a5 :: a6 :: a7 :: a8 :: a9 :: a10 :: a11 :: some v :: r)) : tg1 12 v (wipeV (a0 :: a1 :: a2 :: a3 :: a4 :: a5 :: a6 :: a7 :: a8 :: a9 :: a10 :: a11 :: c :: r) [12]) Q := q
theorem i_tg1_13 {a0 a1 a2 a3 a4 a5 a6 a7 a8 a9 a10 a11 a12 : Option Val} {c : Option Val} {v : Val} {r : Ev} {Q : Ev → Prop} (q : Q (a0 :: a1 :: a2 :: a3 :: a4 :: a5 :: a6 :: a7 :: a8 :: a9 :: a10 :: a11 :: a12 :: some v :: r)) : tg1 13 v (wipeV (a0 :: a1 :: a2 :: a3 :: a4 :: a5 :: a6 :: a7 :: a8 :: a9 :: a10 :: a11 :: a12 :: c :: r) [13]) Q := q
theorem i_tg1_14 {a0 a1 a2 a3 a4 a5 a6 a7 a8 a9 a10 a11 a12 a13 : Option Val} {c : Option Val} {v : Val} {r : Ev} {Q : Ev → Prop} (q : Q (a0 :: a1 :: a2 :: a3 :: a4 :: a5 :: a6 :: a7 :: a8 :: a9 :: a10 :: a11 :: a12 :: a13 :: some v :: r)) : tg1 14 v (wipeV (a0 :: a1 :: a2 :: a3 :: a4 :: a5 :: a6 :: a7 :: a8 :: a9 :: a10 :: a11 :: a12 :: a13 :: c :: r) [14]) Q := q
theorem i_tg1_15 {a0 a1 a2 a3 a4 a5 a6 a7 a8 a9 a10 a11 a12 a13 a14 : Option Val} {c : Option Val} {v : Val} {r : Ev} {Q : Ev → Prop} (q : Q (a0 :: a1 :: a2 :: a3 :: a4 :: a5 :: a6 :: a7 :: a8 :: a9 :: a10 :: a11 :: a12 :: a13 :: a14 :: some v :: r)) : tg1 15 v (wipeV (a0 :: a1 :: a2 :: a3 :: a4 :: a5 :: a6 :: a7 :: a8 :: a9 :: a10 :: a11 :: a12 :: a13 :: a14 :: c :: r) [15]) Q := q
theorem i_tg1_16 {a0 a1 a2 a3 a4 a5 a6 a7 a8 a9 a10 a11 a12 a13 a14 a15 : Option Val} {c : Option Val} {v : Val} {r : Ev} {Q : Ev → Prop} (q : Q (a0 :: a1 :: a2 :: a3 :: a4 :: a5 :: a6 :: a7 :: a8 :: a9 :: a10 :: a11 :: a12 :: a13 :: a14 :: a15 :: some v :: r)) : tg1 16 v (wipeV (a0 :: a1 :: a2 :: a3 :: a4 :: a5 :: a6 :: a7 :: a8 :: a9 :: a10 :: a11 :: a12 :: a13 :: a14 :: a15 :: c :: r) [16]) Q := q
theorem i_tg1_17 {a0 a1 a2 a3 a4 a5 a6 a7 a8 a9 a10 a11 a12 a13 a14 a15 a16 : Option Val} {c : Option Val} {v : Val} {r : Ev} {Q : Ev → Prop} (q : Q (a0 :: a1 :: a2 :: a3 :: a4 :: a5 :: a6 :: a7 :: a8 :: a9 :: a10 :: a11 :: a12 :: a13 :: a14 :: a15 :: a16 :: some v :: r)) : tg1 17 v (wipeV (a0 :: a1 :: a2 :: a3 :: a4 :: a5 :: a6 :: a7 :: a8 :: a9 :: a10 :: a11 :: a12 :: a13 :: a14 :: a15 :: a16 :: c :: r) [17]) Q := q
theorem i_tg1_18 {a0 a1 a2 a3 a4 a5 a6 a7 a8 a9 a10 a11 a12 a13 a14 a15 a16 a17 : Option Val} {c : Option Val} {v : Val} {r : Ev} {Q : Ev → Prop} (q : Q (a0 :: a1 :: a2 :: a3 :: a4 :: a5 :: a6 :: a7 :: a8 :: a9 :: a10 :: a11 :: a12 :: a13 :: a14 :: a15 :: a16 :: a17 :: some v :: r)) : tg1 18 v (wipeV (a0 :: a1 :: a2 :: a3 :: a4 :: a5 :: a6 :: a7 :: a8 :: a9 :: a10 :: a11 :: a12 :: a13 :: a14 :: a15 :: a16 :: a17 :: c :: r) [18]) Q := q
theorem i_tg1_19 {a0 a1 a2 a3 a4 a5 a6 a7 a8 a9 a10 a11 a12 a13 a14 a15 a16 a17 a18 : Option Val} {c : Option Val} {v : Val} {r : Ev} {Q : Ev → Prop} (q : Q (a0 :: a1 :: a2 :: a3 :: a4 :: a5 :: a6 :: a7 :: a8 :: a9 :: a10 :: a11 :: a12 :: a13 :: a14 :: a15 :: a16 :: a17 :: a18 :: some v :: r)) : tg1 19 v (wipeV (a0 :: a1 :: a2 :: a3 :: a4 :: a5 :: a6 :: a7 :: a8 :: a9 :: a10 :: a11 :: a12 :: a13 :: a14 :: a15 :: a16 :: a17 :: a18 :: c :: r) [19]) Q := q
theorem i_tg1_20 {a0 a1 a2 a3 a4 a5 a6 a7 a8 a9 a10 a11 a12 a13 a14 a15 a16 a17 a18 a19 : Option Val} {c : Option Val} {v : Val} {r : Ev} {Q : Ev → Prop} (q : Q (a0 :: a1 :: a2 :: a3 :: a4 :: a5 :: a6 :: a7 :: a8 :: a9 :: a10 :: a11 :: a12 :: a13 :: a14 :: a15 :: a16 :: a17 :: a18 :: a19 :: some v :: r)) : tg1 20 v (wipeV (a0 :: a1 :: a2 :: a3 :: a4 :: a5 :: a6 :: a7 :: a8 :: a9 :: a10 :: a11 :: a12 :: a13 :: a14 :: a15 :: a16 :: a17 :: a18 :: a19 :: c :: r) [20]) Q := q
theorem i_tg1_21 {a0 a1 a2 a3 a4 a5 a6 a7 a8 a9 a10 a11 a12 a13 a14 a15 a16 a17 a18 a19 a20 : Option Val} {c : Option Val} {v : Val} {r : Ev} {Q : Ev → Prop} (q : Q (a0 :: a1 :: a2 :: a3 :: a4 :: a5 :: a6 :: a7 :: a8 :: a9 :: a10 :: a11 :: a12 :: a13 :: a14 :: a15 :: a16 :: a17 :: a18 :: a19 :: a20 :: some v :: r)) : tg1 21 v (wipeV (a0 :: a1 :: a2 :: a3 :: a4 :: a5 :: a6 :: a7 :: a8 :: a9 :: a10 :: a11 :: a12 :: a13 :: a14 :: a15 :: a16 :: a17 :: a18 :: a19 :: a20 :: c :: r) [21]) Q := q
theorem i_tg1_22 {a0 a1 a2 a3 a4 a5 a6 a7 a8 a9 a10 a11 a12 a13 a14 a15 a16 a17 a18 a19 a20 a21 : Option Val} {c : Option Val} {v : Val} {r : Ev} {Q : Ev → Prop} (q : Q (a0 :: a1 :: a2 :: a3 :: a4 :: a5 :: a6 :: a7 :: a8 :: a9 :: a10 :: a11 :: a12 :: a13 :: a14 :: a15 :: a16 :: a17 :: a18 :: a19 :: a20 :: a21 :: some v :: r)) : tg1 22 v (wipeV (a0 :: a1 :: a2 :: a3 :: a4 :: a5 :: a6 :: a7 :: a8 :: a9 :: a10 :: a11 :: a12 :: a13 :: a14 :: a15 :: a16 :: a17 :: a18 :: a19 :: a20 :: a21 :: c :: r) [22]) Q := q
theorem i_tg1_23 {a0 a1 a2 a3 a4 a5 a6 a7 a8 a9 a10 a11 a12 a13 a14 a15 a16 a17 a18 a19 a20 a21 a22 : Option Val} {c : Option Val} {v : Val} {r : Ev} {Q : Ev → Prop} (q : Q (a0 :: a1 :: a2 :: a3 :: a4 :: a5 :: a6 :: a7 :: a8 :: a9 :: a10 :: a11 :: a12 :: a13 :: a14 :: a15 :: a16 :: a17 :: a18 :: a19 :: a20 :: a21 :: a22 :: some v :: r)) : tg1 23 v (wipeV (a0 :: a1 :: a2 :: a3 :: a4 :: a5 :: a6 :: a7 :: a8 :: a9 :: a10 :: a11 :: a12 :: a13 :: a14 :: a15 :: a16 :: a17 :: a18 :: a19 :: a20 :: a21 :: a22 :: c :: r) [23]) Q := q
theorem g_tg1 {i j : Nat} {v : Val} {ρ : Ev} {Q : Ev → Prop} (q : tg1 i v (wipeV ρ [j]) Q) : tg1 i v (wipeV ρ [j]) Q := q
theorem i_yes {ρ h E} {Q : Bool → Hh → Prop} (q : Q true h) : wYes ρ h E Q := q
theorem g_isi {vs : List Val} {h : Hh} {Q : KQ} (q : cIsi vs h Q) : cIsi vs h Q := q
theorem i_isi_non_bool {h : Hh} {Q : KQ} (q : Q (.bl false) h) : cIsi [.non, .ty "bool"] h Q := i_isi (.non : TyN h (.non) "NoneType") (by decide +kernel) q
theorem i_isi_non_int {h : Hh} {Q : KQ} (q : Q (.bl false) h) : cIsi [.non, .ty "int"] h Q := i_isi (.non : TyN h (.non) "NoneType") (by decide +kernel) q
theorem i_isi_non_str {h : Hh} {Q : KQ} (q : Q (.bl false) h) : cIsi [.non, .ty "str"] h Q := i_isi (.non : TyN h (.non) "NoneType") (by decide +kernel) q
theorem i_isi_non_list {h : Hh} {Q : KQ} (q : Q (.bl false) h) : cIsi [.non, .ty "list"] h Q := i_isi (.non : TyN h (.non) "NoneType") (by decide +kernel) q
theorem i_isi_non_tuple {h : Hh} {Q : KQ} (q : Q (.bl false) h) : cIsi [.non, .ty "tuple"] h Q := i_isi (.non : TyN h (.non) "NoneType") (by decide +kernel) q
theorem i_isi_bl_bool {b : Bool} {h : Hh} {Q : KQ} (q : Q (.bl true) h) : cIsi [.bl b, .ty "bool"] h Q := i_isi (.bl b : TyN h (.bl b) "bool") (by decide +kernel) q
theorem i_isi_bl_int {b : Bool} {h : Hh} {Q : KQ} (q : Q (.bl true) h) : cIsi [.bl b, .ty "int"] h Q := i_isi (.bl b : TyN h (.bl b) "bool") (by decide +kernel) q
theorem i_isi_bl_str {b : Bool} {h : Hh} {Q : KQ} (q : Q (.bl false) h) : cIsi [.bl b, .ty "str"] h Q := i_isi (.bl b : TyN h (.bl b) "bool") (by decide +kernel) q
theorem i_isi_bl_list {b : Bool} {h : Hh} {Q : KQ} (q : Q (.bl false) h) : cIsi [.bl b, .ty "list"] h Q := i_isi (.bl b : TyN h (.bl b) "bool") (by decide +kernel) q
theorem i_isi_bl_tuple {b : Bool} {h : Hh} {Q : KQ} (q : Q (.bl false) h) : cIsi [.bl b, .ty "tuple"] h Q := i_isi (.bl b : TyN h (.bl b) "bool") (by decide +kernel) q
theorem i_isi_int_bool {i : Int} {h : Hh} {Q : KQ} (q : Q (.bl false) h) : cIsi [.int i, .ty "bool"] h Q := i_isi (.int i : TyN h (.int i) "int") (by decide +kernel) q
theorem i_isi_int_int {i : Int} {h : Hh} {Q : KQ} (q : Q (.bl true) h) : cIsi [.int i, .ty "int"] h Q := i_isi (.int i : TyN h (.int i) "int") (by decide +kernel) q
theorem i_isi_int_str {i : Int} {h : Hh} {Q : KQ} (q : Q (.bl false) h) : cIsi [.int i, .ty "str"] h Q := i_isi (.int i : TyN h (.int i) "int") (by decide +kernel) q
theorem i_isi_int_list {i : Int} {h : Hh} {Q : KQ} (q : Q (.bl false) h) : cIsi [.int i, .ty "list"] h Q := i_isi (.int i : TyN h (.int i) "int") (by decide +kernel) q
theorem i_isi_int_tuple {i : Int} {h : Hh} {Q : KQ} (q : Q (.bl false) h) : cIsi [.int i, .ty "tuple"] h Q := i_isi (.int i : TyN h (.int i) "int") (by decide +kernel) q
theorem i_isi_str_bool {z : Str} {h : Hh} {Q : KQ} (q : Q (.bl false) h) : cIsi [.str z, .ty "bool"] h Q := i_isi (.str z : TyN h (.str z) "str") (by decide +kernel) q
theorem i_isi_str_int {z : Str} {h : Hh} {Q : KQ} (q : Q (.bl false) h) : cIsi [.str z, .ty "int"] h Q := i_isi (.str z : TyN h (.str z) "str") (by decide +kernel) q
theorem i_isi_str_str {z : Str} {h : Hh} {Q : KQ} (q : Q (.bl true) h) : cIsi [.str z, .ty "str"] h Q := i_isi (.str z : TyN h (.str z) "str") (by decide +kernel) q
theorem i_isi_str_list {z : Str} {h : Hh} {Q : KQ} (q : Q (.bl false) h) : cIsi [.str z, .ty "list"] h Q := i_isi (.str z : TyN h (.str z) "str") (by decide +kernel) q
theorem i_isi_str_tuple {z : Str} {h : Hh} {Q : KQ} (q : Q (.bl false) h) : cIsi [.str z, .ty "tuple"] h Q := i_isi (.str z : TyN h (.str z) "str") (by decide +kernel) q
theorem i_isi_tup_bool {xs : List Val} {h : Hh} {Q : KQ} (q : Q (.bl false) h) : cIsi [.tup xs, .ty "bool"] h Q := i_isi (.tup xs : TyN h (.tup xs) "tuple") (by decide +kernel) q
theorem i_isi_tup_int {xs : List Val} {h : Hh} {Q : KQ} (q : Q (.bl false) h) : cIsi [.tup xs, .ty "int"] h Q := i_isi (.tup xs : TyN h (.tup xs) "tuple") (by decide +kernel) q
theorem i_isi_tup_str {xs : List Val} {h : Hh} {Q : KQ} (q : Q (.bl false) h) : cIsi [.tup xs, .ty "str"] h Q := i_isi (.tup xs : TyN h (.tup xs) "tuple") (by decide +kernel) q
theorem i_isi_tup_list {xs : List Val} {h : Hh} {Q : KQ} (q : Q (.bl false) h) : cIsi [.tup xs, .ty "list"] h Q := i_isi (.tup xs : TyN h (.tup xs) "tuple") (by decide +kernel) q
theorem i_isi_tup_tuple {xs : List Val} {h : Hh} {Q : KQ} (q : Q (.bl true) h) : cIsi [.tup xs, .ty "tuple"] h Q := i_isi (.tup xs : TyN h (.tup xs) "tuple") (by decide +kernel) q
theorem i_isi_lst_bool {xs : List Val} {h : Hh} {Q : KQ} (q : Q (.bl false) h) : cIsi [.lst xs, .ty "bool"] h Q := i_isi (.lst (.lst xs) : TyN h (.lst xs) "list") (by decide +kernel) q
theorem i_isi_lst_int {xs : List Val} {h : Hh} {Q : KQ} (q : Q (.bl false) h) : cIsi [.lst xs, .ty "int"] h Q := i_isi (.lst (.lst xs) : TyN h (.lst xs) "list") (by decide +kernel) q
theorem i_isi_lst_str {xs : List Val} {h : Hh} {Q : KQ} (q : Q (.bl false) h) : cIsi [.lst xs, .ty "str"] h Q := i_isi (.lst (.lst xs) : TyN h (.lst xs) "list") (by decide +kernel) q
theorem i_isi_lst_list {xs : List Val} {h : Hh} {Q : KQ} (q : Q (.bl true) h) : cIsi [.lst xs, .ty "list"] h Q := i_isi (.lst (.lst xs) : TyN h (.lst xs) "list") (by decide +kernel) q
theorem i_isi_lst_tuple {xs : List Val} {h : Hh} {Q : KQ} (q : Q (.bl false) h) : cIsi [.lst xs, .ty "tuple"] h Q := i_isi (.lst (.lst xs) : TyN h (.lst xs) "list") (by decide +kernel) q
theorem i_chain {r r' : W2} {ta tb tc : WE} {ρ h E} {Q : KQ} (q : ta ρ h E fun x h1 => tb ρ h1 E fun y h2 => r x y h2 fun z h3 => ∃ k, z = .bl k ∧ if k = true then tc ρ h3 E fun u h4 => r' y u h4 Q else Q (.bl false) h3) : wChain r r' ta tb tc ρ h E Q := q
theorem g_var {i : Nat} {ρ : Ev} {h E} {Q : KQ} (q : wVar i ρ h E Q) : wVar i ρ h E Q := q
theorem g_name {i : Nat} {v : Val} {ρ : Ev} {h} {Q : EH} (q : wgName i v ρ h Q) : wgName i v ρ h Q := q
theorem g_if {b : Bool} {A B : Prop} (q : if b = true then A else B) : if b = true then A else B := q
/-! loops -/
def ForI (xs : List Val) (chk : Hh → Prop) (g : WG) (tb : WS) (nx : EH) (rt : KQ) (xe : XS) (ρ : Ev) (h : Hh) : Prop := ∃ I : Nat → EH, I 0 ρ h ∧ ∀ i ρ h, I i ρ h → chk h ∧ (xs.length ≤ i → nx ρ h) ∧
  ∀ x, xs[i]? = some x → g x ρ h fun ρ2 h2 => tb (I (i + 1)) rt nx (I (i + 1)) xe ρ2 h2
theorem i_for {wi : WI} {g : WG} {tb : WS} {nx rt bk ct xe ρ h} (q : wi ρ h (atx xe ρ) fun xs chk h1 => ForI xs chk g tb nx rt xe ρ h1) : wFor wi g tb nx rt bk ct xe ρ h := q
theorem for_inv {xs : List Val} {chk : Hh → Prop} {g : WG} {tb : WS} {nx : EH} {rt : KQ} {xe : XS} {ρ : Ev} {h : Hh} (I : Nat → EH) (h0 : I 0 ρ h) (st : ∀ i ρ h, I i ρ h → chk h ∧ (xs.length ≤ i → nx ρ h) ∧
  ∀ x, xs[i]? = some x → g x ρ h fun ρ2 h2 => tb (I (i + 1)) rt nx (I (i + 1)) xe ρ2 h2) : ForI xs chk g tb nx rt xe ρ h := ⟨I, h0, st⟩
def WhileI (c : WT) (tb : WS) (nx : EH) (rt : KQ) (xe : XS) (ρ : Ev) (h : Hh) : Prop := ∃ I : Nat → EH, (∃ m, I m ρ h) ∧ ∀ m ρ h, I m ρ h → c ρ h (atx xe ρ) fun b h1 =>
  if b = true then tb (fun ρ2 h2 => ∃ m2, m2 < m ∧ I m2 ρ2 h2) rt nx (fun ρ2 h2 => ∃ m2, m2 < m ∧ I m2 ρ2 h2) xe ρ h1 else nx ρ h1
theorem i_while {c : WT} {tb : WS} {nx rt bk ct xe ρ h} (q : WhileI c tb nx rt xe ρ h) : wWhile c tb nx rt bk ct xe ρ h := q
theorem while_inv {c : WT} {tb : WS} {nx : EH} {rt : KQ} {xe : XS} {ρ : Ev} {h : Hh} (I : Nat → EH) (m0 : Nat) (h0 : I m0 ρ h) (st : ∀ m ρ h, I m ρ h → c ρ h (atx xe ρ) fun b h1 =>
  if b = true then tb (fun ρ2 h2 => ∃ m2, m2 < m ∧ I m2 ρ2 h2) rt nx (fun ρ2 h2 => ∃ m2, m2 < m ∧ I m2 ρ2 h2) xe ρ h1 else nx ρ h1) : WhileI c tb nx rt xe ρ h := ⟨I, ⟨m0, h0⟩, st⟩
theorem lc_inv {tg : Val → Ev → (Ev → Prop) → Prop} {xs : List Val} {chk : Hh → Prop} {tt : WT} {te : WE} {vs : List Nat} {ρ : Ev} {h : Hh} {Q : KQ} (I : Nat → List Val → Hh → Prop) (h0 : I 0 [] h)
    (st : ∀ i acc h, I i acc h → chk h ∧ (xs.length ≤ i → NewL acc h Q) ∧ ∀ x, xs[i]? = some x → tg x (wipeV ρ vs) fun ρ2 =>
      tt ρ2 h (fun _ _ _ => False) fun b h3 => if b = true then te ρ2 h3 (fun _ _ _ => False) (fun y h4 => acc.length < 16000000 ∧ I (i + 1) (acc ++ [y]) h4) else I (i + 1) acc h3) : wLcB tg xs chk tt te vs ρ h Q := ⟨I, h0, st⟩
theorem i_rngB {n : Int} {A : Prop} (a : 0 ≤ n) (b : n < 4611686018427387904) (q : A) : -(2 ^ 62) ≤ n ∧ n < 2 ^ 62 ∧ A := ⟨by omega, by omega, q⟩
theorem map_get {α : Type} {f : α → Val} {xs : List α} {i : Nat} {z : Val} (h : (xs.map f)[i]? = some z) : ∃ c, xs[i]? = some c ∧ z = f c := by
  rw [List.getElem?_map] at h
  cases e : xs[i]? with
  | none => rw [e] at h; cases h
  | some c => rw [e] at h; exact ⟨c, rfl, (Option.some.inj h).symm⟩
/-- data of ints -/
theorem dvs_ints {h : Hh} : ∀ ns : List Int, Dvs h (ns.map Val.int) (ns.map PyData.int)
  | [] => .nil
  | n :: ns => .cons (.int n) (dvs_ints ns)
theorem canLay_ints : ∀ ns : List Int, PyData.canLayAll0 (ns.map PyData.int) = true
  | [] => by simp [PyData.canLayAll0]
  | n :: ns => by simp [PyData.canLayAll0, PyData.canLay0, canLay_ints ns]
/-! ZA -/
/-! len of an own instance -/
section
variable {X : Cx} {W : WX} {pos : Pos}
def rLenO (C : Addr) (sp : L2.Sp) : List V → Hp → VK → Prop := fun xs H Q => ∃ a dx fs, xs = [V.ref a] ∧ H a = some (.ins C dx fs) ∧ sp [.ref a] H (fun v H' => ∃ n : Int, v = .int n ∧ (0 ≤ n ∧ n < 2 ^ 63) ∧ Q (.int n) H') (fun _ _ _ => False)
theorem call_lenO {k : Nat} {C f : Addr} {fd : FuncData} {ps : List Str} {sp : L2.Sp} {ds : List Value} (F : FnOk X.prog X.w X.K X.mg X.base (L2.CX X.prog X.w) k f fd ps sp) (hm : Meth X.K C "__len__" f) (hb : Binds X.K fd ps []) (hr : Room (k + 1) X.A) : CallR X (.builtin "len") (rLenO C sp) := by
  intro pins s σ H xs us Q I r h
  obtain ⟨a, dx, fs, rfl, ha, hsp⟩ := h
  cases r with
  | cons ra rr =>
    cases rr
    cases ra
    obtain ⟨mA, J, _⟩ := ins_get I.hok ha
    obtain ⟨od, J, _⟩ := J.look
    obtain ⟨m, hF⟩ := I.fr
    refine PySem.W.len_K hF I.ok.mod.kin J hm.at_ hm.fn ?_
    have hl := F.len _ _ _ _ hsp
    have r2 : Vals [V.ref a] [Value.ref a] := .cons rfl .nil
    refine wpAny_call (codeAny_mono (F.run X.A.in1 X.stack s H ⟨[.ref a], []⟩ [.ref a] [.ref a] _ _ hr.in1 I.env0.in1 (by
      have := hb s [.ref a] I.kIn (by simpa using hl)
      simpa using this) r2 hsp) fun r s' hq => ?_)
    cases r with
    | error e => exact passL pins σ H s e s' I hq
    | ok fl =>
      cases fl with
      | ret w =>
        obtain ⟨z, H', I', rz, n, ez, b, q⟩ := I.after hq
        subst ez
        obtain ⟨t, rfl⟩ := rz
        exact ⟨b, .int n, H', I'.tok _, ⟨_, rfl⟩, q⟩
      | next => exact False.elim hq
      | brk => exact False.elim hq
      | cont => exact False.elim hq
def cLenO (C : Addr) (fs : FS) : WC := fun vs h Q => ∃ x fl, vs = [x] ∧ Ins h x C fl ∧ fs.sp [x] h (fun _ _ _ => False) (fun v h' => ∃ n : Int, v = .int n ∧ (0 ≤ n ∧ n < 2 ^ 63) ∧ Q (.int n) h')
theorem s_lenO {K : Fr} {C : Addr} {fs : FS} : SndC K (cLenO C fs) (rLenO C (lSp K fs)) := fun S F H h xs vs Q' Q r rx q lq => by
  obtain ⟨x, fl, rfl, q1, q⟩ := q
  obtain ⟨w, rfl, x1⟩ := rels_1 rx
  obtain ⟨a, dx, gs, e1, e2, e3⟩ := q1.l r x1
  subst e1
  refine ⟨a, dx, gs, rfl, e2, S, F, _, h, _, _, r, rx, q, fun v h' S' w H' q1 s1 r1 x2 => ?_, fun _ _ _ _ _ _ _ z => z.elim⟩
  obtain ⟨n, rfl, b, q1⟩ := q1
  exact ⟨n, rel_int.mp x2, b, lq _ _ _ _ _ q1 s1 r1 (rel_int.mpr rfl)⟩
theorem zlenO {k : Nat} {C : Addr} {ps : List Str} {fs : FS} {p : Pos} {e : Expr} {t : WA} (G : Mt X.prog X.w X.K X.mg X.base C "__len__" k ps [] fs) (hr : Room (k + 1) X.A) (hg : Gl X "len") (hm : X.mg "len" = none) (ha : ZA X W [e] t)
    (he : starEach [e] X.env = (false, eval e X.env) :: starEach [] X.env := by rfl) (hpl : (backTo pos (starEach [] X.env)).any (·.1) = false := by rfl) : ZE X W (.Call (.Name "len" p) [e] [] pos) (wCB (cLenO C fs) t) := by
  obtain ⟨f, fd, dvs, ds, F, hmm, hd, hdv, hb⟩ := G.ex
  have e0 : dvs = [] := rels_nil.mp (hdv fun _ => none)
  subst e0
  cases hd
  exact zcallB (call_lenO (ds := []) F hmm hb hr) s_lenO hg hm PySem.boot_len ha (by decide) (by decide) he hpl
theorem i_lenO {C : Addr} {fs : FS} {fl : List (Str × Val)} {h : Hh} {Q : KQ} (q : fs.sp [.obj C fl] h (fun _ _ _ => False) (fun v h' => ∃ n : Int, v = .int n ∧ (0 ≤ n ∧ n < 2 ^ 63) ∧ Q (.int n) h')) : cLenO C fs [.obj C fl] h Q := ⟨_, _, rfl, .obj C fl, q⟩
theorem i_lenOR {C a : Addr} {fs : FS} {fl : List (Str × Val)} {h : Hh} {Q : KQ} (e : h a = some (.ins C fl)) (q : fs.sp [.ref a] h (fun _ _ _ => False) (fun v h' => ∃ n : Int, v = .int n ∧ (0 ≤ n ∧ n < 2 ^ 63) ∧ Q (.int n) h')) : cLenO C fs [.ref a] h Q := ⟨_, _, rfl, .ref e, q⟩
/-! ### raise of an own class whose __init__ stores what -/
theorem R.sup {K : Fr} {S F H H' : Hp} {h : Hh} (r : R K S F H h) (e : ∀ b o, H b = some o → H' b = some o) : R K S F H' h :=
  ⟨fun a o q => e _ _ (r.sub a o q), fun a o q => ⟨e _ _ (r.frm a o q).1, (r.frm a o q).2⟩, fun a o q => by
    obtain ⟨h1, u, h2, h3⟩ := r.own a o q
    exact ⟨h1, u, e _ _ h2, h3⟩, r.ntp⟩
def spWhat (K : Fr) : L2.Sp := fun vs H Q _ => ∃ a C v, vs = [.ref a, v] ∧ OexC K C ∧ PySem.W.findIn K (.ref C) "what" = some none ∧ H a = some (exo a C none) ∧ ∀ dx, H dx = none → dx ≠ a → Q .non (upd (upd H dx (exd dx [("what", v)])) a (exo a C (some dx)))
structure Ex (P : Program) (w : World) (K : Fr) (mg : Str → Option Value) (base : Heap) (x : Str) (C : Addr) : Prop where
  ex : ∃ (fI : Addr) (fd : FuncData), FnOk P w K mg base CX0 1 fI fd ["self", "what"] (spWhat K) ∧ mg x = some (.ref C) ∧ OexC K C ∧ PySem.W.findIn K (.ref C) "__init__" = some (some (.ref fI)) ∧ PySem.W.typeIn K (.ref fI) = some (.type "function") ∧ Binds K fd ["self", "what"] [] ∧ PySem.W.findIn K (.ref C) "what" = some none
def wRaise (C : Addr) (te : WE) : WS := fun _ _ _ _ xe ρ h => te ρ h (atx xe ρ) fun v h1 => xe C v ρ h1
theorem zs_raise {x : Str} {C : Addr} {e : Expr} {te : WE} {p pos' : Pos} (tk : Takes X W) (hc : X.calm = true) (G : Ex X.prog X.w X.K X.mg X.base x C) (hr : Room 2 X.A) (hg : Gl X x) (ha : ZE X W e te) (hdb : (x == ("__debug__" : Str)) = false := by decide)
    (he : starEach [e] X.env = (false, eval e X.env) :: starEach [] X.env := by rfl) (hpl : (backTo pos (starEach [] X.env)).any (·.1) = false := by rfl) : ZS X W (.Raise (some (.Call (.Name x p) [e] [] pos)) none pos') (wRaise C te) := by
  obtain ⟨fI, fd, F, hm, T, iC, tI, hb, hn⟩ := G.ex
  refine ⟨ps_imp (ps_raise hc tk (pmk_oex T iC tI F hr hb .nil pass0 hg hm (L2.pa_cons ha.pe pa_nil he) hdb he hpl)) fun D σ H ⟨S, Fr, ρ, h, nx, rt, bk, ct, xe, r, rl, q, ln, lr, lb, lc, lx⟩ => ?_⟩
  refine ⟨S, Fr, ρ, h, _, _, r, rl, q, fun v h1 S1 w H1 q1 s1 r1 x1 => ⟨by simp, fun a na => ⟨a, C, w, rfl, T, hn, upd_same, fun dx hdx ne => ⟨rfl, dx, [("what", w)], upd_same, ?_, ?_, ?_⟩⟩⟩, lx.at rl⟩
  · rw [upd_ne ne, upd_same]
  · rw [upd_ne ne] at hdx; exact hdx
  · rw [upd_ne ne] at hdx
    obtain ⟨rF, sF⟩ := r1.frozen (p := dx) (u := .xd [("what", w)]) hdx
    refine lx _ _ _ _ _ w dx σ _ q1 (s1.trans sF) (rF.sup fun b o e => ?_) ((rl.mono s1).mono sF) (Rel.mono sF _ _ x1) upd_same
    by_cases c : b = dx
    · subst c
      rw [upd_same] at e ⊢
      exact e
    · rw [upd_ne c] at e
      have ba : b ≠ a := ne_of_none e na
      rw [upd_ne c, L2.del_ne ba, upd_ne ba, upd_ne c, upd_ne ba]
      exact e
theorem i_raise {C : Addr} {te : WE} {nx rt bk ct xe ρ h} (q : te ρ h (atx xe ρ) fun v h1 => xe C v ρ h1) : wRaise C te nx rt bk ct xe ρ h := q
end
/-- the def __init__(self, what): self.what = what of an error -/
theorem ok_what {P : Program} {w : World} {K : Fr} {mg : Str → Option Value} {base : Heap} {x qual : Str} {params : Arguments} {scope : Scope} {dvs : List V} {kws : List (Str × V)} {f : Addr} {fd : FuncData} {p1 p2 p3 p4 : Pos}
    (F : FunD K x qual params [.Assign [.Attribute (.Name "self" p1) "what" p2] (.Name "what" p3) p4] scope dvs kws f fd) (Sc : FnScope ["self", "what"] ["self", "what"] scope) (k1 : scope.names.lookup ("self" : Str) = some .local) (k2 : scope.names.lookup ("what" : Str) = some .local) : FnOk P w K mg base CX0 1 f fd ["self", "what"] (spWhat K) := by
  refine F.ok Sc (fun vs H Q E ⟨a, C, v, e, _⟩ => by subst e; rfl) fun cdv A outer s H vs Q E hr h => ?_
  obtain ⟨a, C, v, rfl, T, hn, ha, k⟩ := h
  refine ⟨_, pss_one (ps_ost (pv 0 rfl (Or.inl k1)) (pv 1 rfl (Or.inl k2))), ?_⟩
  exact ⟨v, rfl, _, rfl, a, C, rfl, T, hn, .inl ⟨ha, fun dx h1 h2 => k dx h1 h2⟩⟩
/-! ZB -/
/-! calls with keywords -/
/-- the values in the parameters' order: the i-th written one, the j-th keyword's -/
def arr {α : Type} : List (Sum Nat Nat) → List α → List α → List α
  | [], _, _ => []
  | .inl i :: p, vs, zs => (match vs[i]? with
    | some v => v :: arr p vs zs
    | none => arr p vs zs)
  | .inr i :: p, vs, zs => (match zs[i]? with
    | some v => v :: arr p vs zs
    | none => arr p vs zs)
structure FnK (P : Program) (w : World) (K : Fr) (mg : Str → Option Value) (base : Heap) (x : Str) (k : Nat) (ps : List Str) (n : Nat) (ks : List Str) (perm : List (Sum Nat Nat)) (fs : FS) : Prop where
  ex : ∃ (f : Addr) (fd : FuncData), FnOk P w K mg base (L2.CX P w) k f fd ps (lSp K fs) ∧ mg x = some (.ref f) ∧ PySem.W.keepIn K (.ref f) = true ∧ KBn K fd ps n ks (arr perm) (arr perm)
structure CkK (P : Program) (w : World) (K : Fr) (mg : Str → Option Value) (base : Heap) (x : Str) (C : Addr) (k : Nat) (ps : List Str) (n : Nat) (ks : List Str) (perm : List (Sum Nat Nat)) (fs : FS) : Prop where
  ex : ∃ (f : Addr) (fd : FuncData), FnOk P w K mg base (L2.CX P w) k f fd ps (lSp K fs) ∧ mg x = some (.ref C) ∧ Mk K C f ∧ KBn K fd ps (n + 1) ks (arr (.inl 0 :: perm.map fun | .inl i => .inl (i + 1) | .inr j => .inr j)) (arr (.inl 0 :: perm.map fun | .inl i => .inl (i + 1) | .inr j => .inr j))
section
variable {X : Cx} {W : WX} {pos : Pos} {k n : Nat} {x m : Str} {ps ks : List Str} {perm : List (Sum Nat Nat)} {fs : FS} {C : Addr} {p apos : Pos} {e o : Expr} {es : List Expr} {kws : List Keyword} {t tk0 : WA} {ta : WE}
structure ZK (X : Cx) (W : WX) (es : List Keyword) (t : WA) : Prop where
  pk : PK X es (lA X.K W t)
def wCallK (fs : FS) (n m : Nat) (perm : List (Sum Nat Nat)) (t tk : WA) : WE := fun ρ h E Q => t ρ h E fun vs h1 => tk ρ h1 E fun zs h2 => vs.length = n ∧ zs.length = m ∧ fs.sp (arr perm vs zs) h2 E Q
theorem i_callK {fs : FS} {n m : Nat} {perm : List (Sum Nat Nat)} {t tk : WA} {ρ h E} {Q : KQ} (q : t ρ h E fun vs h1 => tk ρ h1 E fun zs h2 => vs.length = n ∧ zs.length = m ∧ fs.sp (arr perm vs zs) h2 E Q) : wCallK fs n m perm t tk ρ h E Q := q
theorem i_l2 {a b c d : Nat} {A : Prop} (x : a = b) (y : c = d) (q : A) : a = b ∧ c = d ∧ A := ⟨x, y, q⟩
/-- C(k = v, ..) -/
def wMakeK (C : Addr) (fs : FS) (n m : Nat) (perm : List (Sum Nat Nat)) (t tk : WA) : WE := fun ρ h E Q => t ρ h E fun vs h1 => tk ρ h1 E fun zs h2 => vs.length = n ∧ zs.length = m ∧ ∀ a, h2 a = none → fs.sp (.ref a :: arr perm vs zs) (hup h2 a (.ins C [])) E (fun v h3 => v = .non ∧ MkEnd C a h3 Q)
theorem i_makeK {C : Addr} {fs : FS} {n m : Nat} {perm : List (Sum Nat Nat)} {t tk : WA} {ρ h E} {Q : KQ} (q : t ρ h E fun vs h1 => tk ρ h1 E fun zs h2 => vs.length = n ∧ zs.length = m ∧ ∀ a, h2 a = none → fs.sp (.ref a :: arr perm vs zs) (hup h2 a (.ins C [])) E (fun v h3 => v = .non ∧ MkEnd C a h3 Q)) : wMakeK C fs n m perm t tk ρ h E Q := q
end
/-! ZC -/
/-! the head's facts: errors too -/
def oexB (K : Fr) (C : Addr) : Bool := match K.lookup C with
  | some ⟨.type c, _, .cls cd, sl⟩ => (match cd.mro, sl.toList with
    | .ref C' :: bm, [_, _, _, _, some (.builtin n), _] => decide (c = "type") && (decide (C' = C) && (decide (n = "ValueError.__new__") && (!cd.hasDel && (cd.hasDict && PySem.HandSPX.refsVE bm))))
    | _, _ => false)
  | _ => false
/-- an error x whose __init__ is y's -/
def exB (K : Fr) (x y : Str) : Bool :=
  oexB K (He.ga K x) && (decide (PySem.W.findIn K (.ref (He.ga K x)) "__setattr__" = some (some (.builtin "object.__setattr__"))) &&
  (decide (PySem.W.subIn K (.ref (He.ga K x)) (.type "BaseException") = some true) && (decide (PySem.W.typeIn K (.ref (He.ga K x)) = some (.type "type")) &&
  (PySem.W.keepIn K (.ref (He.ga K x)) && (decide (PySem.W.findIn K (.ref (He.ga K x)) "__init__" = some (some (.ref (He.fAd K (y, some "__init__"))))) &&
  (decide (PySem.W.typeIn K (.ref (He.fAd K (y, some "__init__"))) = some (.type "function")) && decide (PySem.W.findIn K (.ref (He.ga K x)) "what" = some none)))))))
theorem oexB_ok {K : Fr} {C : Addr} (q : oexB K C = true) : ∃ nm q N bs bm sn sub ab col dd k0 k1 k2 k3 k5, K.lookup C = some (excClassObj nm q C N bs bm true sn sub ab col dd k0 k1 k2 k3 k5 "ValueError.__new__") ∧ PySem.HandSPX.refsVE bm = true := by
  unfold oexB at q
  split at q
  · rename_i c dd cd sl ho
    split at q
    · rename_i C' bm k0 k1 k2 k3 n k5 hm hs
      simp only [Bool.and_eq_true, decide_eq_true_eq, Bool.not_eq_true'] at q
      obtain ⟨rfl, rfl, rfl, hdel, hh, ht⟩ := q
      obtain ⟨nm, bs, mro, ns, qn, hd, sn, sub, ab, col, del⟩ := cd
      dsimp only at hm hdel hh
      subst hm hdel hh
      have hsl : sl = #[k0, k1, k2, k3, some (.builtin "ValueError.__new__"), k5] := by
        obtain ⟨l⟩ := sl
        simp only at hs
        rw [hs]
      subst hsl
      exact ⟨nm, qn, ns, bs, bm, sn, sub, ab, col, dd, k0, k1, k2, k3, k5, ho, ht⟩
    · cases q
  · cases q
structure ExB (K : Fr) (x y : Str) : Prop where
  oex : OexC K (He.ga K x)
  ini : PySem.W.findIn K (.ref (He.ga K x)) "__init__" = some (some (.ref (He.fAd K (y, some "__init__"))))
  typ : PySem.W.typeIn K (.ref (He.fAd K (y, some "__init__"))) = some (.type "function")
  wh : PySem.W.findIn K (.ref (He.ga K x)) "what" = some none
theorem exB_ok {K : Fr} {x y : Str} (q : exB K x y = true) : ExB K x y := by
  unfold exB at q
  simp only [Bool.and_eq_true, decide_eq_true_eq] at q
  obtain ⟨a, b, c, d, e, f, g, h⟩ := q
  exact ⟨⟨oexB_ok a, b, c, d, e⟩, f, g, h⟩
theorem ex_of {P : Program} {w : World} {K : Fr} {mg : Str → Option Value} {base : Heap} {x y : Str} {fd : FuncData} (F : FnOk P w K mg base CX0 1 (He.fAd K (y, some "__init__")) fd ["self", "what"] (spWhat K)) (hm : mg x = some (.ref (He.ga K x))) (e : ExB K x y) (hb : Binds K fd ["self", "what"] []) : Ex P w K mg base x (He.ga K x) :=
  ⟨_, fd, F, hm, e.oex, e.ini, e.typ, hb, e.wh⟩
/-! ### tables of the module: text keys, each value a tuple of texts -/
abbrev TabX : Type := Str × List (Str × List Str)
def tupA (K : Fr) (a : Addr) (zs : List Str) : Bool := match K.lookup a with
  | some ⟨.type c, _, .seq its _, _⟩ => decide (c = "tuple") && (decide (its.size ≤ sizeLine) && He.relAll (zs.map V.str) its.toList)
  | _ => false
theorem tupA_ok {K : Fr} {a : Addr} {zs : List Str} (h : tupA K a zs = true) (H : Hp) : SqT K H a (zs.map V.str) := by
  unfold tupA at h
  split at h
  · rename_i c od its n osl q
    simp only [Bool.and_eq_true, decide_eq_true_eq] at h
    obtain ⟨h1, h2, h3⟩ := h
    exact .inr ⟨_, its, n, q, congrArg Value.type h1, rfl, h2, He.relAll_ok h3⟩
  · cases h
def tabB (K : Fr) (t : TabX) : Bool := t.2.all fun q => match PySem.W.nsIn K (He.ga K t.1) q.1 with
  | some (some (.ref a)) => tupA K a q.2
  | _ => false
structure TabOk (K : Fr) (w : World) (mg : Str → Option Value) (x : Str) (tab : List (Str × List Str)) : Prop where
  ex : ∃ d, mg x = some (.ref d) ∧ ∀ q ∈ tab, ∃ a, KDct K w d q.1 (.ref a) ∧ ∀ S, SqT K S a (q.2.map V.str)
theorem tab_ok {K : Fr} {w : World} {mg : Str → Option Value} {x : Str} {tab : List (Str × List Str)} (hm : mg x = some (.ref (He.ga K x))) (hd : ∃ es n, KDict K w (He.ga K x) es n) (h : tabB K (x, tab) = true) : TabOk K w mg x tab := by
  obtain ⟨es, n, D⟩ := hd
  refine ⟨_, hm, fun q hq => ?_⟩
  have h2 := List.all_eq_true.mp h q hq
  split at h2
  · rename_i a e
    exact ⟨a, ⟨es, n, .ref a, D.at_, D.lit, e, rfl⟩, tupA_ok h2⟩
  · cases h2
theorem lookup_mem2 {tab : List (Str × List Str)} {z : Str} {zs : List Str} (h : tab.lookup z = some zs) : (z, zs) ∈ tab := by
  induction tab with
  | nil => cases h
  | cons p r ih =>
    obtain ⟨a, b⟩ := p
    rw [List.lookup_cons] at h
    cases e : z == a with
    | true =>
      rw [e] at h
      have e2 : b = zs := Option.some.inj h
      rw [beq_iff_eq.mp e, e2]
      exact List.mem_cons_self
    | false =>
      rw [e] at h
      exact List.mem_cons_of_mem _ (ih h)
/-- what an error's class must say -/
structure ErrC (K : Fr) (C : Addr) : Prop where
  g1 : PySem.W.findIn K (.ref C) "__getattribute__" = some (some (.builtin "BaseException.__getattribute__"))
  g2 : PySem.W.findIn K (.ref C) "__getattr__" = some none
  g3 : PySem.W.subIn K (.ref C) (.type "BaseException") = some true
  g4 : PySem.W.hasDictIn K C = true
  g5 : PySem.W.findIn K (.ref C) "__class__" = some (some (.builtin "object.__class__"))
  g6 : PySem.W.specialIn K (.builtin "object.__class__") "__get__" = some (some (.builtin "getset_descriptor.__get__"))
  g7 : PySem.W.takesIn K (.builtin "object.__class__") = some true
  g8 : PySem.W.mroIn K C (.type "object") = some true
  g9 : PySem.W.findIn K (.ref C) "what" = some none
def errB (K : Fr) (C : Addr) : Bool :=
  decide (PySem.W.findIn K (.ref C) "__getattribute__" = some (some (.builtin "BaseException.__getattribute__"))) && (decide (PySem.W.findIn K (.ref C) "__getattr__" = some none) &&
  (decide (PySem.W.subIn K (.ref C) (.type "BaseException") = some true) && (PySem.W.hasDictIn K C && (decide (PySem.W.findIn K (.ref C) "__class__" = some (some (.builtin "object.__class__"))) &&
  (decide (PySem.W.specialIn K (.builtin "object.__class__") "__get__" = some (some (.builtin "getset_descriptor.__get__"))) && (decide (PySem.W.takesIn K (.builtin "object.__class__") = some true) &&
  (decide (PySem.W.mroIn K C (.type "object") = some true) && decide (PySem.W.findIn K (.ref C) "what" = some none))))))))
theorem errB_ok {K : Fr} {C : Addr} (q : errB K C = true) : ErrC K C := by
  unfold errB at q
  simp only [Bool.and_eq_true, decide_eq_true_eq] at q
  obtain ⟨a, b, c, d, e, f, g, h, i⟩ := q
  exact ⟨a, b, c, d, e, f, g, h, i⟩
/-- more facts: an error's class, isinstance of errors -/
inductive Fb where
  | err (x : Str)
  | kit (x y : Str) (b : Bool)
  | kitT (x : Str) (n : String) (b : Bool)
  | any (p : Fr → Bool)
def Fb.ok (K : Fr) : Fb → Bool
  | .err x => errB K (He.ga K x)
  | .kit x y b => decide (PySem.W.kitOne K (.ref (He.ga K x)) (.ref (He.ga K y)) = some b)
  | .kitT x n b => decide (PySem.W.kitOne K (.ref (He.ga K x)) (.type n) = some b)
  | .any p => p K
/-! ### the Hook -/
abbrev AlE : Type := He.AlT × Bool
def tabsE (tb : List TabX) : List He.Tab := tb.map fun t => (fun K => He.ga K t.1, t.2.map (·.1))
def obsE (fa : List He.Fa) (fn : List He.DefD) (tb : List TabX) (xs : List (Str × Str)) (fb : List Fb) (K : Fr) : AlE := (He.obsT fa fn (tabsE tb) K, ((xs.all fun q => exB K q.1 q.2) && tb.all fun t => tabB K t) && fb.all (Fb.ok K))
def valE (fn : List He.DefD) (tb : List TabX) (w : World) : AlE := (He.valT fn (tabsE tb) w, true)
def SaysE (fa : List He.Fa) (fn : List He.DefD) (tb : List TabX) (xs : List (Str × Str)) (fb : List Fb) (w : World) (K : Fr) : Prop := obsE fa fn tb xs fb K = valE fn tb w
def obsEG (n : Nat) (fa : List He.Fa) (fn : List He.DefD) (tb : List TabX) (xs : List (Str × Str)) (fb : List Fb) (g : Addr → Option Obj) : AlE := obsE fa fn tb xs fb (He.frG g (He.asD g n))
def hookE (n : Nat) (fa : List He.Fa) (fn : List He.DefD) (tb : List TabX) (xs : List (Str × Str)) (fb : List Fb) : PySem.W.Hook where
  α := AlE
  obs := fun s => obsEG n fa fn tb xs fb s.heap.get?
  val := fun w => valE fn tb w
  says := fun w h => ∃ K : PySem.W.Frag, K.In h ∧ SaysE fa fn tb xs fb w K
  of := fun _ _ e => ⟨_, He.frG_in, e⟩
  keeps := fun _ _ _ ⟨K, hK, c⟩ k => ⟨K, PySem.W.Frag.In.keeps hK k, c⟩
omit [Wrl] in
theorem obsEG_eq {n : Nat} {fa : List He.Fa} {fn : List He.DefD} {tb : List TabX} {xs : List (Str × Str)} {fb : List Fb} {g : Addr → Option Obj} {s : Shared} (h : ∀ a, g a = s.heap.get? a) : obsEG n fa fn tb xs fb g = (hookE n fa fn tb xs fb).obs s := by
  have e : g = s.heap.get? := funext h
  rw [e] <;> rfl
section
variable {fa : List He.Fa} {fn : List He.DefD} {tb : List TabX} {xs : List (Str × Str)} {fb : List Fb} {w : World} {K : Fr}
theorem SaysE.t (c : SaysE fa fn tb xs fb w K) : He.SaysT fa fn (tabsE tb) w K := congrArg (fun z : AlE => z.1) c
theorem SaysE.d (c : SaysE fa fn tb xs fb w K) : He.SaysD fa fn K := c.t.d
theorem SaysE.b0 (c : SaysE fa fn tb xs fb w K) : ((xs.all fun q => exB K q.1 q.2) && tb.all fun t => tabB K t) = true ∧ fb.all (Fb.ok K) = true := Bool.and_eq_true_iff.mp (congrArg (fun z : AlE => z.2) c)
theorem SaysE.b (c : SaysE fa fn tb xs fb w K) : (xs.all fun q => exB K q.1 q.2) = true ∧ (tb.all fun t => tabB K t) = true := Bool.and_eq_true_iff.mp c.b0.1
theorem SaysE.fbk (c : SaysE fa fn tb xs fb w K) (i : Nat) {q : Fb} (h : fb[i]? = some q := by rfl) : q.ok K = true := List.all_eq_true.mp c.b0.2 q (List.mem_of_getElem? h)
theorem SaysE.err (c : SaysE fa fn tb xs fb w K) (i : Nat) {x : Str} (h : fb[i]? = some (.err x) := by rfl) : ErrC K (He.ga K x) := errB_ok (c.fbk i h)
theorem SaysE.kit (c : SaysE fa fn tb xs fb w K) (i : Nat) {x y : Str} {b : Bool} (h : fb[i]? = some (.kit x y b) := by rfl) : PySem.W.kitOne K (.ref (He.ga K x)) (.ref (He.ga K y)) = some b := of_decide_eq_true (c.fbk i h)
theorem SaysE.kitT (c : SaysE fa fn tb xs fb w K) (i : Nat) {x : Str} {n : String} {b : Bool} (h : fb[i]? = some (.kitT x n b) := by rfl) : PySem.W.kitOne K (.ref (He.ga K x)) (.type n) = some b := of_decide_eq_true (c.fbk i h)
theorem SaysE.any (c : SaysE fa fn tb xs fb w K) (i : Nat) {p : Fr → Bool} (h : fb[i]? = some (.any p) := by rfl) : p K = true := c.fbk i h
theorem SaysE.ex (c : SaysE fa fn tb xs fb w K) (i : Nat) {q : Str × Str} (h : xs[i]? = some q := by rfl) : ExB K q.1 q.2 := exB_ok (List.all_eq_true.mp c.b.1 q (List.mem_of_getElem? h))
theorem SaysE.tab (c : SaysE fa fn tb xs fb w K) {mg : Str → Option Value} (i : Nat) {t : TabX} (hm : mg t.1 = some (.ref (He.ga K t.1))) (h : tb[i]? = some t := by rfl) : TabOk K w mg t.1 t.2 :=
  tab_ok hm (c.t.tab i (t := (fun K => He.ga K t.1, t.2.map (·.1))) (by unfold tabsE; rw [List.getElem?_map, h]; rfl)) (List.all_eq_true.mp c.b.2 t (List.mem_of_getElem? h))
end
/-!  -/
end Z
/-! EARLY -/
namespace Z
open PySem PySem.Spec L2
variable [Wrl]
namespace K10
abbrev Pw : Program := PySem.Challenge.pw_sentahead_k10_whole_each_by_its_own_call
def top (i : Nat) : Stmt := Pw.main.body.getD i (.Pass ⟨0, 0, 0, 0⟩)
abbrev cl (K : Fr) : Str → Addr := He.ga K
abbrev s_World___len__ : Stmt := inClass (top 22) 3
abbrev s_World_house : Stmt := inClass (top 22) 1
abbrev s_Plain___init__ : Stmt := inClass (top 10) 0
abbrev s_Plain_thing : Stmt := inClass (top 10) 1
abbrev s_is_there : Stmt := top 20
abbrev s_refs_of : Stmt := top 19
abbrev s_is_good : Stmt := top 21
abbrev s_World___init__ : Stmt := inClass (top 22) 0
abbrev s_law_alike : Stmt := top 31
abbrev s_Plain_end : Stmt := inClass (top 10) 2
abbrev s_done_by_box : Stmt := top 8
abbrev s_done : Stmt := top 9
abbrev s_Plain_call : Stmt := inClass (top 10) 3
abbrev s_law_draw : Stmt := top 25
abbrev s_law_any : Stmt := top 26
abbrev s_law_value : Stmt := top 32
abbrev s_law_word : Stmt := top 33
abbrev s_law_calls : Stmt := top 34
abbrev s_law_done_again : Stmt := top 35
abbrev s_law_needed : Stmt := top 36
abbrev s_law_tray : Stmt := top 24
abbrev s_law_sizes : Stmt := top 27
abbrev s_law_ref : Stmt := top 28
abbrev s_law_thing : Stmt := top 29
abbrev s_law_world : Stmt := top 30
abbrev s_law : Stmt := top 37
abbrev s_SentError___init__ : Stmt := inClass (top 1) 0
theorem sc_World___len__ : FnScope ["self"] ["self"] (defScope s_World___len__) := ⟨rfl, rfl, rfl, by decide +kernel, rfl, by decide +kernel, by decide +kernel⟩
theorem sc_World_house : FnScope ["self", "number"] ["self", "number"] (defScope s_World_house) := ⟨rfl, rfl, rfl, by decide +kernel, rfl, by decide +kernel, by decide +kernel⟩
theorem sc_Plain___init__ : FnScope ["self", "world", "house", "number", "thing"] ["self", "world"] (defScope s_Plain___init__) := ⟨rfl, rfl, rfl, by decide +kernel, rfl, by decide +kernel, by decide +kernel⟩
theorem sc_Plain_thing : FnScope ["self", "ref"] ["self", "ref"] (defScope s_Plain_thing) := ⟨rfl, rfl, rfl, by decide +kernel, rfl, by decide +kernel, by decide +kernel⟩
theorem sc_is_there : FnScope ["houses", "ref"] ["houses", "ref"] (defScope s_is_there) := ⟨rfl, rfl, rfl, by decide +kernel, rfl, by decide +kernel, by decide +kernel⟩
theorem sc_refs_of : FnScope ["thing"] ["thing"] (defScope s_refs_of) := ⟨rfl, rfl, rfl, by decide +kernel, rfl, by decide +kernel, by decide +kernel⟩
theorem sc_is_good : FnScope ["houses", "things", "thing", "refs", "ref"] ["houses", "things"] (defScope s_is_good) := ⟨rfl, rfl, rfl, by decide +kernel, rfl, by decide +kernel, by decide +kernel⟩
theorem sc_World___init__ : FnScope ["self", "houses", "things"] ["self", "houses"] (defScope s_World___init__) := ⟨rfl, rfl, rfl, by decide +kernel, rfl, by decide +kernel, by decide +kernel⟩
theorem sc_law_alike : FnScope ["found", "due", "k"] ["found", "due"] (defScope s_law_alike) := ⟨rfl, rfl, rfl, by decide +kernel, rfl, by decide +kernel, by decide +kernel⟩
theorem sc_Plain_end : FnScope ["self", "ref", "passed", "thing"] ["self", "ref"] (defScope s_Plain_end) := ⟨rfl, rfl, rfl, by decide +kernel, rfl, by decide +kernel, by decide +kernel⟩
theorem sc_done_by_box : FnScope ["worth", "word", "value"] ["worth", "word", "value"] (defScope s_done_by_box) := ⟨rfl, rfl, rfl, by decide +kernel, rfl, by decide +kernel, by decide +kernel⟩
theorem sc_done : FnScope ["thing", "word", "value", "made"] ["thing", "word", "value", "made"] (defScope s_done) := ⟨rfl, rfl, rfl, by decide +kernel, rfl, by decide +kernel, by decide +kernel⟩
theorem sc_Plain_call : FnScope ["self", "ref", "word", "value", "asker", "row", "at", "made", "thing", "answer", "box"] ["self", "ref", "word", "value", "asker", "row"] (defScope s_Plain_call) := ⟨rfl, rfl, rfl, by decide +kernel, rfl, by decide +kernel, by decide +kernel⟩
theorem sc_law_draw : FnScope ["tray", "many", "found", "mixed"] ["tray", "many"] (defScope s_law_draw) := ⟨rfl, rfl, rfl, by decide +kernel, rfl, by decide +kernel, by decide +kernel⟩
theorem sc_law_any : FnScope ["tray", "kind", "found", "k"] ["tray"] (defScope s_law_any) := ⟨rfl, rfl, rfl, by decide +kernel, rfl, by decide +kernel, by decide +kernel⟩
theorem sc_law_value : FnScope ["tray", "word", "refs", "kind", "causes"] ["tray", "word", "refs"] (defScope s_law_value) := ⟨rfl, rfl, rfl, by decide +kernel, rfl, by decide +kernel, by decide +kernel⟩
theorem sc_law_word : FnScope ["tray", "thing", "words", "kind", "word"] ["tray", "thing"] (defScope s_law_word) := ⟨rfl, rfl, rfl, by decide +kernel, rfl, by decide +kernel, by decide +kernel⟩
theorem sc_law_calls : FnScope ["tray", "plain", "houses", "many", "refs", "house", "number", "calls", "row", "ref", "end", "word", "value", "asker", "answer"] ["tray", "plain", "houses", "many"] (defScope s_law_calls) := ⟨rfl, rfl, rfl, by decide +kernel, rfl, by decide +kernel, by decide +kernel⟩
theorem sc_law_done_again : FnScope ["houses", "calls", "things", "plain", "end", "ref", "word", "value", "asker", "row", "answer"] ["houses", "calls"] (defScope s_law_done_again) := ⟨rfl, rfl, rfl, by decide +kernel, rfl, by decide +kernel, by decide +kernel⟩
theorem sc_law_needed : FnScope ["calls", "end", "found", "one"] ["calls", "end"] (defScope s_law_needed) := ⟨rfl, rfl, rfl, by decide +kernel, rfl, by decide +kernel, by decide +kernel⟩
theorem sc_law_tray : FnScope ["script", "fold", "great", "cell", "size"] ["script"] (defScope s_law_tray) := ⟨rfl, rfl, rfl, by decide +kernel, rfl, by decide +kernel, by decide +kernel⟩
theorem sc_law_sizes : FnScope ["tray", "wide", "bounds", "many", "k"] ["tray"] (defScope s_law_sizes) := ⟨rfl, rfl, rfl, by decide +kernel, rfl, by decide +kernel, by decide +kernel⟩
theorem sc_law_ref : FnScope ["tray", "sizes", "at", "house", "size"] ["tray", "sizes"] (defScope s_law_ref) := ⟨rfl, rfl, rfl, by decide +kernel, rfl, by decide +kernel, by decide +kernel⟩
theorem sc_law_thing : FnScope ["tray", "sizes", "kind", "many", "k"] ["tray", "sizes"] (defScope s_law_thing) := ⟨rfl, rfl, rfl, by decide +kernel, rfl, by decide +kernel, by decide +kernel⟩
theorem sc_law_world : FnScope ["tray", "sizes", "houses", "size", "k"] ["tray"] (defScope s_law_world) := ⟨rfl, rfl, rfl, by decide +kernel, rfl, by decide +kernel, by decide +kernel⟩
theorem sc_law : FnScope ["script", "tray", "houses", "things", "plain", "calls", "finals", "one", "end", "again", "rest"] ["script"] (defScope s_law) := ⟨rfl, rfl, rfl, by decide +kernel, rfl, by decide +kernel, by decide +kernel⟩
theorem sc_SentError___init__ : FnScope ["self", "what"] ["self", "what"] (defScope s_SentError___init__) := ⟨rfl, rfl, rfl, by decide +kernel, rfl, by decide +kernel, by decide +kernel⟩
def d_World___len__ : He.DefD := ⟨("World", some "__len__"), "__len__", "World.__len__", defArgs s_World___len__, defBody s_World___len__, defScope s_World___len__, [], []⟩
def d_World_house : He.DefD := ⟨("World", some "house"), "house", "World.house", defArgs s_World_house, defBody s_World_house, defScope s_World_house, [], []⟩
def d_Plain___init__ : He.DefD := ⟨("Plain", some "__init__"), "__init__", "Plain.__init__", defArgs s_Plain___init__, defBody s_Plain___init__, defScope s_Plain___init__, [], []⟩
def d_Plain_thing : He.DefD := ⟨("Plain", some "thing"), "thing", "Plain.thing", defArgs s_Plain_thing, defBody s_Plain_thing, defScope s_Plain_thing, [], []⟩
def d_is_there : He.DefD := ⟨("is_there", none), "is_there", "is_there", defArgs s_is_there, defBody s_is_there, defScope s_is_there, [], []⟩
def d_refs_of : He.DefD := ⟨("refs_of", none), "refs_of", "refs_of", defArgs s_refs_of, defBody s_refs_of, defScope s_refs_of, [], []⟩
def d_is_good : He.DefD := ⟨("is_good", none), "is_good", "is_good", defArgs s_is_good, defBody s_is_good, defScope s_is_good, [], []⟩
def d_World___init__ : He.DefD := ⟨("World", some "__init__"), "__init__", "World.__init__", defArgs s_World___init__, defBody s_World___init__, defScope s_World___init__, [], []⟩
def d_law_alike : He.DefD := ⟨("_law_alike", none), "_law_alike", "_law_alike", defArgs s_law_alike, defBody s_law_alike, defScope s_law_alike, [], []⟩
def d_Plain_end : He.DefD := ⟨("Plain", some "end"), "end", "Plain.end", defArgs s_Plain_end, defBody s_Plain_end, defScope s_Plain_end, [], []⟩
def d_done_by_box : He.DefD := ⟨("done_by_box", none), "done_by_box", "done_by_box", defArgs s_done_by_box, defBody s_done_by_box, defScope s_done_by_box, [], []⟩
def d_done : He.DefD := ⟨("done", none), "done", "done", defArgs s_done, defBody s_done, defScope s_done, [.non], []⟩
def d_Plain_call : He.DefD := ⟨("Plain", some "call"), "call", "Plain.call", defArgs s_Plain_call, defBody s_Plain_call, defScope s_Plain_call, [], []⟩
def d_law_draw : He.DefD := ⟨("_law_draw", none), "_law_draw", "_law_draw", defArgs s_law_draw, defBody s_law_draw, defScope s_law_draw, [], []⟩
def d_law_any : He.DefD := ⟨("_law_any", none), "_law_any", "_law_any", defArgs s_law_any, defBody s_law_any, defScope s_law_any, [], []⟩
def d_law_value : He.DefD := ⟨("_law_value", none), "_law_value", "_law_value", defArgs s_law_value, defBody s_law_value, defScope s_law_value, [], []⟩
def d_law_word : He.DefD := ⟨("_law_word", none), "_law_word", "_law_word", defArgs s_law_word, defBody s_law_word, defScope s_law_word, [], []⟩
def d_law_calls : He.DefD := ⟨("_law_calls", none), "_law_calls", "_law_calls", defArgs s_law_calls, defBody s_law_calls, defScope s_law_calls, [], []⟩
def d_law_done_again : He.DefD := ⟨("_law_done_again", none), "_law_done_again", "_law_done_again", defArgs s_law_done_again, defBody s_law_done_again, defScope s_law_done_again, [], []⟩
def d_law_needed : He.DefD := ⟨("_law_needed", none), "_law_needed", "_law_needed", defArgs s_law_needed, defBody s_law_needed, defScope s_law_needed, [], []⟩
def d_law_tray : He.DefD := ⟨("_law_tray", none), "_law_tray", "_law_tray", defArgs s_law_tray, defBody s_law_tray, defScope s_law_tray, [], []⟩
def d_law_sizes : He.DefD := ⟨("_law_sizes", none), "_law_sizes", "_law_sizes", defArgs s_law_sizes, defBody s_law_sizes, defScope s_law_sizes, [], []⟩
def d_law_ref : He.DefD := ⟨("_law_ref", none), "_law_ref", "_law_ref", defArgs s_law_ref, defBody s_law_ref, defScope s_law_ref, [], []⟩
def d_law_thing : He.DefD := ⟨("_law_thing", none), "_law_thing", "_law_thing", defArgs s_law_thing, defBody s_law_thing, defScope s_law_thing, [], []⟩
def d_law_world : He.DefD := ⟨("_law_world", none), "_law_world", "_law_world", defArgs s_law_world, defBody s_law_world, defScope s_law_world, [], []⟩
def d_law : He.DefD := ⟨("law", none), "law", "law", defArgs s_law, defBody s_law, defScope s_law, [], []⟩
def d_SentError___init__ : He.DefD := ⟨("SentError", some "__init__"), "__init__", "SentError.__init__", defArgs s_SentError___init__, defBody s_SentError___init__, defScope s_SentError___init__, [], []⟩
def fn : List He.DefD := [d_World___len__, d_World_house, d_Plain___init__, d_Plain_thing, d_is_there, d_refs_of, d_is_good, d_World___init__, d_law_alike, d_Plain_end, d_done_by_box, d_done, d_Plain_call, d_law_draw, d_law_any, d_law_value, d_law_word, d_law_calls, d_law_done_again, d_law_needed, d_law_tray, d_law_sizes, d_law_ref, d_law_thing, d_law_world, d_law, d_SentError___init__]
def fa : List He.Fa := [.cls "Plain", .cls "World", .free "bool", .free "enumerate", .free "int", .free "isinstance", .free "len", .free "list", .free "max", .free "range", .free "str", .free "sum", .free "tuple", .int "MOST_HOUSES" 8, .int "MOST_REFS" 12, .int "MOST_THINGS" 12, .noat "Plain" "things_kept", .noat "World" "houses_kept", .glo "VERBS", .glo "NoHouse", .glo "NoThing", .glo "NoWorld", .glo "Twice", .meth "World" "__len__", .meth "World" "house", .glo "is_there", .glo "refs_of", .glo "is_good", .glo "_law_alike", .meth "Plain" "thing", .glo "done_by_box", .meth "Plain" "end", .glo "done", .glo "_law_draw", .glo "_law_any", .meth "Plain" "call", .glo "_law_value", .glo "_law_word", .glo "Plain", .mkr "Plain", .glo "World", .mkr "World", .glo "_law_ref", .glo "_law_sizes", .glo "_law_thing", .glo "_law_calls", .glo "_law_done_again", .glo "_law_needed", .glo "_law_tray", .glo "_law_world", .glo "law"]
def xs : List (Str × Str) := [("NoHouse", "SentError"), ("NoThing", "SentError"), ("NoWorld", "SentError"), ("Twice", "SentError")]
def fb : List Fb := []
def tb : List TabX := [("VERBS", [("box", ["get", "put", "add"]), ("shelf", ["take"]), ("maker", ["make"])])]
abbrev R : PySem.W.OpenRow := PySem.W.OpenLaw.row PySem.Challenge.rw_sentahead_k10_whole_each_by_its_own_call
abbrev hk : PySem.W.Hook := hookE 4 fa fn tb xs fb
def ob (s : PySem.W.SharedT) : AlE := obsEG 4 fa fn tb xs fb (HandSHeadRun.getT s)
omit [Wrl] in
theorem ob_eq (s : PySem.W.SharedT) : ob s = hk.obs s.abs := obsEG_eq (HandSHeadRun.getT_eq s)
abbrev nms0 : List Str := ["__name__", "SentError", "NoWorld", "NoHouse", "NoThing", "Twice", "VERBS", "done_by_box", "done", "Plain", "ref_text", "thing_text", "house_text", "MOST_HOUSES", "MOST_THINGS", "MOST_REFS", "refs_of", "is_there", "is_good", "World"]
abbrev nms1 : List Str := ["_law_tray", "_law_draw", "_law_any", "_law_sizes", "_law_ref", "_law_thing", "_law_world", "_law_alike", "_law_value", "_law_word", "_law_calls", "_law_done_again", "_law_needed"]
abbrev nms : List Str := nms0 ++ nms1
omit [Wrl] in
theorem run_f (w : World) : HandSHeadRun.RunEq R (PySem.W.view R.prog [37]) hk ob 9000 nms (w.withFollow "special-get-raises" false) := by
  intro os
  kernel_rfl
omit [Wrl] in
theorem run_t (w : World) : HandSHeadRun.RunEq R (PySem.W.view R.prog [37]) hk ob 9000 nms (w.withFollow "special-get-raises" true) := by
  intro os
  kernel_rfl
omit [Wrl] in
theorem run (w : World) : HandSHeadRun.RunEq R (PySem.W.view R.prog [37]) hk ob 9000 nms w := by
  revert w
  exact PySem.W.byRow2 "special-get-raises" run_f run_t
/-- what the walk has to show -/
def FactsT : Prop := ∀ [Wrl] {w : World}, w = Wrl.w → ∀ {K : PySem.W.Frag} {h : Heap} {mg : Str → Option Value} {f : Addr}, K.In h → h.Ns mainGlobals mg → mg ("law" : Str) = some (.ref f) → SaysE fa fn tb xs fb w K → ∃ fd : FuncData, (∀ (s : Shared) (v : Value), BindsTo s fd ⟨[v], []⟩ [("script", v)]) ∧ ∀ base : Heap, FnOk (PySem.Challenge.rw_sentahead_k10_whole_each_by_its_own_call).prog w K mg base CX0 10 f fd ["script"] (lSp K ⟨Unit, fun _ => preL, fun _ _ v _ => v = .bl true, fun _ _ _ _ _ => False⟩)
end K10
end Z
open PySem PySem.W PySem.Calls PyProof.Rows in
theorem Z.K10.pre (F : Z.K10.FactsT) : PySem.Challenge.rw_sentahead_k10_whole_each_by_its_own_call.Holds := by
  w_on; o_law
  refine HandSHeadRun.head_any (r := OpenLaw.row PySem.Challenge.rw_sentahead_k10_whole_each_by_its_own_call) (q := view (OpenLaw.row PySem.Challenge.rw_sentahead_k10_whole_each_by_its_own_call).prog [37]) (H := Z.K10.hk) (ob := Z.K10.ob) (M := 9000) (loose := Z.K10.nms) (d := HandSHeadRun.topDef (OpenLaw.row PySem.Challenge.rw_sentahead_k10_whole_each_by_its_own_call).prog 37) (kwd := []) Z.K10.ob_eq
    (by kernel_rfl) (fun s => by kernel_rfl) Z.K10.run (by kernel_rfl) (by kernel_rfl) (by kernel_rfl) (by rfl) (by first | assumption | decide +kernel) (by decide +kernel) ⟨rfl, rfl, rfl, rfl, rfl, by decide +kernel⟩ ?hw ?hc
  case hw => w_witness2
  case hc =>
    refine L2.walk_ofE (l := PySem.Challenge.rw_sentahead_k10_whole_each_by_its_own_call) (n := 63) (k := 10) (x := "script") (CX := L2.CX0) rfl (by decide) (by kernel_rfl) ⟨rfl, by decide, by decide⟩ ?F (fun _ _ _ _ z => z)
    intro w mg fa h Y G hmg0
    obtain ⟨K, KX, c⟩ := Y
    have hmg : mg ("law" : PySem.Str) = some (.ref fa) := by
      have e : (HandSHeadRun.topDef (OpenLaw.row PySem.Challenge.rw_sentahead_k10_whole_each_by_its_own_call).prog 37).name = ("law" : PySem.Str) := by kernel_rfl
      rw [← e]
      exact hmg0
    letI : Z.Wrl := ⟨w⟩
    obtain ⟨fd, hb, hF⟩ := F (w := w) rfl KX G hmg c
    exact ⟨K, fd, _, KX, hb, fun H a ns hl _ hS => Z.law_sp hl hS, fun base _ _ => hF base⟩
/-!  -/
namespace Z
/-! ZD -/
/-! more words: in a range, in a flat list; a table of the module -/
open PySem PySem.Spec PyProof.Rows L2
variable [Wrl]
section
variable {X : Cx} {W : WX} {pos : Pos}
/-! ### in a range -/
def wRgIn (neg : Bool) (ta : WE) (t : WA) : WE := fun ρ h E Q => ta ρ h E fun x h1 => t ρ h1 E fun vs h2 => ∃ i n, x = .int i ∧ vs = [.int n] ∧ Q (.bl (if neg then !decide (0 ≤ i ∧ i < n) else decide (0 ≤ i ∧ i < n))) h2
variable {a e : Expr} {ta : WE} {t : WA} {p p2 : Pos}
/-- a comparison's value as a test -/
theorem lE_test {K : Fr} {W : WX} {t : WE} {σ : L2.St} {H : Hp} {Q : Bool → Hp → Prop} (q : lT K W (wTv t) σ H Q) : lE K W t σ H (fun x H' => ∃ k, x = .bl k ∧ Q k H') := by
  obtain ⟨S, F, ρ, h, E', Q', r, rl, q, lq, lx⟩ := q
  exact ⟨S, F, ρ, h, E', _, r, rl, q, fun v h' S' w H' ⟨c, e, q'⟩ s' r' x' => ⟨c, by subst e; exact rel_bl.mp x', lq _ _ _ _ q' s' r'⟩, lx⟩
theorem i_rgin {neg : Bool} {ta : WE} {t : WA} {ρ h E} {Q : KQ} (q : ta ρ h E fun x h1 => t ρ h1 E fun vs h2 => ∃ i n, x = .int i ∧ vs = [.int n] ∧ Q (.bl (if neg then !decide (0 ≤ i ∧ i < n) else decide (0 ≤ i ∧ i < n))) h2) : wRgIn neg ta t ρ h E Q := q
/-! ### in a list or tuple of flat values -/
def fv : Val → V
  | .bl b => .bl b
  | .int i => .int i
  | .str z => .str z
  | _ => .non
def flX : Val → Bool
  | .non => true
  | .bl _ => true
  | .int _ => true
  | .str _ => true
  | _ => false
theorem rel_fl {K : Fr} {S : Hp} {x : Val} {v : V} (r : Rel K S x v) (f : flX x = true) : v = fv x ∧ flatV v = true := by
  cases x with
  | non => rw [rel_non] at r; subst r; exact ⟨rfl, rfl⟩
  | bl b => rw [rel_bl] at r; subst r; exact ⟨rfl, rfl⟩
  | int b => rw [rel_int] at r; subst r; exact ⟨rfl, rfl⟩
  | str b => rw [rel_str] at r; subst r; exact ⟨rfl, rfl⟩
  | _ => cases f
/-! ### in a table's tuple -/
def wTabIn (neg : Bool) (tab : List (Str × List Str)) (ta te : WE) : WE := fun ρ h E Q => ta ρ h E fun x h1 => te ρ h1 E fun y h2 => ∃ z zs, y = .str z ∧ tab.lookup z = some zs ∧ flX x = true ∧ Q (.bl (if neg then !inV (fv x) (zs.map V.str) else inV (fv x) (zs.map V.str))) h2
theorem tab_body {neg : Bool} {K : Fr} {w : World} {tab : List (Str × List Str)} {d : Addr} {S F : Hp} {H : Hp} {h : Hh} {x y : Val} {v u : V} {Q' : KQ} {Q : VK} (ht : ∀ q ∈ tab, ∃ a, KDct K w d q.1 (.ref a) ∧ ∀ S, SqT K S a (q.2.map V.str)) (r : R K S F H h) (x1 : Rel K S x v) (x2 : Rel K S y u) (lq : LQ K S F Q' Q)
    (q : ∃ z zs, y = .str z ∧ tab.lookup z = some zs ∧ flX x = true ∧ Q' (.bl (if neg then !inV (fv x) (zs.map V.str) else inV (fv x) (zs.map V.str))) h) : rIxD K w (.ref d) u H fun y2 H2 => rIn K neg v y2 H2 Q := by
  obtain ⟨z, zs, rfl, hl, fx, q⟩ := q
  obtain ⟨a, kd, hq⟩ := ht _ (lookup_mem2 hl)
  obtain ⟨e1, e2⟩ := rel_fl x1 fx
  refine ⟨d, z, .ref a, rfl, rel_str.mp x2, kd, a, _, rfl, .inr (hq H), e2, ?_, ?_⟩
  · rw [List.all_eq_true]
    intro b hb
    obtain ⟨c, _, rfl⟩ := List.mem_map.mp hb
    rfl
  · rw [e1]
    exact lq _ _ S _ _ q (Sub.refl S) r (rel_bl.mpr rfl)
theorem zttabnin {x : Str} {tab : List (Str × List Str)} {te : WE} (hg : Gl X x) (T : TabOk X.K X.w X.mg x tab) (ha : ZE X W a ta) (he : ZE X W e te) (hi : PlainIx e) (hmk : behindInMarks .NotIn (.Subscript (.Name x p) e p2) = false := by rfl) (hd : (x == ("__debug__" : Str)) = false := by decide) :
    ZT X W (.Compare a [.NotIn] [.Subscript (.Name x p) e p2] pos) (wTv (wTabIn true tab ta te)) := by
  obtain ⟨d, hm, ht⟩ := T.ex
  exact ⟨pt_imp (pt_cmpR op_notIn_seq ha.pe (pe_ix ix_kdict (pe_glob (v := .ref d) hg hm rfl hd) he.pe hi) hmk) fun σ H Q q => by
    obtain ⟨S, F, ρ, h, E', Q', r, rl, q, lq, lx⟩ := lE_test q
    exact ⟨S, F, ρ, h, E', _, r, rl, q, fun x h1 S1 v H1 q1 s1 r1 x1 => ⟨S1, F, ρ, h1, E', _, r1, rl.mono s1, q1, fun y h2 S2 us H2 q2 s2 r2 x2 =>
      tab_body (neg := true) ht r2 (Rel.mono s2 _ _ x1) x2 ((lq.mono s1).mono s2) q2, lx.mono s1⟩, lx⟩⟩
theorem i_tabin {neg : Bool} {tab : List (Str × List Str)} {ta te : WE} {ρ h E} {Q : KQ} (q : ta ρ h E fun x h1 => te ρ h1 E fun y h2 => ∃ z zs, y = .str z ∧ tab.lookup z = some zs ∧ flX x = true ∧ Q (.bl (if neg then !inV (fv x) (zs.map V.str) else inV (fv x) (zs.map V.str))) h2) : wTabIn neg tab ta te ρ h E Q := q
end
/-! ZF0 -/
/-! dicts whose keys are tuples of any depth: reading, writing -/
theorem hu10 {k : Nat} {A : Around} (hr : Room k A) : A.units + 10 < cLine := by have := hr.un; omega
/-- what a dict that stands at a does with the key y: r, what it holds there -/
structure DictR (X : Cx) (H : Hp) (a : Addr) (y : V) (r : Option V) : Prop where
  ty : ∀ {pins : List (Addr × Obj)} {σ : L2.St} {s : Shared}, Inv X pins σ H s → s.TypeIs (.ref a) "dict"
  get : ∀ {pins : List (Addr × Obj)} {σ : L2.St} {s : Shared} {u : Value} {A : Around} {E : Value → Shared → Prop} {Q : Value → Shared → Prop} {v : V}, A.units + 10 < cLine → Inv X pins σ H s → RelV y u → r = some v → (∀ w' s', Inv X pins σ H s' → RelV v w' → Q w' s') →
    wpAny (model X.prog X.w) A (getItem (.ref a) u) Q E s
  in_ : ∀ {pins : List (Addr × Obj)} {σ : L2.St} {s : Shared} {u : Value} {A : Around} {E : Value → Shared → Prop} {Q : Value → Shared → Prop}, A.units + 10 < cLine → Inv X pins σ H s → RelV y u → (∀ s', Inv X pins σ H s' → Q (.bool r.isSome) s') →
    wpAny (model X.prog X.w) A (compareOp .In u (.ref a)) Q E s
  out : ∀ {pins : List (Addr × Obj)} {σ : L2.St} {s : Shared} {u : Value} {A : Around} {E : Value → Shared → Prop} {Q : Value → Shared → Prop}, A.units + 10 < cLine → Inv X pins σ H s → RelV y u → (∀ s', Inv X pins σ H s' → Q (.bool (!r.isSome)) s') →
    wpAny (model X.prog X.w) A (compareOp .NotIn u (.ref a)) Q E s
theorem DictR.of {X : Cx} {H : Hp} {a : Addr} {y : V} {r : Option V} (g : DGet H a y r) : DictR X H a y r where
  ty := fun I => dict_typeIs I g
  get := fun hu I ry e h => by subst e; exact d_getItem (by omega) I g ry h
  in_ := fun hu I ry h => d_in (by omega) I g ry h
  out := fun hu I ry h => d_notIn (by omega) I g ry h
/-- a store: G, the heaps that may be behind it -/
def PutR (X : Cx) (H : Hp) (a : Addr) (y v : V) (G : Hp → Prop) : Prop :=
  ∀ {pins : List (Addr × Obj)} {σ : L2.St} {s : Shared} {u r : Value} {A : Around} {E : Value → Shared → Prop} {Q : Unit → Shared → Prop}, A.units + 10 < cLine → Inv X pins σ H s → RelV y u → RelV v r → (∀ H' s', G H' → Inv X pins σ H' s' → Q () s') →
    wpAny (model X.prog X.w) A (setItem (.ref a) u r) Q E s
theorem PutR.of {X : Cx} {H H' : Hp} {a : Addr} {y v : V} (g : DPut H a y v H') : PutR X H a y v (· = H') := fun hu I ry rv h => d_setItem (by omega) I g ry rv fun s' I' => h _ s' rfl I'
section
variable {X : Cx} {o i e value : Expr} {pos pos' tpos : Pos} {td ty tv : L2.TE}
def tDGetG (X : Cx) (td ty : L2.TE) : L2.TE := fun σ H Q => td σ H fun x H1 => ty σ H1 fun y H2 => ∃ a v, x = .ref a ∧ DictR X H2 a y (some v) ∧ Q v H2
def tDInG (X : Cx) (ty td : L2.TE) : L2.TE := fun σ H Q => ty σ H fun y H1 => td σ H1 fun x H2 => ∃ a o, x = .ref a ∧ DictR X H2 a y o ∧ Q (.bl o.isSome) H2
def tDNotInG (X : Cx) (ty td : L2.TE) : L2.TE := fun σ H Q => ty σ H fun y H1 => td σ H1 fun x H2 => ∃ a o, x = .ref a ∧ DictR X H2 a y o ∧ Q (.bl (!o.isSome)) H2
def sDPutG (X : Cx) (td ty tv : L2.TE) : L2.TS := fun D σ H => tv σ H fun v H1 => td σ H1 fun x H2 => ty σ H2 fun y H3 => ∃ a G, x = .ref a ∧ PutR X H3 a y v G ∧ ∀ H4, G H4 → D.nx σ H4
theorem pe_dgetG (hu : X.A.units + 10 < cLine) (ho : PE X o td) (hi : PE X i ty) (hs : NoSl i) : PE X (.Subscript o i pos) (tDGetG X td ty) := by
  refine ⟨fun pins s σ H Q I h => ?_⟩
  refine subD_of PySem.F.slot_dict_getitem.lookup hs (thn (ho.run pins s σ H _ I h) fun u s1 ⟨x, H1, I1, rx, q1⟩ => thn (hi.run pins s1 σ H1 _ I1 q1) fun iv s2 ⟨y, H2, I2, ry, a, v, ex, g, q2⟩ => ?_)
  subst ex
  obtain rfl : u = Value.ref a := rx
  exact ⟨g.ty I2, g.get hu I2 ry rfl fun w' s3 I3 rw' => ⟨v, H2, I3, rw', q2⟩⟩
theorem pc_dinG (hu : X.A.units + 10 < cLine) (hi : PE X i ty) (ho : PE X o td) : PC X .In i o (tDInG X ty td) := by
  refine ⟨fun pins s σ H Q I h => ?_⟩
  refine thn (hi.run pins s σ H _ I h) fun iv s1 ⟨y, H1, I1, ry, q1⟩ => thn (ho.run pins s1 σ H1 _ I1 q1) fun u s2 ⟨x, H2, I2, rx, a, ov, ex, g, q2⟩ => ?_
  subst ex
  obtain rfl : u = Value.ref a := rx
  exact g.in_ hu I2 ry fun s3 I3 => ⟨.bl ov.isSome, H2, I3, rfl, q2⟩
theorem pc_dnotinG (hu : X.A.units + 10 < cLine) (hi : PE X i ty) (ho : PE X o td) : PC X .NotIn i o (tDNotInG X ty td) := by
  refine ⟨fun pins s σ H Q I h => ?_⟩
  refine thn (hi.run pins s σ H _ I h) fun iv s1 ⟨y, H1, I1, ry, q1⟩ => thn (ho.run pins s1 σ H1 _ I1 q1) fun u s2 ⟨x, H2, I2, rx, a, ov, ex, g, q2⟩ => ?_
  subst ex
  obtain rfl : u = Value.ref a := rx
  exact g.out hu I2 ry fun s3 I3 => ⟨.bl (!ov.isSome), H2, I3, rfl, q2⟩
theorem ps_dputG (hu : X.A.units + 10 < cLine) (ho : PE X o td) (hi : PE X i ty) (hv : PE X value tv) (hs : swapsWith value (some (.Subscript o i pos')) pos.line X.env = pure false) :
    PS X (.Assign [.Subscript o i pos'] value pos) (sDPutG X td ty tv) := by
  refine ⟨fun pins s σ H D I h => ?_⟩
  refine wpAny_Assign_Subscript (thn (hv.run pins s σ H _ I h) fun r s1 ⟨v, H1, I1, rv, q1⟩ => thn (ho.run pins s1 σ H1 _ I1 q1) fun u s2 ⟨x, H2, I2, rx, q2⟩ => thn (hi.run pins s2 σ H2 _ I2 q2) fun iv s3 ⟨y, H3, I3, ry, a, G, ex, g, q3⟩ => ?_) hs
  subst ex
  obtain rfl : u = Value.ref a := rx
  exact g hu I3 ry rv fun H4 s4 g4 I4 => ⟨σ, H4, I4, q3 H4 g4⟩
end
/-! ### nested keys over the layer's heap -/
mutual
theorem keyN_is {X : Cx} {pins : List (Addr × Obj)} {σ : L2.St} {S H : Hp} {s : Shared} (I : Inv X pins σ H s) (e : Sub S H) : ∀ (k : NestedKey) (v : V) (u : Value), Rel X.K S (keyN k) v → RelV v u → NestedIs s.heap k u
  | .none, v, u, r, q => by
    rw [show keyN .none = .non by rw [keyN], rel_non] at r
    subst r
    cases q
    exact .none
  | .num i, v, u, r, q => by
    rw [show keyN (.num i) = .int i by rw [keyN], rel_int] at r
    subst r
    obtain ⟨t, rfl⟩ := q
    exact .int i t
  | .text x, v, u, r, q => by
    rw [show keyN (.text x) = .str x by rw [keyN], rel_str] at r
    subst r
    obtain ⟨t, rfl⟩ := q
    exact .text x t
  | .tup ks, v, u, r, q => by
    rw [show keyN (.tup ks) = .tup (keysN ks) by rw [keyN], rel_tup] at r
    obtain ⟨a, ws, rfl, h1, h2⟩ := r
    obtain rfl : u = Value.ref a := q
    obtain ⟨_, its, rv, o, ho, hc, n, hd⟩ := I.hok a _ (e a _ h1)
    exact .tup ho hc hd (keysN_is I e ks ws its.toArray.toList h2 (by simpa using rv))
theorem keysN_is {X : Cx} {pins : List (Addr × Obj)} {σ : L2.St} {S H : Hp} {s : Shared} (I : Inv X pins σ H s) (e : Sub S H) : ∀ (ks : List NestedKey) (vs : List V) (us : List Value), Rels X.K S (keysN ks) vs → Vals vs us → NestedAll s.heap ks us
  | [], vs, us, r, q => by
    rw [show keysN [] = [] by rw [keysN], rels_nil] at r
    subst r
    cases q
    exact .nil
  | k :: ks, vs, us, r, q => by
    rw [show keysN (k :: ks) = keyN k :: keysN ks by rw [keysN], rels_cons] at r
    obtain ⟨w, ws, rfl, h1, h2⟩ := r
    cases q with
    | cons q1 q2 => exact .cons (keyN_is I e k w _ h1 q1) (keysN_is I e ks ws _ h2 q2)
end
/-- where such a dict stands -/
theorem dNo_at {X : Cx} {pins : List (Addr × Obj)} {σ : L2.St} {H : Hp} {s : Shared} {a d : Addr} {es : Array DictEntry} {ep : Nat} (I : Inv X pins σ H s) (e : H a = some (dNo d es ep)) :
    d = a ∧ (a == sysModules) = false ∧ ∃ o, s.heap.get? a = some o ∧ o.ExactDict ∧ o.data = .dict es ep := by
  obtain ⟨⟨lo, o, ho, hx, hdt⟩, ⟨oa, ha⟩, st⟩ := I.hok a _ e
  by_cases c : d = a
  · subst c
    exact ⟨rfl, lo, o, ho, hx, hdt⟩
  · exfalso
    obtain ⟨_, o2, h2, _, h3⟩ := st s.heap (s.heap.update d fun _ => { cls := .none, data := .fields #[] }) ⟨lo, o, ho, hx, hdt⟩ fun o' q => (Heap.get?_update_other _ _ (Ne.symm (fun z => c z.symm))).trans q
    rw [Heap.get?_update_self _ ho rfl] at h2
    cases h2
    cases h3
theorem dNo_ok {P : Program} {w : World} {H : Hp} {h : Heap} {a : Addr} {es : Array DictEntry} {ep : Nat} {o : Obj} (lo : (a == sysModules) = false) (ho : h.get? a = some o) (hx : o.ExactDict) (hd : o.data = .dict es ep) : ObjOk P w H h a (dNo a es ep) :=
  ⟨⟨lo, o, ho, hx, hd⟩, ⟨o, ho⟩, fun h1 h2 ⟨lo, o, e1, e2, e3⟩ k => ⟨lo, o, k o e1, e2, e3⟩⟩
theorem entN_eq {P : Program} {w : World} (hw : w = Wrl.w) (x : NestedKey × Addr × Value) : entN x = entryOfKey (nestedKind P w) x := by subst hw; rfl
/-- a dict with nested keys, as the model has it -/
theorem dctN_of {X : Cx} {pins : List (Addr × Obj)} {σ : L2.St} {S H : Hp} {s : Shared} {a d : Addr} {kvs : List (NestedKey × Val)} {es : Array DictEntry} {ep : Nat} {xs : List (NestedKey × Addr × Value)} (hw : X.w = Wrl.w) (I : Inv X pins σ H s) (sub : Sub S H) (e : H a = some (dNo d es ep))
    (he : es.toList = xs.map entN) (pr : Paired (RelN X.K S) kvs xs) (nd : (xs.map (·.1)).Nodup) : (a == sysModules) = false ∧ d = a ∧ s.heap.DictOfH (nestedKind X.prog X.w) a xs := by
  obtain ⟨rfl, lo, o, ho, hx, hdt⟩ := dNo_at I e
  refine ⟨lo, rfl, o, es, ep, ho, hx, hdt, ?_, fun q hq => ?_, nd⟩
  · rw [he]; exact List.map_congr_left fun x _ => entN_eq hw x
  · obtain ⟨j, hj⟩ := List.mem_iff_getElem?.mp hq
    obtain ⟨p, hp, e1, e2, e3, _⟩ := DX.pget pr hj
    rw [← e1]
    exact ⟨keyN_is I sub _ _ _ e3 rfl, e2⟩
/-! ZF -/
/-! dicts -/
/-! ### keys and lookups -/
def keyX : Key → Val
  | .inl i => .int i
  | .inr z => .str z
theorem rel_key {K : Fr} {S : Hp} {k : Key} {v : V} (r : Rel K S (keyX k) v) : v = kV k := by
  cases k with
  | inl i => exact rel_int.mp r
  | inr z => exact rel_str.mp r
theorem rels_keys {K : Fr} {S : Hp} : ∀ {ks : List Key} {vs : List V}, Rels K S (ks.map keyX) vs → vs = ks.map kV
  | [], _, r => by rw [List.map_nil, rels_nil] at r; subst r; rfl
  | k :: ks, _, r => by
    rw [List.map_cons, rels_cons] at r
    obtain ⟨w, us, rfl, r1, r2⟩ := r
    rw [rel_key r1, rels_keys r2]; rfl
section
variable {κ : Type} [DecidableEq κ]
def valX (kvs : List (κ × Val)) (k : κ) : Option Val := (kvs.find? fun kv => decide (kv.1 = k)).map (·.2)
def putX (kvs : List (κ × Val)) (k : κ) (v : Val) : List (κ × Val) :=
  if (kvs.any fun kv => decide (kv.1 = k)) = true then kvs.map (fun kv => if kv.1 = k then (kv.1, v) else kv) else kvs ++ [(k, v)]
theorem valX_pos {p : κ × Val} {r : List (κ × Val)} {k : κ} (e : p.1 = k) : valX (p :: r) k = some p.2 := by simp [valX, List.find?_cons, e]
theorem valX_neg {p : κ × Val} {r : List (κ × Val)} {k : κ} (e : ¬ p.1 = k) : valX (p :: r) k = valX r k := by simp [valX, List.find?_cons, e]
theorem valX_any (k : κ) : ∀ kvs : List (κ × Val), (kvs.any fun kv => decide (kv.1 = k)) = (valX kvs k).isSome
  | [] => rfl
  | p :: r => by
    rw [List.any_cons]
    by_cases e : p.1 = k
    · rw [valX_pos e, decide_eq_true e]; rfl
    · rw [valX_neg e, decide_eq_false e, Bool.false_or]; exact valX_any k r
theorem kv_val {K : Fr} {S : Hp} {k : κ} : ∀ {kvs : List (κ × Val)} {ws : List (κ × V)}, RelKV K S kvs ws → (∀ v, valX kvs k = some v → ∃ w, valV ws k = some w ∧ Rel K S v w) ∧ (valX kvs k = none → valV ws k = none)
  | _, _, .nil => ⟨fun v h => (nomatch (show (none : Option Val) = some v from h)), fun _ => rfl⟩
  | p :: ps, q :: qs, .cons hpq t => by
    obtain ⟨i1, i2⟩ := kv_val (k := k) t
    by_cases e : p.1 = k
    · have e2 : q.1 = k := hpq.1.symm.trans e
      rw [valX_pos e, valV_pos e2]
      exact ⟨fun v h => by cases h; exact ⟨q.2, rfl, hpq.2⟩, fun h => by cases h⟩
    · have e2 : ¬ q.1 = k := fun z => e (hpq.1.trans z)
      rw [valX_neg e, valV_neg e2]
      exact ⟨i1, i2⟩
theorem kv_any {K : Fr} {S : Hp} {k : κ} : ∀ {kvs : List (κ × Val)} {ws : List (κ × V)}, RelKV K S kvs ws → (kvs.any fun kv => decide (kv.1 = k)) = ws.any fun kv => decide (kv.1 = k)
  | _, _, .nil => rfl
  | p :: ps, q :: qs, .cons hpq t => by
    rw [List.any_cons, List.any_cons, kv_any t, hpq.1]
theorem kv_map {K : Fr} {S : Hp} {k : κ} {v : Val} {w : V} (r : Rel K S v w) : ∀ {kvs : List (κ × Val)} {ws : List (κ × V)}, RelKV K S kvs ws → RelKV K S (kvs.map fun kv => if kv.1 = k then (kv.1, v) else kv) (ws.map fun kv => if kv.1 = k then (kv.1, w) else kv)
  | _, _, .nil => .nil
  | p :: ps, q :: qs, .cons hpq t => by
    refine .cons ?_ (kv_map r t)
    show (if p.1 = k then (p.1, v) else p).1 = (if q.1 = k then (q.1, w) else q).1 ∧ Rel K S (if p.1 = k then (p.1, v) else p).2 (if q.1 = k then (q.1, w) else q).2
    by_cases e : p.1 = k
    · have e2 : q.1 = k := hpq.1.symm.trans e
      rw [if_pos e, if_pos e2]
      exact ⟨hpq.1, r⟩
    · have e2 : ¬ q.1 = k := fun z => e (hpq.1.trans z)
      rw [if_neg e, if_neg e2]
      exact hpq
theorem kv_snoc {K : Fr} {S : Hp} {k : κ} {v : Val} {w : V} (r : Rel K S v w) : ∀ {kvs : List (κ × Val)} {ws : List (κ × V)}, RelKV K S kvs ws → RelKV K S (kvs ++ [(k, v)]) (ws ++ [(k, w)])
  | _, _, .nil => .cons ⟨rfl, r⟩ .nil
  | p :: ps, q :: qs, .cons hpq t => .cons hpq (kv_snoc r t)
theorem kv_put {K : Fr} {S : Hp} {k : κ} {v : Val} {w : V} {kvs : List (κ × Val)} {ws : List (κ × V)} (h : RelKV K S kvs ws) (r : Rel K S v w) : RelKV K S (putX kvs k v) (putK ws k w) := by
  unfold putX putK
  rw [kv_any h]
  split
  · exact kv_map r h
  · exact kv_snoc r h
theorem kv_len {K : Fr} {S : Hp} {kvs : List (κ × Val)} {ws : List (κ × V)} (h : RelKV K S kvs ws) : kvs.length = ws.length := Paired.length h
theorem putX_len (kvs : List (κ × Val)) (k : κ) (v : Val) : (putX kvs k v).length ≤ kvs.length + 1 := by
  unfold putX
  split <;> simp
end
/-! ### nested keys: reading, writing -/
theorem valN {K : Fr} {S : Hp} {k : NestedKey} : ∀ {kvs : List (NestedKey × Val)} {xs : List (NestedKey × Addr × Value)}, Paired (RelN K S) kvs xs →
    (∀ v, valX kvs k = some v → ∃ p w, atKey xs k = some p ∧ Rel K S v w ∧ RelV w p.2) ∧ (valX kvs k = none → atKey xs k = none)
  | _, _, .nil => ⟨fun v h => (nomatch (show (none : Option Val) = some v from h)), fun _ => rfl⟩
  | p :: ps, q :: qs, .cons hpq t => by
    obtain ⟨i1, i2⟩ := valN (k := k) t
    obtain ⟨e1, _, _, w, r1, r2⟩ := hpq
    have step : ∀ b : Bool, decide (q.1 = k) = b → atKey (q :: qs) k = if b = true then some q.2 else atKey qs k := fun b hb => by
      unfold atKey
      rw [List.find?_cons, hb]
      cases b <;> rfl
    by_cases e : p.1 = k
    · have e2 : q.1 = k := e1.symm.trans e
      rw [valX_pos e, step true (decide_eq_true e2), if_pos rfl]
      exact ⟨fun v h => by cases h; exact ⟨q.2, w, rfl, r1, r2⟩, fun h => by cases h⟩
    · have e2 : ¬ q.1 = k := fun z => e (e1.trans z)
      rw [valX_neg e, step false (decide_eq_false e2), if_neg (by simp)]
      exact ⟨i1, i2⟩
theorem mapN {K : Fr} {S : Hp} {k : NestedKey} {v : Val} {w : V} {u : Value} (r : Rel K S v w) (rv : RelV w u) : ∀ {kvs : List (NestedKey × Val)} {xs : List (NestedKey × Addr × Value)}, Paired (RelN K S) kvs xs →
    Paired (RelN K S) (kvs.map fun kv => if kv.1 = k then (kv.1, v) else kv) (xs.map (putAt k u))
  | _, _, .nil => .nil
  | p :: ps, q :: qs, .cons hpq t => by
    refine .cons ?_ (mapN r rv t)
    obtain ⟨e1, e2, e3, e4⟩ := hpq
    show RelN K S (if p.1 = k then (p.1, v) else p) (if q.1 = k then (q.1, q.2.1, u) else q)
    by_cases e : p.1 = k
    · rw [if_pos e, if_pos (e1.symm.trans e)]
      exact ⟨e1, e2, e3, w, r, rv⟩
    · rw [if_neg e, if_neg fun z => e (e1.trans z)]
      exact ⟨e1, e2, e3, e4⟩
theorem paired_app {α β : Type} {P : α → β → Prop} {a : α} {b : β} (h : P a b) : ∀ {xs : List α} {ys : List β}, Paired P xs ys → Paired P (xs ++ [a]) (ys ++ [b])
  | _, _, .nil => .cons h .nil
  | _, _, .cons p t => .cons p (paired_app h t)
theorem putN {K : Fr} {S : Hp} {k : NestedKey} {b : Addr} {v : Val} {w : V} {u : Value} {kvs : List (NestedKey × Val)} {xs : List (NestedKey × Addr × Value)} (r : Rel K S v w) (rv : RelV w u) (rk : Rel K S (keyN k) (.ref b)) (hd : k.depth ≤ 8) (pr : Paired (RelN K S) kvs xs) :
    Paired (RelN K S) (putX kvs k v) (storedH xs k b u) := by
  obtain ⟨i1, i2⟩ := valN (k := k) pr
  unfold putX storedH
  rw [valX_any]
  cases h : valX kvs k with
  | none =>
    rw [i2 h]
    exact paired_app ⟨rfl, hd, rk, w, r, rv⟩ pr
  | some y =>
    obtain ⟨p, _, e, _⟩ := i1 y h
    rw [e]
    exact mapN r rv pr
theorem nodupN {xs : List (NestedKey × Addr × Value)} {k : NestedKey} {b : Addr} {u : Value} (nd : (xs.map (·.1)).Nodup) : ((storedH xs k b u).map (·.1)).Nodup := by
  unfold storedH
  split
  · rw [keys_map_putAt]; exact nd
  · rename_i h
    have : atKey xs k = none := by
      cases q : atKey xs k with
      | none => rfl
      | some p => rw [q] at h; exact absurd rfl h
    rw [List.map_append, List.nodup_append]
    refine ⟨nd, by simp, fun x hx y hy e => ?_⟩
    simp at hy
    subst hy e
    obtain ⟨z, hz, ez⟩ := List.mem_map.mp hx
    obtain ⟨j, hj⟩ := List.mem_iff_getElem?.mp hz
    rw [atKey_of_get nd (i := j) (k := x) (p := z.2) (by rw [hj, ← ez])] at this
    cases this
/-! ### reading, writing -/
/-- a dict with nested keys, walked or not -/
def DctAt (h : Hh) (a : Addr) (kvs : List (NestedKey × Val)) : Prop := h a = some (.dN kvs) ∨ ∃ u, h a = some (.lk u kvs)
inductive DG (h : Hh) : Val → Val → Option Val → Prop
  | k {a kvs} (k : Key) : h a = some (.dK kvs) → DG h (.ref a) (keyX k) (valX kvs k)
  | t {a kvs} (k : List Key) : h a = some (.dT kvs) → DG h (.ref a) (.tup (k.map keyX)) (valX kvs k)
  | n {a kvs} (ks : List NestedKey) : DctAt h a kvs → NestedKey.depth (.tup ks) ≤ 8 → DG h (.ref a) (.tup (keysN ks)) (valX kvs (.tup ks))
inductive DP (h : Hh) : Val → Val → Val → Hh → Prop
  | k {a kvs v} (k : Key) : h a = some (.dK kvs) → kvs.length < 16000000 → DP h (.ref a) (keyX k) v (hup h a (.dK (putX kvs k v)))
  | t {a kvs v} (k : List Key) : h a = some (.dT kvs) → kvs.length < 16000000 → DP h (.ref a) (.tup (k.map keyX)) v (hup h a (.dT (putX kvs k v)))
  | n {a kvs v} (ks : List NestedKey) : h a = some (.dN kvs) → NestedKey.depth (.tup ks) ≤ 8 → kvs.length < 16000000 → DP h (.ref a) (.tup (keysN ks)) v (hup h a (.dN (putX kvs (.tup ks) v)))
theorem keyN_tup (ks : List NestedKey) : keyN (.tup ks) = .tup (keysN ks) := by rw [keyN]
theorem DctAt.own {K : Fr} {S F H : Hp} {h : Hh} {a : Addr} {kvs : List (NestedKey × Val)} (q : DctAt h a kvs) (r : R K S F H h) : ∃ u, H a = some u ∧ DctN K S kvs u := by
  rcases q with q | ⟨u, q⟩
  · obtain ⟨_, o, h1, h2⟩ := r.own _ _ q
    exact ⟨o, h1, h2⟩
  · obtain ⟨_, o, h1, h2⟩ := r.own _ _ q
    exact ⟨o, h1, h2.2⟩
theorem dictR_n {X : Cx} {S F H : Hp} {h : Hh} {a : Addr} {kvs : List (NestedKey × Val)} {ks : List NestedKey} {w : V} (hw : X.w = Wrl.w) (q : DctAt h a kvs) (hd : NestedKey.depth (.tup ks) ≤ 8) (r : R X.K S F H h) (y1 : Rel X.K S (.tup (keysN ks)) w) :
    ∃ ov, DictR X H a w ov ∧ (∀ v, valX kvs (.tup ks) = some v → ∃ u, ov = some u ∧ Rel X.K S v u) ∧ (valX kvs (.tup ks) = none → ov = none) := by
  obtain ⟨u, h1, d, es, ep, xs, rfl, hl, he, pr, nd⟩ := q.own r
  obtain ⟨b, ws, rfl, h3, h4⟩ := rel_tup.mp y1
  have key : ∀ {pins : List (Addr × Obj)} {σ : L2.St} {s : Shared}, Inv X pins σ H s → (nestedKind X.prog X.w).is s.heap (.tup ks) b := fun I => ⟨keyN_is I r.sub (.tup ks) (.ref b) _ (by rw [keyN_tup]; exact y1) rfl, hd⟩
  have room : ∀ {A : Around}, A.units + 10 < cLine → (nestedKind X.prog X.w).room A.in1 := fun {A} hu => by
    show A.in1.units + 8 < cLine
    have : A.in1.units ≤ A.units + 1 := Nat.le_refl _
    omega
  have mk : ∀ ov : Option V, (∀ v, ov = some v → ∃ p, atKey xs (.tup ks) = some p ∧ RelV v p.2) → (atKey xs (.tup ks)).isSome = ov.isSome → DictR X H a (.ref b) ov := fun ov h1' h2' => by
    refine ⟨fun I => ?_, fun hu I ry e h => ?_, fun hu I ry h => ?_, fun hu I ry h => ?_⟩
    · obtain ⟨lo, _, dd⟩ := dctN_of hw I r.sub h1 he pr nd
      exact dd.typeIs
    · obtain ⟨lo, _, dd⟩ := dctN_of hw I r.sub h1 he pr nd
      cases (show _ = Value.ref b from ry)
      obtain ⟨p, hp, rv⟩ := h1' _ e
      exact wpAny_getItem_heap (room hu) (key I) dd hp (h _ _ (I.tok _) rv)
    · obtain ⟨lo, _, dd⟩ := dctN_of hw I r.sub h1 he pr nd
      cases (show _ = Value.ref b from ry)
      refine wpAny_in_heap (room hu) (key I) lo dd ?_
      rw [h2']
      exact h _ (I.tok _)
    · obtain ⟨lo, _, dd⟩ := dctN_of hw I r.sub h1 he pr nd
      cases (show _ = Value.ref b from ry)
      refine wpAny_notIn_heap (room hu) (key I) lo dd ?_
      rw [h2']
      exact h _ (I.tok _)
  cases hv : valX kvs (.tup ks) with
  | none => exact ⟨none, mk none (fun v e => by cases e) (by rw [(valN pr).2 hv]; rfl), (fun v e => by cases e), (fun _ => rfl)⟩
  | some v =>
    obtain ⟨p, u1, e5, e6, e7⟩ := (valN pr).1 v hv
    exact ⟨some u1, mk (some u1) (fun v e => by cases e; exact ⟨p, e5, e7⟩) (by rw [e5]; rfl), (fun y e => by cases e; exact ⟨u1, rfl, e6⟩), (fun e => by cases e)⟩
/-- a store -/
theorem putR_n {X : Cx} {S F H : Hp} {h : Hh} {a : Addr} {kvs : List (NestedKey × Val)} {ks : List NestedKey} {v : Val} {w u : V} (hw : X.w = Wrl.w) (q : h a = some (.dN kvs)) (hd : NestedKey.depth (.tup ks) ≤ 8) (hl : kvs.length < 16000000) (r : R X.K S F H h) (y1 : Rel X.K S (.tup (keysN ks)) w) (z1 : Rel X.K S v u) :
    PutR X H a w u fun H' => R X.K S F H' (hup h a (.dN (putX kvs (.tup ks) v))) := by
  obtain ⟨_, o, h1, d, es, ep, xs, rfl, hl2, he, pr, nd⟩ := r.own _ _ q
  obtain ⟨b, ws, rfl, h3, h4⟩ := rel_tup.mp y1
  intro pins σ s ru rr A E Q hu I ry rv k
  have key : (nestedKind X.prog X.w).is s.heap (.tup ks) b := ⟨keyN_is I r.sub (.tup ks) (.ref b) _ (by rw [keyN_tup]; exact y1) rfl, hd⟩
  have room : (nestedKind X.prog X.w).room A.in1 := by
    show A.in1.units + 8 < cLine
    have : A.in1.units ≤ A.units + 1 := Nat.le_refl _
    omega
  obtain ⟨lo, _, dd⟩ := dctN_of hw I r.sub h1 he pr nd
  cases (show _ = Value.ref b from ry)
  have hz := sizeLine_eq
  have lx : xs.length = kvs.length := (Paired.length pr).symm
  refine wpAny_setItem_heap (hsz := by omega) room key dd fun h' dd' hs => ?_
  obtain ⟨q2, es2, ep2, hq, k2, k3, k4, _, k5⟩ := dd'
  have he2 : es2.toList = (storedH xs (.tup ks) b rr).map entN := by
    rw [k4]; exact List.map_congr_left fun x _ => (entN_eq hw x).symm
  have pr2 := putN (k := .tup ks) z1 rv (by rw [keyN_tup]; exact y1) hd pr
  have new := dNo_ok (P := X.prog) (w := X.w) (H := upd H a (dNo a es2 ep2)) lo hq k2 k3
  refine k (upd H a (dNo a es2 ep2)) _ (r.store q ⟨a, es2, ep2, _, rfl, ?_, he2, pr2, nodupN nd⟩) (d_write I (by rw [h1]; exact True.intro) hs ⟨q2, hq⟩ new)
  have := putX_len kvs (.tup ks) v
  omega
theorem DG.l {X : Cx} {S F H : Hp} {h : Hh} {x y : Val} {o : Option Val} {v w : V} (hw : X.w = Wrl.w) (q : DG h x y o) (r : R X.K S F H h) (x1 : Rel X.K S x v) (y1 : Rel X.K S y w) : ∃ a ov, v = .ref a ∧ DictR X H a w ov ∧ (∀ u, o = some u → ∃ u', ov = some u' ∧ Rel X.K S u u') ∧ (o = none → ov = none) := by
  cases q with
  | k k e =>
    rw [rel_ref] at x1
    obtain ⟨_, u, h1, ws, rfl, h2⟩ := r.own _ _ e
    rw [rel_key y1]
    obtain ⟨i1, i2⟩ := kv_val (k := k) h2
    exact ⟨_, _, x1, .of (.k h1), i1, i2⟩
  | t k e =>
    rw [rel_ref] at x1
    obtain ⟨_, u, h1, ws, rfl, h2⟩ := r.own _ _ e
    rw [rel_tup] at y1
    obtain ⟨b, us, rfl, h3, h4⟩ := y1
    rw [rels_keys h4] at h3
    obtain ⟨i1, i2⟩ := kv_val (k := k) h2
    exact ⟨_, _, x1, .of (.t h1 (r.sub _ _ h3)), i1, i2⟩
  | n ks e hd =>
    rw [rel_ref] at x1
    obtain ⟨ov, d, i1, i2⟩ := dictR_n hw e hd r y1
    exact ⟨_, ov, x1, d, i1, i2⟩
theorem DP.l {X : Cx} {S F H : Hp} {h h' : Hh} {x y z : Val} {v w u : V} (hw : X.w = Wrl.w) (q : DP h x y z h') (r : R X.K S F H h) (x1 : Rel X.K S x v) (y1 : Rel X.K S y w) (z1 : Rel X.K S z u) : ∃ a G, v = .ref a ∧ PutR X H a w u G ∧ ∀ H', G H' → R X.K S F H' h' := by
  have hz := sizeLine_eq
  cases q with
  | k k e hl =>
    rw [rel_ref] at x1
    obtain ⟨_, o, h1, ws, rfl, h2⟩ := r.own _ _ e
    rw [rel_key y1]
    exact ⟨_, _, x1, PutR.of (.k h1 (by rw [← kv_len h2]; omega)), fun H' e2 => by subst e2; exact r.store e ⟨_, rfl, kv_put h2 z1⟩⟩
  | t k e hl =>
    rw [rel_ref] at x1
    obtain ⟨_, o, h1, ws, rfl, h2⟩ := r.own _ _ e
    rw [rel_tup] at y1
    obtain ⟨b, us, rfl, h3, h4⟩ := y1
    rw [rels_keys h4] at h3
    exact ⟨_, _, x1, PutR.of (.t h1 (r.sub _ _ h3) (by rw [← kv_len h2]; omega)), fun H' e2 => by subst e2; exact r.store e ⟨_, rfl, kv_put h2 z1⟩⟩
  | n ks e hd hl =>
    rw [rel_ref] at x1
    exact ⟨_, _, x1, putR_n hw e hd hl r y1 z1, fun H' g => g⟩
section
variable {X : Cx} {W : WX} {pos pos' apos cpos : Pos} {o i e f value : Expr} {td ty tx tv : WE}
def wDGet (td ty : WE) : WE := fun ρ h E Q => td ρ h E fun x h1 => ty ρ h1 E fun y h2 => ∃ v, DG h2 x y (some v) ∧ Q v h2
theorem zdget (hu : X.A.units + 10 < cLine) (hw : X.w = Wrl.w) (ho : ZE X W o td) (hi : ZE X W i ty) (hs : NoSl i) : ZE X W (.Subscript o i pos) (wDGet td ty) :=
  ⟨pe_imp (pe_dgetG hu ho.pe hi.pe hs) fun σ H Q ⟨S, F, ρ, h, E', Q', r, rl, q, lq, lx⟩ =>
    ⟨S, F, ρ, h, E', _, r, rl, q, fun x h1 S1 v H1 q1 s1 r1 x1 => ⟨S1, F, ρ, h1, E', _, r1, rl.mono s1, q1, fun y h2 S2 w H2 q2 s2 r2 x2 => by
      obtain ⟨u, g, q2⟩ := q2
      obtain ⟨a, ov, e1, g1, i1, _⟩ := g.l hw r2 (Rel.mono s2 _ _ x1) x2
      obtain ⟨u', e2, x3⟩ := i1 u rfl
      subst e2
      exact ⟨a, u', e1, g1, lq _ _ _ _ _ q2 (s1.trans s2) r2 x3⟩, lx.mono s1⟩, lx⟩⟩
def wDIn (neg : Bool) (ty td : WE) : WE := fun ρ h E Q => ty ρ h E fun y h1 => td ρ h1 E fun x h2 => ∃ o, DG h2 x y o ∧ Q (.bl (if neg then !o.isSome else o.isSome)) h2
theorem ztdin (hu : X.A.units + 10 < cLine) (hw : X.w = Wrl.w) (hi : ZE X W i ty) (ho : ZE X W o td) (hm : behindInMarks .In o = false := by rfl) : ZT X W (.Compare i [.In] [o] pos) (wTv (wDIn false ty td)) :=
  ⟨pt_imp (pt_cmp (pc_dinG hu hi.pe ho.pe) hm) fun σ H Q q => by
    obtain ⟨S, F, ρ, h, E', Q', r, rl, q, lq, lx⟩ := lE_test q
    exact ⟨S, F, ρ, h, E', _, r, rl, q, fun y h1 S1 w H1 q1 s1 r1 x1 => ⟨S1, F, ρ, h1, E', _, r1, rl.mono s1, q1, fun x h2 S2 v H2 q2 s2 r2 x2 => by
      obtain ⟨u, g, q2⟩ := q2
      obtain ⟨a, ov, e1, g1, i1, i2⟩ := g.l hw r2 x2 (Rel.mono s2 _ _ x1)
      refine ⟨a, ov, e1, g1, ?_⟩
      have : ov.isSome = u.isSome := by
        cases u with
        | none => rw [i2 rfl]; rfl
        | some u => obtain ⟨u', e2, _⟩ := i1 u rfl; rw [e2]; rfl
      rw [this]
      exact lq _ _ _ _ _ q2 (s1.trans s2) r2 (rel_bl.mpr rfl), lx.mono s1⟩, lx⟩⟩
theorem ztdnotin (hu : X.A.units + 10 < cLine) (hw : X.w = Wrl.w) (hi : ZE X W i ty) (ho : ZE X W o td) (hm : behindInMarks .NotIn o = false := by rfl) : ZT X W (.Compare i [.NotIn] [o] pos) (wTv (wDIn true ty td)) :=
  ⟨pt_imp (pt_cmp (pc_dnotinG hu hi.pe ho.pe) hm) fun σ H Q q => by
    obtain ⟨S, F, ρ, h, E', Q', r, rl, q, lq, lx⟩ := lE_test q
    exact ⟨S, F, ρ, h, E', _, r, rl, q, fun y h1 S1 w H1 q1 s1 r1 x1 => ⟨S1, F, ρ, h1, E', _, r1, rl.mono s1, q1, fun x h2 S2 v H2 q2 s2 r2 x2 => by
      obtain ⟨u, g, q2⟩ := q2
      obtain ⟨a, ov, e1, g1, i1, i2⟩ := g.l hw r2 x2 (Rel.mono s2 _ _ x1)
      refine ⟨a, ov, e1, g1, ?_⟩
      have : ov.isSome = u.isSome := by
        cases u with
        | none => rw [i2 rfl]; rfl
        | some u => obtain ⟨u', e2, _⟩ := i1 u rfl; rw [e2]; rfl
      rw [this]
      exact lq _ _ _ _ _ q2 (s1.trans s2) r2 (rel_bl.mpr rfl), lx.mono s1⟩, lx⟩⟩
/-- d[y] = v -/
def wDPut (td ty tv : WE) : WS := fun nx _ _ _ xe ρ h => tv ρ h (atx xe ρ) fun v h1 => td ρ h1 (atx xe ρ) fun x h2 => ty ρ h2 (atx xe ρ) fun y h3 => ∃ h4, DP h3 x y v h4 ∧ nx ρ h4
theorem zs_dput (hu : X.A.units + 10 < cLine) (hw : X.w = Wrl.w) (ho : ZE X W o td) (hi : ZE X W i ty) (hv : ZE X W value tv) (hs : swapsWith value (some (.Subscript o i pos')) pos.line X.env = pure false := by rfl) :
    ZS X W (.Assign [.Subscript o i pos'] value pos) (wDPut td ty tv) :=
  ⟨ps_imp (ps_dputG hu ho.pe hi.pe hv.pe hs) fun D σ H ⟨S, Fr, ρ, h, nx, rt, bk, ct, xe, r, rl, q, ln, lr, lb, lc, lx⟩ =>
    ⟨S, Fr, ρ, h, _, _, r, rl, q, fun v h1 S1 w H1 q1 s1 r1 x1 => ⟨S1, Fr, ρ, h1, _, _, r1, rl.mono s1, q1, fun x h2 S2 w2 H2 q2 s2 r2 x2 => ⟨S2, Fr, ρ, h2, _, _, r2, (rl.mono s1).mono s2, q2, fun y h3 S3 w3 H3 q3 s3 r3 x3 => by
      obtain ⟨h4, g, q3⟩ := q3
      obtain ⟨a, G, e, g1, r4⟩ := g.l hw r3 (Rel.mono s3 _ _ x2) x3 (Rel.mono s3 _ _ (Rel.mono s2 _ _ x1))
      exact ⟨a, G, e, g1, fun H4 g4 => ln _ _ S3 _ _ q3 ((s1.trans s2).trans s3) (r4 H4 g4) (((rl.mono s1).mono s2).mono s3)⟩, ((lx.at rl).mono s1).mono s2⟩, (lx.at rl).mono s1⟩, lx.at rl⟩⟩
/-! ### displays -/
def wPairs : List (Key × WE) → Ev → Hh → XQ → (List (Key × Val) → Hh → Prop) → Prop
  | [], _, h, _, Q => Q [] h
  | (k, t) :: r, ρ, h, E, Q => t ρ h E fun y h1 => wPairs r ρ h1 E fun ps h2 => Q ((k, y) :: ps) h2
def wDisp (trs : List (Key × WE)) : WE := fun ρ h E Q => wPairs trs ρ h E fun kvs h1 => ∀ a, h1 a = none → Q (.ref a) (hup h1 a (.dK kvs))
structure ZPs (X : Cx) (W : WX) (pos : Pos) (ks : List (Option Expr)) (vs : List Expr) (trs : List (Key × WE)) : Prop where
  pps : PPs X pos ks vs (trs.map fun p => (tC (kV p.1), lE X.K W p.2))
/-! an empty one, by its keys' kind -/
def wDNewT : WE := fun _ h _ Q => ∀ a, h a = none → Q (.ref a) (hup h a (.dT []))
theorem zdnewT : ZE X W (.Dict [] [] pos) wDNewT := ⟨pe_imp pe_dnewT fun σ H Q ⟨S, F, ρ, h, E', Q', r, rl, q, lq, lx⟩ p hp => lq _ _ S _ _ (q p (r.fresh hp)) (Sub.refl S) (r.owned hp ⟨[], rfl, .nil⟩) (rel_ref.mpr rfl)⟩
/-! steps -/
theorem i_disp {trs : List (Key × WE)} {ρ h E} {Q : KQ} (q : wPairs trs ρ h E fun kvs h1 => ∀ a, h1 a = none → Q (.ref a) (hup h1 a (.dK kvs))) : wDisp trs ρ h E Q := q
theorem i_pcons {k : Key} {t : WE} {r : List (Key × WE)} {ρ h E} {Q : List (Key × Val) → Hh → Prop} (q : t ρ h E fun y h1 => wPairs r ρ h1 E fun ps h2 => Q ((k, y) :: ps) h2) : wPairs ((k, t) :: r) ρ h E Q := q
theorem i_pnil {ρ h E} {Q : List (Key × Val) → Hh → Prop} (q : Q [] h) : wPairs [] ρ h E Q := q
theorem i_dget {td ty : WE} {ρ h E} {Q : KQ} (q : td ρ h E fun x h1 => ty ρ h1 E fun y h2 => ∃ v, DG h2 x y (some v) ∧ Q v h2) : wDGet td ty ρ h E Q := q
theorem i_din {neg : Bool} {ty td : WE} {ρ h E} {Q : KQ} (q : ty ρ h E fun y h1 => td ρ h1 E fun x h2 => ∃ o, DG h2 x y o ∧ Q (.bl (if neg then !o.isSome else o.isSome)) h2) : wDIn neg ty td ρ h E Q := q
theorem i_dput {td ty tv : WE} {nx : EH} {rt bk ct xe ρ h} (q : tv ρ h (atx xe ρ) fun v h1 => td ρ h1 (atx xe ρ) fun x h2 => ty ρ h2 (atx xe ρ) fun y h3 => ∃ h4, DP h3 x y v h4 ∧ nx ρ h4) : wDPut td ty tv nx rt bk ct xe ρ h := q
theorem dgT {a : Addr} {kvs : List (List Key × Val)} {k : List Key} {v : Val} {h : Hh} {A : Val → Prop} (e : h a = some (.dT kvs)) (l : valX kvs k = some v) (q : A v) : ∃ v, DG h (.ref a) (.tup (k.map keyX)) (some v) ∧ A v := ⟨v, by rw [← l]; exact .t k e, q⟩
end
/-! ZH -/
/-! try, except: what is held of an error, its class asked, its field read -/
open PySem.Calls
/-! ### the class of an error that has fields of its own -/
section
variable {X : Cx} {a C dd : Addr} {oe : Obj} {pn : List (Addr × Obj)}
end
/-! ### classes as values -/
/-- a class: a built-in type, or the class object at C -/
def clsOf (K : Fr) : Val → Option Value
  | .ty n => some (.type n)
  | .ref C => some (.ref C)
  | _ => none
def clsAll (K : Fr) : List Val → Option (List Value)
  | [] => some []
  | x :: xs => (clsOf K x).bind fun u => (clsAll K xs).bind fun us => some (u :: us)
/-! ### e.what -/
section
variable {X : Cx} {W : WX} {pos : Pos} {a C dd : Addr} {oe : Obj} {pn : List (Addr × Obj)} {e : Expr} {te : WE}
def wXf (a dd : Addr) (te : WE) : WE := fun ρ h E Q => te ρ h E fun x h1 => ∃ v, x = .exc a dd v ∧ Q v h1
end
/-! ### try -/
section
variable {X : Cx} {W : WX} {x n : Str} {c : Addr} {i : Nat} {body suite : List Stmt} {b₀ : Stmt} {np pos pos' : Pos} {tb : WS} {ts : Addr → Addr → Addr → WS} {subs nots : List Addr}
end
/-- isinstance of the held error: the answer is known -/
def wErrIs (b : Bool) (a dd : Addr) (i : Nat) : WE := fun ρ h E Q => ∃ v, ρ[i]? = some (some (.exc a dd v)) ∧ Q (.bl b) h
/-- classes, none of which is the error's -/
inductive ZNo (X : Cx) (W : WX) (K : Fr) (C : Addr) : List Expr → List Val → List Value → Prop where
  | nil : ZNo X W K C [] [] []
  | cons {e : Expr} {es : List Expr} {D : Addr} {xs : List Val} {us : List Value} (h : ZE X W e (wC (.ref D))) (k : PySem.W.kitOne K (.ref C) (.ref D) = some false) (r : ZNo X W K C es xs us)
      (hs : starEach (e :: es) X.env = (false, eval e X.env) :: starEach es X.env := by rfl) : ZNo X W K C (e :: es) (.ref D :: xs) (.ref D :: us)
theorem ZNo.cls {X : Cx} {W : WX} {K : Fr} {C : Addr} : ∀ {es : List Expr} {xs : List Val} {us : List Value}, ZNo X W K C es xs us → clsAll K xs = some us
  | _, _, _, .nil => rfl
  | _, _, _, .cons h k r hs => by
    unfold clsAll
    rw [r.cls]
    rfl
theorem ZNo.kit {X : Cx} {W : WX} {K : Fr} {C : Addr} : ∀ {es : List Expr} {xs : List Val} {us : List Value}, ZNo X W K C es xs us → PySem.W.kitAny K (.ref C) us = some false
  | _, _, _, .nil => kitAny_nil
  | _, _, _, .cons h k r hs => kitAny_cons k (fun _ => r.kit) (fun z => by cases z)
theorem ZNo.len {X : Cx} {W : WX} {K : Fr} {C : Addr} : ∀ {es : List Expr} {xs : List Val} {us : List Value}, ZNo X W K C es xs us → xs.length = es.length
  | _, _, _, .nil => rfl
  | _, _, _, .cons h k r hs => by simp [r.len]
section
variable {X : Cx} {W : WX} {pos p : Pos} {a C dd : Addr} {oe : Obj} {pn : List (Addr × Obj)} {e x : Expr} {i : Nat} {u : Value} {b : Bool} {cv : Val}
end
/-! ZI -/
/-! more of lists: extend, insert, clear, times -/
/-- a list whose items can be read: owned, or never changed again -/
inductive Lsq (h : Hh) : Val → List Val → Prop where
  | lst (xs) : Lsq h (.lst xs) xs
  | ref {a xs} : h a = some (.lst xs) → Lsq h (.ref a) xs
theorem Lsq.l {K : Fr} {S F H : Hp} {h : Hh} {x : Val} {xs : List Val} {v : V} (q : Lsq h x xs) (r : R K S F H h) (rx : Rel K S x v) : ∃ b ws, v = .ref b ∧ H b = some (.lst ws) ∧ Rels K S xs ws := by
  cases q with
  | lst =>
    rw [rel_lst] at rx
    obtain ⟨a, ws, rfl, h1, h2⟩ := rx
    exact ⟨a, ws, rfl, r.sub _ _ h1, h2⟩
  | ref e =>
    rw [rel_ref] at rx
    obtain ⟨_, u, h1, ws, rfl, h2⟩ := r.own _ _ e
    exact ⟨_, ws, rx, h1, h2⟩
/-! ### a list of lists, each owned -/
structure Nest (h : Hh) (a : Addr) (bs : List Addr) (xss : List (List Val)) : Prop where
  top : h a = some (.lst (bs.map Val.ref))
  len : bs.length = xss.length
  each : ∀ (i : Nat) (b : Addr) (xs : List Val), bs[i]? = some b → xss[i]? = some xs → h b = some (.lst xs)
  nd : (a :: bs).Nodup
section
variable {h h' : Hh} {a b : Addr} {bs : List Addr} {xss : List (List Val)} {xs : List Val} {i : Nat}
theorem Nest.keep (N : Nest h a bs xss) (k : ∀ c, c ∈ a :: bs → h' c = h c) : Nest h' a bs xss :=
  ⟨by rw [k a (by simp)]; exact N.top, N.len, fun i b xs e1 e2 => by rw [k b (List.mem_cons_of_mem _ (List.mem_of_getElem? e1))]; exact N.each i b xs e1 e2, N.nd⟩
theorem Nest.at (N : Nest h a bs xss) (e : xss[i]? = some xs) : ∃ b, bs[i]? = some b ∧ h b = some (.lst xs) ∧ b ≠ a := by
  have hi : i < bs.length := by rw [N.len]; exact (List.getElem?_eq_some_iff.mp e).1
  refine ⟨bs[i], List.getElem?_eq_getElem hi, N.each i _ xs (List.getElem?_eq_getElem hi) e, fun z => ?_⟩
  have := (List.nodup_cons.mp N.nd).1
  exact this (z ▸ List.getElem_mem hi)
theorem Nest.val (N : Nest h a bs xss) (e : bs[i]? = some b) : (bs.map Val.ref)[i]? = some (.ref b) := by rw [List.getElem?_map, e]; rfl
/-- an inner list is changed -/
theorem Nest.inner (N : Nest h a bs xss) (e : bs[i]? = some b) (ys : List Val) : Nest (hup h b (.lst ys)) a bs (xss.set i ys) := by
  have nd := List.nodup_cons.mp N.nd
  have hba : a ≠ b := fun z => nd.1 (z ▸ List.mem_of_getElem? e)
  refine ⟨by rw [hup_ne hba]; exact N.top, by rw [List.length_set]; exact N.len, fun j c xs e1 e2 => ?_, N.nd⟩
  by_cases hj : j = i
  · subst hj
    rw [e] at e1
    cases e1
    have hj2 : j < xss.length := by rw [← N.len]; exact (List.getElem?_eq_some_iff.mp e).1
    rw [List.getElem?_set_self hj2] at e2
    cases e2
    exact hup_same
  · rw [List.getElem?_set_ne (Ne.symm hj)] at e2
    have hcb : c ≠ b := fun z => by
      subst z
      have h1 := (List.getElem?_eq_some_iff.mp e1).1
      have h2 := (List.getElem?_eq_some_iff.mp e).1
      exact hj ((List.getElem?_inj h1 nd.2).mp (e1.trans e.symm))
    rw [hup_ne hcb]
    exact N.each j c xs e1 e2
/-- the outer list is changed -/
theorem Nest.outer {bs' : List Addr} {xss' : List (List Val)} (hl : bs'.length = xss'.length) (he : ∀ (i : Nat) (b : Addr) (xs : List Val), bs'[i]? = some b → xss'[i]? = some xs → h b = some (.lst xs)) (hn : (a :: bs').Nodup) : Nest (hup h a (.lst (bs'.map Val.ref))) a bs' xss' := by
  have nd := List.nodup_cons.mp hn
  refine ⟨hup_same, hl, fun j c xs e1 e2 => ?_, hn⟩
  rw [hup_ne (fun z => by subst z; exact nd.1 (List.mem_of_getElem? e1))]
  exact he j c xs e1 e2
theorem Nest.erase (N : Nest h a bs xss) (i : Nat) : Nest (hup h a (.lst ((bs.map Val.ref).eraseIdx i))) a (bs.eraseIdx i) (xss.eraseIdx i) := by
  have nd := List.nodup_cons.mp N.nd
  rw [show (bs.map Val.ref).eraseIdx i = (bs.eraseIdx i).map Val.ref by rw [List.eraseIdx_eq_take_drop_succ, List.eraseIdx_eq_take_drop_succ, List.map_append, List.map_take, List.map_drop]]
  refine Nest.outer (by rw [List.length_eraseIdx, List.length_eraseIdx, N.len]) (fun j b xs e1 e2 => ?_) (List.nodup_cons.mpr ⟨fun z => nd.1 (List.mem_of_mem_eraseIdx z), nd.2.eraseIdx i⟩)
  rw [List.getElem?_eraseIdx] at e1 e2
  split at e1
  · rename_i hj
    rw [if_pos hj] at e2
    exact N.each j b xs e1 e2
  · rename_i hj
    rw [if_neg hj] at e2
    exact N.each (j + 1) b xs e1 e2
theorem Nest.clear : Nest (hup h a (.lst [])) a [] [] := ⟨hup_same, rfl, fun i b xs e => by simp at e, by simp⟩
/-- a new inner list is put somewhere -/
theorem Nest.app (N : Nest h a bs xss) (hb : h b = none) : Nest (hup (hup h b (.lst xs)) a (.lst (bs.map Val.ref ++ [.ref b]))) a (bs ++ [b]) (xss ++ [xs]) := by
  have nd := List.nodup_cons.mp N.nd
  have e : bs.map Val.ref ++ [.ref b] = (bs ++ [b]).map Val.ref := by simp
  have hnb : b ∉ bs := fun z => by
    obtain ⟨i, hi, rfl⟩ := List.getElem_of_mem z
    have := N.each i bs[i] (xss[i]'(N.len ▸ hi)) (List.getElem?_eq_getElem hi) (List.getElem?_eq_getElem _)
    rw [hb] at this
    cases this
  have hba : b ≠ a := fun z => by subst z; rw [N.top] at hb; cases hb
  rw [e]
  refine Nest.outer (by simp [N.len]) (fun j c ys e1 e2 => ?_) ?_
  · by_cases hj : j < bs.length
    · rw [List.getElem?_append_left hj] at e1
      rw [List.getElem?_append_left (N.len ▸ hj)] at e2
      rw [hup_ne (fun z => by subst z; exact hnb (List.mem_of_getElem? e1))]
      exact N.each j c ys e1 e2
    · rw [List.getElem?_append_right (by omega)] at e1
      rw [List.getElem?_append_right (by rw [← N.len]; omega), ← N.len] at e2
      cases hz : j - bs.length with
      | zero =>
        rw [hz] at e1 e2
        simp at e1 e2
        subst e1 e2
        exact hup_same
      | succ n =>
        rw [hz] at e1
        simp at e1
  · rw [List.nodup_cons]
    refine ⟨by simp [nd.1, hba.symm], ?_⟩
    rw [List.nodup_append]
    exact ⟨nd.2, by simp, fun x hx y hy => by simp at hy; subst hy; exact fun z => hnb (z ▸ hx)⟩
/-- one of the addresses is new beside the others -/
theorem Nest.fresh (N : Nest h a bs xss) {c : Addr} (hc : h c = none) : c ∉ a :: bs := fun z => by
  rcases List.mem_cons.mp z with rfl | z
  · rw [N.top] at hc; cases hc
  · obtain ⟨i, hi, rfl⟩ := List.getElem_of_mem z
    have := N.each i bs[i] (xss[i]'(N.len ▸ hi)) (List.getElem?_eq_getElem hi) (List.getElem?_eq_getElem _)
    rw [hc] at this
    cases this
end
def hdelL (L : List Addr) (h : Hh) : Hh := fun b => if b ∈ L then none else h b
theorem hdelL_nil {h : Hh} : hdelL [] h = h := by funext b; simp [hdelL]
theorem hdelL_cons {h : Hh} {a : Addr} {L : List Addr} : hdelL (a :: L) h = hdelL L (hdel h a) := by
  funext b
  unfold hdelL hdel
  by_cases e : b = a
  · subst e
    simp
  · simp [e]
theorem hdelL_snoc {h : Hh} {a : Addr} {L : List Addr} : hdelL (a :: L) h = hdel (hdelL L h) a := by
  funext b
  unfold hdelL hdel
  by_cases e : b = a
  · subst e
    simp
  · simp [e]
theorem hdelL_out {h : Hh} {b : Addr} {L : List Addr} (n : b ∉ L) : hdelL L h b = h b := by unfold hdelL; rw [if_neg n]
theorem hdelL_in {h : Hh} {b : Addr} {L : List Addr} (n : b ∈ L) : hdelL L h b = none := by unfold hdelL; rw [if_pos n]
theorem R.freezeL {K : Fr} {S F H : Hp} : ∀ (bs : List Addr) {h : Hh} {S : Hp}, R K S F H h → bs.Nodup → (∀ b ∈ bs, ∃ xs, h b = some (.lst xs)) →
    ∃ S2, Sub S S2 ∧ R K S2 F H (hdelL bs h) ∧ ∀ b ∈ bs, ∀ xs, h b = some (.lst xs) → ∃ ws, S2 b = some (.lst ws) ∧ Rels K S2 xs ws
  | [], h, S, r, _, _ => ⟨S, Sub.refl S, by rw [hdelL_nil]; exact r, fun b hb => by simp at hb⟩
  | b :: bs, h, S, r, nd, hx => by
    obtain ⟨xs, e⟩ := hx b (by simp)
    obtain ⟨u, ⟨ws, rfl, x2⟩, r2, s2⟩ := r.freeze e
    have nd2 := List.nodup_cons.mp nd
    obtain ⟨S3, s3, r3, h3⟩ := R.freezeL (F := F) (H := H) (S := S) bs r2 nd2.2 (fun c hc => by
      have hcb : c ≠ b := fun z => nd2.1 (z ▸ hc)
      rw [hdel_ne hcb]
      exact hx c (by simp [hc]))
    refine ⟨S3, s2.trans s3, by rw [hdelL_cons]; exact r3, fun c hc ys ec => ?_⟩
    rcases List.mem_cons.mp hc with rfl | hc
    · rw [e] at ec
      cases ec
      exact ⟨ws, s3 _ _ upd_same, Rels.mono (s2.trans s3) _ _ x2⟩
    · have hcb : c ≠ b := fun z => nd2.1 (z ▸ hc)
      exact h3 c hc ys (by rw [hdel_ne hcb]; exact ec)
theorem rels_refs {K : Fr} {S : Hp} : ∀ {bs : List Addr} {ws : List V}, Rels K S (bs.map Val.ref) ws → ws = bs.map V.ref
  | [], ws, h => by simpa using rels_nil.mp h
  | b :: bs, ws, h => by
    rw [List.map_cons, rels_cons] at h
    obtain ⟨w, r, rfl, h1, h2⟩ := h
    rw [rel_ref] at h1
    rw [rels_refs h2, h1]
    rfl
theorem rels_lists {K : Fr} {S : Hp} : ∀ {bs : List Addr} {xss : List (List Val)}, bs.length = xss.length → (∀ (i : Nat) (b : Addr) (xs : List Val), bs[i]? = some b → xss[i]? = some xs → ∃ ws, S b = some (.lst ws) ∧ Rels K S xs ws) → Rels K S (xss.map Val.lst) (bs.map V.ref)
  | [], [], _, _ => rels_nil.mpr rfl
  | [], _ :: _, h, _ => by cases h
  | _ :: _, [], h, _ => by cases h
  | b :: bs, xs :: xss, hl, h => by
    rw [List.map_cons, List.map_cons, rels_cons]
    obtain ⟨ws, e1, e2⟩ := h 0 b xs rfl rfl
    exact ⟨_, _, rfl, rel_lst.mpr ⟨b, ws, rfl, e1, e2⟩, rels_lists (by simpa using hl) fun i c ys e1 e2 => h (i + 1) c ys (by simpa using e1) (by simpa using e2)⟩
theorem Good.nest {K : Fr} {Q : KQ} (g : Good K Q) {a : Addr} {bs : List Addr} {xss : List (List Val)} {h : Hh} (N : Nest h a bs xss) (q : Q (.lst (xss.map Val.lst)) (hdelL (a :: bs) h)) : Q (.ref a) h :=
  g _ _ _ _ (fun S F H w r x => by
    have nd := List.nodup_cons.mp N.nd
    obtain ⟨S2, s2, r2, h2⟩ := R.freezeL (S := S) bs r nd.2 fun b hb => by
      obtain ⟨i, hi, rfl⟩ := List.getElem_of_mem hb
      exact ⟨_, N.each i bs[i] (xss[i]'(N.len ▸ hi)) (List.getElem?_eq_getElem hi) (List.getElem?_eq_getElem _)⟩
    have ha : hdelL bs h a = some (.lst (bs.map Val.ref)) := by rw [hdelL_out nd.1]; exact N.top
    obtain ⟨u, ⟨ws, rfl, x3⟩, r3, s3⟩ := r2.freeze ha
    rw [rel_ref] at x
    refine ⟨_, s2.trans s3, by rw [hdelL_snoc]; exact r3, rel_lst.mpr ⟨a, _, x, upd_same, ?_⟩⟩
    have e4 := rels_refs x3
    subst e4
    refine Rels.mono s3 _ _ (rels_lists N.len fun i b xs e1 e2 => ?_)
    exact h2 b (List.mem_of_getElem? e1) xs (N.each i b xs e1 e2)) q
/-! ### steps -/
theorem i_xf {a dd : Addr} {i : Nat} {v : Val} {ρ : Ev} {h : Hh} {E : XQ} {Q : KQ} (e : ρ[i]? = some (some (.exc a dd v))) (q : Q v h) : wXf a dd (wVar i) ρ h E Q := ⟨_, e, v, rfl, q⟩
theorem i_errIs {b : Bool} {a dd : Addr} {i : Nat} {v : Val} {ρ : Ev} {h : Hh} {E : XQ} {Q : KQ} (e : ρ[i]? = some (some (.exc a dd v))) (q : Q (.bl b) h) : wErrIs b a dd i ρ h E Q := ⟨v, e, q⟩
theorem i_bm0 {T : String} {r : WM} {to : WE} {ρ : Ev} {h : Hh} {E : XQ} {Q : KQ} (q : to ρ h E fun x h1 => TyM h1 T x ∧ r x [] h1 Q) : wBM0 T r to ρ h E Q := q
theorem i_intB {k : Bool} {h : Hh} {Q : KQ} (q : Q (.int (if k then 1 else 0)) h) : cInt [.bl k] h Q := .inr ⟨k, rfl, q⟩
theorem i_intI {k : Int} {h : Hh} {Q : KQ} (q : Q (.int k) h) : cInt [.int k] h Q := .inl ⟨k, rfl, q⟩
/-! ### a list unpacked -/
def wgUnl (n : Nat) (t : WGs) : WG := fun v ρ h Q => ∃ xs, Seqq h v xs ∧ xs.length = n ∧ t xs ρ h Q
theorem i_wgunl {n : Nat} {t : WGs} {xs : List Val} {ρ h} {Q : EH} (e : xs.length = n) (q : t xs ρ h Q) : wgUnl n t (.lst xs) ρ h Q := ⟨xs, .lst xs, e, q⟩
/-! LC1 -/
/-! the steps: one macro -/
local macro_rules | `(tactic| walk_at "hlk") => `(tactic| first | assumption | with_reducible exact hup_same | ((with_reducible refine' (hup_ne ?nn).trans ?tt); (case nn => first | assumption | (refine Ne.symm ?_; assumption)); (case tt => walk_at "hlk")))
local macro_rules | `(tactic| walk_at "zgo") => `(tactic| repeat (first
  | with_reducible refine i_seq ?_
  | with_reducible refine i_op ?_
  | ((with_reducible refine g_var ?_); first
    | with_reducible refine i_var0 ?_
    | with_reducible refine i_var1 ?_
    | with_reducible refine i_var2 ?_
    | with_reducible refine i_var3 ?_
    | with_reducible refine i_var4 ?_
    | with_reducible refine i_var5 ?_
    | with_reducible refine i_var6 ?_
    | with_reducible refine i_var7 ?_
    | with_reducible refine i_var8 ?_
    | with_reducible refine i_var9 ?_
    | with_reducible refine i_var10 ?_
    | with_reducible refine i_var11 ?_
    | with_reducible refine i_var12 ?_
    | with_reducible refine i_var13 ?_
    | with_reducible refine i_var14 ?_
    | with_reducible refine i_var15 ?_
    | with_reducible refine i_var16 ?_
    | with_reducible refine i_var17 ?_
    | with_reducible refine i_var18 ?_
    | with_reducible refine i_var19 ?_
    | with_reducible refine i_var20 ?_
    | with_reducible refine i_var21 ?_
    | with_reducible refine i_var22 ?_
    | with_reducible refine i_var23 ?_
    | with_reducible refine i_var24 ?_
    | with_reducible refine i_var25 ?_)
  | with_reducible refine i_c ?_
  | with_reducible refine i_cons ?_
  | with_reducible refine i_nil ?_
  | with_reducible refine i_asg ?_
  | ((with_reducible refine g_name ?_); first
    | with_reducible refine i_name0 ?_
    | with_reducible refine i_name1 ?_
    | with_reducible refine i_name2 ?_
    | with_reducible refine i_name3 ?_
    | with_reducible refine i_name4 ?_
    | with_reducible refine i_name5 ?_
    | with_reducible refine i_name6 ?_
    | with_reducible refine i_name7 ?_
    | with_reducible refine i_name8 ?_
    | with_reducible refine i_name9 ?_
    | with_reducible refine i_name10 ?_
    | with_reducible refine i_name11 ?_
    | with_reducible refine i_name12 ?_
    | with_reducible refine i_name13 ?_
    | with_reducible refine i_name14 ?_
    | with_reducible refine i_name15 ?_
    | with_reducible refine i_name16 ?_
    | with_reducible refine i_name17 ?_
    | with_reducible refine i_name18 ?_
    | with_reducible refine i_name19 ?_
    | with_reducible refine i_name20 ?_
    | with_reducible refine i_name21 ?_
    | with_reducible refine i_name22 ?_
    | with_reducible refine i_name23 ?_
    | with_reducible refine i_name24 ?_
    | with_reducible refine i_name25 ?_)
  | ((with_reducible refine g_tg1 ?_); first
    | with_reducible refine i_tg1_0 ?_
    | with_reducible refine i_tg1_1 ?_
    | with_reducible refine i_tg1_2 ?_
    | with_reducible refine i_tg1_3 ?_
    | with_reducible refine i_tg1_4 ?_
    | with_reducible refine i_tg1_5 ?_
    | with_reducible refine i_tg1_6 ?_
    | with_reducible refine i_tg1_7 ?_
    | with_reducible refine i_tg1_8 ?_
    | with_reducible refine i_tg1_9 ?_
    | with_reducible refine i_tg1_10 ?_
    | with_reducible refine i_tg1_11 ?_
    | with_reducible refine i_tg1_12 ?_
    | with_reducible refine i_tg1_13 ?_
    | with_reducible refine i_tg1_14 ?_
    | with_reducible refine i_tg1_15 ?_
    | with_reducible refine i_tg1_16 ?_
    | with_reducible refine i_tg1_17 ?_
    | with_reducible refine i_tg1_18 ?_
    | with_reducible refine i_tg1_19 ?_
    | with_reducible refine i_tg1_20 ?_
    | with_reducible refine i_tg1_21 ?_
    | with_reducible refine i_tg1_22 ?_
    | with_reducible refine i_tg1_23 ?_)
  | with_reducible refine i_yes ?_
  | with_reducible refine i_if ?_
  | with_reducible refine i_tv ?_
  | with_reducible refine i_bl ?_
  | with_reducible refine i_blV ?_
  | ((with_reducible refine g_if ?_); first
    | with_reducible refine iteT ?_
    | with_reducible refine iteF ?_
    | ((with_reducible refine' i_ifdt ?cc ?_); (case cc => first | decide | omega | assumption | decide +kernel))
    | ((with_reducible refine' i_ifdf ?cc ?_); (case cc => first | decide | omega | assumption | decide +kernel))
    | ((with_reducible refine' i_ifnt ?cc ?_); (case cc => first | decide | omega | assumption | decide +kernel))
    | ((with_reducible refine' i_ifnf ?cc ?_); (case cc => first | decide | omega | assumption | decide +kernel))
    | ((with_reducible refine' i_ift ?cc ?_); (case cc => first | assumption | rfl))
    | ((with_reducible refine' i_iff ?cc ?_); (case cc => first | assumption | rfl)))
  | with_reducible refine i_eqT ?_
  | with_reducible refine i_neT ?_
  | with_reducible refine i_eqI ?_
  | with_reducible refine i_neI ?_
  | with_reducible refine i_eqB ?_
  | with_reducible refine i_neB ?_
  | with_reducible refine i_lt ?_
  | with_reducible refine i_le ?_
  | with_reducible refine i_gt ?_
  | with_reducible refine i_ge ?_
  | with_reducible refine i_add ?_
  | with_reducible refine i_sub ?_
  | with_reducible refine i_and ?_
  | with_reducible refine i_or ?_
  | with_reducible refine i_not ?_
  | with_reducible refine i_andV ?_
  | with_reducible refine i_orV ?_
  | with_reducible refine i_notV ?_
  | with_reducible refine i_ifE ?_
  | with_reducible refine i_isN ?_
  | with_reducible refine i_notN ?_
  | with_reducible refine i_un ?_
  | with_reducible refine i_int1 ?_
  | with_reducible refine i_tup ?_
  | with_reducible refine i_lst ?_
  | ((with_reducible refine' i_small ?ss ?_); (case ss => first | decide | (simp only [List.length_cons, List.length_nil, List.length_map, List.length_append]; omega)))
  | with_reducible refine i_cb ?_
  | with_reducible refine i_call0 ?_
  | with_reducible refine i_call ?_
  | with_reducible refine i_meth0 ?_
  | with_reducible refine i_make0 ?_
  | with_reducible refine i_fld ?_
  | ((with_reducible refine' i_fldO ?ll ?_); (case ll => repeat (first | exact lk_hd | exact lk_nil | (refine lk_tl (by decide +kernel) ?_))))
  | ((with_reducible refine' i_fldR ?ee ?ll ?_); (case ee => walk_at "hlk"); (case ll => repeat (first | exact lk_hd | exact lk_nil | (refine lk_tl (by decide +kernel) ?_))))
  | ((with_reducible refine' i_mO ?ll ?_); (case ll => repeat (first | exact lk_hd | exact lk_nil | (refine lk_tl (by decide +kernel) ?_))))
  | ((with_reducible refine' i_mR ?ee ?ll ?_); (case ee => walk_at "hlk"); (case ll => repeat (first | exact lk_hd | exact lk_nil | (refine lk_tl (by decide +kernel) ?_))))
  | ((with_reducible refine' i_ixT ?at_ ?_); (case at_ => first | exact rfl | exact L2.atI_nat (j := 0) rfl | exact L2.atI_nat (j := 1) rfl))
  | ((with_reducible refine' i_ixL ?at_ ?_); (case at_ => first | exact rfl | exact L2.atI_nat (j := 0) rfl | exact L2.atI_nat (j := 1) rfl))
  | ((with_reducible refine' i_ixR ?hh ?at_ ?_); (case hh => walk_at "hlk"); (case at_ => first | exact rfl | exact L2.atI_nat (j := 0) rfl | exact L2.atI_nat (j := 1) rfl))
  | with_reducible refine i_fldS ?_
  | with_reducible refine i_bm ?_
  | ((with_reducible refine' i_tyL ?hh ?_); (case hh => walk_at "hlk"))
  | ((with_reducible refine' i_l2 ?xx ?yy ?_); (case xx => exact rfl); (case yy => exact rfl))
  | with_reducible refine i_callK ?_
  | with_reducible refine i_makeK ?_
  | with_reducible refine i_chain ?_
  | with_reducible refine i_raise ?_
  | with_reducible refine i_atx ?_
  | with_reducible refine i_lenO ?_
  | with_reducible refine i_sub_ ?_
  | with_reducible refine i_expr ?_
  | with_reducible refine i_ret ?_
  | with_reducible refine i_next ?_
  | with_reducible refine i_lc ?_
  | with_reducible refine i_r1 ?_
  | with_reducible refine i_iL ?_
  | with_reducible refine i_iT ?_
  | with_reducible refine i_itsF ?_
  | with_reducible refine i_itsS ?_
  | with_reducible refine i_itsT ?_
  | ((with_reducible refine' i_itsR ?hh ?_); (case hh => walk_at "hlk"))
  | with_reducible refine i_lenF ?_
  | with_reducible refine i_lenT ?_
  | ((with_reducible refine' i_lenR ?hh ?_); (case hh => walk_at "hlk"))
  | with_reducible refine i_listF ?_
  | with_reducible refine i_listT ?_
  | ((with_reducible refine' i_listR ?hh ?_); (case hh => walk_at "hlk"))
  | with_reducible refine i_tupF ?_
  | ((with_reducible refine' i_lenOR ?hh ?_); (case hh => walk_at "hlk"))
  | ((with_reducible refine' i_tupR ?hh ?_); (case hh => walk_at "hlk"))
  | ((with_reducible refine g_isi ?_); first
    | with_reducible refine i_isi_non_bool ?_
    | with_reducible refine i_isi_non_int ?_
    | with_reducible refine i_isi_non_str ?_
    | with_reducible refine i_isi_non_list ?_
    | with_reducible refine i_isi_non_tuple ?_
    | with_reducible refine i_isi_bl_bool ?_
    | with_reducible refine i_isi_bl_int ?_
    | with_reducible refine i_isi_bl_str ?_
    | with_reducible refine i_isi_bl_list ?_
    | with_reducible refine i_isi_bl_tuple ?_
    | with_reducible refine i_isi_int_bool ?_
    | with_reducible refine i_isi_int_int ?_
    | with_reducible refine i_isi_int_str ?_
    | with_reducible refine i_isi_int_list ?_
    | with_reducible refine i_isi_int_tuple ?_
    | with_reducible refine i_isi_str_bool ?_
    | with_reducible refine i_isi_str_int ?_
    | with_reducible refine i_isi_str_str ?_
    | with_reducible refine i_isi_str_list ?_
    | with_reducible refine i_isi_str_tuple ?_
    | with_reducible refine i_isi_tup_bool ?_
    | with_reducible refine i_isi_tup_int ?_
    | with_reducible refine i_isi_tup_str ?_
    | with_reducible refine i_isi_tup_list ?_
    | with_reducible refine i_isi_tup_tuple ?_
    | with_reducible refine i_isi_lst_bool ?_
    | with_reducible refine i_isi_lst_int ?_
    | with_reducible refine i_isi_lst_str ?_
    | with_reducible refine i_isi_lst_list ?_
    | with_reducible refine i_isi_lst_tuple ?_)
  | with_reducible refine i_max ?_
  | with_reducible refine i_min ?_
  | ((with_reducible refine' i_wgtup ?nn ?_); (case nn => exact rfl))
  | ((with_reducible refine' i_rngB ?aa ?bb ?_); (case aa => first | decide | omega); (case bb => first | decide | omega))
  | with_reducible refine i_for ?_
  | with_reducible refine i_while ?_
  | with_reducible refine i_wgcons ?_
  | with_reducible refine i_wgnil ?_
  | with_reducible refine i_wslL ?_
  | with_reducible refine i_nopart ?_
  | with_reducible refine i_part ?_
  ))

/-! ### the draws -/
/-- the tray at t, its great cells at g; at most n draws were mixed -/
structure Tray (h : Hh) (t g : Addr) (n : Int) : Prop where
  ne : t ≠ g
  at_ : ∃ (gs : List Int) (a fold c : Int), h t = some (.lst [.ref g, .int a, .int fold, .int c]) ∧ h g = some (.lst (gs.map Val.int)) ∧ (∀ x ∈ gs, 0 ≤ x) ∧ gs.length ≤ 63 ∧ 0 ≤ a ∧ 0 ≤ fold ∧ fold < 2305843009213693951 ∧ 0 ≤ c ∧ c ≤ n
/-- nothing but the tray is changed -/
def Keep (t g : Addr) (h h' : Hh) : Prop := ∀ b, b ≠ t → b ≠ g → h' b = h b
theorem Keep.refl {t g : Addr} {h : Hh} : Keep t g h h := fun _ _ _ => rfl
theorem Keep.trans {t g : Addr} {h h1 h2 : Hh} (a : Keep t g h h1) (b : Keep t g h1 h2) : Keep t g h h2 := fun c x y => (b c x y).trans (a c x y)
theorem Tray.more {h : Hh} {t g : Addr} {n m : Int} (T : Tray h t g n) (l : n ≤ m) : Tray h t g m := by
  obtain ⟨ne, gs, a, fold, c, h1, h2, h3, h4, h5, h6, h7, h8, h9⟩ := T
  exact ⟨ne, gs, a, fold, c, h1, h2, h3, h4, h5, h6, h7, h8, by omega⟩
def fs_law_draw : FS where
  P := Addr × Addr × Int × Int
  pre := fun (t, g, n, m) vs h => vs = [.ref t, .int m] ∧ Tray h t g n ∧ n ≤ 1000000000000000 ∧ 0 < m ∧ m ≤ 1000000000000000000
  post := fun (t, g, n, m) h v h' => ∃ r : Int, v = .int r ∧ 0 ≤ r ∧ r < m ∧ Tray h' t g (n + 1) ∧ Keep t g h h'
theorem c_law_draw {t g : Addr} {n m : Int} {h : Hh} {E : XQ} {Q : KQ} (T : Tray h t g n) (hn : n ≤ 1000000000000000) (hm : 0 < m) (hm2 : m ≤ 1000000000000000000) (k : ∀ (r : Int) h', 0 ≤ r → r < m → Tray h' t g (n + 1) → Keep t g h h' → Q (.int r) h') : fs_law_draw.sp [.ref t, .int m] h E Q :=
  ⟨(t, g, n, m), ⟨rfl, T, hn, hm, hm2⟩, fun v h' ⟨r, e, a, b, c, d⟩ => by subst e; exact k r h' a b c d, fun _ _ _ z => z.elim⟩
def r_law_draw : WS :=
  wSeq (wWhile (wAnd (wTv (wOp wLt (wOp wIx (wVar 0) (wC (.int 1))) (wC (.int 2)))) (wTv (wOp wNeD (wOp wIx (wVar 0) (wC (.int 0))) (wLst (wNil)))))
  (wAsg (wBM "list" mPopAt (wOp wIx (wVar 0) (wC (.int 0))) (wCons (wC (.int 0)) (wNil))) (wgSub (wVar 0) (wC (.int 1)) wSetL (fun _ _ _ => False))))
  (wSeq (wIf (wTv (wOp wGe (wOp wIx (wVar 0) (wC (.int 1))) (wC (.int 2)))) (wSeq (wAsg (wOp wMod (wOp wIx (wVar 0) (wC (.int 1))) (wVar 1)) (wgName 2))
  (wSeq (wAsg (wOp wDivW (wOp wIx (wVar 0) (wC (.int 1))) (wVar 1)) (wgSub (wVar 0) (wC (.int 1)) wSetL (fun _ _ _ => False)))
  (wRet (wVar 2)))) (wNext))
  (wSeq (wAsg (wOp wAdd (wOp wIx (wVar 0) (wC (.int 3))) (wC (.int 1))) (wgSub (wVar 0) (wC (.int 3)) wSetL (fun _ _ _ => False)))
  (wSeq (wAsg (wOp wMod (wOp wAdd (wOp wMul (wOp wAdd (wOp wIx (wVar 0) (wC (.int 2))) (wC (.int 5))) (wOp wPow (wOp wAdd (wOp wIx (wVar 0) (wC (.int 3))) (wC (.int 2))) (wC (.int 3)))) (wOp wMul (wC (.int 1000003)) (wOp wIx (wVar 0) (wC (.int 3))))) (wOp wSub (wOp wPow (wC (.int 2)) (wC (.int 61))) (wC (.int 1)))) (wgName 3))
  (wRet (wOp wMod (wOp wDivW (wOp wMod (wOp wPow (wVar 3) (wC (.int 5))) (wOp wAdd (wOp wPow (wC (.int 10)) (wC (.int 18))) (wC (.int 9)))) (wC (.int 64))) (wVar 1))))))

theorem shaped_ints (ns : List Int) : SeqAt.shaped (.list (ns.map PyData.int)) = true := by
  unfold SeqAt.shaped
  have e : ∀ ns : List Int, PyData.depthAll (ns.map PyData.int) ≤ 1 := fun ns => by
    induction ns with
    | nil => simp [PyData.depthAll]
    | cons n ns ih => simp [PyData.depthAll, PyData.depth]; omega
  have := e ns
  simp [PyData.canLay0, canLay_ints, PyData.depth]
  omega
theorem rd_law_draw {K : Fr} {p vs h Q} {X : XQ} (gd : Good K Q) (q : fs_law_draw.pre p vs h) (hp : ∀ v h', fs_law_draw.post p h v h' → Q v h') :
    r_law_draw (fun _ h' => Q .non h') Q (fun _ _ => False) (fun _ _ => False) (fun C v _ h' => X C v h') (startV ["tray", "many", "found", "mixed"] vs) h := by
  obtain ⟨t, g, n, m⟩ := p
  obtain ⟨rfl, T, hn, hm, hm2⟩ := q
  show r_law_draw _ _ _ _ _ [some (.ref t), some (.int m), none, none] h
  unfold r_law_draw
  obtain ⟨ne, gs, a, fold, c, h1, h2, h3, h4, h5, h6, h7, h8, h9⟩ := T
  have hp' : ∀ (r : Int) h', 0 ≤ r → r < m → Tray h' t g (n + 1) → Keep t g h h' → Q (.int r) h' := fun r h' a b c d => hp _ _ ⟨r, rfl, a, b, c, d⟩
  clear hp
  walk_at "zgo"
  refine while_inv (fun k ρ h' => ρ = [some (.ref t), some (.int m), none, none] ∧ Keep t g h h' ∧ ∃ (gs : List Int) (a : Int), k = gs.length ∧ h' t = some (.lst [.ref g, .int a, .int fold, .int c]) ∧ h' g = some (.lst (gs.map Val.int)) ∧ (∀ x ∈ gs, 0 ≤ x) ∧ gs.length ≤ 63 ∧ 0 ≤ a) _ ⟨rfl, Keep.refl, gs, a, rfl, h1, h2, h3, h4, h5⟩ ?_
  clear h1 h2 h3 h4 h5
  rintro k ρ h' ⟨rfl, kp, gs, a, rfl, h1, h2, h3, h4, h5⟩
  walk_at "zgo"
  refine i_ifd (fun ha => ?_) (fun ha => ?_)
  · walk_at "zgo"
    refine i_newF ⟨.list (gs.map .int), .list [], .ref h2 (dvs_ints gs), .lst .nil, shaped_ints gs, shaped_ints [], ?_⟩
    cases gs with
    | nil =>
      refine i_blV ?_
      refine iteF ?_
      walk_at "zgo"
      refine i_setL h1 rfl ?_
      have h1' : hup h' t (Ob.lst [Val.ref g, Val.int a, Val.int fold, Val.int (c + 1)]) t = some (.lst [Val.ref g, Val.int a, Val.int fold, Val.int (c + 1)]) := hup_same
      walk_at "zgo"
      refine i_pow (by refine ⟨by omega, by omega, ?_⟩; omega) ?_
      refine i_mul (.inl ⟨by omega, by omega⟩) ?_
      walk_at "zgo"
      refine i_mul (.inl ⟨by omega, by omega⟩) ?_
      walk_at "zgo"
      refine i_pow (by refine ⟨by omega, by omega, ?_⟩; omega) ?_
      walk_at "zgo"
      refine i_mod (by decide) ?_
      walk_at "zgo"
      have b0 : 0 ≤ ((fold + 5) * (c + 1 + 2) ^ (3 : Int).toNat + 1000003 * (c + 1)) % (2 ^ (61 : Int).toNat - 1) := Int.emod_nonneg _ (by decide)
      have b1 : ((fold + 5) * (c + 1 + 2) ^ (3 : Int).toNat + 1000003 * (c + 1)) % (2 ^ (61 : Int).toNat - 1) < 2 ^ (61 : Int).toNat - 1 := Int.emod_lt_of_pos _ (by decide)
      generalize ((fold + 5) * (c + 1 + 2) ^ (3 : Int).toNat + 1000003 * (c + 1)) % (2 ^ (61 : Int).toNat - 1) = mx at b0 b1 ⊢
      have e61 : (2 : Int) ^ (61 : Int).toNat - 1 = 2305843009213693951 := by decide
      rw [e61] at b1
      refine i_pow (by refine ⟨by omega, by omega, ?_⟩; omega) ?_
      walk_at "zgo"
      refine i_pow (by refine ⟨by omega, by omega, ?_⟩; omega) ?_
      walk_at "zgo"
      refine i_mod (by decide) ?_
      walk_at "zgo"
      refine i_divW ⟨by decide, by decide⟩ ?_
      walk_at "zgo"
      refine i_mod hm ?_
      refine hp' _ _ (Int.emod_nonneg _ (by omega)) (Int.emod_lt_of_pos _ hm) ⟨ne, [], a, fold, c + 1, hup_same, by rw [hup_ne ne.symm]; exact h2, h3, h4, h5, h6, h7, by omega, by omega⟩ fun b b1 b2 => by rw [hup_ne b1]; exact kp b b1 b2
    | cons x gs =>
      refine i_blV ?_
      refine iteT ?_
      walk_at "zgo"
      refine ⟨g, _, 0, 0, .int x, rfl, rfl, h2, by decide, by decide, ?_, rfl, ?_⟩
      · simp [seqIndex?]
      · have h1' : hup h' g (.lst (List.eraseIdx (List.map Val.int (x :: gs)) 0)) t = some (.lst [.ref g, .int a, .int fold, .int c]) := by rw [hup_ne ne]; exact h1
        walk_at "zgo"
        refine i_setL h1' rfl ?_
        refine ⟨gs.length, by simp, rfl, fun b b1 b2 => by rw [hup_ne b1, hup_ne b2]; exact kp b b1 b2, gs, x, rfl, hup_same, by rw [hup_ne ne.symm, hup_same]; rfl, fun y hy => h3 y (by simp [hy]), by simp at h4; omega, h3 x (by simp)⟩
  · walk_at "zgo"
    refine i_mod hm ?_
    walk_at "zgo"
    refine i_divW (wide_div hm (b := 60) (by omega) (by decide) (by decide)) ?_
    walk_at "zgo"
    refine i_setL h1 rfl ?_
    walk_at "zgo"
    refine hp' _ _ (Int.emod_nonneg _ (by omega)) (Int.emod_lt_of_pos _ hm) ⟨ne, gs, a / m, fold, c, hup_same, by rw [hup_ne ne.symm]; exact h2, h3, h4, Int.ediv_nonneg h5 (by omega), h6, h7, by omega, by omega⟩ fun b b1 b2 => by rw [hup_ne b1]; exact kp b b1 b2
def fs_law_tray : FS where
  P := List Int
  pre := fun ns vs h => vs = [.scr (ns.map Val.int)] ∧ ns.length ≤ 63
  post := fun _ h v h' => ∃ t g, v = .ref t ∧ h t = none ∧ h g = none ∧ Tray h' t g 0 ∧ Keep t g h h'
theorem c_law_tray {ns : List Int} {h : Hh} {E : XQ} {Q : KQ} (hl : ns.length ≤ 63) (k : ∀ t g h', h t = none → h g = none → Tray h' t g 0 → Keep t g h h' → Q (.ref t) h') : fs_law_tray.sp [.scr (ns.map Val.int)] h E Q :=
  ⟨ns, ⟨rfl, hl⟩, fun v h' ⟨t, g, e, a, b, c, d⟩ => by subst e; exact k t g h' a b c d, fun _ _ _ z => z.elim⟩
def fs_law_any : FS where
  P := Addr × Addr × Int
  pre := fun (t, g, n) vs h => vs = [.ref t] ∧ Tray h t g n ∧ n ≤ 100000000000000
  post := fun (t, g, n) h v h' => ∃ r : Int, v = .int r ∧ -(10 ^ 60) < r ∧ r < 10 ^ 60 ∧ Tray h' t g (n + 6) ∧ Keep t g h h'
theorem c_law_any {t g : Addr} {n : Int} {h : Hh} {E : XQ} {Q : KQ} (T : Tray h t g n) (hn : n ≤ 100000000000000) (k : ∀ (r : Int) h', -(10 ^ 60) < r → r < 10 ^ 60 → Tray h' t g (n + 6) → Keep t g h h' → Q (.int r) h') : fs_law_any.sp [.ref t] h E Q :=
  ⟨(t, g, n), ⟨rfl, T, hn⟩, fun v h' ⟨r, e, a, b, c, d⟩ => by subst e; exact k r h' a b c d, fun _ _ _ z => z.elim⟩
def r_law_tray : WS :=
  wSeq (wAsg (wC (.int 314159265358979)) (wgName 1))
  (wSeq (wAsg (wLst (wNil)) (wgName 2))
  (wSeq (wFor (wiL (wVar 0)) (wgName 3)
  (wSeq (wAsg (wOp wMod (wOp wAdd (wOp wMul (wVar 1) (wC (.int 1000003))) (wVar 3)) (wOp wSub (wOp wPow (wC (.int 2)) (wC (.int 61))) (wC (.int 1)))) (wgName 1))
  (wSeq (wAsg (wCB cMax2 (wCons (wVar 3) (wCons (wOp wSub (wC (.int 0)) (wVar 3)) (wNil)))) (wgName 4))
  (wIf (wTv (wOp wGe (wVar 4) (wOp wPow (wC (.int 10)) (wC (.int 18))))) (wExpr (wBM "list" mAppend (wVar 2) (wCons (wOp wSub (wVar 4) (wOp wPow (wC (.int 10)) (wC (.int 18)))) (wNil)))) (wNext)))))
  (wRet (wLst (wCons (wVar 2) (wCons (wC (.int 0)) (wCons (wVar 1) (wCons (wC (.int 0)) (wNil)))))))))

def r_law_any : WS :=
  wSeq (wAsg (wCall fs_law_draw [] (wCons (wVar 0) (wCons (wC (.int 4)) (wNil)))) (wgName 1))
  (wSeq (wIf (wTv (wOp wLt (wVar 1) (wC (.int 2)))) (wRet (wOp wSub (wCall fs_law_draw [] (wCons (wVar 0) (wCons (wC (.int 17)) (wNil)))) (wC (.int 3)))) (wNext))
  (wSeq (wAsg (wCall fs_law_draw [] (wCons (wVar 0) (wCons (wOp wPow (wC (.int 10)) (wC (.int 15))) (wNil)))) (wgName 2))
  (wSeq (wFor (wiR1 (wC (.int 3))) (wgName 3)
  (wAsg (wOp wAdd (wOp wMul (wVar 2) (wOp wPow (wC (.int 10)) (wC (.int 15)))) (wCall fs_law_draw [] (wCons (wVar 0) (wCons (wOp wPow (wC (.int 10)) (wC (.int 15))) (wNil))))) (wgName 2)))
  (wRet (wOp wMul (wVar 2) (wOp wSub (wC (.int 5)) (wOp wMul (wC (.int 2)) (wVar 1))))))))

theorem rd_law_tray {K : Fr} {p vs h Q} {X : XQ} (gd : Good K Q) (q : fs_law_tray.pre p vs h) (hp : ∀ v h', fs_law_tray.post p h v h' → Q v h') :
    r_law_tray (fun _ h' => Q .non h') Q (fun _ _ => False) (fun _ _ => False) (fun C v _ h' => X C v h') (startV ["script", "fold", "great", "cell", "size"] vs) h := by
  obtain ⟨rfl, hl⟩ := q
  show r_law_tray _ _ _ _ _ [some (.scr (p.map Val.int)), none, none, none, none] h
  unfold r_law_tray
  walk_at "zgo"
  refine i_newO fun g hg => ?_
  walk_at "zgo"
  refine for_inv (fun i ρ h' => ∃ (fold : Int) (gs : List Int) (x y : Option Val), ρ = [some (.scr (p.map Val.int)), some (.int fold), some (.ref g), x, y] ∧ 0 ≤ fold ∧ fold < 2305843009213693951 ∧ h' g = some (.lst (gs.map Val.int)) ∧ (∀ x ∈ gs, 0 ≤ x) ∧ gs.length ≤ i ∧ i ≤ p.length ∧ ∀ b, b ≠ g → h' b = h b)
    ⟨_, [], none, none, rfl, by decide, by decide, hup_same, by simp, by simp, by simp, fun b hb => hup_ne hb⟩ ?_
  rintro i ρ h' ⟨fold, gs, x, y, rfl, f0, f1, hg1, hg2, hg3, hi, kp⟩
  refine ⟨trivial, fun hi2 => ?_, fun z hz => ?_⟩
  · walk_at "zgo"
    refine i_newO fun t ht => ?_
    have ne : t ≠ g := fun e => by subst e; rw [hg1] at ht; cases ht
    have ht0 : h t = none := by rw [← kp t ne]; exact ht
    refine hp _ _ ⟨t, g, rfl, ht0, hg, ⟨ne, gs, 0, fold, 0, hup_same, by rw [hup_ne ne.symm]; exact hg1, hg2, Nat.le_trans hg3 (Nat.le_trans hi hl), by decide, f0, f1, by decide, by decide⟩, fun b b1 b2 => by rw [hup_ne b1]; exact kp b b2⟩
  · obtain ⟨c, hc, rfl⟩ := map_get hz
    have hil : i < p.length := (List.getElem?_eq_some_iff.mp hc).1
    walk_at "zgo"
    refine i_mul (.inl ⟨by omega, by omega⟩) ?_
    walk_at "zgo"
    refine i_pow (by refine ⟨by omega, by omega, ?_⟩; omega) ?_
    walk_at "zgo"
    refine i_mod (by decide) ?_
    walk_at "zgo"
    refine i_pow (by refine ⟨by omega, by omega, ?_⟩; omega) ?_
    walk_at "zgo"
    have m0 : 0 ≤ (fold * 1000003 + c) % (2 ^ (61 : Int).toNat - 1) := Int.emod_nonneg _ (by decide)
    have m1 : (fold * 1000003 + c) % (2 ^ (61 : Int).toNat - 1) < 2305843009213693951 := Int.emod_lt_of_pos _ (by decide)
    refine i_ifd (fun hs => ?_) (fun hs => ?_)
    · walk_at "zgo"
      refine i_pow (by refine ⟨by omega, by omega, ?_⟩; omega) ?_
      walk_at "zgo"
      refine i_append hg1 (by simp; omega) ?_
      refine ⟨_, gs ++ [(if 0 - c > c then 0 - c else c) - 10 ^ (18 : Int).toNat], _, _, rfl, m0, m1, by rw [hup_same]; simp, ?_, ?_, hil, fun b b1 => by rw [hup_ne b1]; exact kp b b1⟩
      · intro x hx
        rcases List.mem_append.mp hx with hx | hx
        · exact hg2 x hx
        · simp only [List.mem_singleton] at hx
          subst hx
          omega
      · simp; omega
    · walk_at "zgo"
      exact ⟨_, gs, _, _, rfl, m0, m1, hg1, hg2, by omega, hil, kp⟩
theorem rd_law_any {K : Fr} {p vs h Q} {X : XQ} (gd : Good K Q) (q : fs_law_any.pre p vs h) (hp : ∀ v h', fs_law_any.post p h v h' → Q v h') :
    r_law_any (fun _ h' => Q .non h') Q (fun _ _ => False) (fun _ _ => False) (fun C v _ h' => X C v h') (startV ["tray", "kind", "found", "k"] vs) h := by
  obtain ⟨t, g, n⟩ := p
  obtain ⟨rfl, T, hn⟩ := q
  show r_law_any _ _ _ _ _ [some (.ref t), none, none, none] h
  unfold r_law_any
  walk_at "zgo"
  refine c_law_draw T (by omega) (by decide) (by decide) fun kind h1 k0 k1 T1 kp1 => ?_
  walk_at "zgo"
  refine i_ifd (fun hk => ?_) (fun hk => ?_)
  · walk_at "zgo"
    refine c_law_draw T1 (by omega) (by decide) (by decide) fun r h2 r0 r1 T2 kp2 => ?_
    walk_at "zgo"
    exact hp _ _ ⟨r - 3, rfl, by omega, by omega, T2.more (by omega), kp1.trans kp2⟩
  · walk_at "zgo"
    refine i_pow (by refine ⟨by omega, by omega, ?_⟩; omega) ?_
    refine c_law_draw T1 (by omega) (by decide) (by decide) fun f h2 r0 r1 T2 kp2 => ?_
    have e15 : (10 : Int) ^ (15 : Int).toNat = 1000000000000000 := by decide
    rw [e15] at r1
    walk_at "zgo"
    refine for_inv (fun i ρ h' => i ≤ 3 ∧ ∃ (f : Int) (x : Option Val), ρ = [some (.ref t), some (.int kind), some (.int f), x] ∧ 0 ≤ f ∧ f < (10 ^ 15) ^ (i + 1) ∧ Tray h' t g (n + 2 + i) ∧ Keep t g h h') ⟨by omega, f, none, rfl, r0, by omega, T2.more (by omega), kp1.trans kp2⟩ ?_
    rintro i ρ h3 ⟨hi, f, x, rfl, f0, f1, T3, kp3⟩
    refine ⟨trivial, fun hi2 => ?_, fun z hz => ?_⟩
    · rw [rng_len] at hi2
      have hi3 : i = 3 := by simp at hi2; omega
      subst hi3
      walk_at "zgo"
      refine i_mul (.inl ⟨by omega, by omega⟩) ?_
      walk_at "zgo"
      refine i_mul (.inr ⟨by omega, by omega⟩) ?_
      have kk : kind = 2 ∨ kind = 3 := by omega
      refine hp _ _ ⟨_, rfl, ?_, ?_, T3.more (by omega), kp3⟩
      · rcases kk with rfl | rfl <;> omega
      · rcases kk with rfl | rfl <;> omega
    · obtain ⟨hi3, rfl⟩ := rng_get hz
      have hi4 : i < 3 := by simpa using hi3
      walk_at "zgo"
      refine i_pow (by refine ⟨by omega, by omega, ?_⟩; omega) ?_
      refine i_mul (.inr ⟨by decide, by decide⟩) ?_
      walk_at "zgo"
      refine i_pow (by refine ⟨by omega, by omega, ?_⟩; omega) ?_
      refine c_law_draw T3 (by omega) (by decide) (by decide) fun r h4 r0 r1 T4 kp4 => ?_
      walk_at "zgo"
      have e15 : (10 : Int) ^ (15 : Int).toNat = 1000000000000000 := by decide
      refine ⟨by omega, _, _, rfl, ?_, ?_, T4.more (by omega), kp3.trans kp4⟩
      · rw [e15] at r1 ⊢
        omega
      · rw [e15] at r1 ⊢
        rw [Int.pow_succ]
        have : f ≤ (10 ^ 15) ^ (i + 1) - 1 := by omega
        have := Int.mul_le_mul_of_nonneg_right this (show (0 : Int) ≤ 10 ^ 15 by decide)
        omega
/-! LC2 -/


/-! ### data of worlds -/
inductive RefD where
  | thing (h n : Int) | made (h a r : Int)
  deriving DecidableEq
def RefD.v : RefD → Val
  | .thing h n => .tup [.str "thing", .int h, .int n]
  | .made h a r => .tup [.str "made", .int h, .int a, .int r]
inductive Thing where
  | box (w : Int) | shelf (rs : List RefD) | relay (r : RefD) | maker | stone
  deriving DecidableEq
def Thing.v : Thing → Val
  | .box w => .tup [.str "box", .int w]
  | .shelf rs => .tup [.str "shelf", .tup (rs.map RefD.v)]
  | .relay r => .tup [.str "relay", r.v]
  | .maker => .tup [.str "maker"]
  | .stone => .tup [.str "stone"]
abbrev Rooms := List (List Thing)
def houseV (hs : List Thing) : Val := .lst (hs.map Thing.v)
abbrev roomsV (ws : Rooms) : Val := .lst (ws.map houseV)
/-- a ref names a thing of houses of these sizes -/
def In (ns : List Nat) : RefD → Prop
  | .thing h n => ∃ k : Nat, 0 ≤ h ∧ ns[h.toNat]? = some k ∧ 0 ≤ n ∧ n < (k : Int)
  | .made _ _ _ => False
def Thing.Ok (ns : List Nat) : Thing → Prop
  | .box w => -(10 ^ 60) < w ∧ w < 10 ^ 60
  | .shelf rs => rs.length ≤ 12 ∧ ∀ r ∈ rs, In ns r
  | .relay r => In ns r
  | .maker => True
  | .stone => True
structure WorldOk (ws : Rooms) : Prop where
  pos : 1 ≤ ws.length
  most : ws.length ≤ 8
  house : ∀ hs ∈ ws, hs.length ≤ 12
  ok : ∀ hs ∈ ws, ∀ th ∈ hs, th.Ok (ws.map List.length)
def natsV (ns : List Nat) : List Val := ns.map fun (n : Nat) => Val.int (n : Int)
theorem natsV_ints (ns : List Nat) : natsV ns = (ns.map fun (n : Nat) => (n : Int)).map Val.int := by simp [natsV]
theorem sum_cast (ns : List Nat) : (ns.map fun (n : Nat) => (n : Int)).sum = (ns.sum : Int) := by
  induction ns with
  | nil => rfl
  | cons n ns ih => simp only [List.map_cons, List.sum_cons, ih]; omega
def fs_law_sizes : FS where
  P := Addr × Addr × Int
  pre := fun (t, g, n) vs h => vs = [.ref t] ∧ Tray h t g n ∧ n ≤ 100000000000000
  post := fun (t, g, n) h v h' => ∃ ns : List Nat, v = .lst (natsV ns) ∧ 1 ≤ ns.length ∧ ns.length ≤ 8 ∧ (∀ k ∈ ns, k ≤ 12) ∧ Tray h' t g (n + 10) ∧ Keep t g h h'
theorem c_law_sizes {t g : Addr} {n : Int} {h : Hh} {E : XQ} {Q : KQ} (T : Tray h t g n) (hn : n ≤ 100000000000000) (k : ∀ (ns : List Nat) h', 1 ≤ ns.length → ns.length ≤ 8 → (∀ k ∈ ns, k ≤ 12) → Tray h' t g (n + 10) → Keep t g h h' → Q (.lst (natsV ns)) h') : fs_law_sizes.sp [.ref t] h E Q :=
  ⟨(t, g, n), ⟨rfl, T, hn⟩, fun v h' ⟨ns, e, a, b, b2, c, d⟩ => by subst e; exact k ns h' a b b2 c d, fun _ _ _ z => z.elim⟩
def fs_law_ref : FS where
  P := Addr × Addr × Int × List Nat
  pre := fun (t, g, n, ns) vs h => vs = [.ref t, .lst (natsV ns)] ∧ Tray h t g n ∧ n ≤ 100000000000000 ∧ 0 < ns.sum ∧ ns.sum ≤ 1000
  post := fun (t, g, n, ns) h v h' => ∃ r : RefD, v = r.v ∧ In ns r ∧ Tray h' t g (n + 1) ∧ Keep t g h h'
theorem c_law_ref {t g : Addr} {n : Int} {ns : List Nat} {h : Hh} {E : XQ} {Q : KQ} (T : Tray h t g n) (hn : n ≤ 100000000000000) (hs : 0 < ns.sum) (hs2 : ns.sum ≤ 1000) (k : ∀ (r : RefD) h', In ns r → Tray h' t g (n + 1) → Keep t g h h' → Q r.v h') : fs_law_ref.sp [.ref t, .lst (natsV ns)] h E Q :=
  ⟨(t, g, n, ns), ⟨rfl, T, hn, hs, hs2⟩, fun v h' ⟨r, e, a, b, c⟩ => by subst e; exact k r h' a b c, fun _ _ _ z => z.elim⟩
def fs_law_thing : FS where
  P := Addr × Addr × Int × List Nat
  pre := fun (t, g, n, ns) vs h => vs = [.ref t, .lst (natsV ns)] ∧ Tray h t g n ∧ n ≤ 10000000000000 ∧ 0 < ns.sum ∧ ns.sum ≤ 1000
  post := fun (t, g, n, ns) h v h' => ∃ th : Thing, v = th.v ∧ th.Ok ns ∧ Tray h' t g (n + 20) ∧ Keep t g h h'
theorem c_law_thing {t g : Addr} {n : Int} {ns : List Nat} {h : Hh} {E : XQ} {Q : KQ} (T : Tray h t g n) (hn : n ≤ 10000000000000) (hs : 0 < ns.sum) (hs2 : ns.sum ≤ 1000) (k : ∀ (th : Thing) h', th.Ok ns → Tray h' t g (n + 20) → Keep t g h h' → Q th.v h') : fs_law_thing.sp [.ref t, .lst (natsV ns)] h E Q :=
  ⟨(t, g, n, ns), ⟨rfl, T, hn, hs, hs2⟩, fun v h' ⟨r, e, a, b, c⟩ => by subst e; exact k r h' a b c, fun _ _ _ z => z.elim⟩
def r_law_sizes : WS :=
  wSeq (wAsg (wCall fs_law_draw [] (wCons (wVar 0) (wCons (wC (.int 8)) (wNil)))) (wgName 1))
  (wSeq (wAsg (wLst (wCons (wC (.int 4)) (wCons (wC (.int 5)) (wNil)))) (wgName 2))
  (wSeq (wIf (wTv (wOp wEqS (wVar 1) (wC (.int 7)))) (wAsg (wLst (wCons (wC (.int 8)) (wCons (wC (.int 13)) (wNil)))) (wgName 2)) (wNext))
  (wSeq (wAsg (wOp wAdd (wC (.int 1)) (wCall fs_law_draw [] (wCons (wVar 0) (wCons (wOp wIx (wVar 2) (wC (.int 0))) (wNil))))) (wgName 3))
  (wRet (wLc (wiR1 (wVar 3)) (tg1 4) wYes (wCall fs_law_draw [] (wCons (wVar 0) (wCons (wOp wIx (wVar 2) (wC (.int 1))) (wNil)))) [4])))))

def r_law_ref : WS :=
  wSeq (wAsg (wCall fs_law_draw [] (wCons (wVar 0) (wCons (wCB cSum (wCons (wVar 1) (wNil))) (wNil)))) (wgName 2))
  (wSeq (wAsg (wC (.int 0)) (wgName 3))
  (wSeq (wFor (wiL (wVar 1)) (wgName 4)
  (wSeq (wIf (wTv (wOp wLt (wVar 2) (wVar 4))) (wRet (wTup (wCons (wC (.str "thing")) (wCons (wVar 3) (wCons (wVar 2) (wNil)))))) (wNext))
  (wSeq (wAsg (wOp wSub (wVar 2) (wVar 4)) (wgName 2))
  (wAsg (wOp wAdd (wVar 3) (wC (.int 1))) (wgName 3)))))
  (wRet (wC .non))))

def r_law_thing : WS :=
  wSeq (wAsg (wCall fs_law_draw [] (wCons (wVar 0) (wCons (wC (.int 9)) (wNil)))) (wgName 2))
  (wSeq (wIf (wTv (wOp wLt (wVar 2) (wC (.int 3)))) (wRet (wTup (wCons (wC (.str "box")) (wCons (wCall fs_law_any [] (wCons (wVar 0) (wNil))) (wNil))))) (wNext))
  (wSeq (wIf (wTv (wOp wLt (wVar 2) (wC (.int 5)))) (wSeq (wAsg (wCall fs_law_draw [] (wCons (wVar 0) (wCons (wOp wIx (wLst (wCons (wC (.int 5)) (wCons (wC (.int 13)) (wNil)))) (wOp wDivW (wCall fs_law_draw [] (wCons (wVar 0) (wCons (wC (.int 8)) (wNil)))) (wC (.int 7)))) (wNil)))) (wgName 3))
  (wRet (wTup (wCons (wC (.str "shelf")) (wCons (wCB cTuple (wCons (wLc (wiR1 (wVar 3)) (tg1 4) wYes (wCall fs_law_ref [] (wCons (wVar 0) (wCons (wVar 1) (wNil)))) [4]) (wNil))) (wNil)))))) (wNext))
  (wSeq (wIf (wTv (wOp wLt (wVar 2) (wC (.int 7)))) (wRet (wTup (wCons (wC (.str "relay")) (wCons (wCall fs_law_ref [] (wCons (wVar 0) (wCons (wVar 1) (wNil)))) (wNil))))) (wNext))
  (wRet (wOp wIx (wLst (wCons (wTup (wCons (wC (.str "maker")) (wNil))) (wCons (wTup (wCons (wC (.str "stone")) (wNil))) (wNil)))) (wOp wSub (wVar 2) (wC (.int 7))))))))

theorem rd_law_sizes {K : Fr} {p vs h Q} {X : XQ} (gd : Good K Q) (q : fs_law_sizes.pre p vs h) (hp : ∀ v h', fs_law_sizes.post p h v h' → Q v h') :
    r_law_sizes (fun _ h' => Q .non h') Q (fun _ _ => False) (fun _ _ => False) (fun C v _ h' => X C v h') (startV ["tray", "wide", "bounds", "many", "k"] vs) h := by
  obtain ⟨t, g, n⟩ := p
  obtain ⟨rfl, T, hn⟩ := q
  show r_law_sizes _ _ _ _ _ [some (.ref t), none, none, none, none] h
  unfold r_law_sizes
  walk_at "zgo"
  refine c_law_draw T (by omega) (by decide) (by decide) fun wide h1 k0 k1 T1 kp1 => ?_
  walk_at "zgo"
  refine i_newF ?_
  walk_at "zgo"
  have rest : ∀ b0 b1 : Int, 0 < b0 → b0 ≤ 8 → 0 < b1 → b1 ≤ 13 → 
      wSeq (wAsg (wOp wAdd (wC (.int 1)) (wCall fs_law_draw [] (wCons (wVar 0) (wCons (wOp wIx (wVar 2) (wC (.int 0))) (wNil))))) (wgName 3))
        (wRet (wLc (wiR1 (wVar 3)) (tg1 4) wYes (wCall fs_law_draw [] (wCons (wVar 0) (wCons (wOp wIx (wVar 2) (wC (.int 1))) (wNil)))) [4]))
        (fun _ h' => Q .non h') Q (fun _ _ => False) (fun _ _ => False) (fun C v _ h' => X C v h') [some (.ref t), some (.int wide), some (.lst [.int b0, .int b1]), none, none] h1 := fun b0 b1 p0 p1 p2 p3 => by
    walk_at "zgo"
    refine c_law_draw T1 (by omega) p0 (by omega) fun m h2 m0 m1 T2 kp2 => ?_
    walk_at "zgo"
    refine lc_inv (fun i acc h' => i ≤ (1 + m).toNat ∧ (∃ ns : List Nat, acc = natsV ns ∧ ns.length = i ∧ ∀ k ∈ ns, k ≤ 12) ∧ Tray h' t g (n + 2 + i) ∧ Keep t g h h') ⟨Nat.zero_le _, ⟨[], rfl, rfl, by simp⟩, T2.more (by omega), kp1.trans kp2⟩ ?_
    rintro i acc h3 ⟨hi, ⟨ns, rfl, hl, hb⟩, T3, kp3⟩
    refine ⟨trivial, fun hl2 => ?_, fun x hx => ?_⟩
    · rw [rng_len] at hl2
      exact i_newF (hp _ _ ⟨ns, rfl, by omega, by omega, hb, T3.more (by omega), kp3⟩)
    · obtain ⟨hi3, rfl⟩ := rng_get hx
      walk_at "zgo"
      refine c_law_draw T3 (by omega) p2 (by omega) fun r h4 r0 r1 T4 kp4 => ?_
      refine ⟨by simp [natsV]; omega, by omega, ⟨ns ++ [r.toNat], by simp [natsV, Int.toNat_of_nonneg r0], by simp [hl], fun k hk => ?_⟩, T4.more (by omega), kp3.trans kp4⟩
      rcases List.mem_append.mp hk with hk | hk
      · exact hb k hk
      · simp at hk; omega
  refine i_ifd (fun e => ?_) (fun e => ?_)
  · walk_at "zgo"
    refine i_newF ?_
    refine i_name2 ?_
    exact rest 8 13 (by decide) (by decide) (by decide) (by decide)
  · refine i_next ?_
    exact rest 4 5 (by decide) (by decide) (by decide) (by decide)
theorem sum_drop {ns : List Nat} {i k : Nat} (h : ns[i]? = some k) : (ns.drop i).sum = k + (ns.drop (i + 1)).sum := by
  obtain ⟨hi, rfl⟩ := List.getElem?_eq_some_iff.mp h
  rw [List.drop_eq_getElem_cons hi, List.sum_cons]
theorem rd_law_ref {K : Fr} {p vs h Q} {X : XQ} (gd : Good K Q) (q : fs_law_ref.pre p vs h) (hp : ∀ v h', fs_law_ref.post p h v h' → Q v h') :
    r_law_ref (fun _ h' => Q .non h') Q (fun _ _ => False) (fun _ _ => False) (fun C v _ h' => X C v h') (startV ["tray", "sizes", "at", "house", "size"] vs) h := by
  obtain ⟨t, g, n, ns⟩ := p
  obtain ⟨rfl, T, hn, hs, hs2⟩ := q
  show r_law_ref _ _ _ _ _ [some (.ref t), some (.lst (natsV ns)), none, none, none] h
  unfold r_law_ref
  walk_at "zgo"
  rw [natsV_ints]
  refine ⟨_, _, rfl, .lst _, ?_⟩
  rw [sum_cast]
  refine c_law_draw T (by omega) (by omega) (by omega) fun at0 h1 a0 a1 T1 kp1 => ?_
  walk_at "zgo"
  refine for_inv (fun i ρ h' => h' = h1 ∧ ∃ (at0 : Int) (x : Option Val), ρ = [some (.ref t), some (.lst ((ns.map fun (n : Nat) => (n : Int)).map Val.int)), some (.int at0), some (.int (i : Int)), x] ∧ 0 ≤ at0 ∧ at0 < ((ns.drop i).sum : Int)) ⟨rfl, at0, none, rfl, a0, by simpa using a1⟩ ?_
  rintro i ρ h' ⟨rfl, at0, x, rfl, a0, a1⟩
  refine ⟨trivial, fun hi => ?_, fun z hz => ?_⟩
  · have : ns.length ≤ i := by simpa using hi
    rw [List.drop_of_length_le this] at a1
    simp at a1; omega
  · obtain ⟨c, hc, rfl⟩ := map_get hz
    rw [List.getElem?_map] at hc
    obtain ⟨k, hk, rfl⟩ : ∃ k, ns[i]? = some k ∧ c = (k : Int) := by
      cases e : ns[i]? with
      | none => rw [e] at hc; cases hc
      | some k => rw [e] at hc; exact ⟨k, rfl, (Option.some.inj hc).symm⟩
    have sd := sum_drop hk
    walk_at "zgo"
    refine i_ifd (fun e => ?_) (fun e => ?_)
    · walk_at "zgo"
      exact hp _ _ ⟨.thing i at0, rfl, ⟨k, by omega, by simpa using hk, a0, by omega⟩, T1, kp1⟩
    · walk_at "zgo"
      refine ⟨rfl, _, _, rfl, by omega, by omega⟩
/-! LC3 -/


theorem rd_law_thing {K : Fr} {p vs h Q} {X : XQ} (gd : Good K Q) (q : fs_law_thing.pre p vs h) (hp : ∀ v h', fs_law_thing.post p h v h' → Q v h') :
    r_law_thing (fun _ h' => Q .non h') Q (fun _ _ => False) (fun _ _ => False) (fun C v _ h' => X C v h') (startV ["tray", "sizes", "kind", "many", "k"] vs) h := by
  obtain ⟨t, g, n, ns⟩ := p
  obtain ⟨rfl, T, hn, hs, hs2⟩ := q
  show r_law_thing _ _ _ _ _ [some (.ref t), some (.lst (natsV ns)), none, none, none] h
  unfold r_law_thing
  walk_at "zgo"
  refine c_law_draw T (by omega) (by decide) (by decide) fun kind h1 k0 k1 T1 kp1 => ?_
  walk_at "zgo"
  refine i_ifd (fun e1 => ?_) (fun e1 => ?_)
  · walk_at "zgo"
    refine c_law_any T1 (by omega) fun r h2 r0 r1 T2 kp2 => ?_
    walk_at "zgo"
    exact hp _ _ ⟨.box r, rfl, ⟨r0, r1⟩, T2.more (by omega), kp1.trans kp2⟩
  walk_at "zgo"
  refine i_ifd (fun e2 => ?_) (fun e2 => ?_)
  · walk_at "zgo"
    refine i_newF ?_
    walk_at "zgo"
    refine c_law_draw T1 (by omega) (by decide) (by decide) fun c h2 c0 c1 T2 kp2 => ?_
    refine i_c ?_
    refine i_divW ⟨by decide, by decide⟩ ?_
    have em : ∃ m : Int, L2.atI [Val.int 5, Val.int 13] (c / 7) = some (.int m) ∧ 0 < m ∧ m ≤ 13 := by
      have : c / 7 = 0 ∨ c / 7 = 1 := by omega
      rcases this with e | e
      · exact ⟨5, by rw [e]; rfl, by decide, by decide⟩
      · exact ⟨13, by rw [e]; rfl, by decide, by decide⟩
    obtain ⟨m, em, m0, m1⟩ := em
    refine i_ixL em ?_
    walk_at "zgo"
    refine c_law_draw T2 (by omega) m0 (by omega) fun many h3 b0 b1 T3 kp3 => ?_
    walk_at "zgo"
    refine lc_inv (fun i acc h' => i ≤ many.toNat ∧ (∃ rs : List RefD, acc = rs.map RefD.v ∧ rs.length = i ∧ ∀ r ∈ rs, In ns r) ∧ Tray h' t g (n + 3 + i) ∧ Keep t g h h') ⟨Nat.zero_le _, ⟨[], rfl, rfl, by simp⟩, T3.more (by omega), (kp1.trans kp2).trans kp3⟩ ?_
    rintro i acc h4 ⟨hi, ⟨rs, rfl, hl, hb⟩, T4, kp4⟩
    refine ⟨trivial, fun hl2 => ?_, fun x hx => ?_⟩
    · rw [rng_len] at hl2
      refine i_newF ?_
      walk_at "zgo"
      exact hp _ _ ⟨.shelf rs, rfl, ⟨by omega, hb⟩, T4.more (by omega), kp4⟩
    · obtain ⟨hi3, rfl⟩ := rng_get hx
      walk_at "zgo"
      refine c_law_ref T4 (by omega) hs hs2 fun r h5 hr T5 kp5 => ?_
      refine ⟨by simp; omega, by omega, ⟨rs ++ [r], by simp, by simp [hl], fun k hk => ?_⟩, T5.more (by omega), kp4.trans kp5⟩
      rcases List.mem_append.mp hk with hk | hk
      · exact hb k hk
      · simp at hk; subst hk; exact hr
  walk_at "zgo"
  refine i_ifd (fun e3 => ?_) (fun e3 => ?_)
  · walk_at "zgo"
    refine c_law_ref T1 (by omega) hs hs2 fun r h5 hr T5 kp5 => ?_
    walk_at "zgo"
    exact hp _ _ ⟨.relay r, rfl, hr, T5.more (by omega), kp1.trans kp5⟩
  walk_at "zgo"
  refine i_newF ?_
  walk_at "zgo"
  have ek : kind = 7 ∨ kind = 8 := by omega
  rcases ek with rfl | rfl
  · refine i_ixL rfl ?_
    exact hp _ _ ⟨.maker, rfl, trivial, T1.more (by omega), kp1⟩
  · refine i_ixL rfl ?_
    exact hp _ _ ⟨.stone, rfl, trivial, T1.more (by omega), kp1⟩
/-- an owned list is told as one that is never changed again -/
theorem Good.frz {K : Fr} {Q : KQ} (g : Good K Q) {a : Addr} {xs : List Val} {h : Hh} (e : h a = some (.lst xs)) (q : Q (.lst xs) (hdel h a)) : Q (.ref a) h :=
  g _ _ _ _ (fun S F H w r x => by
    obtain ⟨u, x2, r2, s2⟩ := r.freeze e
    obtain ⟨ws, rfl, x3⟩ := x2
    rw [rel_ref] at x
    exact ⟨_, s2, r2, rel_lst.mpr ⟨a, ws, x, upd_same, Rels.mono s2 _ _ x3⟩⟩) q
theorem Good.drop {K : Fr} {Q : KQ} (g : Good K Q) {v : Val} {h h' : Hh} (e : ∀ a o, h' a = some o → h a = some o) (q : Q v h') : Q v h :=
  g _ _ _ _ (fun S F H w r x => ⟨S, Sub.refl S, r.drop e, x⟩) q
theorem sum_le {ns : List Nat} (h : ∀ k ∈ ns, k ≤ 12) : ns.sum ≤ 12 * ns.length := by
  induction ns with
  | nil => simp
  | cons n ns ih =>
    have h1 := h n (by simp)
    have h2 := ih fun k hk => h k (by simp [hk])
    simp only [List.sum_cons, List.length_cons]; omega
theorem sum_pos {ns : List Nat} {k : Nat} (h : k ∈ ns) (p : 0 < k) : 0 < ns.sum := by
  induction ns with
  | nil => simp at h
  | cons n ns ih =>
    simp only [List.sum_cons]
    rcases List.mem_cons.mp h with rfl | h
    · omega
    · have := ih h; omega
/-! LC4 -/


/-- values of tuples and lists of this depth -/
inductive PureV : Nat → Val → Prop
  | non (d) : PureV d .non
  | bl (d b) : PureV d (.bl b)
  | int (d i) : PureV d (.int i)
  | str (d z) : PureV d (.str z)
  | tup {d xs} : xs.length ≤ 1000000 → (∀ x ∈ xs, PureV d x) → PureV (d + 1) (.tup xs)
  | lst {d xs} : xs.length ≤ 1000000 → (∀ x ∈ xs, PureV d x) → PureV (d + 1) (.lst xs)
theorem PureV.up : ∀ {d : Nat} {x : Val}, PureV d x → PureV (d + 1) x
  | _, _, .non d => .non _
  | _, _, .bl d b => .bl _ b
  | _, _, .int d b => .int _ b
  | _, _, .str d b => .str _ b
  | _, _, .tup l h => .tup l fun x hx => (h x hx).up
  | _, _, .lst l h => .lst l fun x hx => (h x hx).up
theorem PureV.le {d e : Nat} {x : Val} (p : PureV d x) (h : d ≤ e) : PureV e x := by
  induction h with
  | refl => exact p
  | step _ ih => exact ih.up
/-- a list whose items can be read -/
inductive LsqA (h : Hh) : Val → List Val → Prop where
  | lst (xs) : LsqA h (.lst xs) xs
  | ref {a xs} : h a = some (.lst xs) → LsqA h (.ref a) xs
/-- alike, of this depth: lists may be owned -/
inductive DEq (h : Hh) : Nat → Val → Val → Prop where
  | non (d) : DEq h d .non .non
  | bl (d b) : DEq h d (.bl b) (.bl b)
  | int (d i) : DEq h d (.int i) (.int i)
  | str (d z) : DEq h d (.str z) (.str z)
  | tup {d : Nat} {xs ys : List Val} : xs.length ≤ 1000000 → xs.length = ys.length → (∀ (i : Nat) (x y : Val), xs[i]? = some x → ys[i]? = some y → DEq h d x y) → DEq h (d + 1) (.tup xs) (.tup ys)
  | lst {d : Nat} {x y : Val} {xs ys : List Val} : LsqA h x xs → LsqA h y ys → xs.length ≤ 1000000 → xs.length = ys.length → (∀ (i : Nat) (x y : Val), xs[i]? = some x → ys[i]? = some y → DEq h d x y) → DEq h (d + 1) x y
theorem PureV.deq {h : Hh} : ∀ {d : Nat} {x : Val}, PureV d x → DEq h d x x
  | _, _, .non d => .non _
  | _, _, .bl d b => .bl _ b
  | _, _, .int d b => .int _ b
  | _, _, .str d b => .str _ b
  | _, _, .tup l h => .tup l rfl fun i x y e1 e2 => by
    rw [e1] at e2
    cases e2
    exact (h x (List.mem_of_getElem? e1)).deq
  | _, _, .lst l h => .lst (.lst _) (.lst _) l rfl fun i x y e1 e2 => by
    rw [e1] at e2
    cases e2
    exact (h x (List.mem_of_getElem? e1)).deq
def fs_bot : FS where
  P := Unit
  pre := fun _ _ _ => False
  post := fun _ _ _ _ => True
theorem ok_bot {P : Program} {w : World} {K : Fr} {mg : Str → Option Value} {base : Heap} {CX : CXT} {f : Addr} {fd : FuncData} {ps : List Str} : FnOk P w K mg base CX 0 f fd ps (lSp K fs_bot) :=
  ⟨fun _ _ _ _ ⟨_, _, _, _, _, _, _, _, ⟨_, q, _⟩, _⟩ => q.elim, fun _ _ _ _ _ _ _ _ _ _ _ _ _ ⟨_, _, _, _, _, _, _, _, ⟨_, q, _⟩, _⟩ => q.elim⟩
def fs_law_alike : Nat → FS
  | 0 => fs_bot
  | d + 1 => {
    P := Val × Val
    pre := fun (x, y) vs h => vs = [x, y] ∧ DEq h d x y
    post := fun _ h v h' => v = .bl true ∧ h' = h }
theorem c_law_alike_deq {d : Nat} {x y : Val} {h : Hh} {E : XQ} {Q : KQ} (p : DEq h d x y) (k : Q (.bl true) h) : (fs_law_alike (d + 1)).sp [x, y] h E Q :=
  ⟨(x, y), ⟨rfl, p⟩, fun v h' ⟨a, b⟩ => by subst a b; exact k, fun _ _ _ z => z.elim⟩
theorem c_law_alike {d : Nat} {x : Val} {h : Hh} {E : XQ} {Q : KQ} (p : PureV d x) (k : Q (.bl true) h) : (fs_law_alike (d + 1)).sp [x, x] h E Q := c_law_alike_deq p.deq k
def r_law_alike (d : Nat) : WS :=
  wSeq (wIf (wTv (wIsN (wVar 1))) (wRet (wIsN (wVar 0))) (wNext))
  (wSeq (wIf (wTv (wCB cIsi (wCons (wVar 1) (wCons (wC (.ty "bool")) (wNil))))) (wRet (wAndV (wCB cIsi (wCons (wVar 0) (wCons (wC (.ty "bool")) (wNil)))) (wOp wEqS (wVar 0) (wVar 1)))) (wNext))
  (wSeq (wIf (wTv (wCB cIsi (wCons (wVar 1) (wCons (wC (.ty "int")) (wNil))))) (wRet (wAndV (wCB cIsi (wCons (wVar 0) (wCons (wC (.ty "int")) (wNil)))) (wAndV (wNotV (wCB cIsi (wCons (wVar 0) (wCons (wC (.ty "bool")) (wNil))))) (wOp wEqS (wVar 0) (wVar 1))))) (wNext))
  (wSeq (wIf (wTv (wCB cIsi (wCons (wVar 1) (wCons (wC (.ty "str")) (wNil))))) (wRet (wAndV (wCB cIsi (wCons (wVar 0) (wCons (wC (.ty "str")) (wNil)))) (wOp wEqS (wVar 0) (wVar 1)))) (wNext))
  (wSeq (wIf (wOr (wTv (wOp wNeS (wCB cIsi (wCons (wVar 0) (wCons (wC (.ty "list")) (wNil)))) (wCB cIsi (wCons (wVar 1) (wCons (wC (.ty "list")) (wNil)))))) (wTv (wOp wNeS (wCB cIsi (wCons (wVar 0) (wCons (wC (.ty "tuple")) (wNil)))) (wCB cIsi (wCons (wVar 1) (wCons (wC (.ty "tuple")) (wNil))))))) (wRet (wC (.bl false))) (wNext))
  (wSeq (wIf (wTv (wOp wNeS (wCB cLen (wCons (wVar 0) (wNil))) (wCB cLen (wCons (wVar 1) (wNil))))) (wRet (wC (.bl false))) (wNext))
  (wSeq (wFor (wiR1 (wCB cLen (wCons (wVar 1) (wNil)))) (wgName 2)
  (wIf (wNot (wTv (wCall (fs_law_alike d) [] (wCons (wOp wIx (wVar 0) (wVar 2)) (wCons (wOp wIx (wVar 1) (wVar 2)) (wNil)))))) (wRet (wC (.bl false))) (wNext)))
  (wRet (wC (.bl true)))))))))

theorem eqB_rfl {b : Bool} : decide (b = b) = true := decide_eq_true rfl
theorem atI_nat' {xs : List Val} {i : Nat} {v : Val} (h : xs[i]? = some v) : L2.atI xs (0 + (i : Int)) = some v := by
  rw [Int.zero_add]; exact L2.atI_nat h
theorem rd_law_alike {K : Fr} {d : Nat} {p vs h Q} {X : XQ} (gd : Good K Q) (q : (fs_law_alike (d + 1)).pre p vs h) (hp : ∀ v h', (fs_law_alike (d + 1)).post p h v h' → Q v h') :
    r_law_alike d (fun _ h' => Q .non h') Q (fun _ _ => False) (fun _ _ => False) (fun C v _ h' => X C v h') (startV ["found", "due", "k"] vs) h := by
  obtain ⟨p, y⟩ := p
  obtain ⟨rfl, pv⟩ := q
  have hq : Q (.bl true) h := hp _ _ ⟨rfl, rfl⟩
  clear hp
  show r_law_alike _ _ _ _ _ _ [some p, some y, none] h
  unfold r_law_alike
  cases pv with
  | non => 
    walk_at "zgo"
    exact hq
  | bl _ b =>
    walk_at "zgo"
    rw [eqB_rfl]
    exact hq
  | int _ b =>
    walk_at "zgo"
    simp only [decide_true]
    exact hq
  | str _ b =>
    walk_at "zgo"
    simp only [decide_true]
    exact hq
  | @tup e xs ys hl hle hx =>
    walk_at "zgo"
    refine for_inv (fun i ρ h' => h' = h ∧ ∃ x : Option Val, ρ = [some (.tup xs), some (.tup ys), x]) ⟨rfl, none, rfl⟩ ?_
    rintro i ρ h' ⟨rfl, x, rfl⟩
    refine ⟨trivial, fun _ => ?_, fun z hz => ?_⟩
    · walk_at "zgo"
      exact hq
    · obtain ⟨hi, rfl⟩ := rng_get hz
      have hi' : i < ys.length := by simpa using hi
      have hg : xs[i]? = some (xs[i]'(by omega)) := List.getElem?_eq_getElem (by omega)
      have hg2 : ys[i]? = some ys[i] := List.getElem?_eq_getElem hi'
      walk_at "zgo"
      refine i_ixT (atI_nat' hg) ?_
      walk_at "zgo"
      refine i_ixT (atI_nat' hg2) ?_
      walk_at "zgo"
      refine c_law_alike_deq (hx i _ _ hg hg2) ?_
      walk_at "zgo"
      exact ⟨rfl, _, rfl⟩
  | @lst e x y xs ys sx sy hl hle hx =>
    cases sx with
    | lst =>
      cases sy with
      | lst =>
        walk_at "zgo"
        refine for_inv (fun i ρ h' => h' = h ∧ ∃ x : Option Val, ρ = [some (.lst xs), some (.lst ys), x]) ⟨rfl, none, rfl⟩ ?_
        rintro i ρ h' ⟨rfl, x, rfl⟩
        refine ⟨trivial, fun _ => ?_, fun z hz => ?_⟩
        · walk_at "zgo"
          exact hq
        · obtain ⟨hi, rfl⟩ := rng_get hz
          have hi' : i < ys.length := by simpa using hi
          have hg : xs[i]? = some (xs[i]'(by omega)) := List.getElem?_eq_getElem (by omega)
          have hg2 : ys[i]? = some ys[i] := List.getElem?_eq_getElem hi'
          walk_at "zgo"
          refine i_ixL (atI_nat' hg) ?_
          walk_at "zgo"
          refine i_ixL (atI_nat' hg2) ?_
          walk_at "zgo"
          refine c_law_alike_deq (hx i _ _ hg hg2) ?_
          walk_at "zgo"
          exact ⟨rfl, _, rfl⟩
      | @ref b _ eb =>
        walk_at "zgo"
        iterate 5 ((first | refine i_isi (b := false) (.lst (.ref eb)) (by decide +kernel) ?_ | refine i_isi (b := true) (.lst (.ref eb)) (by decide +kernel) ?_); walk_at "zgo")
        refine for_inv (fun i ρ h' => h' = h ∧ ∃ x : Option Val, ρ = [some (.lst xs), some (.ref b), x]) ⟨rfl, none, rfl⟩ ?_
        rintro i ρ h' ⟨rfl, x, rfl⟩
        refine ⟨trivial, fun _ => ?_, fun z hz => ?_⟩
        · walk_at "zgo"
          exact hq
        · obtain ⟨hi, rfl⟩ := rng_get hz
          have hi' : i < ys.length := by simpa using hi
          have hg : xs[i]? = some (xs[i]'(by omega)) := List.getElem?_eq_getElem (by omega)
          have hg2 : ys[i]? = some ys[i] := List.getElem?_eq_getElem hi'
          walk_at "zgo"
          refine i_ixL (atI_nat' hg) ?_
          walk_at "zgo"
          refine i_ixR eb (atI_nat' hg2) ?_
          walk_at "zgo"
          refine c_law_alike_deq (hx i _ _ hg hg2) ?_
          walk_at "zgo"
          exact ⟨rfl, _, rfl⟩
    | @ref a _ ea =>
      cases sy with
      | lst =>
        walk_at "zgo"
        iterate 2 ((first | refine i_isi (b := false) (.lst (.ref ea)) (by decide +kernel) ?_ | refine i_isi (b := true) (.lst (.ref ea)) (by decide +kernel) ?_); walk_at "zgo")
        refine for_inv (fun i ρ h' => h' = h ∧ ∃ x : Option Val, ρ = [some (.ref a), some (.lst ys), x]) ⟨rfl, none, rfl⟩ ?_
        rintro i ρ h' ⟨rfl, x, rfl⟩
        refine ⟨trivial, fun _ => ?_, fun z hz => ?_⟩
        · walk_at "zgo"
          exact hq
        · obtain ⟨hi, rfl⟩ := rng_get hz
          have hi' : i < ys.length := by simpa using hi
          have hg : xs[i]? = some (xs[i]'(by omega)) := List.getElem?_eq_getElem (by omega)
          have hg2 : ys[i]? = some ys[i] := List.getElem?_eq_getElem hi'
          walk_at "zgo"
          refine i_ixR ea (atI_nat' hg) ?_
          walk_at "zgo"
          refine i_ixL (atI_nat' hg2) ?_
          walk_at "zgo"
          refine c_law_alike_deq (hx i _ _ hg hg2) ?_
          walk_at "zgo"
          exact ⟨rfl, _, rfl⟩
      | @ref b _ eb =>
        walk_at "zgo"
        iterate 7 ((first | refine i_isi (b := false) (.lst (.ref eb)) (by decide +kernel) ?_ | refine i_isi (b := true) (.lst (.ref eb)) (by decide +kernel) ?_ | refine i_isi (b := false) (.lst (.ref ea)) (by decide +kernel) ?_ | refine i_isi (b := true) (.lst (.ref ea)) (by decide +kernel) ?_); walk_at "zgo")
        refine for_inv (fun i ρ h' => h' = h ∧ ∃ x : Option Val, ρ = [some (.ref a), some (.ref b), x]) ⟨rfl, none, rfl⟩ ?_
        rintro i ρ h' ⟨rfl, x, rfl⟩
        refine ⟨trivial, fun _ => ?_, fun z hz => ?_⟩
        · walk_at "zgo"
          exact hq
        · obtain ⟨hi, rfl⟩ := rng_get hz
          have hi' : i < ys.length := by simpa using hi
          have hg : xs[i]? = some (xs[i]'(by omega)) := List.getElem?_eq_getElem (by omega)
          have hg2 : ys[i]? = some ys[i] := List.getElem?_eq_getElem hi'
          walk_at "zgo"
          refine i_ixR ea (atI_nat' hg) ?_
          walk_at "zgo"
          refine i_ixR eb (atI_nat' hg2) ?_
          walk_at "zgo"
          refine c_law_alike_deq (hx i _ _ hg hg2) ?_
          walk_at "zgo"
          exact ⟨rfl, _, rfl⟩
/-! ZP1 -/


/-! ### worlds -/
def Thing.refs : Thing → List RefD
  | .shelf rs => rs
  | .relay r => [r]
  | _ => []
def isThere (ws : Rooms) : RefD → Bool
  | .thing h n => decide (0 ≤ h ∧ h < (ws.length : Int) ∧ 0 ≤ n ∧ n < (((ws[h.toNat]?).getD []).length : Int))
  | .made _ _ _ => false
def isGood (ws : Rooms) (hs : List Thing) : Bool := decide (hs.length ≤ 12) && hs.all fun th => decide (th.refs.length ≤ 12) && th.refs.all (isThere ws)
def okWorld (ws : Rooms) : Bool := decide (1 ≤ ws.length) && decide (ws.length ≤ 8) && ws.all (isGood ws)
/-- a list of lists of things -/
def HsAt (h : Hh) (v : Val) (ws : Rooms) : Prop := ∃ xs, Seqq h v xs ∧ Paired (fun x hs => Seqq h x (hs.map Thing.v)) xs ws
/-- no list is long -/
structure SmallW (ws : Rooms) : Prop where
  len : ws.length ≤ 100000
  house : ∀ hs ∈ ws, hs.length ≤ 100000
def fs_refs_of : FS where
  P := Thing
  pre := fun th vs h => vs = [th.v]
  post := fun th h v h' => v = .lst (th.refs.map RefD.v) ∧ h' = h
theorem c_refs_of {th : Thing} {h : Hh} {E : XQ} {Q : KQ} (k : Q (.lst (th.refs.map RefD.v)) h) : fs_refs_of.sp [th.v] h E Q :=
  ⟨th, rfl, fun v h' ⟨a, b⟩ => by subst a b; exact k, fun _ _ _ z => z.elim⟩
def fs_is_there : FS where
  P := Val × Rooms × RefD
  pre := fun (x, ws, r) vs h => vs = [x, r.v] ∧ HsAt h x ws ∧ SmallW ws
  post := fun (x, ws, r) h v h' => v = .bl (isThere ws r) ∧ h' = h
theorem c_is_there {x : Val} {ws : Rooms} {r : RefD} {h : Hh} {E : XQ} {Q : KQ} (a : HsAt h x ws) (b : SmallW ws) (k : Q (.bl (isThere ws r)) h) : fs_is_there.sp [x, r.v] h E Q :=
  ⟨(x, ws, r), ⟨rfl, a, b⟩, fun v h' ⟨a, b⟩ => by subst a b; exact k, fun _ _ _ z => z.elim⟩
def fs_is_good : FS where
  P := Val × Rooms × Val × List Thing
  pre := fun (x, ws, y, hs) vs h => vs = [x, y] ∧ HsAt h x ws ∧ SmallW ws ∧ Seqq h y (hs.map Thing.v) ∧ hs.length ≤ 100000
  post := fun (x, ws, y, hs) h v h' => v = .bl (isGood ws hs) ∧ h' = h
theorem c_is_good {x y : Val} {ws : Rooms} {hs : List Thing} {h : Hh} {E : XQ} {Q : KQ} (a : HsAt h x ws) (b : SmallW ws) (c : Seqq h y (hs.map Thing.v)) (d : hs.length ≤ 100000) (k : Q (.bl (isGood ws hs)) h) : fs_is_good.sp [x, y] h E Q :=
  ⟨(x, ws, y, hs), ⟨rfl, a, b, c, d⟩, fun v h' ⟨a, b⟩ => by subst a b; exact k, fun _ _ _ z => z.elim⟩
def r_refs_of : WS :=
  wSeq (wIf (wTv (wOp wEqS (wOp wIx (wVar 0) (wC (.int 0))) (wC (.str "shelf")))) (wRet (wCB cList (wCons (wOp wIx (wVar 0) (wC (.int 1))) (wNil)))) (wNext))
  (wSeq (wIf (wTv (wOp wEqS (wOp wIx (wVar 0) (wC (.int 0))) (wC (.str "relay")))) (wRet (wLst (wCons (wOp wIx (wVar 0) (wC (.int 1))) (wNil)))) (wNext))
  (wRet (wLst (wNil))))

def r_is_there : WS :=
  wSeq (wIf (wOr (wTv (wOp wNeS (wOp wIx (wVar 1) (wC (.int 0))) (wC (.str "thing")))) (wOr (wTv (wOp wLt (wOp wIx (wVar 1) (wC (.int 1))) (wC (.int 0)))) (wTv (wOp wGe (wOp wIx (wVar 1) (wC (.int 1))) (wCB cLen (wCons (wVar 0) (wNil))))))) (wRet (wC (.bl false))) (wNext))
  (wRet (wChain wLe wLt (wC (.int 0)) (wOp wIx (wVar 1) (wC (.int 2))) (wCB cLen (wCons (wOp wIx (wVar 0) (wOp wIx (wVar 1) (wC (.int 1)))) (wNil)))))

def r_is_good : WS :=
  wSeq (wIf (wTv (wOp wGt (wCB cLen (wCons (wVar 1) (wNil))) (wC (.int 12)))) (wRet (wC (.bl false))) (wNext))
  (wSeq (wFor (wiL (wVar 1)) (wgName 2)
  (wSeq (wAsg (wCall fs_refs_of [] (wCons (wVar 2) (wNil))) (wgName 3))
  (wSeq (wIf (wTv (wOp wGt (wCB cLen (wCons (wVar 3) (wNil))) (wC (.int 12)))) (wRet (wC (.bl false))) (wNext))
  (wFor (wiL (wVar 3)) (wgName 4)
  (wIf (wNot (wTv (wCall fs_is_there [] (wCons (wVar 0) (wCons (wVar 4) (wNil)))))) (wRet (wC (.bl false))) (wNext))))))
  (wRet (wC (.bl true))))

theorem len_seqq {h : Hh} {x : Val} {xs : List Val} {Q : KQ} (q : Seqq h x xs) (k : Q (.int (xs.length : Int)) h) : cLen [x] h Q := ⟨_, _, rfl, .lst q, k⟩
theorem ix_seqq {h : Hh} {x : Val} {xs : List Val} {i : Int} {v : Val} {Q : KQ} (q : Seqq h x xs) (e : L2.atI xs i = some v) (k : Q v h) : wIx x (.int i) h Q := ⟨i, v, rfl, .lst q e, k⟩
theorem list_seqq {h : Hh} {x : Val} {xs : List Val} {Q : KQ} (q : Seqq h x xs) (k : NewL xs h Q) : cList [x] h Q := ⟨_, _, rfl, .lst q, k⟩
theorem its_seqq {h : Hh} {x : Val} {xs : List Val} {G : List Val → (Hh → Prop) → Hh → Prop} (q : Seqq h x xs) (k : ∀ chk, chk h → (∀ h', (∀ b, h' b = h b) → chk h') → G xs chk h) : Its h x G := by
  cases q with
  | lst => exact .inl ⟨xs, .inl rfl, k _ trivial fun _ _ => trivial⟩
  | scr => exact .inl ⟨xs, .inr rfl, k _ trivial fun _ _ => trivial⟩
  | ref e => exact .inr ⟨_, xs, rfl, e, k _ e fun h' z => by rw [z]; exact e⟩
theorem HsAt.len {h : Hh} {v : Val} {ws : Rooms} (q : HsAt h v ws) : ∃ xs, Seqq h v xs ∧ xs.length = ws.length := by
  obtain ⟨xs, a, b⟩ := q
  exact ⟨xs, a, Paired.length b⟩
theorem paired_get {α β : Type} {F : α → β → Prop} : ∀ {xs : List α} {ys : List β} {i : Nat} {y : β}, Paired F xs ys → ys[i]? = some y → ∃ x, xs[i]? = some x ∧ F x y
  | _, _, _, _, .nil, e => by simp at e
  | _, _, 0, _, .cons r _, e => by simp at e; subst e; exact ⟨_, rfl, r⟩
  | _, _, i + 1, y, .cons _ t, e => by
    obtain ⟨x, h1, h2⟩ := paired_get (i := i) (y := y) t (by simpa using e)
    exact ⟨x, by simpa using h1, h2⟩
theorem HsAt.at {h : Hh} {v : Val} {ws : Rooms} {i : Nat} {hs : List Thing} (q : HsAt h v ws) (e : ws[i]? = some hs) : ∃ xs x, Seqq h v xs ∧ xs[i]? = some x ∧ Seqq h x (hs.map Thing.v) ∧ xs.length = ws.length := by
  obtain ⟨xs, a, b⟩ := q
  obtain ⟨x, h1, h2⟩ := paired_get b e
  exact ⟨xs, x, a, h1, h2, Paired.length b⟩
theorem rd_refs_of {K : Fr} {p vs h Q} {X : XQ} (gd : Good K Q) (q : fs_refs_of.pre p vs h) (hp : ∀ v h', fs_refs_of.post p h v h' → Q v h') :
    r_refs_of (fun _ h' => Q .non h') Q (fun _ _ => False) (fun _ _ => False) (fun C v _ h' => X C v h') (startV ["thing"] vs) h := by
  obtain rfl := q
  have hq : Q (.lst ((p : Thing).refs.map RefD.v)) h := hp _ _ ⟨rfl, rfl⟩
  clear hp
  show r_refs_of _ _ _ _ _ [some (p : Thing).v] h
  unfold r_refs_of
  cases (p : Thing) with
  | box w => unfold Thing.v; walk_at "zgo"; exact i_newF hq
  | shelf rs => unfold Thing.v; walk_at "zgo"; exact i_newF hq
  | relay r => unfold Thing.v; walk_at "zgo"; exact i_newF hq
  | maker => unfold Thing.v; walk_at "zgo"; exact i_newF hq
  | stone => unfold Thing.v; walk_at "zgo"; exact i_newF hq
theorem rd_is_there {K : Fr} {p vs h Q} {X : XQ} (gd : Good K Q) (q : fs_is_there.pre p vs h) (hp : ∀ v h', fs_is_there.post p h v h' → Q v h') :
    r_is_there (fun _ h' => Q .non h') Q (fun _ _ => False) (fun _ _ => False) (fun C v _ h' => X C v h') (startV ["houses", "ref"] vs) h := by
  obtain ⟨x, ws, r⟩ := p
  obtain ⟨rfl, ha, sm⟩ := q
  have hq : Q (.bl (isThere ws r)) h := hp _ _ ⟨rfl, rfl⟩
  clear hp
  show r_is_there _ _ _ _ _ [some x, some r.v] h
  unfold r_is_there
  cases r with
  | made a b c => unfold RefD.v; walk_at "zgo"; exact hq
  | thing hh n =>
    unfold RefD.v
    simp only [isThere] at hq
    obtain ⟨xs, sx, hl⟩ := ha.len
    walk_at "zgo"
    refine i_ifd (fun e1 => ?_) (fun e1 => ?_)
    · walk_at "zgo"
      rw [decide_eq_false (by omega)] at hq
      exact hq
    walk_at "zgo"
    refine len_seqq sx ?_
    rw [hl]
    walk_at "zgo"
    refine i_ifd (fun e2 => ?_) (fun e2 => ?_)
    · walk_at "zgo"
      rw [decide_eq_false (by omega)] at hq
      exact hq
    have h0 : 0 ≤ hh := by omega
    have hlt : hh.toNat < ws.length := by omega
    have hw : ws[hh.toNat]? = some ws[hh.toNat] := List.getElem?_eq_getElem hlt
    obtain ⟨ys, y, sy, hy, hy2, hl2⟩ := ha.at hw
    have hsm := sm.house _ (List.getElem_mem hlt)
    rw [hw] at hq
    simp only [Option.getD_some] at hq
    walk_at "zgo"
    refine i_ifd (fun e3 => ?_) (fun e3 => ?_)
    · walk_at "zgo"
      refine ix_seqq sy (v := y) ?_ ?_
      · have : hh = ((hh.toNat : Nat) : Int) := by omega
        rw [this]
        exact L2.atI_nat hy
      walk_at "zgo"
      refine len_seqq hy2 ?_
      walk_at "zgo"
      rw [List.length_map]
      have e : decide (0 ≤ hh ∧ hh < (List.length ws : Int) ∧ 0 ≤ n ∧ n < (ws[hh.toNat].length : Int)) = decide (n < (ws[hh.toNat].length : Int)) := by
        by_cases q : n < (ws[hh.toNat].length : Int)
        · rw [decide_eq_true q, decide_eq_true ⟨h0, by omega, e3, q⟩]
        · rw [decide_eq_false q, decide_eq_false (fun z => q z.2.2.2)]
      rw [e] at hq
      exact hq
    · rw [decide_eq_false (by omega)] at hq
      exact hq
theorem isGood_step {ws : Rooms} {hs : List Thing} {i : Nat} {th : Thing} (e : hs[i]? = some th) (f : (decide (th.refs.length ≤ 12) && th.refs.all (isThere ws)) = false) : isGood ws hs = false := by
  unfold isGood
  cases q : hs.all fun th => decide (th.refs.length ≤ 12) && th.refs.all (isThere ws) with
  | false => simp
  | true =>
    rw [List.all_eq_true] at q
    rw [q th (List.mem_of_getElem? e)] at f
    cases f
theorem rd_is_good {K : Fr} {p vs h Q} {X : XQ} (gd : Good K Q) (q : fs_is_good.pre p vs h) (hp : ∀ v h', fs_is_good.post p h v h' → Q v h') :
    r_is_good (fun _ h' => Q .non h') Q (fun _ _ => False) (fun _ _ => False) (fun C v _ h' => X C v h') (startV ["houses", "things", "thing", "refs", "ref"] vs) h := by
  obtain ⟨x, ws, y, hs⟩ := p
  obtain ⟨rfl, ha, sm, sy, hl⟩ := q
  have hq : Q (.bl (isGood ws hs)) h := hp _ _ ⟨rfl, rfl⟩
  clear hp
  show r_is_good _ _ _ _ _ [some x, some y, none, none, none] h
  unfold r_is_good
  walk_at "zgo"
  refine len_seqq sy ?_
  rw [List.length_map]
  walk_at "zgo"
  refine i_ifd (fun e1 => ?_) (fun e1 => ?_)
  · walk_at "zgo"
    have e : isGood ws hs = false := by unfold isGood; rw [decide_eq_false (by omega)]; rfl
    rw [e] at hq
    exact hq
  walk_at "zgo"
  refine its_seqq sy fun chk hc hc2 => ?_
  refine for_inv (fun i ρ h' => h' = h ∧ i ≤ hs.length ∧ (∀ j th, j < i → hs[j]? = some th → (decide (th.refs.length ≤ 12) && th.refs.all (isThere ws)) = true) ∧ ∃ a b c : Option Val, ρ = [some x, some y, a, b, c]) ⟨rfl, Nat.zero_le _, fun _ _ z => absurd z (Nat.not_lt_zero _), none, none, none, rfl⟩ ?_
  rintro i ρ h' ⟨rfl, hi, ok, a, b, c, rfl⟩
  refine ⟨hc, fun hi2 => ?_, fun z hz => ?_⟩
  · have : i = hs.length := by rw [List.length_map] at hi2; omega
    subst this
    walk_at "zgo"
    have e : isGood ws hs = true := by
      unfold isGood
      rw [decide_eq_true (by omega), Bool.true_and, List.all_eq_true]
      intro th hth
      obtain ⟨j, hj⟩ := List.getElem?_of_mem hth
      exact ok j th (List.getElem?_eq_some_iff.mp hj).1 hj
    rw [e] at hq
    exact hq
  · obtain ⟨th, hth, rfl⟩ := map_get hz
    have hil : i < hs.length := (List.getElem?_eq_some_iff.mp hth).1
    walk_at "zgo"
    refine c_refs_of ?_
    walk_at "zgo"
    rw [List.length_map]
    refine i_ifd (fun e2 => ?_) (fun e2 => ?_)
    · walk_at "zgo"
      rw [isGood_step hth (by rw [decide_eq_false (by omega)]; rfl)] at hq
      exact hq
    walk_at "zgo"
    refine for_inv (fun k ρ h2 => h2 = h' ∧ k ≤ th.refs.length ∧ (∀ r, r ∈ th.refs.take k → isThere ws r = true) ∧ ∃ a : Option Val, ρ = [some x, some y, some th.v, some (.lst (th.refs.map RefD.v)), a]) ⟨rfl, Nat.zero_le _, by simp, _, rfl⟩ ?_
    rintro k ρ h2 ⟨rfl, hk, ok2, a, rfl⟩
    refine ⟨trivial, fun hk2 => ?_, fun z hz => ?_⟩
    · have : k = th.refs.length := by rw [List.length_map] at hk2; omega
      subst this
      rw [List.take_length] at ok2
      refine ⟨rfl, hil, fun j u hj hu => ?_, _, _, _, rfl⟩
      by_cases ej : j = i
      · subst ej
        rw [hth] at hu; cases hu
        rw [decide_eq_true (by omega), Bool.true_and, List.all_eq_true]
        exact ok2
      · exact ok j u (by omega) hu
    · obtain ⟨r, hr, rfl⟩ := map_get hz
      have hkl : k < th.refs.length := (List.getElem?_eq_some_iff.mp hr).1
      walk_at "zgo"
      refine c_is_there ha sm ?_
      walk_at "zgo"
      cases er : isThere ws r with
      | true =>
        walk_at "zgo"
        refine ⟨rfl, hkl, fun u hu => ?_, _, rfl⟩
        rw [List.take_succ, hr] at hu
        rcases List.mem_append.mp hu with hu | hu
        · exact ok2 u hu
        · simp at hu; subst hu; exact er
      | false =>
        walk_at "zgo"
        have e3 : th.refs.all (isThere ws) = false := by
          cases q : th.refs.all (isThere ws) with
          | false => rfl
          | true =>
            rw [List.all_eq_true] at q
            rw [q r (List.mem_of_getElem? hr)] at er
            cases er
        rw [isGood_step hth (by rw [e3, Bool.and_false])] at hq
        exact hq
/-! ZP2 -/


abbrev worldV (cl : Str → Addr) (ws : Rooms) : Val := .obj (cl "World") [("houses_kept", roomsV ws)]
def fs_World___init__ (cl : Str → Addr) : FS where
  P := Addr × Val × Rooms
  pre := fun (a, v, ws) vs h => vs = [.ref a, v] ∧ h a = some (.ins (cl "World") []) ∧ HsAt h v ws ∧ SmallW ws
  post := fun (a, v, ws) h r h' => okWorld ws = true ∧ r = .non ∧ h' = hup h a (.ins (cl "World") [("houses_kept", roomsV ws)])
  xpost := fun (a, v, ws) h C r h' => okWorld ws = false ∧ C = cl "NoWorld" ∧ r = .non ∧ h' = h
def fs_World_house (cl : Str → Addr) : FS where
  P := Rooms × Int × Bool
  pre := fun (ws, n, fz) vs h => vs = [worldV cl ws, .int n] ∧ SmallW ws
  post := fun (ws, n, fz) h r h' => 0 ≤ n ∧ ∃ hs, ws[n.toNat]? = some hs ∧ if fz then r = houseV hs ∧ h' = h else ∃ a, h a = none ∧ r = .ref a ∧ h' = hup h a (.lst (hs.map Thing.v))
  xpost := fun (ws, n, fz) h C r h' => (n < 0 ∨ (ws.length : Int) ≤ n) ∧ C = cl "NoHouse" ∧ r = .int n ∧ h' = h
def fs_World___len__ (cl : Str → Addr) : FS where
  P := Rooms
  pre := fun ws vs h => vs = [worldV cl ws] ∧ SmallW ws
  post := fun ws h r h' => r = .int (ws.length : Int) ∧ h' = h
theorem c_World_len {cl : Str → Addr} {ws : Rooms} {h : Hh} {E : XQ} {Q : KQ} (s : SmallW ws) (k : Q (.int (ws.length : Int)) h) : (fs_World___len__ cl).sp [worldV cl ws] h E Q :=
  ⟨ws, ⟨rfl, s⟩, fun v h' ⟨a, b⟩ => by subst a b; exact k, fun _ _ _ z => z.elim⟩
/-- a told house, never changed -/
theorem c_World_house {cl : Str → Addr} {ws : Rooms} {n : Int} {hs : List Thing} {h : Hh} {E : XQ} {Q : KQ} (s : SmallW ws) (h0 : 0 ≤ n) (e : ws[n.toNat]? = some hs) (k : Q (houseV hs) h) : (fs_World_house cl).sp [worldV cl ws, .int n] h E Q :=
  ⟨(ws, n, true), ⟨rfl, s⟩, fun v h' ⟨_, hs2, e2, a⟩ => by
    rw [e] at e2; cases e2
    obtain ⟨a, b⟩ := a
    subst a b; exact k, fun C v h' ⟨z, _⟩ => by
    have := (List.getElem?_eq_some_iff.mp e).1
    omega⟩
theorem c_World_make {cl : Str → Addr} {a : Addr} {v : Val} {ws : Rooms} {h : Hh} {E : XQ} {Q : KQ} (e : h a = some (.ins (cl "World") [])) (hs : HsAt h v ws) (s : SmallW ws) (ok : okWorld ws = true) (k : Q .non (hup h a (.ins (cl "World") [("houses_kept", roomsV ws)]))) : (fs_World___init__ cl).sp [.ref a, v] h E Q :=
  ⟨(a, v, ws), ⟨rfl, e, hs, s⟩, fun r h' ⟨_, a, b⟩ => by subst a b; exact k, fun C v h' ⟨z, _⟩ => by rw [ok] at z; cases z⟩
def r_World___init__ (cl : Str → Addr) : WS :=
  wSeq (wIf (wOr (wTv (wOp wLt (wCB cLen (wCons (wVar 1) (wNil))) (wC (.int 1)))) (wTv (wOp wGt (wCB cLen (wCons (wVar 1) (wNil))) (wC (.int 8))))) (wRaise (cl "NoWorld") (wC .non)) (wNext))
  (wSeq (wFor (wiL (wVar 1)) (wgName 2)
  (wIf (wNot (wTv (wCall fs_is_good [] (wCons (wVar 1) (wCons (wVar 2) (wNil)))))) (wRaise (cl "NoWorld") (wC .non)) (wNext)))
  (wFldS (cl "World") (wVar 0) (wLc (wiL (wVar 1)) (tg1 2) wYes (wCB cList (wCons (wVar 2) (wNil))) [2]) "houses_kept"))

def r_World_house (cl : Str → Addr) : WS :=
  wSeq (wIf (wOr (wTv (wOp wLt (wVar 1) (wC (.int 0)))) (wTv (wOp wGe (wVar 1) (wCB cLen (wCons (wFld (cl "World") (wVar 0) "houses_kept") (wNil)))))) (wRaise (cl "NoHouse") (wVar 1)) (wNext))
  (wRet (wCB cList (wCons (wOp wIx (wFld (cl "World") (wVar 0) "houses_kept") (wVar 1)) (wNil))))

def r_World___len__ (cl : Str → Addr) : WS :=
  wRet (wCB cLen (wCons (wFld (cl "World") (wVar 0) "houses_kept") (wNil)))

theorem atI_toNat {xs : List Val} {n : Int} {v : Val} (h0 : 0 ≤ n) (h : xs[n.toNat]? = some v) : L2.atI xs n = some v := by
  have e : n = ((n.toNat : Nat) : Int) := by omega
  rw [e]
  exact L2.atI_nat h
theorem small_of {ws : Rooms} {hs : List Thing} {i : Nat} (s : SmallW ws) (e : ws[i]? = some hs) : hs.length ≤ 100000 := s.house _ (List.mem_of_getElem? e)
theorem rd_World___len__ {K : Fr} {cl : Str → Addr} {p : Rooms} {vs h Q} {X : XQ} (gd : Good K Q) (q : (fs_World___len__ cl).pre p vs h) (hp : ∀ v h', (fs_World___len__ cl).post p h v h' → Q v h') :
    r_World___len__ cl (fun _ h' => Q .non h') Q (fun _ _ => False) (fun _ _ => False) (fun C v _ h' => X C v h') (startV ["self"] vs) h := by
  obtain ⟨rfl, sm⟩ := q
  have hq := hp _ _ ⟨rfl, rfl⟩
  clear hp
  show r_World___len__ _ _ _ _ _ _ [some (.obj (cl "World") [("houses_kept", .lst ((p : Rooms).map houseV))])] h
  unfold r_World___len__
  walk_at "zgo"
  rw [List.length_map]
  exact hq
theorem rd_World_house {K : Fr} {cl : Str → Addr} {p vs h Q} {X : XQ} (gd : Good K Q) (q : (fs_World_house cl).pre p vs h) (hp : ∀ v h', (fs_World_house cl).post p h v h' → Q v h') (hx : ∀ C v h', (fs_World_house cl).xpost p h C v h' → X C v h') :
    r_World_house cl (fun _ h' => Q .non h') Q (fun _ _ => False) (fun _ _ => False) (fun C v _ h' => X C v h') (startV ["self", "number"] vs) h := by
  obtain ⟨ws, n, fz⟩ := p
  obtain ⟨rfl, sm⟩ := q
  show r_World_house _ _ _ _ _ _ [some (.obj (cl "World") [("houses_kept", .lst (ws.map houseV))]), some (.int n)] h
  unfold r_World_house
  walk_at "zgo"
  refine i_ifd (fun e1 => ?_) (fun e1 => ?_)
  · walk_at "zgo"
    exact hx _ _ _ ⟨.inl e1, rfl, rfl, rfl⟩
  walk_at "zgo"
  rw [List.length_map]
  refine i_ifd (fun e2 => ?_) (fun e2 => ?_)
  · walk_at "zgo"
    exact hx _ _ _ ⟨.inr e2, rfl, rfl, rfl⟩
  walk_at "zgo"
  have hlt : n.toNat < ws.length := by omega
  have hw : ws[n.toNat]? = some ws[n.toNat] := List.getElem?_eq_getElem hlt
  refine i_ixL (v := houseV ws[n.toNat]) ?_ ?_
  · refine atI_toNat (by omega) ?_
    rw [List.getElem?_map, hw]; rfl
  unfold houseV
  walk_at "zgo"
  cases fz with
  | true => exact i_newF (hp _ _ ⟨by omega, _, hw, rfl, rfl⟩)
  | false => exact i_newO fun a ha => hp _ _ ⟨by omega, _, hw, a, ha, rfl, rfl⟩
theorem rd_World___init__ {K : Fr} {cl : Str → Addr} {p vs h Q} {X : XQ} (gd : Good K Q) (q : (fs_World___init__ cl).pre p vs h) (hp : ∀ v h', (fs_World___init__ cl).post p h v h' → Q v h') (hx : ∀ C v h', (fs_World___init__ cl).xpost p h C v h' → X C v h') :
    r_World___init__ cl (fun _ h' => Q .non h') Q (fun _ _ => False) (fun _ _ => False) (fun C v _ h' => X C v h') (startV ["self", "houses", "things"] vs) h := by
  obtain ⟨a, v, ws⟩ := p
  obtain ⟨rfl, ha, hs, sm⟩ := q
  show r_World___init__ _ _ _ _ _ _ [some (.ref a), some v, none] h
  unfold r_World___init__
  obtain ⟨xs, sv, pr⟩ := id hs
  have hl := Paired.length pr
  have hsm := sm.len
  have bad : okWorld ws = false → X (cl "NoWorld") .non h := fun e => hx _ _ _ ⟨e, rfl, rfl, rfl⟩
  walk_at "zgo"
  refine len_seqq sv ?_
  walk_at "zgo"
  rw [hl]
  refine i_ifd (fun e1 => ?_) (fun e1 => ?_)
  · walk_at "zgo"
    exact bad (by unfold okWorld; rw [decide_eq_false (by omega)]; rfl)
  walk_at "zgo"
  refine len_seqq sv ?_
  walk_at "zgo"
  rw [hl]
  refine i_ifd (fun e2 => ?_) (fun e2 => ?_)
  · walk_at "zgo"
    exact bad (by unfold okWorld; rw [decide_eq_false (p := ws.length ≤ 8) (by omega), Bool.and_false]; rfl)
  walk_at "zgo"
  refine its_seqq sv fun chk hc hc2 => ?_
  refine for_inv (fun i ρ h' => h' = h ∧ i ≤ ws.length ∧ (∀ hs, hs ∈ ws.take i → isGood ws hs = true) ∧ ∃ x : Option Val, ρ = [some (.ref a), some v, x]) ⟨rfl, Nat.zero_le _, by simp, _, rfl⟩ ?_
  rintro i ρ h2 ⟨rfl, hi, ok, x, rfl⟩
  refine ⟨hc, fun hi2 => ?_, fun z hz => ?_⟩
  · have : i = ws.length := by omega
    subst this
    rw [List.take_length] at ok
    have okw : okWorld ws = true := by
      unfold okWorld
      rw [decide_eq_true (by omega), decide_eq_true (by omega), Bool.true_and, Bool.true_and, List.all_eq_true]
      exact ok
    walk_at "zgo"
    refine its_seqq sv fun chk hc hc2 => ?_
    refine lc_inv (fun i acc h3 => h3 = h2 ∧ i ≤ ws.length ∧ acc = (ws.take i).map houseV) ⟨rfl, Nat.zero_le _, by simp⟩ ?_
    rintro i acc h3 ⟨rfl, hi3, rfl⟩
    refine ⟨hc, fun hi4 => ?_, fun z hz => ?_⟩
    · have : i = ws.length := by omega
      subst this
      rw [List.take_length]
      refine i_newF ?_
      walk_at "zgo"
      exact ⟨a, [], rfl, ha, by decide, hp _ _ ⟨okw, rfl, rfl⟩⟩
    · have hiw : i < ws.length := by rw [← hl]; exact (List.getElem?_eq_some_iff.mp hz).1
      obtain ⟨y, hy, fy⟩ := paired_get pr (List.getElem?_eq_getElem hiw)
      rw [hz] at hy; cases hy
      walk_at "zgo"
      refine list_seqq fy (i_newF ⟨by simp; omega, rfl, hiw, ?_⟩)
      rw [List.take_succ, List.getElem?_eq_getElem hiw, List.map_append]
      rfl
  · have hiw : i < ws.length := by rw [← hl]; exact (List.getElem?_eq_some_iff.mp hz).1
    have hw := List.getElem?_eq_getElem hiw
    obtain ⟨y, hy, fy⟩ := paired_get pr hw
    rw [hz] at hy; cases hy
    walk_at "zgo"
    refine c_is_good hs sm fy (small_of sm hw) ?_
    walk_at "zgo"
    cases eg : isGood ws ws[i] with
    | true =>
      walk_at "zgo"
      refine ⟨rfl, hiw, fun u hu => ?_, _, rfl⟩
      rw [List.take_succ, hw] at hu
      rcases List.mem_append.mp hu with hu | hu
      · exact ok u hu
      · simp at hu; subst hu; exact eg
    | false =>
      walk_at "zgo"
      refine bad ?_
      unfold okWorld
      cases q : ws.all (isGood ws) with
      | false => simp
      | true =>
        rw [List.all_eq_true] at q
        rw [q _ (List.getElem_mem hiw)] at eg
        cases eg
/-! ZE -/
/-! ### worlds as data -/
def RefD.d : RefD → PyData
  | .thing h n => .tuple [.str "thing", .int h, .int n]
  | .made h a r => .tuple [.str "made", .int h, .int a, .int r]
def Thing.d : Thing → PyData
  | .box w => .tuple [.str "box", .int w]
  | .shelf rs => .tuple [.str "shelf", .tuple (rs.map RefD.d)]
  | .relay r => .tuple [.str "relay", r.d]
  | .maker => .tuple [.str "maker"]
  | .stone => .tuple [.str "stone"]
def houseD (hs : List Thing) : PyData := .list (hs.map Thing.d)
def roomsD (ws : Rooms) : PyData := .list (ws.map houseD)
theorem dvs_map {α : Type} {h : Hh} {f : α → Val} {g : α → PyData} (k : ∀ x, Dv h (f x) (g x)) : ∀ xs : List α, Dvs h (xs.map f) (xs.map g)
  | [] => .nil
  | x :: xs => .cons (k x) (dvs_map k xs)
theorem RefD.dv {h : Hh} : ∀ r : RefD, Dv h r.v r.d
  | .thing a n => .tup (.cons (.str _) (.cons (.int _) (.cons (.int _) .nil)))
  | .made a b c => .tup (.cons (.str _) (.cons (.int _) (.cons (.int _) (.cons (.int _) .nil))))
theorem Thing.dv {h : Hh} : ∀ t : Thing, Dv h t.v t.d
  | .box w => .tup (.cons (.str _) (.cons (.int _) .nil))
  | .shelf rs => .tup (.cons (.str _) (.cons (.tup (dvs_map RefD.dv rs)) .nil))
  | .relay r => .tup (.cons (.str _) (.cons r.dv .nil))
  | .maker => .tup (.cons (.str _) .nil)
  | .stone => .tup (.cons (.str _) .nil)
/-- may be laid, of at most this depth -/
def LayD (n : Nat) (d : PyData) : Prop := d.canLay0 = true ∧ d.depth ≤ n
theorem lay_list {n : Nat} {ds : List PyData} (h : ∀ d ∈ ds, LayD n d) : PyData.canLayAll0 ds = true ∧ PyData.depthAll ds ≤ n := by
  induction ds with
  | nil => exact ⟨by simp [PyData.canLayAll0], by simp [PyData.depthAll]⟩
  | cons d ds ih =>
    obtain ⟨a, b⟩ := h d (by simp)
    obtain ⟨c, e⟩ := ih fun x hx => h x (by simp [hx])
    exact ⟨by simp [PyData.canLayAll0, a, c], by simp [PyData.depthAll]; omega⟩
theorem LayD.list {n : Nat} {ds : List PyData} (h : ∀ d ∈ ds, LayD n d) : LayD (n + 1) (.list ds) := by
  obtain ⟨a, b⟩ := lay_list h
  exact ⟨by simp [PyData.canLay0, a], by simp [PyData.depth]; omega⟩
theorem LayD.tuple {n : Nat} {ds : List PyData} (h : ∀ d ∈ ds, LayD n d) : LayD (n + 1) (.tuple ds) := by
  obtain ⟨a, b⟩ := lay_list h
  exact ⟨by simp [PyData.canLay0, a], by simp [PyData.depth]; omega⟩
theorem LayD.le {n m : Nat} {d : PyData} (h : LayD n d) (l : n ≤ m) : LayD m d := ⟨h.1, Nat.le_trans h.2 l⟩
theorem LayD.int (n : Nat) (i : Int) : LayD n (.int i) := ⟨by simp [PyData.canLay0], by simp [PyData.depth]⟩
theorem LayD.bool (n : Nat) (i : Bool) : LayD n (.bool i) := ⟨by simp [PyData.canLay0], by simp [PyData.depth]⟩
theorem LayD.none (n : Nat) : LayD n .none := ⟨by simp [PyData.canLay0], by simp [PyData.depth]⟩
theorem LayD.str (n : Nat) {z : Str} (h : PyData.strOk z = true) : LayD n (.str z) := ⟨by simp [PyData.canLay0, h], by simp [PyData.depth]⟩
theorem LayD.shaped {n : Nat} {d : PyData} (h : LayD n d) (l : n ≤ 64) : SeqAt.shaped d = true := by
  unfold SeqAt.shaped
  rw [h.1, decide_eq_true (Nat.le_trans h.2 l)]; rfl
theorem RefD.lay (r : RefD) : LayD 1 r.d := by
  cases r with
  | thing h n =>
    refine LayD.tuple (n := 0) fun d hd => ?_
    simp only [List.mem_cons, List.not_mem_nil, or_false] at hd
    rcases hd with rfl | rfl | rfl
    · exact .str 0 (by decide +kernel)
    · exact .int 0 _
    · exact .int 0 _
  | made h a n =>
    refine LayD.tuple (n := 0) fun d hd => ?_
    simp only [List.mem_cons, List.not_mem_nil, or_false] at hd
    rcases hd with rfl | rfl | rfl | rfl
    · exact .str 0 (by decide +kernel)
    · exact .int 0 _
    · exact .int 0 _
    · exact .int 0 _
theorem Thing.lay (t : Thing) : LayD 3 t.d := by
  cases t with
  | box w =>
    refine LayD.tuple (n := 2) fun d hd => ?_
    simp only [List.mem_cons, List.not_mem_nil, or_false] at hd
    rcases hd with rfl | rfl
    · exact .str 2 (by decide +kernel)
    · exact .int 2 _
  | shelf rs =>
    refine LayD.tuple (n := 2) fun d hd => ?_
    simp only [List.mem_cons, List.not_mem_nil, or_false] at hd
    rcases hd with rfl | rfl
    · exact .str 2 (by decide +kernel)
    · refine LayD.tuple (n := 1) fun d hd => ?_
      obtain ⟨r, _, rfl⟩ := List.mem_map.mp hd
      exact r.lay
  | relay r =>
    refine LayD.tuple (n := 2) fun d hd => ?_
    simp only [List.mem_cons, List.not_mem_nil, or_false] at hd
    rcases hd with rfl | rfl
    · exact .str 2 (by decide +kernel)
    · exact r.lay.le (by decide)
  | maker =>
    refine LayD.tuple (n := 2) fun d hd => ?_
    simp only [List.mem_cons, List.not_mem_nil, or_false] at hd
    subst hd
    exact .str 2 (by decide +kernel)
  | stone =>
    refine LayD.tuple (n := 2) fun d hd => ?_
    simp only [List.mem_cons, List.not_mem_nil, or_false] at hd
    subst hd
    exact .str 2 (by decide +kernel)
/-- two that stand for the same data -/
theorem ne_same {h : Hh} {x y : Val} {d : PyData} {n : Nat} {Q : KQ} (a : Dv h x d) (b : Dv h y d) (l : LayD n d) (ln : n ≤ 64) (k : Q (.bl false) h) : wNeD x y h Q := by
  refine ⟨d, d, a, b, l.shaped ln, l.shaped ln, ?_⟩
  rw [SeqAt.eqv_refl d l.1]
  exact k
/-! as values of tuples and lists -/
theorem RefD.pure (r : RefD) : PureV 1 r.v := by
  cases r with
  | thing h n =>
    refine .tup (by simp) fun d hd => ?_
    simp only [List.mem_cons, List.not_mem_nil, or_false] at hd
    rcases hd with rfl | rfl | rfl
    · exact .str _ _
    · exact .int _ _
    · exact .int _ _
  | made h a n =>
    refine .tup (by simp) fun d hd => ?_
    simp only [List.mem_cons, List.not_mem_nil, or_false] at hd
    rcases hd with rfl | rfl | rfl | rfl
    · exact .str _ _
    · exact .int _ _
    · exact .int _ _
    · exact .int _ _
theorem Thing.pure {t : Thing} (hl : t.refs.length ≤ 1000) : PureV 3 t.v := by
  cases t with
  | box w =>
    refine .tup (by simp) fun d hd => ?_
    simp only [List.mem_cons, List.not_mem_nil, or_false] at hd
    rcases hd with rfl | rfl
    · exact .str _ _
    · exact .int _ _
  | shelf rs =>
    refine .tup (by simp) fun d hd => ?_
    simp only [List.mem_cons, List.not_mem_nil, or_false] at hd
    rcases hd with rfl | rfl
    · exact .str _ _
    · refine .tup (by rw [List.length_map]; exact Nat.le_trans hl (by decide)) fun d hd => ?_
      obtain ⟨r, _, rfl⟩ := List.mem_map.mp hd
      exact r.pure
  | relay r =>
    refine .tup (by simp) fun d hd => ?_
    simp only [List.mem_cons, List.not_mem_nil, or_false] at hd
    rcases hd with rfl | rfl
    · exact .str _ _
    · exact r.pure.le (by decide)
  | maker =>
    refine .tup (by simp) fun d hd => ?_
    simp only [List.mem_cons, List.not_mem_nil, or_false] at hd
    subst hd
    exact .str _ _
  | stone =>
    refine .tup (by simp) fun d hd => ?_
    simp only [List.mem_cons, List.not_mem_nil, or_false] at hd
    subst hd
    exact .str _ _
theorem house_pure {hs : List Thing} (hl : hs.length ≤ 1000) (h : ∀ t ∈ hs, t.refs.length ≤ 1000) : PureV 4 (houseV hs) := .lst (by rw [List.length_map]; omega) fun d hd => by
  obtain ⟨t, ht, rfl⟩ := List.mem_map.mp hd
  exact Thing.pure (h t ht)
theorem refs_ok {ns : List Nat} {t : Thing} (h : t.Ok ns) : t.refs.length ≤ 12 := by
  cases t with
  | shelf rs => exact h.1
  | _ => simp [Thing.refs]
theorem WorldOk.small {ws : Rooms} (h : WorldOk ws) : SmallW ws := ⟨by have := h.most; omega, fun hs hh => by have := h.house hs hh; omega⟩
theorem In.there {ws : Rooms} {r : RefD} (h : In (ws.map List.length) r) : isThere ws r = true := by
  cases r with
  | made a b c => exact h.elim
  | thing a n =>
    obtain ⟨k, h0, h1, h2, h3⟩ := h
    rw [List.getElem?_map] at h1
    cases e : ws[a.toNat]? with
    | none => rw [e] at h1; cases h1
    | some hs =>
      rw [e] at h1
      have e1 : hs.length = k := Option.some.inj h1
      have hl := (List.getElem?_eq_some_iff.mp e).1
      unfold isThere
      simp only [e, Option.getD_some]
      exact decide_eq_true ⟨h0, by omega, h2, by omega⟩
theorem WorldOk.good {ws : Rooms} (h : WorldOk ws) : okWorld ws = true := by
  unfold okWorld
  rw [decide_eq_true h.pos, decide_eq_true h.most, Bool.true_and, Bool.true_and, List.all_eq_true]
  intro hs hh
  unfold isGood
  rw [decide_eq_true (h.house hs hh), Bool.true_and, List.all_eq_true]
  intro t ht
  have ok := h.ok hs hh t ht
  rw [decide_eq_true (refs_ok ok), Bool.true_and, List.all_eq_true]
  intro r hr
  cases t with
  | shelf rs => exact (ok.2 r hr).there
  | relay q =>
    simp only [Thing.refs, List.mem_singleton] at hr
    subst hr
    exact In.there ok
  | box _ => simp [Thing.refs] at hr
  | maker => simp [Thing.refs] at hr
  | stone => simp [Thing.refs] at hr
theorem HsAt.frozen {h : Hh} (ws : Rooms) : HsAt h (roomsV ws) ws := by
  refine ⟨_, .lst _, ?_⟩
  induction ws with
  | nil => exact .nil
  | cons w ws ih => exact .cons (.lst _) ih
/-! LK1 -/


theorem Seqq.up {h : Hh} {x : Val} {xs : List Val} {a : Addr} {o : Ob} (q : Seqq h x xs) (ha : h a = none) : Seqq (hup h a o) x xs := by
  cases q with
  | lst => exact .lst _
  | scr => exact .scr _
  | ref e => exact .ref (by rw [hup_ne (fun z => by subst z; rw [ha] at e; cases e)]; exact e)
theorem paired_imp {α β : Type} {F G : α → β → Prop} (k : ∀ x y, F x y → G x y) : ∀ {xs : List α} {ys : List β}, Paired F xs ys → Paired G xs ys
  | _, _, .nil => .nil
  | _, _, .cons r t => .cons (k _ _ r) (paired_imp k t)
theorem HsAt.up {h : Hh} {v : Val} {ws : Rooms} {a : Addr} {o : Ob} (q : HsAt h v ws) (ha : h a = none) : HsAt (hup h a o) v ws := by
  obtain ⟨xs, sv, pr⟩ := q
  exact ⟨xs, sv.up ha, paired_imp (fun _ _ z => z.up ha) pr⟩
theorem WorldOk.pure {ws : Rooms} (w : WorldOk ws) {hs : List Thing} (h : hs ∈ ws) : PureV 4 (houseV hs) :=
  house_pure (by have := w.house hs h; omega) fun t ht => by have := refs_ok (w.ok hs h t ht); omega
/-- a world made, kept -/
theorem c_World_mk {cl : Str → Addr} {v : Val} {ws : Rooms} {h : Hh} {E : XQ} {Q : KQ} (hs : HsAt h v ws) (s : SmallW ws) (ok : okWorld ws = true) (k : Q (worldV cl ws) h) : ∀ a, h a = none → (fs_World___init__ cl).sp [.ref a, v] (hup h a (.ins (cl "World") [])) E (fun v h2 => v = .non ∧ MkEnd (cl "World") a h2 Q) := fun a ha => by
  refine c_World_make hup_same (hs.up ha) s ok ⟨rfl, .inr ⟨_, hup_same, ?_⟩⟩
  rw [hup_hup, hdel_hup ha]
  exact k
/-! LW1 -/
/-! the steps: one macro -/
local macro_rules | `(tactic| walk_at "hlk") => `(tactic| first | assumption | with_reducible exact hup_same | ((with_reducible refine' (hup_ne ?nn).trans ?tt); (case nn => first | assumption | (refine Ne.symm ?_; assumption)); (case tt => walk_at "hlk")))
local macro_rules | `(tactic| walk_at "zgo") => `(tactic| repeat (first
  | with_reducible refine i_seq ?_
  | with_reducible refine i_op ?_
  | ((with_reducible refine g_var ?_); first
    | with_reducible refine i_var0 ?_
    | with_reducible refine i_var1 ?_
    | with_reducible refine i_var2 ?_
    | with_reducible refine i_var3 ?_
    | with_reducible refine i_var4 ?_
    | with_reducible refine i_var5 ?_
    | with_reducible refine i_var6 ?_
    | with_reducible refine i_var7 ?_
    | with_reducible refine i_var8 ?_
    | with_reducible refine i_var9 ?_
    | with_reducible refine i_var10 ?_
    | with_reducible refine i_var11 ?_
    | with_reducible refine i_var12 ?_
    | with_reducible refine i_var13 ?_
    | with_reducible refine i_var14 ?_
    | with_reducible refine i_var15 ?_
    | with_reducible refine i_var16 ?_
    | with_reducible refine i_var17 ?_
    | with_reducible refine i_var18 ?_
    | with_reducible refine i_var19 ?_
    | with_reducible refine i_var20 ?_
    | with_reducible refine i_var21 ?_
    | with_reducible refine i_var22 ?_
    | with_reducible refine i_var23 ?_
    | with_reducible refine i_var24 ?_
    | with_reducible refine i_var25 ?_)
  | with_reducible refine i_c ?_
  | with_reducible refine i_cons ?_
  | with_reducible refine i_nil ?_
  | with_reducible refine i_asg ?_
  | ((with_reducible refine g_name ?_); first
    | with_reducible refine i_name0 ?_
    | with_reducible refine i_name1 ?_
    | with_reducible refine i_name2 ?_
    | with_reducible refine i_name3 ?_
    | with_reducible refine i_name4 ?_
    | with_reducible refine i_name5 ?_
    | with_reducible refine i_name6 ?_
    | with_reducible refine i_name7 ?_
    | with_reducible refine i_name8 ?_
    | with_reducible refine i_name9 ?_
    | with_reducible refine i_name10 ?_
    | with_reducible refine i_name11 ?_
    | with_reducible refine i_name12 ?_
    | with_reducible refine i_name13 ?_
    | with_reducible refine i_name14 ?_
    | with_reducible refine i_name15 ?_
    | with_reducible refine i_name16 ?_
    | with_reducible refine i_name17 ?_
    | with_reducible refine i_name18 ?_
    | with_reducible refine i_name19 ?_
    | with_reducible refine i_name20 ?_
    | with_reducible refine i_name21 ?_
    | with_reducible refine i_name22 ?_
    | with_reducible refine i_name23 ?_
    | with_reducible refine i_name24 ?_
    | with_reducible refine i_name25 ?_)
  | ((with_reducible refine g_tg1 ?_); first
    | with_reducible refine i_tg1_0 ?_
    | with_reducible refine i_tg1_1 ?_
    | with_reducible refine i_tg1_2 ?_
    | with_reducible refine i_tg1_3 ?_
    | with_reducible refine i_tg1_4 ?_
    | with_reducible refine i_tg1_5 ?_
    | with_reducible refine i_tg1_6 ?_
    | with_reducible refine i_tg1_7 ?_
    | with_reducible refine i_tg1_8 ?_
    | with_reducible refine i_tg1_9 ?_
    | with_reducible refine i_tg1_10 ?_
    | with_reducible refine i_tg1_11 ?_
    | with_reducible refine i_tg1_12 ?_
    | with_reducible refine i_tg1_13 ?_
    | with_reducible refine i_tg1_14 ?_
    | with_reducible refine i_tg1_15 ?_
    | with_reducible refine i_tg1_16 ?_
    | with_reducible refine i_tg1_17 ?_
    | with_reducible refine i_tg1_18 ?_
    | with_reducible refine i_tg1_19 ?_
    | with_reducible refine i_tg1_20 ?_
    | with_reducible refine i_tg1_21 ?_
    | with_reducible refine i_tg1_22 ?_
    | with_reducible refine i_tg1_23 ?_)
  | with_reducible refine i_yes ?_
  | with_reducible refine i_if ?_
  | with_reducible refine i_tv ?_
  | with_reducible refine i_bl ?_
  | with_reducible refine i_blV ?_
  | ((with_reducible refine g_if ?_); first
    | with_reducible refine iteT ?_
    | with_reducible refine iteF ?_
    | ((with_reducible refine' i_ifdt ?cc ?_); (case cc => first | decide | omega | assumption | decide +kernel))
    | ((with_reducible refine' i_ifdf ?cc ?_); (case cc => first | decide | omega | assumption | decide +kernel))
    | ((with_reducible refine' i_ifnt ?cc ?_); (case cc => first | decide | omega | assumption | decide +kernel))
    | ((with_reducible refine' i_ifnf ?cc ?_); (case cc => first | decide | omega | assumption | decide +kernel))
    | ((with_reducible refine' i_ift ?cc ?_); (case cc => first | assumption | rfl))
    | ((with_reducible refine' i_iff ?cc ?_); (case cc => first | assumption | rfl)))
  | with_reducible refine i_eqT ?_
  | with_reducible refine i_neT ?_
  | with_reducible refine i_eqI ?_
  | with_reducible refine i_neI ?_
  | with_reducible refine i_eqB ?_
  | with_reducible refine i_neB ?_
  | with_reducible refine i_lt ?_
  | with_reducible refine i_le ?_
  | with_reducible refine i_gt ?_
  | with_reducible refine i_ge ?_
  | with_reducible refine i_add ?_
  | with_reducible refine i_sub ?_
  | with_reducible refine i_and ?_
  | with_reducible refine i_or ?_
  | with_reducible refine i_not ?_
  | with_reducible refine i_andV ?_
  | with_reducible refine i_orV ?_
  | with_reducible refine i_notV ?_
  | with_reducible refine i_ifE ?_
  | with_reducible refine i_isN ?_
  | with_reducible refine i_notN ?_
  | with_reducible refine i_un ?_
  | with_reducible refine i_int1 ?_
  | with_reducible refine i_tup ?_
  | with_reducible refine i_lst ?_
  | ((with_reducible refine' i_small ?ss ?_); (case ss => first | decide | (simp only [List.length_cons, List.length_nil, List.length_map, List.length_append]; omega)))
  | with_reducible refine i_cb ?_
  | with_reducible refine i_call0 ?_
  | with_reducible refine i_call ?_
  | with_reducible refine i_meth0 ?_
  | with_reducible refine i_make0 ?_
  | with_reducible refine i_fld ?_
  | ((with_reducible refine' i_fldO ?ll ?_); (case ll => repeat (first | exact lk_hd | exact lk_nil | (refine lk_tl (by decide +kernel) ?_))))
  | ((with_reducible refine' i_fldR ?ee ?ll ?_); (case ee => walk_at "hlk"); (case ll => repeat (first | exact lk_hd | exact lk_nil | (refine lk_tl (by decide +kernel) ?_))))
  | ((with_reducible refine' i_mO ?ll ?_); (case ll => repeat (first | exact lk_hd | exact lk_nil | (refine lk_tl (by decide +kernel) ?_))))
  | ((with_reducible refine' i_mR ?ee ?ll ?_); (case ee => walk_at "hlk"); (case ll => repeat (first | exact lk_hd | exact lk_nil | (refine lk_tl (by decide +kernel) ?_))))
  | ((with_reducible refine' i_ixT ?at_ ?_); (case at_ => first | exact rfl | exact L2.atI_nat (j := 0) rfl | exact L2.atI_nat (j := 1) rfl))
  | ((with_reducible refine' i_ixL ?at_ ?_); (case at_ => first | exact rfl | exact L2.atI_nat (j := 0) rfl | exact L2.atI_nat (j := 1) rfl))
  | ((with_reducible refine' i_ixR ?hh ?at_ ?_); (case hh => walk_at "hlk"); (case at_ => first | exact rfl | exact L2.atI_nat (j := 0) rfl | exact L2.atI_nat (j := 1) rfl))
  | with_reducible refine i_fldS ?_
  | with_reducible refine i_bm ?_
  | ((with_reducible refine' i_tyL ?hh ?_); (case hh => walk_at "hlk"))
  | ((with_reducible refine' i_l2 ?xx ?yy ?_); (case xx => exact rfl); (case yy => exact rfl))
  | with_reducible refine i_callK ?_
  | with_reducible refine i_makeK ?_
  | with_reducible refine i_chain ?_
  | with_reducible refine i_raise ?_
  | with_reducible refine i_atx ?_
  | with_reducible refine i_lenO ?_
  | with_reducible refine i_sub_ ?_
  | with_reducible refine i_expr ?_
  | with_reducible refine i_ret ?_
  | with_reducible refine i_next ?_
  | with_reducible refine i_lc ?_
  | with_reducible refine i_r1 ?_
  | with_reducible refine i_iL ?_
  | with_reducible refine i_iT ?_
  | with_reducible refine i_itsF ?_
  | with_reducible refine i_itsS ?_
  | with_reducible refine i_itsT ?_
  | ((with_reducible refine' i_itsR ?hh ?_); (case hh => walk_at "hlk"))
  | with_reducible refine i_lenF ?_
  | with_reducible refine i_lenT ?_
  | ((with_reducible refine' i_lenR ?hh ?_); (case hh => walk_at "hlk"))
  | with_reducible refine i_listF ?_
  | with_reducible refine i_listT ?_
  | ((with_reducible refine' i_listR ?hh ?_); (case hh => walk_at "hlk"))
  | with_reducible refine i_tupF ?_
  | ((with_reducible refine' i_lenOR ?hh ?_); (case hh => walk_at "hlk"))
  | ((with_reducible refine' i_tupR ?hh ?_); (case hh => walk_at "hlk"))
  | ((with_reducible refine g_isi ?_); first
    | with_reducible refine i_isi_non_bool ?_
    | with_reducible refine i_isi_non_int ?_
    | with_reducible refine i_isi_non_str ?_
    | with_reducible refine i_isi_non_list ?_
    | with_reducible refine i_isi_non_tuple ?_
    | with_reducible refine i_isi_bl_bool ?_
    | with_reducible refine i_isi_bl_int ?_
    | with_reducible refine i_isi_bl_str ?_
    | with_reducible refine i_isi_bl_list ?_
    | with_reducible refine i_isi_bl_tuple ?_
    | with_reducible refine i_isi_int_bool ?_
    | with_reducible refine i_isi_int_int ?_
    | with_reducible refine i_isi_int_str ?_
    | with_reducible refine i_isi_int_list ?_
    | with_reducible refine i_isi_int_tuple ?_
    | with_reducible refine i_isi_str_bool ?_
    | with_reducible refine i_isi_str_int ?_
    | with_reducible refine i_isi_str_str ?_
    | with_reducible refine i_isi_str_list ?_
    | with_reducible refine i_isi_str_tuple ?_
    | with_reducible refine i_isi_tup_bool ?_
    | with_reducible refine i_isi_tup_int ?_
    | with_reducible refine i_isi_tup_str ?_
    | with_reducible refine i_isi_tup_list ?_
    | with_reducible refine i_isi_tup_tuple ?_
    | with_reducible refine i_isi_lst_bool ?_
    | with_reducible refine i_isi_lst_int ?_
    | with_reducible refine i_isi_lst_str ?_
    | with_reducible refine i_isi_lst_list ?_
    | with_reducible refine i_isi_lst_tuple ?_)
  | with_reducible refine i_max ?_
  | with_reducible refine i_min ?_
  | with_reducible refine i_rgin ?_
  | with_reducible refine i_tabin ?_
  | with_reducible refine i_disp ?_
  | with_reducible refine i_pcons ?_
  | with_reducible refine i_pnil ?_
  | with_reducible refine i_dget ?_
  | with_reducible refine i_din ?_
  | with_reducible refine i_dput ?_
  | ((with_reducible refine' i_wgtup ?nn ?_); (case nn => exact rfl))
  | ((with_reducible refine' i_rngB ?aa ?bb ?_); (case aa => first | decide | omega); (case bb => first | decide | omega))
  | with_reducible refine i_for ?_
  | with_reducible refine i_while ?_
  | with_reducible refine i_wgcons ?_
  | with_reducible refine i_wgnil ?_
  | with_reducible refine i_wslL ?_
  | with_reducible refine i_nopart ?_
  | with_reducible refine i_part ?_
  | ((with_reducible refine' i_wgunl ?nn ?_); (case nn => exact rfl))
  | ((with_reducible refine' i_xf ?ee ?_); (case ee => exact rfl))
  | ((with_reducible refine' i_errIs ?ee ?_); (case ee => exact rfl))
  | with_reducible refine i_bm0 ?_
  | with_reducible refine i_intB ?_
  | with_reducible refine i_intI ?_
  ))

/-! ### worlds whose houses are owned -/
def thV (hs : List Thing) : List Val := hs.map Thing.v
abbrev thsV (ws : Rooms) : List (List Val) := ws.map thV
/-- but the tray and what is new -/
structure KeepN (t g : Addr) (L : List Addr) (h h' : Hh) : Prop where
  old : ∀ b, b ≠ t → b ≠ g → b ∉ L → h' b = h b
  new : ∀ b ∈ L, h b = none
def fs_law_world_v1 : FS where
  P := Addr × Addr × Int × Bool
  pre := fun (t, g, n, o) vs h => vs = [.ref t] ∧ Tray h t g n ∧ n ≤ 1000000000000
  post := fun (t, g, n, o) h v h' => ∃ ws : Rooms, WorldOk ws ∧ Tray h' t g (n + 2500) ∧ if o then ∃ a bs, v = .ref a ∧ Nest h' a bs (thsV ws) ∧ KeepN t g (a :: bs) h h' else v = roomsV ws ∧ Keep t g h h'
theorem c_law_world_o {t g : Addr} {n : Int} {h : Hh} {E : XQ} {Q : KQ} (T : Tray h t g n) (hn : n ≤ 1000000000000) (k : ∀ (ws : Rooms) a bs h', WorldOk ws → Tray h' t g (n + 2500) → Nest h' a bs (thsV ws) → KeepN t g (a :: bs) h h' → Q (.ref a) h') : fs_law_world_v1.sp [.ref t] h E Q :=
  ⟨(t, g, n, true), ⟨rfl, T, hn⟩, fun v h' ⟨ws, a, b, c⟩ => by
    obtain ⟨p, bs, rfl, c, d⟩ := c
    exact k ws p bs h' a b c d, fun _ _ _ z => z.elim⟩
/-- a list of lists of things, told in the heap: no script -/
def HsL (h : Hh) (v : Val) (ws : Rooms) : Prop := ∃ xs, Lsq h v xs ∧ Paired (fun x hs => Lsq h x (hs.map Thing.v)) xs ws
def r_law_world_v1 : WS :=
  wSeq (wAsg (wCall fs_law_sizes [] (wCons (wVar 0) (wNil))) (wgName 1))
  (wSeq (wAsg (wLst (wNil)) (wgName 2))
  (wSeq (wFor (wiL (wVar 1)) (wgName 3)
  (wExpr (wBM "list" mAppend (wVar 2) (wCons (wLc (wiR1 (wVar 3)) (tg1 4) wYes (wCall fs_law_thing [] (wCons (wVar 0) (wCons (wVar 1) (wNil)))) [4]) (wNil)))))
  (wRet (wVar 2))))

theorem Tray.hup {h : Hh} {t g a : Addr} {n : Int} {o : Ob} (T : Tray h t g n) (at' : a ≠ t) (ag : a ≠ g) : Tray (hup h a o) t g n := by
  obtain ⟨ne, gs, b, fold, c, ht, hg, r⟩ := T
  exact ⟨ne, gs, b, fold, c, by rw [hup_ne at'.symm]; exact ht, by rw [hup_ne ag.symm]; exact hg, r⟩
theorem Tray.new {h : Hh} {t g a : Addr} {n : Int} (T : Tray h t g n) (ha : h a = none) : a ≠ t ∧ a ≠ g := by
  obtain ⟨ne, gs, b, fold, c, ht, hg, r⟩ := T
  exact ⟨fun z => (by subst z; rw [ht] at ha; cases ha), fun z => (by subst z; rw [hg] at ha; cases ha)⟩
theorem Tray.same {h h' : Hh} {t g : Addr} {n : Int} (T : Tray h t g n) (e1 : h' t = h t) (e2 : h' g = h g) : Tray h' t g n := by
  obtain ⟨ne, gs, b, fold, c, ht, hg, r⟩ := T
  exact ⟨ne, gs, b, fold, c, by rw [e1]; exact ht, by rw [e2]; exact hg, r⟩
theorem rd_law_world_v1 {K : Fr} {p vs h Q} {X : XQ} (gd : Good K Q) (q : fs_law_world_v1.pre p vs h) (hp : ∀ v h', fs_law_world_v1.post p h v h' → Q v h') :
    r_law_world_v1 (fun _ h' => Q .non h') Q (fun _ _ => False) (fun _ _ => False) (fun C v _ h' => X C v h') (startV ["tray", "sizes", "houses", "size", "k"] vs) h := by
  obtain ⟨t, g, n, o⟩ := p
  obtain ⟨rfl, T, hn⟩ := q
  have fin : ∀ (ws : Rooms) a bs h', WorldOk ws → Tray h' t g (n + 2500) → Nest h' a bs (thsV ws) → KeepN t g (a :: bs) h h' → Q (.ref a) h' := fun ws a bs h' ok T1 N kn => by
    cases o with
    | true => exact hp _ _ ⟨ws, ok, T1, a, bs, rfl, N, kn⟩
    | false =>
      refine gd.nest N ?_
      have e : (thsV ws).map Val.lst = ws.map houseV := by simp [thsV, thV, houseV]
      rw [e]
      have nt : t ∉ a :: bs := fun z => by
        obtain ⟨ne, gs, b, fold, c, ht, hg, r⟩ := T
        have := kn.new t z
        rw [ht] at this; cases this
      have ng : g ∉ a :: bs := fun z => by
        obtain ⟨ne, gs, b, fold, c, ht, hg, r⟩ := T
        have := kn.new g z
        rw [hg] at this; cases this
      refine hp _ _ ⟨ws, ok, T1.same (hdelL_out nt) (hdelL_out ng), rfl, fun b b1 b2 => ?_⟩
      by_cases hb : b ∈ a :: bs
      · rw [hdelL_in hb, kn.new b hb]
      · rw [hdelL_out hb, kn.old b b1 b2 hb]
  show r_law_world_v1 _ _ _ _ _ [some (.ref t), none, none, none, none] h
  unfold r_law_world_v1
  walk_at "zgo"
  refine c_law_sizes T (by omega) fun ns h1 n1 n8 nb T1 kp1 => ?_
  have hsum := sum_le nb
  walk_at "zgo"
  refine i_newO fun rr hr => ?_
  walk_at "zgo"
  obtain ⟨rt, rg⟩ := T1.new hr
  refine for_inv (fun i ρ h' => ∃ (ws : Rooms) (bs : List Addr) (x y : Option Val), ρ = [some (.ref t), some (.lst (natsV ns)), some (.ref rr), x, y] ∧ Nest h' rr bs (thsV ws) ∧ ws.map List.length = ns.take i ∧ i ≤ ns.length ∧ (∀ hs ∈ ws, ∀ th ∈ hs, th.Ok ns) ∧ Tray h' t g (n + 10 + 250 * i) ∧ KeepN t g (rr :: bs) h h')
    ⟨[], [], none, none, rfl, ⟨hup_same, rfl, fun i b xs e => by simp at e, by simp⟩, by simp, by simp, by simp, (T1.hup rt rg).more (by omega), fun b b1 b2 b3 => by rw [hup_ne (by simpa using b3)]; exact kp1 b b1 b2, fun b hb => by simp at hb; subst hb; rw [← kp1 b rt rg]; exact hr⟩ ?_
  rintro i ρ h' ⟨ws, bs, x, y, rfl, N, hl, hi, ok, T3, kp3⟩
  refine ⟨trivial, fun hi2 => ?_, fun z hz => ?_⟩
  · have hi3 : i = ns.length := by simp [natsV] at hi2; omega
    subst hi3
    rw [List.take_length] at hl
    walk_at "zgo"
    refine fin ws rr bs h' ?_ (T3.more (by omega)) N kp3
    have hwl : ws.length = ns.length := by rw [← hl, List.length_map]
    refine ⟨by omega, by omega, fun hs hh => ?_, fun hs hh th hth => by rw [hl]; exact ok hs hh th hth⟩
    have : hs.length ∈ ws.map List.length := List.mem_map.mpr ⟨hs, hh, rfl⟩
    rw [hl] at this
    exact nb _ this
  · obtain ⟨k, hk, rfl⟩ := map_get hz
    have hk12 : k ≤ 12 := nb k (List.mem_of_getElem? hk)
    have hil : i < ns.length := (List.getElem?_eq_some_iff.mp hk).1
    have ntop := N.top
    walk_at "zgo"
    refine lc_inv (fun j acc h4 => j ≤ k ∧ (∃ hs : List Thing, acc = hs.map Thing.v ∧ hs.length = j ∧ ∀ th ∈ hs, th.Ok ns) ∧ Tray h4 t g (n + 10 + 250 * i + 20 * j) ∧ Keep t g h' h4) ⟨Nat.zero_le _, ⟨[], rfl, rfl, by simp⟩, T3.more (by omega), Keep.refl⟩ ?_
    rintro j acc h4 ⟨hj, ⟨hs, rfl, hl2, hb⟩, T4, kp4⟩
    refine ⟨trivial, fun hj2 => ?_, fun x hx => ?_⟩
    · rw [rng_len] at hj2
      have hjk : j = k := by omega
      subst hjk
      have nt : ∀ c ∈ rr :: bs, c ≠ t ∧ c ≠ g := fun c hc => by
        obtain ⟨ne, gs, b, fold, cc, ht, hg, r⟩ := T
        have := kp3.new c hc
        exact ⟨fun z => (by subst z; rw [ht] at this; cases this), fun z => (by subst z; rw [hg] at this; cases this)⟩
      have N4 : Nest h4 rr bs (thsV ws) := N.keep fun c hc => kp4 c (nt c hc).1 (nt c hc).2
      refine i_newO fun nb hnb => ?_
      obtain ⟨n1, n2⟩ := T4.new hnb
      have n3 : nb ≠ rr := fun z => N4.fresh hnb (by rw [z]; simp)
      walk_at "zgo"
      refine i_append (by rw [hup_ne n3.symm]; exact N4.top) (by rw [List.length_map, N.len, List.length_map]; have := congrArg List.length hl; simp at this ⊢; omega) ?_
      have N5 := N4.app (xs := hs.map Thing.v) hnb
      refine ⟨ws ++ [hs], bs ++ [nb], _, _, rfl, by simpa [thsV, thV] using N5, ?_, by omega, ?_, ?_, fun b b1 b2 b3 => ?_, fun b hb => ?_⟩
      · rw [List.map_append, hl, List.take_succ, hk, ← hl2]; rfl
      · intro hs2 hh th hth
        rcases List.mem_append.mp hh with hh | hh
        · exact ok hs2 hh th hth
        · simp at hh; subst hh; exact hb th hth
      · exact ((T4.hup n1 n2).hup (nt rr (by simp)).1 (nt rr (by simp)).2).more (by omega)
      · have b4 : b ≠ nb := fun z => b3 (by simp [z])
        have b5 : b ≠ rr := fun z => b3 (by simp [z])
        rw [hup_ne b5, hup_ne b4, kp4 b b1 b2]
        exact kp3.old b b1 b2 fun z => b3 (by simp at z ⊢; rcases z with z | z; exact .inl z; exact .inr (.inl z))
      · by_cases hb2 : b ∈ rr :: bs
        · exact kp3.new b hb2
        · have e : b = nb := by simp at hb hb2; rcases hb with hb | hb | hb; exact absurd hb hb2.1; exact absurd hb hb2.2; exact hb
          subst e
          rw [← kp3.old b n1 n2 hb2, ← kp4 b n1 n2]
          exact hnb
    · obtain ⟨hj3, rfl⟩ := rng_get hx
      walk_at "zgo"
      refine c_law_thing T4 (by omega) (sum_pos (List.mem_of_getElem? hk) (by omega)) (by omega) fun th h5 hth T5 kp5 => ?_
      refine ⟨by simp; omega, by omega, ⟨hs ++ [th], by simp, by simp [hl2], fun u hu => ?_⟩, T5.more (by omega), kp4.trans kp5⟩
      rcases List.mem_append.mp hu with hu | hu
      · exact hb u hu
      · simp at hu; subst hu; exact hth
theorem Lsq.seqq {h : Hh} {x : Val} {xs : List Val} (q : Lsq h x xs) : Seqq h x xs := by
  cases q with
  | lst => exact .lst _
  | ref e => exact .ref e
theorem HsL.at {h : Hh} {v : Val} {ws : Rooms} (q : HsL h v ws) : HsAt h v ws := by
  obtain ⟨xs, a, b⟩ := q
  exact ⟨xs, a.seqq, paired_imp (fun _ _ z => z.seqq) b⟩
theorem paired_len {α β : Type} {P : α → β → Prop} : ∀ {xs : List α} {ys : List β}, Paired P xs ys → xs.length = ys.length
  | _, _, .nil => rfl
  | _, _, .cons _ r => by simp [paired_len r]
/-! LW2 -/


theorem Lsq.dv {h : Hh} {x : Val} {xs : List Val} {ds : List PyData} (q : Lsq h x xs) (p : Dvs h xs ds) : Dv h x (.list ds) := by
  cases q with
  | lst => exact .lst p
  | ref e => exact .ref e p
theorem lsq_house {h : Hh} {x : Val} {hs : List Thing} (q : Lsq h x (hs.map Thing.v)) : Dv h x (houseD hs) := q.dv (dvs_map Thing.dv hs)
theorem paired_dvs {h : Hh} : ∀ {xs : List Val} {ws : Rooms}, Paired (fun x hs => Lsq h x (hs.map Thing.v)) xs ws → Dvs h xs (ws.map houseD)
  | _, _, .nil => .nil
  | _, _, .cons a r => .cons (lsq_house a) (paired_dvs r)
theorem HsL.dv {h : Hh} {x : Val} {ws : Rooms} (q : HsL h x ws) : Dv h x (roomsD ws) := by
  obtain ⟨xs, a, b⟩ := q
  exact a.dv (paired_dvs b)
/-- the tray, and houses that are owned -/
structure Own (t g : Addr) (h : Hh) (a : Addr) (bs : List Addr) (ws : Rooms) : Prop where
  N : Nest h a bs (thsV ws)
  nt : t ∉ a :: bs
  ng : g ∉ a :: bs
theorem Own.keep {t g a : Addr} {h h' : Hh} {bs : List Addr} {ws : Rooms} (o : Own t g h a bs ws) (k : Keep t g h h') : Own t g h' a bs ws :=
  ⟨o.N.keep fun c hc => k c (fun z => o.nt (z ▸ hc)) (fun z => o.ng (z ▸ hc)), o.nt, o.ng⟩
theorem paired_of {α β : Type} {P : α → β → Prop} : ∀ {xs : List α} {ys : List β}, xs.length = ys.length → (∀ (i : Nat) (x : α) (y : β), xs[i]? = some x → ys[i]? = some y → P x y) → Paired P xs ys
  | [], [], _, _ => .nil
  | [], _ :: _, h, _ => by cases h
  | _ :: _, [], h, _ => by cases h
  | x :: xs, y :: ys, hl, h => .cons (h 0 x y rfl rfl) (paired_of (by simpa using hl) fun i x y e1 e2 => h (i + 1) x y (by simpa using e1) (by simpa using e2))
theorem Nest.hs {h : Hh} {a : Addr} {bs : List Addr} {ws : Rooms} (N : Nest h a bs (thsV ws)) : HsL h (.ref a) ws :=
  ⟨_, .ref N.top, paired_of (by have := N.len; simp at this ⊢; exact this) fun i x hs e1 e2 => by
    rw [List.getElem?_map] at e1
    cases e : bs[i]? with
    | none => rw [e] at e1; cases e1
    | some b =>
      rw [e] at e1
      cases e1
      exact .ref (N.each i b (thV hs) e (by rw [List.getElem?_map, e2]; rfl))⟩
theorem HsL.len {h : Hh} {x : Val} {ws : Rooms} {Q : KQ} (q : HsL h x ws) (k : Q (.int (ws.length : Int)) h) : cLen [x] h Q := by
  obtain ⟨xs, a, b⟩ := q
  refine len_seqq a.seqq ?_
  rw [paired_len b]
  exact k
/-- refs of things only -/
def Thing.Plain (th : Thing) : Prop := ∀ r ∈ th.refs, ∃ a b, r = .thing a b
structure Bd (k : Nat) (ws : Rooms) : Prop where
  len : ws.length ≤ 9 + k
  house : ∀ hs ∈ ws, hs.length ≤ 13
  refs : ∀ hs ∈ ws, ∀ th ∈ hs, th.refs.length ≤ 13 + k ∧ th.Plain
/-! LW3 -/


theorem Bd.up {k : Nat} {ws : Rooms} (b : Bd k ws) : Bd (k + 1) ws := ⟨by have := b.len; omega, b.house, fun hs hh th ht => ⟨by have := (b.refs hs hh th ht).1; omega, (b.refs hs hh th ht).2⟩⟩
/-- a house is exchanged -/
theorem Bd.set {k : Nat} {ws : Rooms} {hs : List Thing} (b : Bd k ws) (i : Nat) (h1 : hs.length ≤ 13) (h2 : ∀ th ∈ hs, th.refs.length ≤ 13 + k ∧ th.Plain) : Bd k (ws.set i hs) :=
  ⟨by rw [List.length_set]; exact b.len, fun us hu => by
    rcases List.mem_or_eq_of_mem_set hu with hu | rfl
    · exact b.house us hu
    · exact h1, fun us hu => by
    rcases List.mem_or_eq_of_mem_set hu with hu | rfl
    · exact b.refs us hu
    · exact h2⟩
theorem Own.inner {t g a b : Addr} {h : Hh} {bs : List Addr} {ws : Rooms} (o : Own t g h a bs ws) {i : Nat} (e : bs[i]? = some b) (hs : List Thing) : Own t g (hup h b (.lst (hs.map Thing.v))) a bs (ws.set i hs) :=
  ⟨by have := o.N.inner e (hs.map Thing.v); rwa [show (thsV ws).set i (hs.map Thing.v) = thsV (ws.set i hs) by simp [thsV, thV, List.map_set]] at this, o.nt, o.ng⟩
theorem Own.tray {t g a b : Addr} {h : Hh} {bs : List Addr} {ws : Rooms} {n : Int} {x : Ob} (o : Own t g h a bs ws) (hb : b ∈ a :: bs) (T : Tray h t g n) : Tray (hup h b x) t g n :=
  T.hup (fun z => o.nt (z ▸ hb)) (fun z => o.ng (z ▸ hb))
/-! LK2 -/


theorem WorldOk.bd {ws : Rooms} (w : WorldOk ws) : Bd 0 ws := ⟨by have := w.most; omega, fun hs hh => by have := w.house hs hh; omega, fun hs hh th ht => ⟨by have := refs_ok (w.ok hs hh th ht); omega, fun r hr => by
  have o := w.ok hs hh th ht
  cases th with
  | shelf rs =>
    have := o.2 r hr
    cases r with
    | thing a b => exact ⟨a, b, rfl⟩
    | made a b c => exact this.elim
  | relay q =>
    simp [Thing.refs] at hr
    subst hr
    cases r with
    | thing a b => exact ⟨a, b, rfl⟩
    | made a b c => exact (show False from o).elim
  | _ => simp [Thing.refs] at hr⟩⟩
theorem Bd.pure {k : Nat} {ws : Rooms} (b : Bd k ws) (hk : k ≤ 100) {hs : List Thing} (h : hs ∈ ws) : PureV 4 (houseV hs) :=
  house_pure (by have := b.house hs h; omega) fun t ht => by have := (b.refs hs h t ht).1; omega
/-! ZJ -/
/-! texts -/
section
variable {X : Cx} {W : WX} {pos : Pos} {e : Expr} {te : WE}
/-! ### f-strings -/
def wFmt (te : WE) : WE := fun ρ h E Q => te ρ h E fun x h1 => (∃ y : Str, x = .str y ∧ y.length ≤ sizeLine ∧ Q (.str y) h1) ∨ ∃ i : Int, x = .int i ∧ i.natAbs.log2 < 1920 ∧ Q (.str (toString i)) h1
def wJsF : List WE → Str → Ev → Hh → XQ → (Str → Hh → Prop) → Prop
  | [], acc, _, h, _, Q => Q acc h
  | t :: ts, acc, ρ, h, E, Q => t ρ h E fun x h1 => ∃ y : Str, x = .str y ∧ (acc ++ y).length ≤ sizeLine ∧ wJsF ts (acc ++ y) ρ h1 E Q
def wJs (ts : List WE) : WE := fun ρ h E Q => wJsF ts Str.empty ρ h E fun out h1 => Q (.str out) h1
inductive ZPJ (X : Cx) (W : WX) : List Expr → List WE → Prop where
  | nil : ZPJ X W [] []
  | cons {e : Expr} {t : WE} {es : List Expr} {ts : List WE} (h : ZE X W e t) (r : ZPJ X W es ts) : ZPJ X W (e :: es) (t :: ts)
end
/-! ### split, partition, signs, slices, int -/
/-! ### steps -/
theorem i_fmtI {te : WE} {ρ h E} {Q : KQ} (q : te ρ h E fun x h1 => (∃ y : Str, x = .str y ∧ y.length ≤ sizeLine ∧ Q (.str y) h1) ∨ ∃ i : Int, x = .int i ∧ i.natAbs.log2 < 1920 ∧ Q (.str (toString i)) h1) : wFmt te ρ h E Q := q
theorem i_js {ts : List WE} {ρ h E} {Q : KQ} (q : wJsF ts Str.empty ρ h E fun out h1 => Q (.str out) h1) : wJs ts ρ h E Q := q
theorem i_jsc {t : WE} {ts : List WE} {acc : Str} {ρ h E} {Q : Str → Hh → Prop} (q : t ρ h E fun x h1 => ∃ y : Str, x = .str y ∧ (acc ++ y).length ≤ sizeLine ∧ wJsF ts (acc ++ y) ρ h1 E Q) : wJsF (t :: ts) acc ρ h E Q := q
theorem i_jsn {acc : Str} {ρ h E} {Q : Str → Hh → Prop} (q : Q acc h) : wJsF [] acc ρ h E Q := q
theorem i_tyS {h : Hh} {z : Str} {A : Prop} (q : A) : TyM h "str" (.str z) ∧ A := ⟨.str z, q⟩
theorem i_iS {t : WE} {ρ h E} {G : List Val → (Hh → Prop) → Hh → Prop} (q : t ρ h E fun v h1 => ∃ x : Str, v = .str x ∧ G (x.cps.toList.map sgn) (fun _ => True) h1) : wiS t ρ h E G := q
theorem i_str1 {z : Str} {A : Str → Prop} (q : A z) : ∃ j, Val.str z = .str j ∧ A j := ⟨z, rfl, q⟩
/-! ZK -/
/-! str and == of an own instance -/
section
variable {X : Cx} {W : WX} {pos : Pos}
/-! ### == -/
end
/-! ### try where the body raises nothing -/
def wTryThru (t : WS) : WS := fun nx rt bk ct _ ρ h => t nx rt bk ct (fun _ _ _ _ => False) ρ h
theorem i_tryThru {t : WS} {nx : EH} {rt : KQ} {bk ct : EH} {xe : XS} {ρ : Ev} {h : Hh} (q : t nx rt bk ct (fun _ _ _ _ => False) ρ h) : wTryThru t nx rt bk ct xe ρ h := q
/-! ### tuples cut and put together -/
def wSlT : W3 := fun x lo hi h Q => ∃ xs, x = .tup xs ∧ Q (.tup (cut xs lo hi)) h
theorem s_slT {K : Fr} : Snd3 K wSlT (rSlA K) := fun S F H h x v lo hi Q' Q r rx q lq => by
  obtain ⟨xs, rfl, q⟩ := q
  rw [rel_tup] at rx
  obtain ⟨a, ws, rfl, h1, h2⟩ := rx
  have e2 : cutV ws lo hi = cut ws lo hi := rfl
  have rc : Rels K S (cut xs lo hi) (cut ws lo hi) := by
    unfold cut
    rw [h2.length]
    exact (h2.drop _).take _
  refine ⟨a, ws, rfl, .of (r.sub _ _ h1), fun hw => ?_, fun hw p hp => ?_⟩
  · have e : cut xs lo hi = xs := by
      unfold cut
      rw [h2.length, hw.1, hw.2, List.drop_zero, Nat.sub_zero, ← h2.length, List.take_length]
    rw [e] at q
    exact lq _ _ S _ _ q (Sub.refl S) r (rel_tup.mpr ⟨a, ws, rfl, h1, h2⟩)
  · rw [e2]
    exact newt r rc q lq hp
theorem i_slT {xs : List Val} {lo hi : Option Int} {h : Hh} {Q : KQ} (q : Q (.tup (cut xs lo hi)) h) : wSlT (.tup xs) lo hi h Q := ⟨xs, rfl, q⟩
theorem hu65 {k : Nat} {A : Around} (hr : Room k A) : A.units + 65 < cLine := by have := hr.un; omega
/-! LT0 -/
open TL
/-! ### texts of numbers, refs, things, houses: plain law -/
def iL (i : Int) : List Nat := if 0 ≤ i then numL i.toNat else 45 :: numL (-i).toNat
theorem iL_free {i : Int} {c : Nat} (h : c ≠ 45) (h2 : c < 48 ∨ 57 < c) : c ∉ iL i := by
  unfold iL
  split
  · exact numL_free h2
  · intro z
    rcases List.mem_cons.mp z with z | z
    · exact h z
    · exact numL_free h2 z
theorem iL_len {i : Int} (h1 : -(10 ^ 60) < i) (h2 : i < 10 ^ 60) : (iL i).length ≤ 61 := by
  unfold iL
  split
  · have := numL_len (n := i.toNat) (k := 60) (by decide) (by omega)
    omega
  · have := numL_len (n := (-i).toNat) (k := 60) (by decide) (by omega)
    simp only [List.length_cons]
    omega
def refL : RefD → List Nat
  | .thing a b => iL a ++ (46 :: iL b)
  | .made a _ c => iL a ++ (46 :: iL c)
def RefD.Sm : RefD → Prop
  | .thing a b => 0 ≤ a ∧ a < 10 ^ 60 ∧ 0 ≤ b ∧ b < 10 ^ 60
  | .made _ _ _ => False
theorem refL_free {r : RefD} {c : Nat} (h : c ≠ 45) (h2 : c ≠ 46) (h3 : c < 48 ∨ 57 < c) : c ∉ refL r := by
  cases r <;>
  · intro z
    rcases List.mem_append.mp z with z | z
    · exact iL_free h h3 z
    · rcases List.mem_cons.mp z with z | z
      · exact h2 z
      · exact iL_free h h3 z
def Thing.Sm : Thing → Prop
  | .box w => -(10 ^ 60) < w ∧ w < 10 ^ 60
  | th => ∀ r ∈ th.refs, r.Sm
theorem joinL_free {S : List Nat} {c : Nat} (hS : c ∉ S) : ∀ {ps : List (List Nat)}, (∀ p ∈ ps, c ∉ p) → c ∉ joinL S ps
  | [], _ => by simp [joinL]
  | [p], h => by simpa [joinL] using h p (by simp)
  | p :: q :: r, h => by
    simp only [joinL, List.mem_append, not_or]
    exact ⟨h p (by simp), hS, joinL_free hS fun z hz => h z (by simp at hz ⊢; exact .inr hz)⟩
/-! LT1 -/
/-! the steps: one macro -/
local macro_rules | `(tactic| walk_at "hlk") => `(tactic| first | assumption | with_reducible exact hup_same | ((with_reducible refine' (hup_ne ?nn).trans ?tt); (case nn => first | assumption | (refine Ne.symm ?_; assumption)); (case tt => walk_at "hlk")))
local macro_rules | `(tactic| walk_at "zgo") => `(tactic| repeat (first
  | with_reducible refine i_seq ?_
  | with_reducible refine i_op ?_
  | ((with_reducible refine g_var ?_); first
    | with_reducible refine i_var0 ?_
    | with_reducible refine i_var1 ?_
    | with_reducible refine i_var2 ?_
    | with_reducible refine i_var3 ?_
    | with_reducible refine i_var4 ?_
    | with_reducible refine i_var5 ?_
    | with_reducible refine i_var6 ?_
    | with_reducible refine i_var7 ?_
    | with_reducible refine i_var8 ?_
    | with_reducible refine i_var9 ?_
    | with_reducible refine i_var10 ?_
    | with_reducible refine i_var11 ?_
    | with_reducible refine i_var12 ?_
    | with_reducible refine i_var13 ?_
    | with_reducible refine i_var14 ?_
    | with_reducible refine i_var15 ?_
    | with_reducible refine i_var16 ?_
    | with_reducible refine i_var17 ?_
    | with_reducible refine i_var18 ?_
    | with_reducible refine i_var19 ?_
    | with_reducible refine i_var20 ?_
    | with_reducible refine i_var21 ?_
    | with_reducible refine i_var22 ?_
    | with_reducible refine i_var23 ?_
    | with_reducible refine i_var24 ?_
    | with_reducible refine i_var25 ?_)
  | with_reducible refine i_c ?_
  | with_reducible refine i_cons ?_
  | with_reducible refine i_nil ?_
  | with_reducible refine i_asg ?_
  | ((with_reducible refine g_name ?_); first
    | with_reducible refine i_name0 ?_
    | with_reducible refine i_name1 ?_
    | with_reducible refine i_name2 ?_
    | with_reducible refine i_name3 ?_
    | with_reducible refine i_name4 ?_
    | with_reducible refine i_name5 ?_
    | with_reducible refine i_name6 ?_
    | with_reducible refine i_name7 ?_
    | with_reducible refine i_name8 ?_
    | with_reducible refine i_name9 ?_
    | with_reducible refine i_name10 ?_
    | with_reducible refine i_name11 ?_
    | with_reducible refine i_name12 ?_
    | with_reducible refine i_name13 ?_
    | with_reducible refine i_name14 ?_
    | with_reducible refine i_name15 ?_
    | with_reducible refine i_name16 ?_
    | with_reducible refine i_name17 ?_
    | with_reducible refine i_name18 ?_
    | with_reducible refine i_name19 ?_
    | with_reducible refine i_name20 ?_
    | with_reducible refine i_name21 ?_
    | with_reducible refine i_name22 ?_
    | with_reducible refine i_name23 ?_
    | with_reducible refine i_name24 ?_
    | with_reducible refine i_name25 ?_)
  | ((with_reducible refine g_tg1 ?_); first
    | with_reducible refine i_tg1_0 ?_
    | with_reducible refine i_tg1_1 ?_
    | with_reducible refine i_tg1_2 ?_
    | with_reducible refine i_tg1_3 ?_
    | with_reducible refine i_tg1_4 ?_
    | with_reducible refine i_tg1_5 ?_
    | with_reducible refine i_tg1_6 ?_
    | with_reducible refine i_tg1_7 ?_
    | with_reducible refine i_tg1_8 ?_
    | with_reducible refine i_tg1_9 ?_
    | with_reducible refine i_tg1_10 ?_
    | with_reducible refine i_tg1_11 ?_
    | with_reducible refine i_tg1_12 ?_
    | with_reducible refine i_tg1_13 ?_
    | with_reducible refine i_tg1_14 ?_
    | with_reducible refine i_tg1_15 ?_
    | with_reducible refine i_tg1_16 ?_
    | with_reducible refine i_tg1_17 ?_
    | with_reducible refine i_tg1_18 ?_
    | with_reducible refine i_tg1_19 ?_
    | with_reducible refine i_tg1_20 ?_
    | with_reducible refine i_tg1_21 ?_
    | with_reducible refine i_tg1_22 ?_
    | with_reducible refine i_tg1_23 ?_)
  | with_reducible refine i_yes ?_
  | with_reducible refine i_if ?_
  | with_reducible refine i_tv ?_
  | with_reducible refine i_bl ?_
  | with_reducible refine i_blV ?_
  | ((with_reducible refine g_if ?_); first
    | with_reducible refine iteT ?_
    | with_reducible refine iteF ?_
    | ((with_reducible refine' i_ifdt ?cc ?_); (case cc => first | decide | omega | assumption | decide +kernel))
    | ((with_reducible refine' i_ifdf ?cc ?_); (case cc => first | decide | omega | assumption | decide +kernel))
    | ((with_reducible refine' i_ifnt ?cc ?_); (case cc => first | decide | omega | assumption | decide +kernel))
    | ((with_reducible refine' i_ifnf ?cc ?_); (case cc => first | decide | omega | assumption | decide +kernel))
    | ((with_reducible refine' i_ift ?cc ?_); (case cc => first | assumption | rfl))
    | ((with_reducible refine' i_iff ?cc ?_); (case cc => first | assumption | rfl)))
  | with_reducible refine i_eqT ?_
  | with_reducible refine i_neT ?_
  | with_reducible refine i_eqI ?_
  | with_reducible refine i_neI ?_
  | with_reducible refine i_eqB ?_
  | with_reducible refine i_neB ?_
  | with_reducible refine i_lt ?_
  | with_reducible refine i_le ?_
  | with_reducible refine i_gt ?_
  | with_reducible refine i_ge ?_
  | with_reducible refine i_add ?_
  | with_reducible refine i_sub ?_
  | with_reducible refine i_and ?_
  | with_reducible refine i_or ?_
  | with_reducible refine i_not ?_
  | with_reducible refine i_andV ?_
  | with_reducible refine i_orV ?_
  | with_reducible refine i_notV ?_
  | with_reducible refine i_ifE ?_
  | with_reducible refine i_isN ?_
  | with_reducible refine i_notN ?_
  | with_reducible refine i_un ?_
  | with_reducible refine i_int1 ?_
  | with_reducible refine i_tup ?_
  | with_reducible refine i_lst ?_
  | ((with_reducible refine' i_small ?ss ?_); (case ss => first | decide | (simp only [List.length_cons, List.length_nil, List.length_map, List.length_append]; omega)))
  | with_reducible refine i_cb ?_
  | with_reducible refine i_call0 ?_
  | with_reducible refine i_call ?_
  | with_reducible refine i_meth0 ?_
  | with_reducible refine i_make0 ?_
  | with_reducible refine i_fld ?_
  | ((with_reducible refine' i_fldO ?ll ?_); (case ll => repeat (first | exact lk_hd | exact lk_nil | (refine lk_tl (by decide +kernel) ?_))))
  | ((with_reducible refine' i_fldR ?ee ?ll ?_); (case ee => walk_at "hlk"); (case ll => repeat (first | exact lk_hd | exact lk_nil | (refine lk_tl (by decide +kernel) ?_))))
  | ((with_reducible refine' i_mO ?ll ?_); (case ll => repeat (first | exact lk_hd | exact lk_nil | (refine lk_tl (by decide +kernel) ?_))))
  | ((with_reducible refine' i_mR ?ee ?ll ?_); (case ee => walk_at "hlk"); (case ll => repeat (first | exact lk_hd | exact lk_nil | (refine lk_tl (by decide +kernel) ?_))))
  | ((with_reducible refine' i_ixT ?at_ ?_); (case at_ => first | exact rfl | exact L2.atI_nat (j := 0) rfl | exact L2.atI_nat (j := 1) rfl))
  | ((with_reducible refine' i_ixL ?at_ ?_); (case at_ => first | exact rfl | exact L2.atI_nat (j := 0) rfl | exact L2.atI_nat (j := 1) rfl))
  | ((with_reducible refine' i_ixR ?hh ?at_ ?_); (case hh => walk_at "hlk"); (case at_ => first | exact rfl | exact L2.atI_nat (j := 0) rfl | exact L2.atI_nat (j := 1) rfl))
  | with_reducible refine i_fldS ?_
  | with_reducible refine i_bm ?_
  | ((with_reducible refine' i_tyL ?hh ?_); (case hh => walk_at "hlk"))
  | ((with_reducible refine' i_l2 ?xx ?yy ?_); (case xx => exact rfl); (case yy => exact rfl))
  | with_reducible refine i_callK ?_
  | with_reducible refine i_makeK ?_
  | with_reducible refine i_chain ?_
  | with_reducible refine i_raise ?_
  | with_reducible refine i_atx ?_
  | with_reducible refine i_lenO ?_
  | with_reducible refine i_sub_ ?_
  | with_reducible refine i_expr ?_
  | with_reducible refine i_ret ?_
  | with_reducible refine i_next ?_
  | with_reducible refine i_lc ?_
  | with_reducible refine i_r1 ?_
  | with_reducible refine i_iL ?_
  | with_reducible refine i_iT ?_
  | with_reducible refine i_itsF ?_
  | with_reducible refine i_itsS ?_
  | with_reducible refine i_itsT ?_
  | ((with_reducible refine' i_itsR ?hh ?_); (case hh => walk_at "hlk"))
  | with_reducible refine i_lenF ?_
  | with_reducible refine i_lenT ?_
  | ((with_reducible refine' i_lenR ?hh ?_); (case hh => walk_at "hlk"))
  | with_reducible refine i_listF ?_
  | with_reducible refine i_listT ?_
  | ((with_reducible refine' i_listR ?hh ?_); (case hh => walk_at "hlk"))
  | with_reducible refine i_tupF ?_
  | ((with_reducible refine' i_lenOR ?hh ?_); (case hh => walk_at "hlk"))
  | ((with_reducible refine' i_tupR ?hh ?_); (case hh => walk_at "hlk"))
  | ((with_reducible refine g_isi ?_); first
    | with_reducible refine i_isi_non_bool ?_
    | with_reducible refine i_isi_non_int ?_
    | with_reducible refine i_isi_non_str ?_
    | with_reducible refine i_isi_non_list ?_
    | with_reducible refine i_isi_non_tuple ?_
    | with_reducible refine i_isi_bl_bool ?_
    | with_reducible refine i_isi_bl_int ?_
    | with_reducible refine i_isi_bl_str ?_
    | with_reducible refine i_isi_bl_list ?_
    | with_reducible refine i_isi_bl_tuple ?_
    | with_reducible refine i_isi_int_bool ?_
    | with_reducible refine i_isi_int_int ?_
    | with_reducible refine i_isi_int_str ?_
    | with_reducible refine i_isi_int_list ?_
    | with_reducible refine i_isi_int_tuple ?_
    | with_reducible refine i_isi_str_bool ?_
    | with_reducible refine i_isi_str_int ?_
    | with_reducible refine i_isi_str_str ?_
    | with_reducible refine i_isi_str_list ?_
    | with_reducible refine i_isi_str_tuple ?_
    | with_reducible refine i_isi_tup_bool ?_
    | with_reducible refine i_isi_tup_int ?_
    | with_reducible refine i_isi_tup_str ?_
    | with_reducible refine i_isi_tup_list ?_
    | with_reducible refine i_isi_tup_tuple ?_
    | with_reducible refine i_isi_lst_bool ?_
    | with_reducible refine i_isi_lst_int ?_
    | with_reducible refine i_isi_lst_str ?_
    | with_reducible refine i_isi_lst_list ?_
    | with_reducible refine i_isi_lst_tuple ?_)
  | with_reducible refine i_max ?_
  | with_reducible refine i_min ?_
  | with_reducible refine i_rgin ?_
  | with_reducible refine i_tabin ?_
  | with_reducible refine i_disp ?_
  | with_reducible refine i_pcons ?_
  | with_reducible refine i_pnil ?_
  | with_reducible refine i_dget ?_
  | with_reducible refine i_din ?_
  | with_reducible refine i_dput ?_
  | ((with_reducible refine' i_wgtup ?nn ?_); (case nn => exact rfl))
  | ((with_reducible refine' i_rngB ?aa ?bb ?_); (case aa => first | decide | omega); (case bb => first | decide | omega))
  | with_reducible refine i_for ?_
  | with_reducible refine i_while ?_
  | with_reducible refine i_wgcons ?_
  | with_reducible refine i_wgnil ?_
  | with_reducible refine i_wslL ?_
  | with_reducible refine i_nopart ?_
  | with_reducible refine i_part ?_
  | ((with_reducible refine' i_wgunl ?nn ?_); (case nn => exact rfl))
  | ((with_reducible refine' i_xf ?ee ?_); (case ee => exact rfl))
  | ((with_reducible refine' i_errIs ?ee ?_); (case ee => exact rfl))
  | with_reducible refine i_bm0 ?_
  | with_reducible refine i_intB ?_
  | with_reducible refine i_intI ?_
  | with_reducible refine i_tryThru ?_
  | with_reducible refine i_iS ?_
  | with_reducible refine i_str1 ?_
  | with_reducible refine i_tyS ?_
  | with_reducible refine i_fmtI ?_
  | with_reducible refine i_js ?_
  | with_reducible refine i_jsc ?_
  | with_reducible refine i_jsn ?_
  ))

/-! LT2 -/


/-! ### the writing -/
theorem joinL_len {S : List Nat} {m : Nat} : ∀ {ps : List (List Nat)}, (∀ p ∈ ps, p.length ≤ m) → (joinL S ps).length ≤ ps.length * (m + S.length)
  | [], _ => by simp [joinL]
  | [p], h => by have := h p (by simp); simp [joinL]; omega
  | p :: q :: r, h => by
    have h1 := h p (by simp)
    have h2 := joinL_len (S := S) (ps := q :: r) fun z hz => h z (List.mem_cons_of_mem _ hz)
    simp only [joinL, List.length_append]
    rw [show (p :: q :: r).length = (q :: r).length + 1 from rfl, Nat.add_mul]
    omega
theorem RefD.Sm.len {r : RefD} (h : r.Sm) : (refL r).length ≤ 123 := by
  cases r with
  | made => exact h.elim
  | thing a b =>
    obtain ⟨a0, a1, b0, b1⟩ := h
    have := iL_len (i := a) (by omega) a1
    have := iL_len (i := b) (by omega) b1
    simp [refL]
    omega
/-- small enough to be written -/
structure SmT (ws : Rooms) : Prop where
  len : ws.length ≤ 20
  house : ∀ hs ∈ ws, hs.length ≤ 20
  refs : ∀ hs ∈ ws, ∀ th ∈ hs, th.refs.length ≤ 20 ∧ th.Sm
theorem Thing.Sm.ref {th : Thing} (s : th.Sm) {r : RefD} (h : r ∈ th.refs) : r.Sm := by
  cases th with
  | box w => simp [Thing.refs] at h
  | shelf rs => exact s r h
  | relay q => exact s r h
  | maker => simp [Thing.refs] at h
  | stone => simp [Thing.refs] at h
/-! LT3 -/


/-! ### data of ints, texts, tuples, lists: == is = -/
mutual
def plD : PyData → Bool
  | .int _ => true
  | .str _ => true
  | .tuple xs => plDs xs
  | .list xs => plDs xs
  | _ => false
def plDs : List PyData → Bool
  | [] => true
  | x :: xs => plD x && plDs xs
end
mutual
theorem eqv_pl : ∀ (d e : PyData), plD d = true → plD e = true → (PyData.eqv d e = true ↔ d = e)
  | .int i, e, h1, h2 => by cases e <;> simp_all [PyData.eqv, plD]
  | .str i, e, h1, h2 => by cases e <;> simp_all [PyData.eqv, plD]
  | .tuple xs, .tuple ys, h1, h2 => by
    rw [PyData.eqv, eqvs_pl xs ys (by simpa [plD] using h1) (by simpa [plD] using h2)]
    simp
  | .list xs, .list ys, h1, h2 => by
    rw [PyData.eqv, eqvs_pl xs ys (by simpa [plD] using h1) (by simpa [plD] using h2)]
    simp
  | .tuple xs, .int _, _, _ => by simp [PyData.eqv]
  | .tuple xs, .str _, _, _ => by simp [PyData.eqv]
  | .tuple xs, .list _, _, _ => by simp [PyData.eqv]
  | .list xs, .int _, _, _ => by simp [PyData.eqv]
  | .list xs, .str _, _, _ => by simp [PyData.eqv]
  | .list xs, .tuple _, _, _ => by simp [PyData.eqv]
  | .none, _, h, _ => by simp [plD] at h
  | .bool _, _, h, _ => by simp [plD] at h
  | .dict _, _, h, _ => by simp [plD] at h
  | .tuple _, .none, _, h => by simp [plD] at h
  | .tuple _, .bool _, _, h => by simp [plD] at h
  | .tuple _, .dict _, _, h => by simp [plD] at h
  | .list _, .none, _, h => by simp [plD] at h
  | .list _, .bool _, _, h => by simp [plD] at h
  | .list _, .dict _, _, h => by simp [plD] at h
theorem eqvs_pl : ∀ (d e : List PyData), plDs d = true → plDs e = true → (PyData.eqvAll d e = true ↔ d = e)
  | [], [], _, _ => by simp [PyData.eqvAll]
  | [], _ :: _, _, _ => by simp [PyData.eqvAll]
  | _ :: _, [], _, _ => by simp [PyData.eqvAll]
  | x :: xs, y :: ys, h1, h2 => by
    simp only [plDs, Bool.and_eq_true] at h1 h2
    rw [PyData.eqvAll, Bool.and_eq_true, eqv_pl x y h1.1 h2.1, eqvs_pl xs ys h1.2 h2.2]
    simp
end
theorem plDs_map {α : Type} {f : α → PyData} (h : ∀ x, plD (f x) = true) : ∀ xs : List α, plDs (xs.map f) = true
  | [] => rfl
  | x :: xs => by simp [plDs, h x, plDs_map h xs]
theorem RefD.pl (r : RefD) : plD r.d = true := by cases r <;> rfl
theorem Thing.pl (t : Thing) : plD t.d = true := by
  cases t with
  | shelf rs => simp [Thing.d, plD, plDs, plDs_map RefD.pl]
  | relay r => simp [Thing.d, plD, plDs, r.pl]
  | _ => rfl
theorem RefD.d_inj {a b : RefD} (h : a.d = b.d) : a = b := by
  cases a <;> cases b <;> simp_all [RefD.d]
theorem map_inj' {α β : Type} {f : α → β} (h : ∀ a b, f a = f b → a = b) : ∀ {xs ys : List α}, xs.map f = ys.map f → xs = ys
  | [], [], _ => rfl
  | [], _ :: _, e => by simp at e
  | _ :: _, [], e => by simp at e
  | x :: xs, y :: ys, e => by
    simp only [List.map_cons, List.cons.injEq] at e
    rw [h x y e.1, map_inj' h e.2]
theorem Thing.d_inj {a b : Thing} (h : a.d = b.d) : a = b := by
  cases a <;> cases b <;> simp only [Thing.d, PyData.tuple.injEq, List.cons.injEq, PyData.str.injEq, PyData.int.injEq] at h <;>
    first | exact absurd h.1 (by decide +kernel) | skip
  · rw [h.2.1]
  · rw [map_inj' (fun _ _ => RefD.d_inj) h.2.1]
  · rw [RefD.d_inj h.2.1]
  · rfl
  · rfl
/-! ### the reading -/
/-! LT4 -/


theorem SmT.small {ws : Rooms} (s : SmT ws) : SmallW ws := ⟨by have := s.len; omega, fun hs hh => by have := s.house hs hh; omega⟩
/-! LT5 -/


/-! ### shorter -/
/-! LK4 -/


/-! ZL -/
/-! text * int -/
/-! ZM -/
/-! methods with keywords -/
/-- a method that keeps a promise, called with keywords -/
structure MtK (P : Program) (w : World) (K : Fr) (mg : Str → Option Value) (base : Heap) (C : Addr) (m : Str) (k : Nat) (ps : List Str) (n : Nat) (ks : List Str) (perm : List (Sum Nat Nat)) (fs : FS) : Prop where
  ex : ∃ (f : Addr) (fd : FuncData), FnOk P w K mg base (L2.CX P w) k f fd ps (lSp K fs) ∧ Meth K C m f ∧ KBn K fd ps (n + 1) ks (arr (.inl 0 :: perm.map fun | .inl i => .inl (i + 1) | .inr j => .inr j)) (arr (.inl 0 :: perm.map fun | .inl i => .inl (i + 1) | .inr j => .inr j))
section
variable {X : Cx} {W : WX} {pos : Pos} {k n : Nat} {x m : Str} {ps ks : List Str} {perm : List (Sum Nat Nat)} {fs : FS} {C : Addr} {p apos : Pos} {e o : Expr} {es : List Expr} {kws : List Keyword} {t tk0 : WA} {ta : WE}
def wMethK (C : Addr) (m : Str) (fs : FS) (n l : Nat) (perm : List (Sum Nat Nat)) (ta : WE) (t tk : WA) : WE := fun ρ h E Q => ta ρ h E fun x h1 => ∃ fl, Ins h1 x C fl ∧ fl.lookup m = none ∧ t ρ h1 E fun vs h2 => tk ρ h2 E fun zs h3 => vs.length = n ∧ zs.length = l ∧ fs.sp (x :: arr perm vs zs) h3 E Q
theorem i_methK {C : Addr} {m : Str} {fs : FS} {n l : Nat} {perm : List (Sum Nat Nat)} {ta : WE} {t tk : WA} {ρ h E} {Q : KQ} (q : ta ρ h E fun x h1 => ∃ fl, Ins h1 x C fl ∧ fl.lookup m = none ∧ t ρ h1 E fun vs h2 => tk ρ h2 E fun zs h3 => vs.length = n ∧ zs.length = l ∧ fs.sp (x :: arr perm vs zs) h3 E Q) : wMethK C m fs n l perm ta t tk ρ h E Q := q
end
/-! ZN -/
/-! != of an own instance -/
section
variable {M : Model} {prog : Program} {w : World} {A : Around} {E : Value → Shared → Prop} {s : Shared} {K : PySem.W.Frag} {x y C f : Addr} {ox : Obj} {od : Option Obj}
end
section
variable {X : Cx}
end
/-! ZO -/
/-! an own instance in a list of one -/
section
open AutoSeq1 (wpAny_loadPart')
open MeetsSeq MeetsSeq2 MeetsSeq3 SeqRoads2
variable {prog : Program} {w : World} {A : Around} {R : Result → Shared → Prop}
end
section
variable {X : Cx}
end
theorem i_iE {t : WE} {ρ : Ev} {h : Hh} {E : XQ} {G : List Val → (Hh → Prop) → Hh → Prop} (q : t ρ h E fun v h1 => Its h1 v fun xs chk h => G (enumV 0 xs) chk h) : wiE t ρ h E G := q
theorem i_iZ {t u : WE} {ρ : Ev} {h : Hh} {E : XQ} {G : List Val → (Hh → Prop) → Hh → Prop} (q : t ρ h E fun v h1 => u ρ h1 E fun w h2 => Its h2 v fun xs c1 _ => Its h2 w fun ys c2 _ => G (zipV xs ys) (fun h => c1 h ∧ c2 h) h2) : wiZ t u ρ h E G := q
theorem enum_get {xs : List Val} {i : Nat} {z : Val} (h : (enumV 0 xs)[i]? = some z) : ∃ x, xs[i]? = some x ∧ z = .tup [.int (i : Int), x] := by
  rw [enumV_get] at h
  obtain ⟨x, e, rfl⟩ := Option.map_eq_some_iff.mp h
  exact ⟨x, e, by rw [Nat.zero_add]⟩
/-! LQ1 -/
/-! the steps: one macro -/
local macro_rules | `(tactic| walk_at "hlk") => `(tactic| first | assumption | with_reducible exact hup_same | ((with_reducible refine' (hup_ne ?nn).trans ?tt); (case nn => first | assumption | (refine Ne.symm ?_; assumption)); (case tt => walk_at "hlk")))
local macro_rules | `(tactic| walk_at "zgo") => `(tactic| repeat (first
  | with_reducible refine i_seq ?_
  | with_reducible refine i_op ?_
  | ((with_reducible refine g_var ?_); first
    | with_reducible refine i_var0 ?_
    | with_reducible refine i_var1 ?_
    | with_reducible refine i_var2 ?_
    | with_reducible refine i_var3 ?_
    | with_reducible refine i_var4 ?_
    | with_reducible refine i_var5 ?_
    | with_reducible refine i_var6 ?_
    | with_reducible refine i_var7 ?_
    | with_reducible refine i_var8 ?_
    | with_reducible refine i_var9 ?_
    | with_reducible refine i_var10 ?_
    | with_reducible refine i_var11 ?_
    | with_reducible refine i_var12 ?_
    | with_reducible refine i_var13 ?_
    | with_reducible refine i_var14 ?_
    | with_reducible refine i_var15 ?_
    | with_reducible refine i_var16 ?_
    | with_reducible refine i_var17 ?_
    | with_reducible refine i_var18 ?_
    | with_reducible refine i_var19 ?_
    | with_reducible refine i_var20 ?_
    | with_reducible refine i_var21 ?_
    | with_reducible refine i_var22 ?_
    | with_reducible refine i_var23 ?_
    | with_reducible refine i_var24 ?_
    | with_reducible refine i_var25 ?_)
  | with_reducible refine i_c ?_
  | with_reducible refine i_cons ?_
  | with_reducible refine i_nil ?_
  | with_reducible refine i_asg ?_
  | ((with_reducible refine g_name ?_); first
    | with_reducible refine i_name0 ?_
    | with_reducible refine i_name1 ?_
    | with_reducible refine i_name2 ?_
    | with_reducible refine i_name3 ?_
    | with_reducible refine i_name4 ?_
    | with_reducible refine i_name5 ?_
    | with_reducible refine i_name6 ?_
    | with_reducible refine i_name7 ?_
    | with_reducible refine i_name8 ?_
    | with_reducible refine i_name9 ?_
    | with_reducible refine i_name10 ?_
    | with_reducible refine i_name11 ?_
    | with_reducible refine i_name12 ?_
    | with_reducible refine i_name13 ?_
    | with_reducible refine i_name14 ?_
    | with_reducible refine i_name15 ?_
    | with_reducible refine i_name16 ?_
    | with_reducible refine i_name17 ?_
    | with_reducible refine i_name18 ?_
    | with_reducible refine i_name19 ?_
    | with_reducible refine i_name20 ?_
    | with_reducible refine i_name21 ?_
    | with_reducible refine i_name22 ?_
    | with_reducible refine i_name23 ?_
    | with_reducible refine i_name24 ?_
    | with_reducible refine i_name25 ?_)
  | ((with_reducible refine g_tg1 ?_); first
    | with_reducible refine i_tg1_0 ?_
    | with_reducible refine i_tg1_1 ?_
    | with_reducible refine i_tg1_2 ?_
    | with_reducible refine i_tg1_3 ?_
    | with_reducible refine i_tg1_4 ?_
    | with_reducible refine i_tg1_5 ?_
    | with_reducible refine i_tg1_6 ?_
    | with_reducible refine i_tg1_7 ?_
    | with_reducible refine i_tg1_8 ?_
    | with_reducible refine i_tg1_9 ?_
    | with_reducible refine i_tg1_10 ?_
    | with_reducible refine i_tg1_11 ?_
    | with_reducible refine i_tg1_12 ?_
    | with_reducible refine i_tg1_13 ?_
    | with_reducible refine i_tg1_14 ?_
    | with_reducible refine i_tg1_15 ?_
    | with_reducible refine i_tg1_16 ?_
    | with_reducible refine i_tg1_17 ?_
    | with_reducible refine i_tg1_18 ?_
    | with_reducible refine i_tg1_19 ?_
    | with_reducible refine i_tg1_20 ?_
    | with_reducible refine i_tg1_21 ?_
    | with_reducible refine i_tg1_22 ?_
    | with_reducible refine i_tg1_23 ?_)
  | with_reducible refine i_yes ?_
  | with_reducible refine i_if ?_
  | with_reducible refine i_tv ?_
  | with_reducible refine i_bl ?_
  | with_reducible refine i_blV ?_
  | ((with_reducible refine g_if ?_); first
    | with_reducible refine iteT ?_
    | with_reducible refine iteF ?_
    | ((with_reducible refine' i_ifdt ?cc ?_); (case cc => first | decide | omega | assumption | decide +kernel))
    | ((with_reducible refine' i_ifdf ?cc ?_); (case cc => first | decide | omega | assumption | decide +kernel))
    | ((with_reducible refine' i_ifnt ?cc ?_); (case cc => first | decide | omega | assumption | decide +kernel))
    | ((with_reducible refine' i_ifnf ?cc ?_); (case cc => first | decide | omega | assumption | decide +kernel))
    | ((with_reducible refine' i_ift ?cc ?_); (case cc => first | assumption | rfl))
    | ((with_reducible refine' i_iff ?cc ?_); (case cc => first | assumption | rfl)))
  | with_reducible refine i_eqT ?_
  | with_reducible refine i_neT ?_
  | with_reducible refine i_eqI ?_
  | with_reducible refine i_neI ?_
  | with_reducible refine i_eqB ?_
  | with_reducible refine i_neB ?_
  | with_reducible refine i_lt ?_
  | with_reducible refine i_le ?_
  | with_reducible refine i_gt ?_
  | with_reducible refine i_ge ?_
  | with_reducible refine i_add ?_
  | with_reducible refine i_sub ?_
  | with_reducible refine i_and ?_
  | with_reducible refine i_or ?_
  | with_reducible refine i_not ?_
  | with_reducible refine i_andV ?_
  | with_reducible refine i_orV ?_
  | with_reducible refine i_notV ?_
  | with_reducible refine i_ifE ?_
  | with_reducible refine i_isN ?_
  | with_reducible refine i_notN ?_
  | with_reducible refine i_un ?_
  | with_reducible refine i_int1 ?_
  | with_reducible refine i_tup ?_
  | with_reducible refine i_lst ?_
  | ((with_reducible refine' i_small ?ss ?_); (case ss => first | decide | (simp only [List.length_cons, List.length_nil, List.length_map, List.length_append]; omega)))
  | with_reducible refine i_cb ?_
  | with_reducible refine i_call0 ?_
  | with_reducible refine i_call ?_
  | with_reducible refine i_meth0 ?_
  | with_reducible refine i_methK ?_
  | with_reducible refine i_make0 ?_
  | with_reducible refine i_fld ?_
  | ((with_reducible refine' i_fldO ?ll ?_); (case ll => repeat (first | exact lk_hd | exact lk_nil | (refine lk_tl (by decide +kernel) ?_))))
  | ((with_reducible refine' i_fldR ?ee ?ll ?_); (case ee => walk_at "hlk"); (case ll => repeat (first | exact lk_hd | exact lk_nil | (refine lk_tl (by decide +kernel) ?_))))
  | ((with_reducible refine' i_mO ?ll ?_); (case ll => repeat (first | exact lk_hd | exact lk_nil | (refine lk_tl (by decide +kernel) ?_))))
  | ((with_reducible refine' i_mR ?ee ?ll ?_); (case ee => walk_at "hlk"); (case ll => repeat (first | exact lk_hd | exact lk_nil | (refine lk_tl (by decide +kernel) ?_))))
  | ((with_reducible refine' i_ixT ?at_ ?_); (case at_ => first | exact rfl | exact L2.atI_nat (j := 0) rfl | exact L2.atI_nat (j := 1) rfl))
  | ((with_reducible refine' i_ixL ?at_ ?_); (case at_ => first | exact rfl | exact L2.atI_nat (j := 0) rfl | exact L2.atI_nat (j := 1) rfl))
  | ((with_reducible refine' i_ixR ?hh ?at_ ?_); (case hh => walk_at "hlk"); (case at_ => first | exact rfl | exact L2.atI_nat (j := 0) rfl | exact L2.atI_nat (j := 1) rfl))
  | with_reducible refine i_fldS ?_
  | with_reducible refine i_bm ?_
  | ((with_reducible refine' i_tyL ?hh ?_); (case hh => walk_at "hlk"))
  | ((with_reducible refine' i_l2 ?xx ?yy ?_); (case xx => exact rfl); (case yy => exact rfl))
  | with_reducible refine i_callK ?_
  | with_reducible refine i_makeK ?_
  | with_reducible refine i_chain ?_
  | with_reducible refine i_raise ?_
  | with_reducible refine i_atx ?_
  | with_reducible refine i_lenO ?_
  | with_reducible refine i_sub_ ?_
  | with_reducible refine i_expr ?_
  | with_reducible refine i_ret ?_
  | with_reducible refine i_next ?_
  | with_reducible refine i_lc ?_
  | with_reducible refine i_r1 ?_
  | with_reducible refine i_iL ?_
  | with_reducible refine i_iE ?_
  | with_reducible refine i_iZ ?_
  | with_reducible refine i_iT ?_
  | with_reducible refine i_itsF ?_
  | with_reducible refine i_itsS ?_
  | with_reducible refine i_itsT ?_
  | ((with_reducible refine' i_itsR ?hh ?_); (case hh => walk_at "hlk"))
  | with_reducible refine i_lenF ?_
  | with_reducible refine i_lenT ?_
  | ((with_reducible refine' i_lenR ?hh ?_); (case hh => walk_at "hlk"))
  | with_reducible refine i_listF ?_
  | with_reducible refine i_listT ?_
  | ((with_reducible refine' i_listR ?hh ?_); (case hh => walk_at "hlk"))
  | with_reducible refine i_tupF ?_
  | ((with_reducible refine' i_lenOR ?hh ?_); (case hh => walk_at "hlk"))
  | ((with_reducible refine' i_tupR ?hh ?_); (case hh => walk_at "hlk"))
  | ((with_reducible refine g_isi ?_); first
    | with_reducible refine i_isi_non_bool ?_
    | with_reducible refine i_isi_non_int ?_
    | with_reducible refine i_isi_non_str ?_
    | with_reducible refine i_isi_non_list ?_
    | with_reducible refine i_isi_non_tuple ?_
    | with_reducible refine i_isi_bl_bool ?_
    | with_reducible refine i_isi_bl_int ?_
    | with_reducible refine i_isi_bl_str ?_
    | with_reducible refine i_isi_bl_list ?_
    | with_reducible refine i_isi_bl_tuple ?_
    | with_reducible refine i_isi_int_bool ?_
    | with_reducible refine i_isi_int_int ?_
    | with_reducible refine i_isi_int_str ?_
    | with_reducible refine i_isi_int_list ?_
    | with_reducible refine i_isi_int_tuple ?_
    | with_reducible refine i_isi_str_bool ?_
    | with_reducible refine i_isi_str_int ?_
    | with_reducible refine i_isi_str_str ?_
    | with_reducible refine i_isi_str_list ?_
    | with_reducible refine i_isi_str_tuple ?_
    | with_reducible refine i_isi_tup_bool ?_
    | with_reducible refine i_isi_tup_int ?_
    | with_reducible refine i_isi_tup_str ?_
    | with_reducible refine i_isi_tup_list ?_
    | with_reducible refine i_isi_tup_tuple ?_
    | with_reducible refine i_isi_lst_bool ?_
    | with_reducible refine i_isi_lst_int ?_
    | with_reducible refine i_isi_lst_str ?_
    | with_reducible refine i_isi_lst_list ?_
    | with_reducible refine i_isi_lst_tuple ?_)
  | with_reducible refine i_max ?_
  | with_reducible refine i_min ?_
  | with_reducible refine i_rgin ?_
  | with_reducible refine i_tabin ?_
  | with_reducible refine i_disp ?_
  | with_reducible refine i_pcons ?_
  | with_reducible refine i_pnil ?_
  | with_reducible refine i_dget ?_
  | with_reducible refine i_din ?_
  | with_reducible refine i_dput ?_
  | ((with_reducible refine' i_wgtup ?nn ?_); (case nn => exact rfl))
  | ((with_reducible refine' i_rngB ?aa ?bb ?_); (case aa => first | decide | omega); (case bb => first | decide | omega))
  | with_reducible refine i_for ?_
  | with_reducible refine i_while ?_
  | with_reducible refine i_wgcons ?_
  | with_reducible refine i_wgnil ?_
  | with_reducible refine i_wslL ?_
  | with_reducible refine i_nopart ?_
  | with_reducible refine i_part ?_
  | ((with_reducible refine' i_wgunl ?nn ?_); (case nn => exact rfl))
  | ((with_reducible refine' i_xf ?ee ?_); (case ee => exact rfl))
  | ((with_reducible refine' i_errIs ?ee ?_); (case ee => exact rfl))
  | with_reducible refine i_bm0 ?_
  | with_reducible refine i_intB ?_
  | with_reducible refine i_intI ?_
  | with_reducible refine i_tryThru ?_
  | with_reducible refine i_iS ?_
  | with_reducible refine i_str1 ?_
  | with_reducible refine i_tyS ?_
  | with_reducible refine i_fmtI ?_
  | with_reducible refine i_js ?_
  | with_reducible refine i_jsc ?_
  | with_reducible refine i_jsn ?_
  ))

/-! ### things and houses asked for -/
def thingAt (ws : Rooms) : RefD → Option Thing
  | .thing a b => if 0 ≤ a ∧ 0 ≤ b then (ws[a.toNat]?).bind (·[b.toNat]?) else none
  | .made _ _ _ => none
/-! ZG1 -/
/-! the steps: one macro -/
local macro_rules | `(tactic| walk_at "hlk") => `(tactic| first | assumption | with_reducible exact hup_same | ((with_reducible refine' (hup_ne ?nn).trans ?tt); (case nn => first | assumption | (refine Ne.symm ?_; assumption)); (case tt => walk_at "hlk")))
local macro_rules | `(tactic| walk_at "zgo") => `(tactic| repeat (first
  | with_reducible refine i_seq ?_
  | with_reducible refine i_op ?_
  | ((with_reducible refine g_var ?_); first
    | with_reducible refine i_var0 ?_
    | with_reducible refine i_var1 ?_
    | with_reducible refine i_var2 ?_
    | with_reducible refine i_var3 ?_
    | with_reducible refine i_var4 ?_
    | with_reducible refine i_var5 ?_
    | with_reducible refine i_var6 ?_
    | with_reducible refine i_var7 ?_
    | with_reducible refine i_var8 ?_
    | with_reducible refine i_var9 ?_
    | with_reducible refine i_var10 ?_
    | with_reducible refine i_var11 ?_
    | with_reducible refine i_var12 ?_
    | with_reducible refine i_var13 ?_
    | with_reducible refine i_var14 ?_
    | with_reducible refine i_var15 ?_
    | with_reducible refine i_var16 ?_
    | with_reducible refine i_var17 ?_
    | with_reducible refine i_var18 ?_
    | with_reducible refine i_var19 ?_
    | with_reducible refine i_var20 ?_
    | with_reducible refine i_var21 ?_
    | with_reducible refine i_var22 ?_
    | with_reducible refine i_var23 ?_
    | with_reducible refine i_var24 ?_
    | with_reducible refine i_var25 ?_)
  | with_reducible refine i_c ?_
  | with_reducible refine i_cons ?_
  | with_reducible refine i_nil ?_
  | with_reducible refine i_asg ?_
  | ((with_reducible refine g_name ?_); first
    | with_reducible refine i_name0 ?_
    | with_reducible refine i_name1 ?_
    | with_reducible refine i_name2 ?_
    | with_reducible refine i_name3 ?_
    | with_reducible refine i_name4 ?_
    | with_reducible refine i_name5 ?_
    | with_reducible refine i_name6 ?_
    | with_reducible refine i_name7 ?_
    | with_reducible refine i_name8 ?_
    | with_reducible refine i_name9 ?_
    | with_reducible refine i_name10 ?_
    | with_reducible refine i_name11 ?_
    | with_reducible refine i_name12 ?_
    | with_reducible refine i_name13 ?_
    | with_reducible refine i_name14 ?_
    | with_reducible refine i_name15 ?_
    | with_reducible refine i_name16 ?_
    | with_reducible refine i_name17 ?_
    | with_reducible refine i_name18 ?_
    | with_reducible refine i_name19 ?_
    | with_reducible refine i_name20 ?_
    | with_reducible refine i_name21 ?_
    | with_reducible refine i_name22 ?_
    | with_reducible refine i_name23 ?_
    | with_reducible refine i_name24 ?_
    | with_reducible refine i_name25 ?_)
  | ((with_reducible refine g_tg1 ?_); first
    | with_reducible refine i_tg1_0 ?_
    | with_reducible refine i_tg1_1 ?_
    | with_reducible refine i_tg1_2 ?_
    | with_reducible refine i_tg1_3 ?_
    | with_reducible refine i_tg1_4 ?_
    | with_reducible refine i_tg1_5 ?_
    | with_reducible refine i_tg1_6 ?_
    | with_reducible refine i_tg1_7 ?_
    | with_reducible refine i_tg1_8 ?_
    | with_reducible refine i_tg1_9 ?_
    | with_reducible refine i_tg1_10 ?_
    | with_reducible refine i_tg1_11 ?_
    | with_reducible refine i_tg1_12 ?_
    | with_reducible refine i_tg1_13 ?_
    | with_reducible refine i_tg1_14 ?_
    | with_reducible refine i_tg1_15 ?_
    | with_reducible refine i_tg1_16 ?_
    | with_reducible refine i_tg1_17 ?_
    | with_reducible refine i_tg1_18 ?_
    | with_reducible refine i_tg1_19 ?_
    | with_reducible refine i_tg1_20 ?_
    | with_reducible refine i_tg1_21 ?_
    | with_reducible refine i_tg1_22 ?_
    | with_reducible refine i_tg1_23 ?_)
  | with_reducible refine i_yes ?_
  | with_reducible refine i_if ?_
  | with_reducible refine i_tv ?_
  | with_reducible refine i_bl ?_
  | with_reducible refine i_blV ?_
  | ((with_reducible refine g_if ?_); first
    | with_reducible refine iteT ?_
    | with_reducible refine iteF ?_
    | ((with_reducible refine' i_ifdt ?cc ?_); (case cc => first | decide | omega | assumption | decide +kernel))
    | ((with_reducible refine' i_ifdf ?cc ?_); (case cc => first | decide | omega | assumption | decide +kernel))
    | ((with_reducible refine' i_ifnt ?cc ?_); (case cc => first | decide | omega | assumption | decide +kernel))
    | ((with_reducible refine' i_ifnf ?cc ?_); (case cc => first | decide | omega | assumption | decide +kernel))
    | ((with_reducible refine' i_ift ?cc ?_); (case cc => first | assumption | rfl))
    | ((with_reducible refine' i_iff ?cc ?_); (case cc => first | assumption | rfl)))
  | with_reducible refine i_eqT ?_
  | with_reducible refine i_neT ?_
  | with_reducible refine i_eqI ?_
  | with_reducible refine i_neI ?_
  | with_reducible refine i_eqB ?_
  | with_reducible refine i_neB ?_
  | with_reducible refine i_lt ?_
  | with_reducible refine i_le ?_
  | with_reducible refine i_gt ?_
  | with_reducible refine i_ge ?_
  | with_reducible refine i_add ?_
  | with_reducible refine i_sub ?_
  | with_reducible refine i_and ?_
  | with_reducible refine i_or ?_
  | with_reducible refine i_not ?_
  | with_reducible refine i_andV ?_
  | with_reducible refine i_orV ?_
  | with_reducible refine i_notV ?_
  | with_reducible refine i_ifE ?_
  | with_reducible refine i_isN ?_
  | with_reducible refine i_notN ?_
  | with_reducible refine i_un ?_
  | with_reducible refine i_int1 ?_
  | with_reducible refine i_tup ?_
  | with_reducible refine i_lst ?_
  | ((with_reducible refine' i_small ?ss ?_); (case ss => first | decide | (simp only [List.length_cons, List.length_nil, List.length_map, List.length_append]; omega)))
  | with_reducible refine i_cb ?_
  | with_reducible refine i_call0 ?_
  | with_reducible refine i_call ?_
  | with_reducible refine i_meth0 ?_
  | with_reducible refine i_make0 ?_
  | with_reducible refine i_fld ?_
  | ((with_reducible refine' i_fldO ?ll ?_); (case ll => repeat (first | exact lk_hd | exact lk_nil | (refine lk_tl (by decide +kernel) ?_))))
  | ((with_reducible refine' i_fldR ?ee ?ll ?_); (case ee => walk_at "hlk"); (case ll => repeat (first | exact lk_hd | exact lk_nil | (refine lk_tl (by decide +kernel) ?_))))
  | ((with_reducible refine' i_mO ?ll ?_); (case ll => repeat (first | exact lk_hd | exact lk_nil | (refine lk_tl (by decide +kernel) ?_))))
  | ((with_reducible refine' i_mR ?ee ?ll ?_); (case ee => walk_at "hlk"); (case ll => repeat (first | exact lk_hd | exact lk_nil | (refine lk_tl (by decide +kernel) ?_))))
  | ((with_reducible refine' i_ixT ?at_ ?_); (case at_ => first | exact rfl | exact L2.atI_nat (j := 0) rfl | exact L2.atI_nat (j := 1) rfl))
  | ((with_reducible refine' i_ixL ?at_ ?_); (case at_ => first | exact rfl | exact L2.atI_nat (j := 0) rfl | exact L2.atI_nat (j := 1) rfl))
  | ((with_reducible refine' i_ixR ?hh ?at_ ?_); (case hh => walk_at "hlk"); (case at_ => first | exact rfl | exact L2.atI_nat (j := 0) rfl | exact L2.atI_nat (j := 1) rfl))
  | with_reducible refine i_fldS ?_
  | with_reducible refine i_bm ?_
  | ((with_reducible refine' i_tyL ?hh ?_); (case hh => walk_at "hlk"))
  | ((with_reducible refine' i_l2 ?xx ?yy ?_); (case xx => exact rfl); (case yy => exact rfl))
  | with_reducible refine i_callK ?_
  | with_reducible refine i_makeK ?_
  | with_reducible refine i_chain ?_
  | with_reducible refine i_raise ?_
  | with_reducible refine i_atx ?_
  | with_reducible refine i_lenO ?_
  | with_reducible refine i_sub_ ?_
  | with_reducible refine i_expr ?_
  | with_reducible refine i_ret ?_
  | with_reducible refine i_next ?_
  | with_reducible refine i_lc ?_
  | with_reducible refine i_r1 ?_
  | with_reducible refine i_iL ?_
  | with_reducible refine i_iT ?_
  | with_reducible refine i_itsF ?_
  | with_reducible refine i_itsS ?_
  | with_reducible refine i_itsT ?_
  | ((with_reducible refine' i_itsR ?hh ?_); (case hh => walk_at "hlk"))
  | with_reducible refine i_lenF ?_
  | with_reducible refine i_lenT ?_
  | ((with_reducible refine' i_lenR ?hh ?_); (case hh => walk_at "hlk"))
  | with_reducible refine i_listF ?_
  | with_reducible refine i_listT ?_
  | ((with_reducible refine' i_listR ?hh ?_); (case hh => walk_at "hlk"))
  | with_reducible refine i_tupF ?_
  | ((with_reducible refine' i_lenOR ?hh ?_); (case hh => walk_at "hlk"))
  | ((with_reducible refine' i_tupR ?hh ?_); (case hh => walk_at "hlk"))
  | ((with_reducible refine g_isi ?_); first
    | with_reducible refine i_isi_non_bool ?_
    | with_reducible refine i_isi_non_int ?_
    | with_reducible refine i_isi_non_str ?_
    | with_reducible refine i_isi_non_list ?_
    | with_reducible refine i_isi_non_tuple ?_
    | with_reducible refine i_isi_bl_bool ?_
    | with_reducible refine i_isi_bl_int ?_
    | with_reducible refine i_isi_bl_str ?_
    | with_reducible refine i_isi_bl_list ?_
    | with_reducible refine i_isi_bl_tuple ?_
    | with_reducible refine i_isi_int_bool ?_
    | with_reducible refine i_isi_int_int ?_
    | with_reducible refine i_isi_int_str ?_
    | with_reducible refine i_isi_int_list ?_
    | with_reducible refine i_isi_int_tuple ?_
    | with_reducible refine i_isi_str_bool ?_
    | with_reducible refine i_isi_str_int ?_
    | with_reducible refine i_isi_str_str ?_
    | with_reducible refine i_isi_str_list ?_
    | with_reducible refine i_isi_str_tuple ?_
    | with_reducible refine i_isi_tup_bool ?_
    | with_reducible refine i_isi_tup_int ?_
    | with_reducible refine i_isi_tup_str ?_
    | with_reducible refine i_isi_tup_list ?_
    | with_reducible refine i_isi_tup_tuple ?_
    | with_reducible refine i_isi_lst_bool ?_
    | with_reducible refine i_isi_lst_int ?_
    | with_reducible refine i_isi_lst_str ?_
    | with_reducible refine i_isi_lst_list ?_
    | with_reducible refine i_isi_lst_tuple ?_)
  | with_reducible refine i_max ?_
  | with_reducible refine i_min ?_
  | with_reducible refine i_rgin ?_
  | with_reducible refine i_tabin ?_
  | with_reducible refine i_disp ?_
  | with_reducible refine i_pcons ?_
  | with_reducible refine i_pnil ?_
  | with_reducible refine i_dget ?_
  | with_reducible refine i_din ?_
  | with_reducible refine i_dput ?_
  | ((with_reducible refine' i_wgtup ?nn ?_); (case nn => exact rfl))
  | ((with_reducible refine' i_rngB ?aa ?bb ?_); (case aa => first | decide | omega); (case bb => first | decide | omega))
  | with_reducible refine i_for ?_
  | with_reducible refine i_while ?_
  | with_reducible refine i_wgcons ?_
  | with_reducible refine i_wgnil ?_
  | with_reducible refine i_wslL ?_
  | with_reducible refine i_nopart ?_
  | with_reducible refine i_part ?_
  ))

/-! ### what a thing does -/
inductive Wo where
  | num (n : Int) | brk (z : Str) | ref (r : RefD)
  deriving DecidableEq
def Wo.v : Wo → Val
  | .num n => .tup [.str "number", .int n]
  | .brk z => .tup [.str "broken", .str z]
  | .ref r => r.v
def ov : Option Wo → Val
  | none => .non
  | some w => w.v
def ot : Option Thing → Val
  | none => .non
  | some t => t.v
def orf : Option RefD → Val
  | none => .non
  | some t => t.v
abbrev Dn := Thing × Option Wo × Option Thing
def Dn.v (d : Dn) : Val := .tup [d.1.v, ov d.2.1, ot d.2.2]
/-- what done tells -/
def doneF (t : Thing) (word : Str) (w : Option Wo) (made : Option RefD) : Dn :=
  match w with
  | some (.brk z) => (t, some (.brk z), none)
  | _ => match t with
    | .stone => (t, some (.brk "stone"), none)
    | .box b => if word = "get" then (t, some (.num b), none) else if word = "put" then (match w with
        | some (.num n) => (.box n, some (.num b), none)
        | _ => (t, some (.brk "no number"), none)) else if word = "add" then (match w with
        | some (.num n) => (.box (b + n), some (.num (b + n)), none)
        | _ => (t, some (.brk "no number"), none)) else (t, some (.brk "no verb"), none)
    | .shelf rs => if word = "take" then (match w with
        | some (.num n) => if n < 0 ∨ (rs.length : Int) ≤ n then (t, some (.brk "no place"), none) else (t, (rs[n.toNat]?).map Wo.ref, none)
        | _ => (t, some (.brk "no number"), none)) else (t, some (.brk "no verb"), none)
    | .maker => if word = "make" then (match w with
        | some (.num n) => (t, made.map Wo.ref, some (.box n))
        | _ => (t, some (.brk "no number"), none)) else (t, some (.brk "no verb"), none)
    | .relay _ => (t, none, none)
/-- it can be asked -/
structure DoneOk (t : Thing) (word : Str) (w : Option Wo) : Prop where
  rel : ∀ r, t ≠ .relay r
  some_ : w = none → word = "get"
  len : t.refs.length ≤ 100000
theorem inV_str (z : Str) : ∀ zs : List Str, inV (.str z) (zs.map V.str) = decide (z ∈ zs)
  | [] => by simp [inV]
  | y :: ys => by
    have ih := inV_str z ys
    unfold inV at ih ⊢
    rw [List.map_cons, List.any_cons, ih]
    show ((y == z) || decide (z ∈ ys)) = _
    by_cases e : z = y
    · subst e; simp
    · have e2 : (y == z) = false := by
        cases h : y == z with
        | false => rfl
        | true => exact absurd (beq_iff_eq.mp h).symm e
      rw [e2, Bool.false_or]
      simp [e]
def fs_done_by_box : FS where
  P := Int × Str × Option Wo
  pre := fun (b, word, w) vs h => vs = [.int b, .str word, ov w] ∧ (word = "get" ∨ (word = "put" ∨ word = "add") ∧ ∃ n, w = some (.num n))
  post := fun (b, word, w) h v h' => v = Dn.v (doneF (.box b) word (if word = "get" then none else w) none) ∧ h' = h
theorem c_done_by_box {b : Int} {word : Str} {w : Option Wo} {h : Hh} {E : XQ} {Q : KQ} (a : word = "get" ∨ (word = "put" ∨ word = "add") ∧ ∃ n, w = some (.num n)) (k : Q (Dn.v (doneF (.box b) word (if word = "get" then none else w) none)) h) : fs_done_by_box.sp [.int b, .str word, ov w] h E Q :=
  ⟨(b, word, w), ⟨rfl, a⟩, fun v h' ⟨a, b⟩ => by subst a b; exact k, fun _ _ _ z => z.elim⟩
def fs_done : FS where
  P := Thing × Str × Option Wo × Option RefD
  pre := fun (t, word, w, m) vs h => vs = [t.v, .str word, ov w, orf m] ∧ DoneOk t word w
  post := fun (t, word, w, m) h v h' => v = Dn.v (doneF t word w m) ∧ h' = h
theorem c_done {t : Thing} {word : Str} {w : Option Wo} {m : Option RefD} {h : Hh} {E : XQ} {Q : KQ} (a : DoneOk t word w) (k : Q (Dn.v (doneF t word w m)) h) : fs_done.sp [t.v, .str word, ov w, orf m] h E Q :=
  ⟨(t, word, w, m), ⟨rfl, a⟩, fun v h' ⟨a, b⟩ => by subst a b; exact k, fun _ _ _ z => z.elim⟩
def r_done_by_box : WS :=
  wSeq (wIf (wTv (wOp wEqS (wVar 1) (wC (.str "get")))) (wRet (wTup (wCons (wTup (wCons (wC (.str "box")) (wCons (wVar 0) (wNil)))) (wCons (wTup (wCons (wC (.str "number")) (wCons (wVar 0) (wNil)))) (wCons (wC .non) (wNil)))))) (wNext))
  (wSeq (wIf (wTv (wOp wEqS (wVar 1) (wC (.str "put")))) (wRet (wTup (wCons (wTup (wCons (wC (.str "box")) (wCons (wOp wIx (wVar 2) (wC (.int 1))) (wNil)))) (wCons (wTup (wCons (wC (.str "number")) (wCons (wVar 0) (wNil)))) (wCons (wC .non) (wNil)))))) (wNext))
  (wRet (wTup (wCons (wTup (wCons (wC (.str "box")) (wCons (wOp wAdd (wVar 0) (wOp wIx (wVar 2) (wC (.int 1)))) (wNil)))) (wCons (wTup (wCons (wC (.str "number")) (wCons (wOp wAdd (wVar 0) (wOp wIx (wVar 2) (wC (.int 1)))) (wNil)))) (wCons (wC .non) (wNil)))))))

def r_done : WS :=
  wSeq (wIf (wAnd (wTv (wNotN (wVar 2))) (wTv (wOp wEqS (wOp wIx (wVar 2) (wC (.int 0))) (wC (.str "broken"))))) (wRet (wTup (wCons (wVar 0) (wCons (wVar 2) (wCons (wC .non) (wNil)))))) (wNext))
  (wSeq (wIf (wTv (wOp wEqS (wOp wIx (wVar 0) (wC (.int 0))) (wC (.str "stone")))) (wRet (wTup (wCons (wVar 0) (wCons (wTup (wCons (wC (.str "broken")) (wCons (wC (.str "stone")) (wNil)))) (wCons (wC .non) (wNil)))))) (wNext))
  (wSeq (wIf (wTv (wTabIn true [("box", ["get", "put", "add"]), ("shelf", ["take"]), ("maker", ["make"])] (wVar 1) (wOp wIx (wVar 0) (wC (.int 0))))) (wRet (wTup (wCons (wVar 0) (wCons (wTup (wCons (wC (.str "broken")) (wCons (wC (.str "no verb")) (wNil)))) (wCons (wC .non) (wNil)))))) (wNext))
  (wSeq (wIf (wAnd (wTv (wOp wNeS (wVar 1) (wC (.str "get")))) (wTv (wOp wNeS (wOp wIx (wVar 2) (wC (.int 0))) (wC (.str "number"))))) (wRet (wTup (wCons (wVar 0) (wCons (wTup (wCons (wC (.str "broken")) (wCons (wC (.str "no number")) (wNil)))) (wCons (wC .non) (wNil)))))) (wNext))
  (wSeq (wIf (wTv (wOp wEqS (wOp wIx (wVar 0) (wC (.int 0))) (wC (.str "box")))) (wRet (wCall fs_done_by_box [] (wCons (wOp wIx (wVar 0) (wC (.int 1))) (wCons (wVar 1) (wCons (wVar 2) (wNil)))))) (wNext))
  (wSeq (wIf (wTv (wOp wEqS (wOp wIx (wVar 0) (wC (.int 0))) (wC (.str "maker")))) (wRet (wTup (wCons (wVar 0) (wCons (wVar 3) (wCons (wTup (wCons (wC (.str "box")) (wCons (wOp wIx (wVar 2) (wC (.int 1))) (wNil)))) (wNil)))))) (wNext))
  (wSeq (wIf (wOr (wTv (wOp wLt (wOp wIx (wVar 2) (wC (.int 1))) (wC (.int 0)))) (wTv (wOp wGe (wOp wIx (wVar 2) (wC (.int 1))) (wCB cLen (wCons (wOp wIx (wVar 0) (wC (.int 1))) (wNil)))))) (wRet (wTup (wCons (wVar 0) (wCons (wTup (wCons (wC (.str "broken")) (wCons (wC (.str "no place")) (wNil)))) (wCons (wC .non) (wNil)))))) (wNext))
  (wRet (wTup (wCons (wVar 0) (wCons (wOp wIx (wOp wIx (wVar 0) (wC (.int 1))) (wOp wIx (wVar 2) (wC (.int 1)))) (wCons (wC .non) (wNil))))))))))))

theorem rd_done_by_box {K : Fr} {p vs h Q} {X : XQ} (gd : Good K Q) (q : fs_done_by_box.pre p vs h) (hp : ∀ v h', fs_done_by_box.post p h v h' → Q v h') :
    r_done_by_box (fun _ h' => Q .non h') Q (fun _ _ => False) (fun _ _ => False) (fun C v _ h' => X C v h') (startV ["worth", "word", "value"] vs) h := by
  obtain ⟨b, word, w⟩ := p
  obtain ⟨rfl, a⟩ := q
  have hq := hp _ _ ⟨rfl, rfl⟩
  clear hp
  show r_done_by_box _ _ _ _ _ [some (.int b), some (.str word), some (ov w)] h
  unfold r_done_by_box
  rcases a with rfl | ⟨rfl | rfl, n, rfl⟩
  · walk_at "zgo"
    exact hq
  · unfold ov Wo.v
    walk_at "zgo"
    exact hq
  · unfold ov Wo.v
    walk_at "zgo"
    exact hq
theorem inV_fv (z : Str) (zs : List Str) : inV (fv (.str z)) (zs.map V.str) = decide (z ∈ zs) := inV_str z zs
theorem l_done_none_box_get {K : Fr} {h : Hh} {Q : KQ} {X : XQ} {m : Option RefD} {mv : Val} {b : Int} (hm : mv = orf m) (gd : Good K Q) (hq : Q (Dn.v (doneF (.box b) "get" none m)) h) :
    r_done (fun _ h' => Q .non h') Q (fun _ _ => False) (fun _ _ => False) (fun C v _ h' => X C v h') [some (.tup [.str "box", .int b]), some (.str "get"), some (.non), some mv] h := by
  unfold r_done
  walk_at "zgo"
  refine ⟨_, ["get", "put", "add"], rfl, rfl, rfl, ?_⟩
  rw [if_pos rfl, inV_fv]
  walk_at "zgo"
  exact c_done_by_box (w := none) (by first | exact .inl rfl | exact .inr ⟨.inl rfl, _, rfl⟩ | exact .inr ⟨.inr rfl, _, rfl⟩) hq
theorem l_done_none_shelf_nog {K : Fr} {h : Hh} {Q : KQ} {X : XQ} {m : Option RefD} {mv : Val} {rs : List RefD} (hm : mv = orf m) (hl : rs.length ≤ 100000) (gd : Good K Q) (hq : Q (Dn.v (doneF (.shelf rs) "get" none m)) h) :
    r_done (fun _ h' => Q .non h') Q (fun _ _ => False) (fun _ _ => False) (fun C v _ h' => X C v h') [some (.tup [.str "shelf", .tup (List.map RefD.v rs)]), some (.str "get"), some (.non), some mv] h := by
  unfold r_done
  walk_at "zgo"
  refine ⟨_, ["take"], rfl, rfl, rfl, ?_⟩
  rw [if_pos rfl, inV_fv]
  walk_at "zgo"
  exact hq
theorem l_done_none_maker_nog {K : Fr} {h : Hh} {Q : KQ} {X : XQ} {m : Option RefD} {mv : Val}  (hm : mv = orf m) (gd : Good K Q) (hq : Q (Dn.v (doneF .maker "get" none m)) h) :
    r_done (fun _ h' => Q .non h') Q (fun _ _ => False) (fun _ _ => False) (fun C v _ h' => X C v h') [some (.tup [.str "maker"]), some (.str "get"), some (.non), some mv] h := by
  unfold r_done
  walk_at "zgo"
  refine ⟨_, ["make"], rfl, rfl, rfl, ?_⟩
  rw [if_pos rfl, inV_fv]
  walk_at "zgo"
  exact hq
theorem l_done_none_stone_x {K : Fr} {h : Hh} {Q : KQ} {X : XQ} {m : Option RefD} {mv : Val} {word : Str} (hm : mv = orf m) (gd : Good K Q) (hq : Q (Dn.v (doneF .stone word none m)) h) :
    r_done (fun _ h' => Q .non h') Q (fun _ _ => False) (fun _ _ => False) (fun C v _ h' => X C v h') [some (.tup [.str "stone"]), some (.str word), some (.non), some mv] h := by
  unfold r_done
  walk_at "zgo"
  walk_at "zgo"
  exact hq
theorem l_done_num_box_get {K : Fr} {h : Hh} {Q : KQ} {X : XQ} {m : Option RefD} {mv : Val} {n : Int} {b : Int} (hm : mv = orf m) (gd : Good K Q) (hq : Q (Dn.v (doneF (.box b) "get" (some (.num n)) m)) h) :
    r_done (fun _ h' => Q .non h') Q (fun _ _ => False) (fun _ _ => False) (fun C v _ h' => X C v h') [some (.tup [.str "box", .int b]), some (.str "get"), some (.tup [.str "number", .int n]), some mv] h := by
  unfold r_done
  walk_at "zgo"
  refine ⟨_, ["get", "put", "add"], rfl, rfl, rfl, ?_⟩
  rw [if_pos rfl, inV_fv]
  walk_at "zgo"
  exact c_done_by_box (w := (some (.num n))) (by first | exact .inl rfl | exact .inr ⟨.inl rfl, _, rfl⟩ | exact .inr ⟨.inr rfl, _, rfl⟩) hq
theorem l_done_num_box_put {K : Fr} {h : Hh} {Q : KQ} {X : XQ} {m : Option RefD} {mv : Val} {n : Int} {b : Int} (hm : mv = orf m) (gd : Good K Q) (hq : Q (Dn.v (doneF (.box b) "put" (some (.num n)) m)) h) :
    r_done (fun _ h' => Q .non h') Q (fun _ _ => False) (fun _ _ => False) (fun C v _ h' => X C v h') [some (.tup [.str "box", .int b]), some (.str "put"), some (.tup [.str "number", .int n]), some mv] h := by
  unfold r_done
  walk_at "zgo"
  refine ⟨_, ["get", "put", "add"], rfl, rfl, rfl, ?_⟩
  rw [if_pos rfl, inV_fv]
  walk_at "zgo"
  exact c_done_by_box (w := (some (.num n))) (by first | exact .inl rfl | exact .inr ⟨.inl rfl, _, rfl⟩ | exact .inr ⟨.inr rfl, _, rfl⟩) hq
theorem l_done_num_box_add {K : Fr} {h : Hh} {Q : KQ} {X : XQ} {m : Option RefD} {mv : Val} {n : Int} {b : Int} (hm : mv = orf m) (gd : Good K Q) (hq : Q (Dn.v (doneF (.box b) "add" (some (.num n)) m)) h) :
    r_done (fun _ h' => Q .non h') Q (fun _ _ => False) (fun _ _ => False) (fun C v _ h' => X C v h') [some (.tup [.str "box", .int b]), some (.str "add"), some (.tup [.str "number", .int n]), some mv] h := by
  unfold r_done
  walk_at "zgo"
  refine ⟨_, ["get", "put", "add"], rfl, rfl, rfl, ?_⟩
  rw [if_pos rfl, inV_fv]
  walk_at "zgo"
  exact c_done_by_box (w := (some (.num n))) (by first | exact .inl rfl | exact .inr ⟨.inl rfl, _, rfl⟩ | exact .inr ⟨.inr rfl, _, rfl⟩) hq
theorem l_done_num_box_no {K : Fr} {h : Hh} {Q : KQ} {X : XQ} {m : Option RefD} {mv : Val} {n : Int} {b : Int} {word : Str} (hm : mv = orf m) (hv : ¬ word ∈ (["get", "put", "add"] : List Str)) (gd : Good K Q) (hq : Q (Dn.v (doneF (.box b) word (some (.num n)) m)) h) :
    r_done (fun _ h' => Q .non h') Q (fun _ _ => False) (fun _ _ => False) (fun C v _ h' => X C v h') [some (.tup [.str "box", .int b]), some (.str word), some (.tup [.str "number", .int n]), some mv] h := by
  unfold r_done
  walk_at "zgo"
  refine ⟨_, ["get", "put", "add"], rfl, rfl, rfl, ?_⟩
  rw [if_pos rfl, inV_fv]
  walk_at "zgo"
  have hd : doneF (.box b) word (some (.num n)) m = ((.box b), some (.brk "no verb"), none) := by
    simp only [List.mem_cons, List.not_mem_nil, or_false, not_or] at hv
    unfold doneF
    simp [hv]
  rw [hd] at hq
  exact hq
theorem l_done_num_shelf_take {K : Fr} {h : Hh} {Q : KQ} {X : XQ} {m : Option RefD} {mv : Val} {n : Int} {rs : List RefD} (hm : mv = orf m) (hl : rs.length ≤ 100000) (gd : Good K Q) (hq : Q (Dn.v (doneF (.shelf rs) "take" (some (.num n)) m)) h) :
    r_done (fun _ h' => Q .non h') Q (fun _ _ => False) (fun _ _ => False) (fun C v _ h' => X C v h') [some (.tup [.str "shelf", .tup (List.map RefD.v rs)]), some (.str "take"), some (.tup [.str "number", .int n]), some mv] h := by
  unfold r_done
  walk_at "zgo"
  refine ⟨_, ["take"], rfl, rfl, rfl, ?_⟩
  rw [if_pos rfl, inV_fv]
  by_cases h1 : n < 0
  · have hd : doneF (.shelf rs) "take" (some (.num n)) m = (.shelf rs, some (.brk "no place"), none) := by
      unfold doneF; simp [h1]
    rw [hd] at hq
    walk_at "zgo"
    exact hq
  have hlm : (List.map RefD.v rs).length = rs.length := List.length_map _
  by_cases h2 : (rs.length : Int) ≤ n
  · have hd : doneF (.shelf rs) "take" (some (.num n)) m = (.shelf rs, some (.brk "no place"), none) := by
      unfold doneF; simp [h2]
    rw [hd] at hq
    walk_at "zgo"
    exact hq
  have h3 : n.toNat < rs.length := by omega
  have hd : doneF (.shelf rs) "take" (some (.num n)) m = (.shelf rs, some (.ref rs[n.toNat]), none) := by
    unfold doneF; simp [h1, h2, List.getElem?_eq_getElem h3]
  rw [hd] at hq
  walk_at "zgo"
  refine i_ixT (v := (rs[n.toNat]).v) (atI_toNat (by omega) (by rw [List.getElem?_map, List.getElem?_eq_getElem h3]; rfl)) ?_
  walk_at "zgo"
  exact hq
theorem l_done_num_shelf_no {K : Fr} {h : Hh} {Q : KQ} {X : XQ} {m : Option RefD} {mv : Val} {n : Int} {rs : List RefD} {word : Str} (hm : mv = orf m) (hv : ¬ word ∈ (["take"] : List Str)) (hl : rs.length ≤ 100000) (gd : Good K Q) (hq : Q (Dn.v (doneF (.shelf rs) word (some (.num n)) m)) h) :
    r_done (fun _ h' => Q .non h') Q (fun _ _ => False) (fun _ _ => False) (fun C v _ h' => X C v h') [some (.tup [.str "shelf", .tup (List.map RefD.v rs)]), some (.str word), some (.tup [.str "number", .int n]), some mv] h := by
  unfold r_done
  walk_at "zgo"
  refine ⟨_, ["take"], rfl, rfl, rfl, ?_⟩
  rw [if_pos rfl, inV_fv]
  walk_at "zgo"
  have hd : doneF (.shelf rs) word (some (.num n)) m = ((.shelf rs), some (.brk "no verb"), none) := by
    simp only [List.mem_cons, List.not_mem_nil, or_false, not_or] at hv
    unfold doneF
    simp [hv]
  rw [hd] at hq
  exact hq
theorem l_done_num_maker_make {K : Fr} {h : Hh} {Q : KQ} {X : XQ} {m : Option RefD} {mv : Val} {n : Int} (hm : mv = orf m) (gd : Good K Q) (hq : Q (Dn.v (doneF .maker "make" (some (.num n)) m)) h) :
    r_done (fun _ h' => Q .non h') Q (fun _ _ => False) (fun _ _ => False) (fun C v _ h' => X C v h') [some (.tup [.str "maker"]), some (.str "make"), some (.tup [.str "number", .int n]), some mv] h := by
  unfold r_done
  walk_at "zgo"
  refine ⟨_, ["make"], rfl, rfl, rfl, ?_⟩
  rw [if_pos rfl, inV_fv]
  walk_at "zgo"
  subst hm
  cases m <;> exact hq
theorem l_done_num_maker_no {K : Fr} {h : Hh} {Q : KQ} {X : XQ} {m : Option RefD} {mv : Val} {n : Int} {word : Str} (hm : mv = orf m) (hv : ¬ word ∈ (["make"] : List Str)) (gd : Good K Q) (hq : Q (Dn.v (doneF .maker word (some (.num n)) m)) h) :
    r_done (fun _ h' => Q .non h') Q (fun _ _ => False) (fun _ _ => False) (fun C v _ h' => X C v h') [some (.tup [.str "maker"]), some (.str word), some (.tup [.str "number", .int n]), some mv] h := by
  unfold r_done
  walk_at "zgo"
  refine ⟨_, ["make"], rfl, rfl, rfl, ?_⟩
  rw [if_pos rfl, inV_fv]
  walk_at "zgo"
  have hd : doneF .maker word (some (.num n)) m = (.maker, some (.brk "no verb"), none) := by
    simp only [List.mem_cons, List.not_mem_nil, or_false, not_or] at hv
    unfold doneF
    simp [hv]
  rw [hd] at hq
  exact hq
theorem l_done_num_stone_x {K : Fr} {h : Hh} {Q : KQ} {X : XQ} {m : Option RefD} {mv : Val} {n : Int} {word : Str} (hm : mv = orf m) (gd : Good K Q) (hq : Q (Dn.v (doneF .stone word (some (.num n)) m)) h) :
    r_done (fun _ h' => Q .non h') Q (fun _ _ => False) (fun _ _ => False) (fun C v _ h' => X C v h') [some (.tup [.str "stone"]), some (.str word), some (.tup [.str "number", .int n]), some mv] h := by
  unfold r_done
  walk_at "zgo"
  walk_at "zgo"
  exact hq
theorem l_done_rt_box_get {K : Fr} {h : Hh} {Q : KQ} {X : XQ} {m : Option RefD} {mv : Val} {ha hn : Int} {b : Int} (hm : mv = orf m) (gd : Good K Q) (hq : Q (Dn.v (doneF (.box b) "get" (some (.ref (.thing ha hn))) m)) h) :
    r_done (fun _ h' => Q .non h') Q (fun _ _ => False) (fun _ _ => False) (fun C v _ h' => X C v h') [some (.tup [.str "box", .int b]), some (.str "get"), some (.tup [.str "thing", .int ha, .int hn]), some mv] h := by
  unfold r_done
  walk_at "zgo"
  refine ⟨_, ["get", "put", "add"], rfl, rfl, rfl, ?_⟩
  rw [if_pos rfl, inV_fv]
  walk_at "zgo"
  exact c_done_by_box (w := (some (.ref (.thing ha hn)))) (by first | exact .inl rfl | exact .inr ⟨.inl rfl, _, rfl⟩ | exact .inr ⟨.inr rfl, _, rfl⟩) hq
theorem l_done_rt_box_put {K : Fr} {h : Hh} {Q : KQ} {X : XQ} {m : Option RefD} {mv : Val} {ha hn : Int} {b : Int} (hm : mv = orf m) (gd : Good K Q) (hq : Q (Dn.v (doneF (.box b) "put" (some (.ref (.thing ha hn))) m)) h) :
    r_done (fun _ h' => Q .non h') Q (fun _ _ => False) (fun _ _ => False) (fun C v _ h' => X C v h') [some (.tup [.str "box", .int b]), some (.str "put"), some (.tup [.str "thing", .int ha, .int hn]), some mv] h := by
  unfold r_done
  walk_at "zgo"
  refine ⟨_, ["get", "put", "add"], rfl, rfl, rfl, ?_⟩
  rw [if_pos rfl, inV_fv]
  walk_at "zgo"
  exact hq
theorem l_done_rt_box_add {K : Fr} {h : Hh} {Q : KQ} {X : XQ} {m : Option RefD} {mv : Val} {ha hn : Int} {b : Int} (hm : mv = orf m) (gd : Good K Q) (hq : Q (Dn.v (doneF (.box b) "add" (some (.ref (.thing ha hn))) m)) h) :
    r_done (fun _ h' => Q .non h') Q (fun _ _ => False) (fun _ _ => False) (fun C v _ h' => X C v h') [some (.tup [.str "box", .int b]), some (.str "add"), some (.tup [.str "thing", .int ha, .int hn]), some mv] h := by
  unfold r_done
  walk_at "zgo"
  refine ⟨_, ["get", "put", "add"], rfl, rfl, rfl, ?_⟩
  rw [if_pos rfl, inV_fv]
  walk_at "zgo"
  exact hq
theorem l_done_rt_box_no {K : Fr} {h : Hh} {Q : KQ} {X : XQ} {m : Option RefD} {mv : Val} {ha hn : Int} {b : Int} {word : Str} (hm : mv = orf m) (hv : ¬ word ∈ (["get", "put", "add"] : List Str)) (gd : Good K Q) (hq : Q (Dn.v (doneF (.box b) word (some (.ref (.thing ha hn))) m)) h) :
    r_done (fun _ h' => Q .non h') Q (fun _ _ => False) (fun _ _ => False) (fun C v _ h' => X C v h') [some (.tup [.str "box", .int b]), some (.str word), some (.tup [.str "thing", .int ha, .int hn]), some mv] h := by
  unfold r_done
  walk_at "zgo"
  refine ⟨_, ["get", "put", "add"], rfl, rfl, rfl, ?_⟩
  rw [if_pos rfl, inV_fv]
  walk_at "zgo"
  have hd : doneF (.box b) word (some (.ref (.thing ha hn))) m = ((.box b), some (.brk "no verb"), none) := by
    simp only [List.mem_cons, List.not_mem_nil, or_false, not_or] at hv
    unfold doneF
    simp [hv]
  rw [hd] at hq
  exact hq
theorem l_done_rt_shelf_take {K : Fr} {h : Hh} {Q : KQ} {X : XQ} {m : Option RefD} {mv : Val} {ha hn : Int} {rs : List RefD} (hm : mv = orf m) (hl : rs.length ≤ 100000) (gd : Good K Q) (hq : Q (Dn.v (doneF (.shelf rs) "take" (some (.ref (.thing ha hn))) m)) h) :
    r_done (fun _ h' => Q .non h') Q (fun _ _ => False) (fun _ _ => False) (fun C v _ h' => X C v h') [some (.tup [.str "shelf", .tup (List.map RefD.v rs)]), some (.str "take"), some (.tup [.str "thing", .int ha, .int hn]), some mv] h := by
  unfold r_done
  walk_at "zgo"
  refine ⟨_, ["take"], rfl, rfl, rfl, ?_⟩
  rw [if_pos rfl, inV_fv]
  walk_at "zgo"
  exact hq
theorem l_done_rt_shelf_no {K : Fr} {h : Hh} {Q : KQ} {X : XQ} {m : Option RefD} {mv : Val} {ha hn : Int} {rs : List RefD} {word : Str} (hm : mv = orf m) (hv : ¬ word ∈ (["take"] : List Str)) (hl : rs.length ≤ 100000) (gd : Good K Q) (hq : Q (Dn.v (doneF (.shelf rs) word (some (.ref (.thing ha hn))) m)) h) :
    r_done (fun _ h' => Q .non h') Q (fun _ _ => False) (fun _ _ => False) (fun C v _ h' => X C v h') [some (.tup [.str "shelf", .tup (List.map RefD.v rs)]), some (.str word), some (.tup [.str "thing", .int ha, .int hn]), some mv] h := by
  unfold r_done
  walk_at "zgo"
  refine ⟨_, ["take"], rfl, rfl, rfl, ?_⟩
  rw [if_pos rfl, inV_fv]
  walk_at "zgo"
  have hd : doneF (.shelf rs) word (some (.ref (.thing ha hn))) m = ((.shelf rs), some (.brk "no verb"), none) := by
    simp only [List.mem_cons, List.not_mem_nil, or_false, not_or] at hv
    unfold doneF
    simp [hv]
  rw [hd] at hq
  exact hq
theorem l_done_rt_maker_make {K : Fr} {h : Hh} {Q : KQ} {X : XQ} {m : Option RefD} {mv : Val} {ha hn : Int} (hm : mv = orf m) (gd : Good K Q) (hq : Q (Dn.v (doneF .maker "make" (some (.ref (.thing ha hn))) m)) h) :
    r_done (fun _ h' => Q .non h') Q (fun _ _ => False) (fun _ _ => False) (fun C v _ h' => X C v h') [some (.tup [.str "maker"]), some (.str "make"), some (.tup [.str "thing", .int ha, .int hn]), some mv] h := by
  unfold r_done
  walk_at "zgo"
  refine ⟨_, ["make"], rfl, rfl, rfl, ?_⟩
  rw [if_pos rfl, inV_fv]
  walk_at "zgo"
  exact hq
theorem l_done_rt_maker_no {K : Fr} {h : Hh} {Q : KQ} {X : XQ} {m : Option RefD} {mv : Val} {ha hn : Int} {word : Str} (hm : mv = orf m) (hv : ¬ word ∈ (["make"] : List Str)) (gd : Good K Q) (hq : Q (Dn.v (doneF .maker word (some (.ref (.thing ha hn))) m)) h) :
    r_done (fun _ h' => Q .non h') Q (fun _ _ => False) (fun _ _ => False) (fun C v _ h' => X C v h') [some (.tup [.str "maker"]), some (.str word), some (.tup [.str "thing", .int ha, .int hn]), some mv] h := by
  unfold r_done
  walk_at "zgo"
  refine ⟨_, ["make"], rfl, rfl, rfl, ?_⟩
  rw [if_pos rfl, inV_fv]
  walk_at "zgo"
  have hd : doneF .maker word (some (.ref (.thing ha hn))) m = (.maker, some (.brk "no verb"), none) := by
    simp only [List.mem_cons, List.not_mem_nil, or_false, not_or] at hv
    unfold doneF
    simp [hv]
  rw [hd] at hq
  exact hq
theorem l_done_rt_stone_x {K : Fr} {h : Hh} {Q : KQ} {X : XQ} {m : Option RefD} {mv : Val} {ha hn : Int} {word : Str} (hm : mv = orf m) (gd : Good K Q) (hq : Q (Dn.v (doneF .stone word (some (.ref (.thing ha hn))) m)) h) :
    r_done (fun _ h' => Q .non h') Q (fun _ _ => False) (fun _ _ => False) (fun C v _ h' => X C v h') [some (.tup [.str "stone"]), some (.str word), some (.tup [.str "thing", .int ha, .int hn]), some mv] h := by
  unfold r_done
  walk_at "zgo"
  walk_at "zgo"
  exact hq
theorem l_done_rm_box_get {K : Fr} {h : Hh} {Q : KQ} {X : XQ} {m : Option RefD} {mv : Val} {ha hn hc : Int} {b : Int} (hm : mv = orf m) (gd : Good K Q) (hq : Q (Dn.v (doneF (.box b) "get" (some (.ref (.made ha hn hc))) m)) h) :
    r_done (fun _ h' => Q .non h') Q (fun _ _ => False) (fun _ _ => False) (fun C v _ h' => X C v h') [some (.tup [.str "box", .int b]), some (.str "get"), some (.tup [.str "made", .int ha, .int hn, .int hc]), some mv] h := by
  unfold r_done
  walk_at "zgo"
  refine ⟨_, ["get", "put", "add"], rfl, rfl, rfl, ?_⟩
  rw [if_pos rfl, inV_fv]
  walk_at "zgo"
  exact c_done_by_box (w := (some (.ref (.made ha hn hc)))) (by first | exact .inl rfl | exact .inr ⟨.inl rfl, _, rfl⟩ | exact .inr ⟨.inr rfl, _, rfl⟩) hq
theorem l_done_rm_box_put {K : Fr} {h : Hh} {Q : KQ} {X : XQ} {m : Option RefD} {mv : Val} {ha hn hc : Int} {b : Int} (hm : mv = orf m) (gd : Good K Q) (hq : Q (Dn.v (doneF (.box b) "put" (some (.ref (.made ha hn hc))) m)) h) :
    r_done (fun _ h' => Q .non h') Q (fun _ _ => False) (fun _ _ => False) (fun C v _ h' => X C v h') [some (.tup [.str "box", .int b]), some (.str "put"), some (.tup [.str "made", .int ha, .int hn, .int hc]), some mv] h := by
  unfold r_done
  walk_at "zgo"
  refine ⟨_, ["get", "put", "add"], rfl, rfl, rfl, ?_⟩
  rw [if_pos rfl, inV_fv]
  walk_at "zgo"
  exact hq
theorem l_done_rm_box_add {K : Fr} {h : Hh} {Q : KQ} {X : XQ} {m : Option RefD} {mv : Val} {ha hn hc : Int} {b : Int} (hm : mv = orf m) (gd : Good K Q) (hq : Q (Dn.v (doneF (.box b) "add" (some (.ref (.made ha hn hc))) m)) h) :
    r_done (fun _ h' => Q .non h') Q (fun _ _ => False) (fun _ _ => False) (fun C v _ h' => X C v h') [some (.tup [.str "box", .int b]), some (.str "add"), some (.tup [.str "made", .int ha, .int hn, .int hc]), some mv] h := by
  unfold r_done
  walk_at "zgo"
  refine ⟨_, ["get", "put", "add"], rfl, rfl, rfl, ?_⟩
  rw [if_pos rfl, inV_fv]
  walk_at "zgo"
  exact hq
theorem l_done_rm_box_no {K : Fr} {h : Hh} {Q : KQ} {X : XQ} {m : Option RefD} {mv : Val} {ha hn hc : Int} {b : Int} {word : Str} (hm : mv = orf m) (hv : ¬ word ∈ (["get", "put", "add"] : List Str)) (gd : Good K Q) (hq : Q (Dn.v (doneF (.box b) word (some (.ref (.made ha hn hc))) m)) h) :
    r_done (fun _ h' => Q .non h') Q (fun _ _ => False) (fun _ _ => False) (fun C v _ h' => X C v h') [some (.tup [.str "box", .int b]), some (.str word), some (.tup [.str "made", .int ha, .int hn, .int hc]), some mv] h := by
  unfold r_done
  walk_at "zgo"
  refine ⟨_, ["get", "put", "add"], rfl, rfl, rfl, ?_⟩
  rw [if_pos rfl, inV_fv]
  walk_at "zgo"
  have hd : doneF (.box b) word (some (.ref (.made ha hn hc))) m = ((.box b), some (.brk "no verb"), none) := by
    simp only [List.mem_cons, List.not_mem_nil, or_false, not_or] at hv
    unfold doneF
    simp [hv]
  rw [hd] at hq
  exact hq
theorem l_done_rm_shelf_take {K : Fr} {h : Hh} {Q : KQ} {X : XQ} {m : Option RefD} {mv : Val} {ha hn hc : Int} {rs : List RefD} (hm : mv = orf m) (hl : rs.length ≤ 100000) (gd : Good K Q) (hq : Q (Dn.v (doneF (.shelf rs) "take" (some (.ref (.made ha hn hc))) m)) h) :
    r_done (fun _ h' => Q .non h') Q (fun _ _ => False) (fun _ _ => False) (fun C v _ h' => X C v h') [some (.tup [.str "shelf", .tup (List.map RefD.v rs)]), some (.str "take"), some (.tup [.str "made", .int ha, .int hn, .int hc]), some mv] h := by
  unfold r_done
  walk_at "zgo"
  refine ⟨_, ["take"], rfl, rfl, rfl, ?_⟩
  rw [if_pos rfl, inV_fv]
  walk_at "zgo"
  exact hq
theorem l_done_rm_shelf_no {K : Fr} {h : Hh} {Q : KQ} {X : XQ} {m : Option RefD} {mv : Val} {ha hn hc : Int} {rs : List RefD} {word : Str} (hm : mv = orf m) (hv : ¬ word ∈ (["take"] : List Str)) (hl : rs.length ≤ 100000) (gd : Good K Q) (hq : Q (Dn.v (doneF (.shelf rs) word (some (.ref (.made ha hn hc))) m)) h) :
    r_done (fun _ h' => Q .non h') Q (fun _ _ => False) (fun _ _ => False) (fun C v _ h' => X C v h') [some (.tup [.str "shelf", .tup (List.map RefD.v rs)]), some (.str word), some (.tup [.str "made", .int ha, .int hn, .int hc]), some mv] h := by
  unfold r_done
  walk_at "zgo"
  refine ⟨_, ["take"], rfl, rfl, rfl, ?_⟩
  rw [if_pos rfl, inV_fv]
  walk_at "zgo"
  have hd : doneF (.shelf rs) word (some (.ref (.made ha hn hc))) m = ((.shelf rs), some (.brk "no verb"), none) := by
    simp only [List.mem_cons, List.not_mem_nil, or_false, not_or] at hv
    unfold doneF
    simp [hv]
  rw [hd] at hq
  exact hq
theorem l_done_rm_maker_make {K : Fr} {h : Hh} {Q : KQ} {X : XQ} {m : Option RefD} {mv : Val} {ha hn hc : Int} (hm : mv = orf m) (gd : Good K Q) (hq : Q (Dn.v (doneF .maker "make" (some (.ref (.made ha hn hc))) m)) h) :
    r_done (fun _ h' => Q .non h') Q (fun _ _ => False) (fun _ _ => False) (fun C v _ h' => X C v h') [some (.tup [.str "maker"]), some (.str "make"), some (.tup [.str "made", .int ha, .int hn, .int hc]), some mv] h := by
  unfold r_done
  walk_at "zgo"
  refine ⟨_, ["make"], rfl, rfl, rfl, ?_⟩
  rw [if_pos rfl, inV_fv]
  walk_at "zgo"
  exact hq
theorem l_done_rm_maker_no {K : Fr} {h : Hh} {Q : KQ} {X : XQ} {m : Option RefD} {mv : Val} {ha hn hc : Int} {word : Str} (hm : mv = orf m) (hv : ¬ word ∈ (["make"] : List Str)) (gd : Good K Q) (hq : Q (Dn.v (doneF .maker word (some (.ref (.made ha hn hc))) m)) h) :
    r_done (fun _ h' => Q .non h') Q (fun _ _ => False) (fun _ _ => False) (fun C v _ h' => X C v h') [some (.tup [.str "maker"]), some (.str word), some (.tup [.str "made", .int ha, .int hn, .int hc]), some mv] h := by
  unfold r_done
  walk_at "zgo"
  refine ⟨_, ["make"], rfl, rfl, rfl, ?_⟩
  rw [if_pos rfl, inV_fv]
  walk_at "zgo"
  have hd : doneF .maker word (some (.ref (.made ha hn hc))) m = (.maker, some (.brk "no verb"), none) := by
    simp only [List.mem_cons, List.not_mem_nil, or_false, not_or] at hv
    unfold doneF
    simp [hv]
  rw [hd] at hq
  exact hq
theorem l_done_rm_stone_x {K : Fr} {h : Hh} {Q : KQ} {X : XQ} {m : Option RefD} {mv : Val} {ha hn hc : Int} {word : Str} (hm : mv = orf m) (gd : Good K Q) (hq : Q (Dn.v (doneF .stone word (some (.ref (.made ha hn hc))) m)) h) :
    r_done (fun _ h' => Q .non h') Q (fun _ _ => False) (fun _ _ => False) (fun C v _ h' => X C v h') [some (.tup [.str "stone"]), some (.str word), some (.tup [.str "made", .int ha, .int hn, .int hc]), some mv] h := by
  unfold r_done
  walk_at "zgo"
  walk_at "zgo"
  exact hq

/-! ZG2 -/


theorem rd_done {K : Fr} {p vs h Q} {X : XQ} (gd : Good K Q) (q : fs_done.pre p vs h) (hp : ∀ v h', fs_done.post p h v h' → Q v h') :
    r_done (fun _ h' => Q .non h') Q (fun _ _ => False) (fun _ _ => False) (fun C v _ h' => X C v h') (startV ["thing", "word", "value", "made"] vs) h := by
  obtain ⟨t, word, w, m⟩ := p
  obtain ⟨rfl, ok⟩ := q
  have hq := hp _ _ ⟨rfl, rfl⟩
  clear hp
  show r_done _ _ _ _ _ [some t.v, some (.str word), some (ov w), some (orf m)] h
  cases w with
  | none =>
    have e := ok.some_ rfl
    subst e
    cases t with
    | box b =>
      exact l_done_none_box_get rfl gd hq
    | shelf rs =>
      exact l_done_none_shelf_nog rfl ok.len gd hq
    | maker =>
      exact l_done_none_maker_nog rfl gd hq
    | stone =>
      exact l_done_none_stone_x rfl gd hq
    | relay r =>
      exact (ok.rel r rfl).elim
  | some w =>
    cases w with
    | brk z =>
      rw [show ov (some (.brk z)) = .tup [.str "broken", .str z] from rfl]
      unfold r_done
      walk_at "zgo"
      exact hq
    | num n =>
      cases t with
      | box b =>
        by_cases hv : word ∈ (["get", "put", "add"] : List Str)
        · simp only [List.mem_cons, List.not_mem_nil, or_false] at hv
          rcases hv with rfl | rfl | rfl
          · exact l_done_num_box_get rfl gd hq
          · exact l_done_num_box_put rfl gd hq
          · exact l_done_num_box_add rfl gd hq
        · exact l_done_num_box_no rfl hv gd hq
      | shelf rs =>
        by_cases hv : word ∈ (["take"] : List Str)
        · simp only [List.mem_cons, List.not_mem_nil, or_false] at hv
          subst hv
          exact l_done_num_shelf_take rfl ok.len gd hq
        · exact l_done_num_shelf_no rfl hv ok.len gd hq
      | maker =>
        by_cases hv : word ∈ (["make"] : List Str)
        · simp only [List.mem_cons, List.not_mem_nil, or_false] at hv
          subst hv
          exact l_done_num_maker_make rfl gd hq
        · exact l_done_num_maker_no rfl hv gd hq
      | stone =>
        exact l_done_num_stone_x rfl gd hq
      | relay r =>
        exact (ok.rel r rfl).elim
    | ref r =>
      cases r with
      | thing ha hn =>
        have hc : Int := 0
        cases t with
        | box b =>
          by_cases hv : word ∈ (["get", "put", "add"] : List Str)
          · simp only [List.mem_cons, List.not_mem_nil, or_false] at hv
            rcases hv with rfl | rfl | rfl
            · exact l_done_rt_box_get rfl gd hq
            · exact l_done_rt_box_put rfl gd hq
            · exact l_done_rt_box_add rfl gd hq
          · exact l_done_rt_box_no rfl hv gd hq
        | shelf rs =>
          by_cases hv : word ∈ (["take"] : List Str)
          · simp only [List.mem_cons, List.not_mem_nil, or_false] at hv
            subst hv
            exact l_done_rt_shelf_take rfl ok.len gd hq
          · exact l_done_rt_shelf_no rfl hv ok.len gd hq
        | maker =>
          by_cases hv : word ∈ (["make"] : List Str)
          · simp only [List.mem_cons, List.not_mem_nil, or_false] at hv
            subst hv
            exact l_done_rt_maker_make rfl gd hq
          · exact l_done_rt_maker_no rfl hv gd hq
        | stone =>
          exact l_done_rt_stone_x rfl gd hq
        | relay r =>
          exact (ok.rel r rfl).elim
      | made ha hn hc =>
        cases t with
        | box b =>
          by_cases hv : word ∈ (["get", "put", "add"] : List Str)
          · simp only [List.mem_cons, List.not_mem_nil, or_false] at hv
            rcases hv with rfl | rfl | rfl
            · exact l_done_rm_box_get rfl gd hq
            · exact l_done_rm_box_put rfl gd hq
            · exact l_done_rm_box_add rfl gd hq
          · exact l_done_rm_box_no rfl hv gd hq
        | shelf rs =>
          by_cases hv : word ∈ (["take"] : List Str)
          · simp only [List.mem_cons, List.not_mem_nil, or_false] at hv
            subst hv
            exact l_done_rm_shelf_take rfl ok.len gd hq
          · exact l_done_rm_shelf_no rfl hv ok.len gd hq
        | maker =>
          by_cases hv : word ∈ (["make"] : List Str)
          · simp only [List.mem_cons, List.not_mem_nil, or_false] at hv
            subst hv
            exact l_done_rm_maker_make rfl gd hq
          · exact l_done_rm_maker_no rfl hv gd hq
        | stone =>
          exact l_done_rm_stone_x rfl gd hq
        | relay r =>
          exact (ok.rel r rfl).elim
/-! LA0 -/
/-! ### askers: plain law of their texts -/
inductive W4 where
  | put | add | take | make
  deriving DecidableEq
def W4.s : W4 → Str
  | .put => Str.ofString "put" | .add => Str.ofString "add" | .take => Str.ofString "take" | .make => Str.ofString "make"
def W4.l : W4 → List Nat
  | .put => [112, 117, 116] | .add => [97, 100, 100] | .take => [116, 97, 107, 101] | .make => [109, 97, 107, 101]
theorem W4.tl (w : W4) : TL.tl w.s = w.l := by cases w <;> decide +kernel
inductive Arg where
  | num (i : Int) | ans (n : Int)
  deriving DecidableEq
inductive Tgt where
  | thing (a b : Int) | ans (n : Int)
  deriving DecidableEq
inductive Verb where
  | get | op (w : W4) (a : Arg)
  deriving DecidableEq
structure Row where
  t : Tgt
  v : Verb
  deriving DecidableEq
structure Asker where
  house : Int
  rows : List Row
  deriving DecidableEq
def ansV (n : Int) : Val := .tup [.str "answer", .int n]
def Tgt.v : Tgt → Val
  | .thing a b => (RefD.thing a b).v
  | .ans n => ansV n
def Arg.v : Arg → Val
  | .num i => .tup [.str "number", .int i]
  | .ans n => ansV n
def Verb.v : Verb → Val
  | .get => .tup [.str "get"]
  | .op w a => .tup [.str w.s, a.v]
def Row.val (r : Row) : Val := .tup [r.t.v, r.v.v]
def Asker.v (a : Asker) : Val := .tup [.int a.house, .lst (a.rows.map Row.val)]
def Tgt.Sm : Tgt → Prop
  | .thing a b => 0 ≤ a ∧ a < 10 ^ 60 ∧ 0 ≤ b ∧ b < 10 ^ 60
  | .ans n => 0 ≤ n ∧ n < 10 ^ 60
def Arg.Sm : Arg → Prop
  | .num i => -(10 ^ 60) < i ∧ i < 10 ^ 60
  | .ans n => 0 ≤ n ∧ n < 10 ^ 60
def Verb.Sm : Verb → Prop
  | .get => True
  | .op _ a => a.Sm
structure Row.Sm (r : Row) : Prop where
  t : r.t.Sm
  v : r.v.Sm
structure Asker.Sm (a : Asker) : Prop where
  h0 : 0 ≤ a.house
  h1 : a.house < 10 ^ 60
  many : a.rows.length ≤ 40
  rows : ∀ r ∈ a.rows, r.Sm
structure AsksSm (xs : List Asker) : Prop where
  many : xs.length ≤ 10
  each : ∀ a ∈ xs, a.Sm
/-! the writing, as signs -/
def Tgt.l : Tgt → List Nat
  | .thing a b => refL (.thing a b)
  | .ans n => 35 :: iL n
def Arg.l : Arg → List Nat
  | .num i => iL i
  | .ans n => 35 :: iL n
def Verb.ws : Verb → List (List Nat)
  | .get => [[103, 101, 116]]
  | .op w a => [w.l, a.l]
def Row.l (r : Row) : List Nat := joinL [32] (r.t.l :: r.v.ws)
def Asker.l (a : Asker) : List Nat := iL a.house ++ (58 :: if a.rows = [] then [] else 32 :: joinL [59, 32] (a.rows.map Row.l))
def asksL (xs : List Asker) : List Nat := if xs = [] then [45] else joinL [32, 124, 32] (xs.map Asker.l)
/-! the reading, as signs -/
/-! the read-back -/
theorem Tgt.free {t : Tgt} {c : Nat} (h : c = 32 ∨ c = 59 ∨ c = 124 ∨ c = 58) : c ∉ t.l := by
  cases t with
  | thing a b => exact refL_free (r := .thing a b) (c := c) (by omega) (by omega) (by omega)
  | ans n =>
    intro z
    rcases List.mem_cons.mp z with z | z
    · omega
    · exact iL_free (by omega) (by omega) z
theorem Arg.free {t : Arg} {c : Nat} (h : c = 32 ∨ c = 59 ∨ c = 124 ∨ c = 58) : c ∉ t.l := by
  cases t with
  | num a => exact iL_free (by omega) (by omega)
  | ans n =>
    intro z
    rcases List.mem_cons.mp z with z | z
    · omega
    · exact iL_free (by omega) (by omega) z
theorem Verb.free {v : Verb} {c : Nat} (h : c = 32 ∨ c = 59 ∨ c = 124 ∨ c = 58) : ∀ p ∈ v.ws, c ∉ p := by
  cases v with
  | get => intro p hp; simp [Verb.ws] at hp; subst hp; simp; omega
  | op w a =>
    intro p hp
    simp only [Verb.ws, List.mem_cons, List.not_mem_nil, or_false] at hp
    rcases hp with rfl | rfl
    · cases w <;> simp [W4.l] <;> omega
    · exact Arg.free h
theorem Row.free {r : Row} {c : Nat} (h : c = 59 ∨ c = 124 ∨ c = 58) : c ∉ r.l := joinL_free (by simp; omega) fun p hp => by
  rcases List.mem_cons.mp hp with rfl | hp
  · exact Tgt.free (by omega)
  · exact Verb.free (by omega) p hp
theorem Asker.free {a : Asker} : 124 ∉ a.l := by
  intro z
  rcases List.mem_append.mp z with z | z
  · exact iL_free (c := 124) (by decide) (by decide) z
  · rcases List.mem_cons.mp z with z | z
    · omega
    · split at z
      · simp at z
      · rcases List.mem_cons.mp z with z | z
        · omega
        · exact joinL_free (by simp) (fun p hp => by
            obtain ⟨q, _, rfl⟩ := List.mem_map.mp hp
            exact Row.free (by omega)) z
/-! LA1 -/
/-! the steps: one macro -/
local macro_rules | `(tactic| walk_at "hlk") => `(tactic| first | assumption | with_reducible exact hup_same | ((with_reducible refine' (hup_ne ?nn).trans ?tt); (case nn => first | assumption | (refine Ne.symm ?_; assumption)); (case tt => walk_at "hlk")))
local macro_rules | `(tactic| walk_at "zgo") => `(tactic| repeat (first
  | with_reducible refine i_seq ?_
  | with_reducible refine i_op ?_
  | ((with_reducible refine g_var ?_); first
    | with_reducible refine i_var0 ?_
    | with_reducible refine i_var1 ?_
    | with_reducible refine i_var2 ?_
    | with_reducible refine i_var3 ?_
    | with_reducible refine i_var4 ?_
    | with_reducible refine i_var5 ?_
    | with_reducible refine i_var6 ?_
    | with_reducible refine i_var7 ?_
    | with_reducible refine i_var8 ?_
    | with_reducible refine i_var9 ?_
    | with_reducible refine i_var10 ?_
    | with_reducible refine i_var11 ?_
    | with_reducible refine i_var12 ?_
    | with_reducible refine i_var13 ?_
    | with_reducible refine i_var14 ?_
    | with_reducible refine i_var15 ?_
    | with_reducible refine i_var16 ?_
    | with_reducible refine i_var17 ?_
    | with_reducible refine i_var18 ?_
    | with_reducible refine i_var19 ?_
    | with_reducible refine i_var20 ?_
    | with_reducible refine i_var21 ?_
    | with_reducible refine i_var22 ?_
    | with_reducible refine i_var23 ?_
    | with_reducible refine i_var24 ?_
    | with_reducible refine i_var25 ?_)
  | with_reducible refine i_c ?_
  | with_reducible refine i_cons ?_
  | with_reducible refine i_nil ?_
  | with_reducible refine i_asg ?_
  | ((with_reducible refine g_name ?_); first
    | with_reducible refine i_name0 ?_
    | with_reducible refine i_name1 ?_
    | with_reducible refine i_name2 ?_
    | with_reducible refine i_name3 ?_
    | with_reducible refine i_name4 ?_
    | with_reducible refine i_name5 ?_
    | with_reducible refine i_name6 ?_
    | with_reducible refine i_name7 ?_
    | with_reducible refine i_name8 ?_
    | with_reducible refine i_name9 ?_
    | with_reducible refine i_name10 ?_
    | with_reducible refine i_name11 ?_
    | with_reducible refine i_name12 ?_
    | with_reducible refine i_name13 ?_
    | with_reducible refine i_name14 ?_
    | with_reducible refine i_name15 ?_
    | with_reducible refine i_name16 ?_
    | with_reducible refine i_name17 ?_
    | with_reducible refine i_name18 ?_
    | with_reducible refine i_name19 ?_
    | with_reducible refine i_name20 ?_
    | with_reducible refine i_name21 ?_
    | with_reducible refine i_name22 ?_
    | with_reducible refine i_name23 ?_
    | with_reducible refine i_name24 ?_
    | with_reducible refine i_name25 ?_)
  | ((with_reducible refine g_tg1 ?_); first
    | with_reducible refine i_tg1_0 ?_
    | with_reducible refine i_tg1_1 ?_
    | with_reducible refine i_tg1_2 ?_
    | with_reducible refine i_tg1_3 ?_
    | with_reducible refine i_tg1_4 ?_
    | with_reducible refine i_tg1_5 ?_
    | with_reducible refine i_tg1_6 ?_
    | with_reducible refine i_tg1_7 ?_
    | with_reducible refine i_tg1_8 ?_
    | with_reducible refine i_tg1_9 ?_
    | with_reducible refine i_tg1_10 ?_
    | with_reducible refine i_tg1_11 ?_
    | with_reducible refine i_tg1_12 ?_
    | with_reducible refine i_tg1_13 ?_
    | with_reducible refine i_tg1_14 ?_
    | with_reducible refine i_tg1_15 ?_
    | with_reducible refine i_tg1_16 ?_
    | with_reducible refine i_tg1_17 ?_
    | with_reducible refine i_tg1_18 ?_
    | with_reducible refine i_tg1_19 ?_
    | with_reducible refine i_tg1_20 ?_
    | with_reducible refine i_tg1_21 ?_
    | with_reducible refine i_tg1_22 ?_
    | with_reducible refine i_tg1_23 ?_)
  | with_reducible refine i_yes ?_
  | with_reducible refine i_if ?_
  | with_reducible refine i_tv ?_
  | with_reducible refine i_bl ?_
  | with_reducible refine i_blV ?_
  | ((with_reducible refine g_if ?_); first
    | with_reducible refine iteT ?_
    | with_reducible refine iteF ?_
    | ((with_reducible refine' i_ifdt ?cc ?_); (case cc => first | decide | omega | assumption | decide +kernel))
    | ((with_reducible refine' i_ifdf ?cc ?_); (case cc => first | decide | omega | assumption | decide +kernel))
    | ((with_reducible refine' i_ifnt ?cc ?_); (case cc => first | decide | omega | assumption | decide +kernel))
    | ((with_reducible refine' i_ifnf ?cc ?_); (case cc => first | decide | omega | assumption | decide +kernel))
    | ((with_reducible refine' i_ift ?cc ?_); (case cc => first | assumption | rfl))
    | ((with_reducible refine' i_iff ?cc ?_); (case cc => first | assumption | rfl)))
  | with_reducible refine i_eqT ?_
  | with_reducible refine i_neT ?_
  | with_reducible refine i_eqI ?_
  | with_reducible refine i_neI ?_
  | with_reducible refine i_eqB ?_
  | with_reducible refine i_neB ?_
  | with_reducible refine i_lt ?_
  | with_reducible refine i_le ?_
  | with_reducible refine i_gt ?_
  | with_reducible refine i_ge ?_
  | with_reducible refine i_add ?_
  | with_reducible refine i_sub ?_
  | with_reducible refine i_and ?_
  | with_reducible refine i_or ?_
  | with_reducible refine i_not ?_
  | with_reducible refine i_andV ?_
  | with_reducible refine i_orV ?_
  | with_reducible refine i_notV ?_
  | with_reducible refine i_ifE ?_
  | with_reducible refine i_isN ?_
  | with_reducible refine i_notN ?_
  | with_reducible refine i_un ?_
  | with_reducible refine i_int1 ?_
  | with_reducible refine i_tup ?_
  | with_reducible refine i_lst ?_
  | ((with_reducible refine' i_small ?ss ?_); (case ss => first | decide | (simp only [List.length_cons, List.length_nil, List.length_map, List.length_append]; omega)))
  | with_reducible refine i_cb ?_
  | with_reducible refine i_call0 ?_
  | with_reducible refine i_call ?_
  | with_reducible refine i_meth0 ?_
  | with_reducible refine i_make0 ?_
  | with_reducible refine i_fld ?_
  | ((with_reducible refine' i_fldO ?ll ?_); (case ll => repeat (first | exact lk_hd | exact lk_nil | (refine lk_tl (by decide +kernel) ?_))))
  | ((with_reducible refine' i_fldR ?ee ?ll ?_); (case ee => walk_at "hlk"); (case ll => repeat (first | exact lk_hd | exact lk_nil | (refine lk_tl (by decide +kernel) ?_))))
  | ((with_reducible refine' i_mO ?ll ?_); (case ll => repeat (first | exact lk_hd | exact lk_nil | (refine lk_tl (by decide +kernel) ?_))))
  | ((with_reducible refine' i_mR ?ee ?ll ?_); (case ee => walk_at "hlk"); (case ll => repeat (first | exact lk_hd | exact lk_nil | (refine lk_tl (by decide +kernel) ?_))))
  | ((with_reducible refine' i_ixT ?at_ ?_); (case at_ => first | exact rfl | exact L2.atI_nat (j := 0) rfl | exact L2.atI_nat (j := 1) rfl))
  | ((with_reducible refine' i_ixL ?at_ ?_); (case at_ => first | exact rfl | exact L2.atI_nat (j := 0) rfl | exact L2.atI_nat (j := 1) rfl))
  | ((with_reducible refine' i_ixR ?hh ?at_ ?_); (case hh => walk_at "hlk"); (case at_ => first | exact rfl | exact L2.atI_nat (j := 0) rfl | exact L2.atI_nat (j := 1) rfl))
  | with_reducible refine i_fldS ?_
  | with_reducible refine i_bm ?_
  | ((with_reducible refine' i_tyL ?hh ?_); (case hh => walk_at "hlk"))
  | ((with_reducible refine' i_l2 ?xx ?yy ?_); (case xx => exact rfl); (case yy => exact rfl))
  | with_reducible refine i_callK ?_
  | with_reducible refine i_makeK ?_
  | with_reducible refine i_chain ?_
  | with_reducible refine i_raise ?_
  | with_reducible refine i_atx ?_
  | with_reducible refine i_lenO ?_
  | with_reducible refine i_sub_ ?_
  | with_reducible refine i_expr ?_
  | with_reducible refine i_ret ?_
  | with_reducible refine i_next ?_
  | with_reducible refine i_lc ?_
  | with_reducible refine i_r1 ?_
  | with_reducible refine i_iL ?_
  | with_reducible refine i_iT ?_
  | with_reducible refine i_itsF ?_
  | with_reducible refine i_itsS ?_
  | with_reducible refine i_itsT ?_
  | ((with_reducible refine' i_itsR ?hh ?_); (case hh => walk_at "hlk"))
  | with_reducible refine i_lenF ?_
  | with_reducible refine i_lenT ?_
  | ((with_reducible refine' i_lenR ?hh ?_); (case hh => walk_at "hlk"))
  | with_reducible refine i_listF ?_
  | with_reducible refine i_listT ?_
  | ((with_reducible refine' i_listR ?hh ?_); (case hh => walk_at "hlk"))
  | with_reducible refine i_tupF ?_
  | ((with_reducible refine' i_lenOR ?hh ?_); (case hh => walk_at "hlk"))
  | ((with_reducible refine' i_tupR ?hh ?_); (case hh => walk_at "hlk"))
  | ((with_reducible refine g_isi ?_); first
    | with_reducible refine i_isi_non_bool ?_
    | with_reducible refine i_isi_non_int ?_
    | with_reducible refine i_isi_non_str ?_
    | with_reducible refine i_isi_non_list ?_
    | with_reducible refine i_isi_non_tuple ?_
    | with_reducible refine i_isi_bl_bool ?_
    | with_reducible refine i_isi_bl_int ?_
    | with_reducible refine i_isi_bl_str ?_
    | with_reducible refine i_isi_bl_list ?_
    | with_reducible refine i_isi_bl_tuple ?_
    | with_reducible refine i_isi_int_bool ?_
    | with_reducible refine i_isi_int_int ?_
    | with_reducible refine i_isi_int_str ?_
    | with_reducible refine i_isi_int_list ?_
    | with_reducible refine i_isi_int_tuple ?_
    | with_reducible refine i_isi_str_bool ?_
    | with_reducible refine i_isi_str_int ?_
    | with_reducible refine i_isi_str_str ?_
    | with_reducible refine i_isi_str_list ?_
    | with_reducible refine i_isi_str_tuple ?_
    | with_reducible refine i_isi_tup_bool ?_
    | with_reducible refine i_isi_tup_int ?_
    | with_reducible refine i_isi_tup_str ?_
    | with_reducible refine i_isi_tup_list ?_
    | with_reducible refine i_isi_tup_tuple ?_
    | with_reducible refine i_isi_lst_bool ?_
    | with_reducible refine i_isi_lst_int ?_
    | with_reducible refine i_isi_lst_str ?_
    | with_reducible refine i_isi_lst_list ?_
    | with_reducible refine i_isi_lst_tuple ?_)
  | with_reducible refine i_max ?_
  | with_reducible refine i_min ?_
  | with_reducible refine i_rgin ?_
  | with_reducible refine i_tabin ?_
  | with_reducible refine i_disp ?_
  | with_reducible refine i_pcons ?_
  | with_reducible refine i_pnil ?_
  | with_reducible refine i_dget ?_
  | with_reducible refine i_din ?_
  | with_reducible refine i_dput ?_
  | ((with_reducible refine' i_wgtup ?nn ?_); (case nn => exact rfl))
  | ((with_reducible refine' i_rngB ?aa ?bb ?_); (case aa => first | decide | omega); (case bb => first | decide | omega))
  | with_reducible refine i_for ?_
  | with_reducible refine i_while ?_
  | with_reducible refine i_wgcons ?_
  | with_reducible refine i_wgnil ?_
  | with_reducible refine i_wslL ?_
  | with_reducible refine i_nopart ?_
  | with_reducible refine i_part ?_
  | ((with_reducible refine' i_wgunl ?nn ?_); (case nn => exact rfl))
  | ((with_reducible refine' i_xf ?ee ?_); (case ee => exact rfl))
  | ((with_reducible refine' i_errIs ?ee ?_); (case ee => exact rfl))
  | with_reducible refine i_bm0 ?_
  | with_reducible refine i_intB ?_
  | with_reducible refine i_intI ?_
  | with_reducible refine i_tryThru ?_
  | with_reducible refine i_iS ?_
  | with_reducible refine i_str1 ?_
  | with_reducible refine i_tyS ?_
  | with_reducible refine i_fmtI ?_
  | with_reducible refine i_js ?_
  | with_reducible refine i_jsc ?_
  | with_reducible refine i_jsn ?_
  ))

/-! ### the writing -/
def Verb.word : Verb → Str
  | .get => Str.ofString "get"
  | .op w _ => w.s
theorem Tgt.Sm.len {t : Tgt} (h : t.Sm) : t.l.length ≤ 123 := by
  cases t with
  | thing a b => exact RefD.Sm.len (r := .thing a b) h
  | ans n => have := iL_len (i := n) (by have := h.1; omega) h.2; simp [Tgt.l]; omega
theorem Arg.Sm.len {t : Arg} (h : t.Sm) : t.l.length ≤ 62 := by
  cases t with
  | num a => have := iL_len h.1 h.2; simp [Arg.l]; omega
  | ans n => have := iL_len (i := n) (by have := h.1; omega) h.2; simp [Arg.l]; omega
theorem Row.Sm.len {r : Row} (h : r.Sm) : r.l.length ≤ 400 := by
  obtain ⟨t, v⟩ := r
  have h1 := h.t.len
  cases v with
  | get => simp [Row.l, Verb.ws, joinL] at h1 ⊢; omega
  | op w a =>
    have h2 := Arg.Sm.len (t := a) h.v
    have h3 : w.l.length ≤ 4 := by cases w <;> simp [W4.l]
    simp [Row.l, Verb.ws, joinL] at h1 ⊢
    omega
theorem Asker.Sm.len {a : Asker} (h : a.Sm) : a.l.length ≤ 17000 := by
  have h1 := iL_len (i := a.house) (by have := h.h0; omega) h.h1
  unfold Asker.l
  split
  · simp; omega
  · have := joinL_len (S := [59, 32]) (m := 400) (ps := a.rows.map Row.l) fun p hp => by
      obtain ⟨q, hq, rfl⟩ := List.mem_map.mp hp
      exact (h.rows q hq).len
    have := h.many
    simp at *
    omega
theorem AsksSm.len {xs : List Asker} (h : AsksSm xs) : (asksL xs).length ≤ 200000 := by
  unfold asksL
  split
  · simp
  · have := joinL_len (S := [32, 124, 32]) (m := 17000) (ps := xs.map Asker.l) fun p hp => by
      obtain ⟨q, hq, rfl⟩ := List.mem_map.mp hp
      exact (h.each q hq).len
    have := h.many
    simp at *
    omega
/-! LA2 -/


/-! LA3 -/


/-! ### askers as data -/
def Tgt.d : Tgt → PyData
  | .thing a b => (RefD.thing a b).d
  | .ans n => .tuple [.str (Str.ofString "answer"), .int n]
def Arg.d : Arg → PyData
  | .num i => .tuple [.str (Str.ofString "number"), .int i]
  | .ans n => .tuple [.str (Str.ofString "answer"), .int n]
def Verb.d : Verb → PyData
  | .get => .tuple [.str (Str.ofString "get")]
  | .op w a => .tuple [.str w.s, a.d]
def Row.d (r : Row) : PyData := .tuple [r.t.d, r.v.d]
def Asker.d (a : Asker) : PyData := .tuple [.int a.house, .list (a.rows.map Row.d)]
theorem Tgt.dv {h : Hh} : ∀ t : Tgt, Dv h t.v t.d
  | .thing a b => (RefD.thing a b).dv
  | .ans _ => .tup (.cons (.str _) (.cons (.int _) .nil))
theorem Arg.dv {h : Hh} : ∀ t : Arg, Dv h t.v t.d
  | .num _ => .tup (.cons (.str _) (.cons (.int _) .nil))
  | .ans _ => .tup (.cons (.str _) (.cons (.int _) .nil))
theorem Verb.dv {h : Hh} : ∀ t : Verb, Dv h t.v t.d
  | .get => .tup (.cons (.str _) .nil)
  | .op _ a => .tup (.cons (.str _) (.cons a.dv .nil))
theorem Row.dv {h : Hh} (r : Row) : Dv h r.val r.d := .tup (.cons r.t.dv (.cons r.v.dv .nil))
theorem Asker.dv {h : Hh} (a : Asker) : Dv h a.v a.d := .tup (.cons (.int _) (.cons (.lst (dvs_map Row.dv _)) .nil))
theorem lay2 {n : Nat} {a b : PyData} (ha : LayD n a) (hb : LayD n b) : LayD (n + 1) (.tuple [a, b]) := LayD.tuple fun d hd => by
  simp only [List.mem_cons, List.not_mem_nil, or_false] at hd
  rcases hd with rfl | rfl
  · exact ha
  · exact hb
theorem Tgt.lay : ∀ t : Tgt, LayD 1 t.d
  | .thing a b => (RefD.thing a b).lay
  | .ans n => lay2 (.str 0 (by decide +kernel)) (.int 0 _)
theorem Arg.lay : ∀ t : Arg, LayD 1 t.d
  | .num n => lay2 (.str 0 (by decide +kernel)) (.int 0 _)
  | .ans n => lay2 (.str 0 (by decide +kernel)) (.int 0 _)
theorem Verb.lay : ∀ t : Verb, LayD 2 t.d
  | .get => LayD.tuple (n := 1) fun d hd => by
    simp only [List.mem_cons, List.not_mem_nil, or_false] at hd
    subst hd
    exact .str 1 (by decide +kernel)
  | .op w a => lay2 (.str 1 (by cases w <;> decide +kernel)) a.lay
theorem Row.lay (r : Row) : LayD 3 r.d := lay2 (r.t.lay.le (by decide)) r.v.lay
theorem rows_lay (rs : List Row) : LayD 4 (.list (rs.map Row.d)) := LayD.list fun d hd => by
  obtain ⟨r, _, rfl⟩ := List.mem_map.mp hd
  exact r.lay
theorem Asker.lay (a : Asker) : LayD 5 a.d := lay2 (.int 4 _) (rows_lay _)
theorem Seqq.dv {h : Hh} {y : Val} {xs : List Val} {ds : List PyData} (s : Seqq h y xs) (q : Dvs h xs ds) : Dv h y (.list ds) := by
  cases s with
  | lst => exact .lst q
  | scr => exact .scr q
  | ref e => exact .ref e q
/-! ### an asker read: its list frozen, or owned -/
def askR (x : Int × List Val) (b : Addr) : Val := .tup [.int x.1, .ref b]
/-! LA4 -/


/-! ### askers read: frozen, or owned -/
structure AskB (h h' : Hh) (bs : List Addr) (ys : List (Int × List Val)) : Prop where
  len : bs.length = ys.length
  each : ∀ (i : Nat) (b : Addr) (y : Int × List Val), bs[i]? = some b → ys[i]? = some y → h' b = some (.lst y.2)
  nd : bs.Nodup
  fresh : ∀ c ∈ bs, h c = none
  keep : ∀ c, c ∉ bs → h' c = h c
theorem get_one {α : Type} {x y : α} {i : Nat} (e : [x][i]? = some y) : y = x := by
  cases i with
  | zero => exact (Option.some.inj e).symm
  | succ i => simp at e
theorem AskB.zero {h : Hh} : AskB h h [] [] := ⟨rfl, fun i b y e => by simp at e, List.nodup_nil, fun c hc => by simp at hc, fun c _ => rfl⟩
theorem AskB.has {h h' : Hh} {bs : List Addr} {ys : List (Int × List Val)} (B : AskB h h' bs ys) {b : Addr} (hb : b ∈ bs) : ∃ xs, h' b = some (.lst xs) := by
  obtain ⟨i, hi, rfl⟩ := List.getElem_of_mem hb
  exact ⟨_, B.each i bs[i] (ys[i]'(B.len ▸ hi)) (List.getElem?_eq_getElem hi) (List.getElem?_eq_getElem _)⟩
theorem AskB.out {h h' : Hh} {bs : List Addr} {ys : List (Int × List Val)} (B : AskB h h' bs ys) {b : Addr} (hb : h' b = none) : b ∉ bs ∧ h b = none := by
  have n : b ∉ bs := fun hm => by
    obtain ⟨xs, e⟩ := B.has hm
    rw [hb] at e
    cases e
  exact ⟨n, by rw [← B.keep b n]; exact hb⟩
theorem AskB.app {h h' : Hh} {bs : List Addr} {ys : List (Int × List Val)} (B : AskB h h' bs ys) {b : Addr} (hb : h' b = none) (y : Int × List Val) : AskB h (hup h' b (.lst y.2)) (bs ++ [b]) (ys ++ [y]) := by
  obtain ⟨n, hn⟩ := B.out hb
  refine ⟨by simp [B.len], fun i c z e1 e2 => ?_, ?_, fun c hc => ?_, fun c hc => ?_⟩
  · rw [List.getElem?_append] at e1 e2
    rw [B.len] at e1
    split at e1
    · rename_i l
      rw [if_pos l] at e2
      have : c ≠ b := fun q => n (q ▸ List.mem_of_getElem? e1)
      rw [hup_ne this]
      exact B.each i c z e1 e2
    · rename_i l
      rw [if_neg l] at e2
      have q1 := get_one e1
      have q2 := get_one e2
      subst q1 q2
      exact hup_same
  · rw [List.nodup_append]
    exact ⟨B.nd, by simp, fun x hx y hy => by simp at hy; subst hy; exact fun q => n (q ▸ hx)⟩
  · rcases List.mem_append.mp hc with hc | hc
    · exact B.fresh c hc
    · simp at hc; subst hc; exact hn
  · rw [hup_ne fun q => hc (List.mem_append.mpr (.inr (by simp [q])))]
    exact B.keep c fun q => hc (List.mem_append.mpr (.inl q))
structure AskN (h h' : Hh) (a : Addr) (bs : List Addr) (ys : List (Int × List Val)) : Prop where
  top : h' a = some (.lst (List.zipWith askR ys bs))
  len : bs.length = ys.length
  each : ∀ (i : Nat) (b : Addr) (y : Int × List Val), bs[i]? = some b → ys[i]? = some y → h' b = some (.lst y.2)
  nd : (a :: bs).Nodup
  fresh : ∀ c ∈ a :: bs, h c = none
  keep : ∀ c, c ∉ a :: bs → h' c = h c
theorem AskB.top {h h' : Hh} {bs : List Addr} {ys : List (Int × List Val)} (B : AskB h h' bs ys) {a : Addr} (ha : h' a = none) : AskN h (hup h' a (.lst (List.zipWith askR ys bs))) a bs ys := by
  obtain ⟨n, hn⟩ := B.out ha
  refine ⟨hup_same, B.len, fun i b y e1 e2 => ?_, List.nodup_cons.mpr ⟨n, B.nd⟩, fun c hc => ?_, fun c hc => ?_⟩
  · have nb : b ≠ a := fun q => n (q ▸ List.mem_of_getElem? e1)
    rw [hup_ne nb]
    exact B.each i b y e1 e2
  · rcases List.mem_cons.mp hc with rfl | hc
    · exact hn
    · exact B.fresh c hc
  · rw [hup_ne fun q => hc (List.mem_cons.mpr (.inl q))]
    exact B.keep c fun q => hc (List.mem_cons.mpr (.inr q))
theorem AskB.dvs {h h' : Hh} : ∀ {bs : List Addr} {ys : List (Int × List Val)} {ds : List PyData}, bs.length = ys.length → (∀ (i : Nat) (b : Addr) (y : Int × List Val), bs[i]? = some b → ys[i]? = some y → h' b = some (.lst y.2)) → 
    ds.length = ys.length → (∀ (i : Nat) (y : Int × List Val) (d : PyData), ys[i]? = some y → ds[i]? = some d → ∃ es, d = .tuple [.int y.1, .list es] ∧ Dvs h' y.2 es) → Dvs h' (List.zipWith askR ys bs) ds
  | [], [], [], _, _, _, _ => .nil
  | b :: bs, y :: ys, d :: ds, l1, e, l2, k => by
    obtain ⟨es, rfl, q⟩ := k 0 y d rfl rfl
    exact .cons (.tup (.cons (.int _) (.cons (.ref (e 0 b y rfl rfl) q) .nil))) (AskB.dvs (h := h) (Nat.succ.inj l1) (fun i b y e1 e2 => e (i + 1) b y e1 e2) (Nat.succ.inj l2) fun i y d e1 e2 => k (i + 1) y d e1 e2)
  | [], _ :: _, _, l, _, _, _ => by simp at l
  | _ :: _, [], _, l, _, _, _ => by simp at l
  | _, [], _ :: _, _, _, l, _ => by simp at l
  | _, _ :: _, [], _, _, l, _ => by simp at l
/-! LA5 -/


/-! ### the law's askers drawn -/
structure AsksOk (xs : List Asker) : Prop where
  many : xs.length ≤ 4
  each : ∀ a ∈ xs, a.Sm ∧ a.rows.length ≤ 30
/-! LA6 -/


/-! ### signs that are small -/
def Lo (l : List Nat) : Prop := ∀ c ∈ l, c < 128
theorem Lo.app {a b : List Nat} (ha : Lo a) (hb : Lo b) : Lo (a ++ b) := fun c hc => by
  rcases List.mem_append.mp hc with h | h
  · exact ha c h
  · exact hb c h
theorem Lo.cons {x : Nat} {b : List Nat} (ha : x < 128) (hb : Lo b) : Lo (x :: b) := fun c hc => by
  rcases List.mem_cons.mp hc with rfl | h
  · exact ha
  · exact hb c h
/-- what was there stays -/
def Ext (h h' : Hh) : Prop := ∀ a o, h a = some o → h' a = some o
theorem Ext.refl {h : Hh} : Ext h h := fun _ _ e => e
theorem Ext.trans {h h1 h2 : Hh} (a : Ext h h1) (b : Ext h1 h2) : Ext h h2 := fun c o e => b c o (a c o e)
theorem Ext.hup {h h' : Hh} {a : Addr} {o : Ob} (e : Ext h h') (ha : h a = none) : Ext h (hup h' a o) := fun b u hb => by
  rw [hup_ne fun z => by subst z; rw [ha] at hb; cases hb]
  exact e b u hb
theorem Ext.none {h h' : Hh} {a : Addr} (e : Ext h h') (ha : h' a = none) : h a = none := by
  cases q : h a with
  | none => rfl
  | some o => rw [e a o q] at ha; cases ha
theorem i_cat {x y : Val} {xs ys : List Val} {h : Hh} {Q : KQ} (a : LstT h x xs) (b : LstT h y ys) (hz : xs.length + ys.length ≤ 1000000) (q : NewL (xs ++ ys) h Q) : wCat x y h Q := ⟨xs, ys, a, b, by unfold small; omega, q⟩
/-! ### the law's writing -/
/-! LP0 -/
/-! the steps: one macro -/
local macro_rules | `(tactic| walk_at "hlk") => `(tactic| first | assumption | with_reducible exact hup_same | ((with_reducible refine' (hup_ne ?nn).trans ?tt); (case nn => first | assumption | (refine Ne.symm ?_; assumption)); (case tt => walk_at "hlk")))
local macro_rules | `(tactic| walk_at "zgo") => `(tactic| repeat (first
  | with_reducible refine i_seq ?_
  | with_reducible refine i_op ?_
  | ((with_reducible refine g_var ?_); first
    | with_reducible refine i_var0 ?_
    | with_reducible refine i_var1 ?_
    | with_reducible refine i_var2 ?_
    | with_reducible refine i_var3 ?_
    | with_reducible refine i_var4 ?_
    | with_reducible refine i_var5 ?_
    | with_reducible refine i_var6 ?_
    | with_reducible refine i_var7 ?_
    | with_reducible refine i_var8 ?_
    | with_reducible refine i_var9 ?_
    | with_reducible refine i_var10 ?_
    | with_reducible refine i_var11 ?_
    | with_reducible refine i_var12 ?_
    | with_reducible refine i_var13 ?_
    | with_reducible refine i_var14 ?_
    | with_reducible refine i_var15 ?_
    | with_reducible refine i_var16 ?_
    | with_reducible refine i_var17 ?_
    | with_reducible refine i_var18 ?_
    | with_reducible refine i_var19 ?_
    | with_reducible refine i_var20 ?_
    | with_reducible refine i_var21 ?_
    | with_reducible refine i_var22 ?_
    | with_reducible refine i_var23 ?_
    | with_reducible refine i_var24 ?_
    | with_reducible refine i_var25 ?_)
  | with_reducible refine i_c ?_
  | with_reducible refine i_cons ?_
  | with_reducible refine i_nil ?_
  | with_reducible refine i_asg ?_
  | ((with_reducible refine g_name ?_); first
    | with_reducible refine i_name0 ?_
    | with_reducible refine i_name1 ?_
    | with_reducible refine i_name2 ?_
    | with_reducible refine i_name3 ?_
    | with_reducible refine i_name4 ?_
    | with_reducible refine i_name5 ?_
    | with_reducible refine i_name6 ?_
    | with_reducible refine i_name7 ?_
    | with_reducible refine i_name8 ?_
    | with_reducible refine i_name9 ?_
    | with_reducible refine i_name10 ?_
    | with_reducible refine i_name11 ?_
    | with_reducible refine i_name12 ?_
    | with_reducible refine i_name13 ?_
    | with_reducible refine i_name14 ?_
    | with_reducible refine i_name15 ?_
    | with_reducible refine i_name16 ?_
    | with_reducible refine i_name17 ?_
    | with_reducible refine i_name18 ?_
    | with_reducible refine i_name19 ?_
    | with_reducible refine i_name20 ?_
    | with_reducible refine i_name21 ?_
    | with_reducible refine i_name22 ?_
    | with_reducible refine i_name23 ?_
    | with_reducible refine i_name24 ?_
    | with_reducible refine i_name25 ?_)
  | ((with_reducible refine g_tg1 ?_); first
    | with_reducible refine i_tg1_0 ?_
    | with_reducible refine i_tg1_1 ?_
    | with_reducible refine i_tg1_2 ?_
    | with_reducible refine i_tg1_3 ?_
    | with_reducible refine i_tg1_4 ?_
    | with_reducible refine i_tg1_5 ?_
    | with_reducible refine i_tg1_6 ?_
    | with_reducible refine i_tg1_7 ?_
    | with_reducible refine i_tg1_8 ?_
    | with_reducible refine i_tg1_9 ?_
    | with_reducible refine i_tg1_10 ?_
    | with_reducible refine i_tg1_11 ?_
    | with_reducible refine i_tg1_12 ?_
    | with_reducible refine i_tg1_13 ?_
    | with_reducible refine i_tg1_14 ?_
    | with_reducible refine i_tg1_15 ?_
    | with_reducible refine i_tg1_16 ?_
    | with_reducible refine i_tg1_17 ?_
    | with_reducible refine i_tg1_18 ?_
    | with_reducible refine i_tg1_19 ?_
    | with_reducible refine i_tg1_20 ?_
    | with_reducible refine i_tg1_21 ?_
    | with_reducible refine i_tg1_22 ?_
    | with_reducible refine i_tg1_23 ?_)
  | with_reducible refine i_yes ?_
  | with_reducible refine i_if ?_
  | with_reducible refine i_tv ?_
  | with_reducible refine i_bl ?_
  | with_reducible refine i_blV ?_
  | ((with_reducible refine g_if ?_); first
    | with_reducible refine iteT ?_
    | with_reducible refine iteF ?_
    | ((with_reducible refine' i_ifdt ?cc ?_); (case cc => first | decide | omega | assumption | decide +kernel))
    | ((with_reducible refine' i_ifdf ?cc ?_); (case cc => first | decide | omega | assumption | decide +kernel))
    | ((with_reducible refine' i_ifnt ?cc ?_); (case cc => first | decide | omega | assumption | decide +kernel))
    | ((with_reducible refine' i_ifnf ?cc ?_); (case cc => first | decide | omega | assumption | decide +kernel))
    | ((with_reducible refine' i_ift ?cc ?_); (case cc => first | assumption | rfl))
    | ((with_reducible refine' i_iff ?cc ?_); (case cc => first | assumption | rfl)))
  | with_reducible refine i_eqT ?_
  | with_reducible refine i_neT ?_
  | with_reducible refine i_eqI ?_
  | with_reducible refine i_neI ?_
  | with_reducible refine i_eqB ?_
  | with_reducible refine i_neB ?_
  | with_reducible refine i_lt ?_
  | with_reducible refine i_le ?_
  | with_reducible refine i_gt ?_
  | with_reducible refine i_ge ?_
  | with_reducible refine i_add ?_
  | with_reducible refine i_sub ?_
  | with_reducible refine i_and ?_
  | with_reducible refine i_or ?_
  | with_reducible refine i_not ?_
  | with_reducible refine i_andV ?_
  | with_reducible refine i_orV ?_
  | with_reducible refine i_notV ?_
  | with_reducible refine i_ifE ?_
  | with_reducible refine i_isN ?_
  | with_reducible refine i_notN ?_
  | with_reducible refine i_un ?_
  | with_reducible refine i_int1 ?_
  | with_reducible refine i_tup ?_
  | with_reducible refine i_lst ?_
  | ((with_reducible refine' i_small ?ss ?_); (case ss => first | decide | (simp only [List.length_cons, List.length_nil, List.length_map, List.length_append]; omega)))
  | with_reducible refine i_cb ?_
  | with_reducible refine i_call0 ?_
  | with_reducible refine i_call ?_
  | with_reducible refine i_meth0 ?_
  | with_reducible refine i_methK ?_
  | with_reducible refine i_make0 ?_
  | with_reducible refine i_fld ?_
  | ((with_reducible refine' i_fldO ?ll ?_); (case ll => repeat (first | exact lk_hd | exact lk_nil | (refine lk_tl (by decide +kernel) ?_))))
  | ((with_reducible refine' i_fldR ?ee ?ll ?_); (case ee => walk_at "hlk"); (case ll => repeat (first | exact lk_hd | exact lk_nil | (refine lk_tl (by decide +kernel) ?_))))
  | ((with_reducible refine' i_mO ?ll ?_); (case ll => repeat (first | exact lk_hd | exact lk_nil | (refine lk_tl (by decide +kernel) ?_))))
  | ((with_reducible refine' i_mR ?ee ?ll ?_); (case ee => walk_at "hlk"); (case ll => repeat (first | exact lk_hd | exact lk_nil | (refine lk_tl (by decide +kernel) ?_))))
  | ((with_reducible refine' i_ixT ?at_ ?_); (case at_ => first | exact rfl | exact L2.atI_nat (j := 0) rfl | exact L2.atI_nat (j := 1) rfl))
  | ((with_reducible refine' i_ixL ?at_ ?_); (case at_ => first | exact rfl | exact L2.atI_nat (j := 0) rfl | exact L2.atI_nat (j := 1) rfl))
  | ((with_reducible refine' i_ixR ?hh ?at_ ?_); (case hh => walk_at "hlk"); (case at_ => first | exact rfl | exact L2.atI_nat (j := 0) rfl | exact L2.atI_nat (j := 1) rfl))
  | with_reducible refine i_fldS ?_
  | with_reducible refine i_bm ?_
  | ((with_reducible refine' i_tyL ?hh ?_); (case hh => walk_at "hlk"))
  | ((with_reducible refine' i_l2 ?xx ?yy ?_); (case xx => exact rfl); (case yy => exact rfl))
  | with_reducible refine i_callK ?_
  | with_reducible refine i_makeK ?_
  | with_reducible refine i_chain ?_
  | with_reducible refine i_raise ?_
  | with_reducible refine i_atx ?_
  | with_reducible refine i_lenO ?_
  | with_reducible refine i_sub_ ?_
  | with_reducible refine i_expr ?_
  | with_reducible refine i_ret ?_
  | with_reducible refine i_next ?_
  | with_reducible refine i_lc ?_
  | with_reducible refine i_r1 ?_
  | with_reducible refine i_iL ?_
  | with_reducible refine i_iE ?_
  | with_reducible refine i_iZ ?_
  | with_reducible refine i_iT ?_
  | with_reducible refine i_itsF ?_
  | with_reducible refine i_itsS ?_
  | with_reducible refine i_itsT ?_
  | ((with_reducible refine' i_itsR ?hh ?_); (case hh => walk_at "hlk"))
  | with_reducible refine i_lenF ?_
  | with_reducible refine i_lenT ?_
  | ((with_reducible refine' i_lenR ?hh ?_); (case hh => walk_at "hlk"))
  | with_reducible refine i_listF ?_
  | with_reducible refine i_listT ?_
  | ((with_reducible refine' i_listR ?hh ?_); (case hh => walk_at "hlk"))
  | with_reducible refine i_tupF ?_
  | ((with_reducible refine' i_lenOR ?hh ?_); (case hh => walk_at "hlk"))
  | ((with_reducible refine' i_tupR ?hh ?_); (case hh => walk_at "hlk"))
  | ((with_reducible refine g_isi ?_); first
    | with_reducible refine i_isi_non_bool ?_
    | with_reducible refine i_isi_non_int ?_
    | with_reducible refine i_isi_non_str ?_
    | with_reducible refine i_isi_non_list ?_
    | with_reducible refine i_isi_non_tuple ?_
    | with_reducible refine i_isi_bl_bool ?_
    | with_reducible refine i_isi_bl_int ?_
    | with_reducible refine i_isi_bl_str ?_
    | with_reducible refine i_isi_bl_list ?_
    | with_reducible refine i_isi_bl_tuple ?_
    | with_reducible refine i_isi_int_bool ?_
    | with_reducible refine i_isi_int_int ?_
    | with_reducible refine i_isi_int_str ?_
    | with_reducible refine i_isi_int_list ?_
    | with_reducible refine i_isi_int_tuple ?_
    | with_reducible refine i_isi_str_bool ?_
    | with_reducible refine i_isi_str_int ?_
    | with_reducible refine i_isi_str_str ?_
    | with_reducible refine i_isi_str_list ?_
    | with_reducible refine i_isi_str_tuple ?_
    | with_reducible refine i_isi_tup_bool ?_
    | with_reducible refine i_isi_tup_int ?_
    | with_reducible refine i_isi_tup_str ?_
    | with_reducible refine i_isi_tup_list ?_
    | with_reducible refine i_isi_tup_tuple ?_
    | with_reducible refine i_isi_lst_bool ?_
    | with_reducible refine i_isi_lst_int ?_
    | with_reducible refine i_isi_lst_str ?_
    | with_reducible refine i_isi_lst_list ?_
    | with_reducible refine i_isi_lst_tuple ?_)
  | with_reducible refine i_max ?_
  | with_reducible refine i_min ?_
  | with_reducible refine i_rgin ?_
  | with_reducible refine i_tabin ?_
  | with_reducible refine i_disp ?_
  | with_reducible refine i_pcons ?_
  | with_reducible refine i_pnil ?_
  | with_reducible refine i_dget ?_
  | with_reducible refine i_din ?_
  | with_reducible refine i_dput ?_
  | ((with_reducible refine' i_wgtup ?nn ?_); (case nn => exact rfl))
  | ((with_reducible refine' i_rngB ?aa ?bb ?_); (case aa => first | decide | omega); (case bb => first | decide | omega))
  | with_reducible refine i_for ?_
  | with_reducible refine i_while ?_
  | with_reducible refine i_wgcons ?_
  | with_reducible refine i_wgnil ?_
  | with_reducible refine i_wslL ?_
  | with_reducible refine i_nopart ?_
  | with_reducible refine i_part ?_
  | ((with_reducible refine' i_wgunl ?nn ?_); (case nn => exact rfl))
  | ((with_reducible refine' i_xf ?ee ?_); (case ee => exact rfl))
  | ((with_reducible refine' i_errIs ?ee ?_); (case ee => exact rfl))
  | with_reducible refine i_bm0 ?_
  | with_reducible refine i_intB ?_
  | with_reducible refine i_intI ?_
  | with_reducible refine i_tryThru ?_
  | with_reducible refine i_iS ?_
  | with_reducible refine i_str1 ?_
  | with_reducible refine i_tyS ?_
  | with_reducible refine i_fmtI ?_
  | with_reducible refine i_js ?_
  | with_reducible refine i_jsc ?_
  | with_reducible refine i_jsn ?_
  ))

/-! ### the things by their refs: plain law -/
abbrev TM := List (RefD × Thing)
def refK : RefD → List Key
  | .thing a b => [.inr "thing", .inl a, .inl b]
  | .made a b c => [.inr "made", .inl a, .inl b, .inl c]
theorem refK_v (r : RefD) : r.v = .tup ((refK r).map keyX) := by cases r <;> rfl
theorem refK_inj {a b : RefD} (h : refK a = refK b) : a = b := by
  cases a <;> cases b <;> simp only [refK, List.cons.injEq, Sum.inl.injEq, Sum.inr.injEq] at h
  · rw [h.2.1, h.2.2.1]
  · exact absurd h.1 (by decide +kernel)
  · exact absurd h.1 (by decide +kernel)
  · rw [h.2.1, h.2.2.1, h.2.2.2.1]
def encT (m : TM) : List (List Key × Val) := m.map fun p => (refK p.1, p.2.v)
def getT : TM → RefD → Option Thing
  | [], _ => none
  | p :: m, r => if p.1 = r then some p.2 else getT m r
def putT : TM → RefD → Thing → TM
  | [], r, t => [(r, t)]
  | p :: m, r, t => if p.1 = r then (r, t) :: m else p :: putT m r t
def keysT (m : TM) : List RefD := m.map (·.1)
theorem getT_key {m : TM} {r : RefD} : (getT m r).isSome = true ↔ r ∈ keysT m := by
  induction m with
  | nil => simp [getT, keysT]
  | cons p m ih =>
    unfold getT keysT
    by_cases c : p.1 = r
    · simp [c]
    · rw [if_neg c, ih]
      unfold keysT
      simp [Ne.symm c]
theorem getT_put {m : TM} {r s : RefD} {t : Thing} : getT (putT m r t) s = if s = r then some t else getT m s := by
  induction m with
  | nil =>
    unfold putT getT
    by_cases c : s = r
    · rw [if_pos c, if_pos c.symm]
    · rw [if_neg c, if_neg (Ne.symm c)]
      rfl
  | cons p m ih =>
    unfold putT
    by_cases c : p.1 = r
    · rw [if_pos c]
      unfold getT
      by_cases d : s = r
      · rw [if_pos d, if_pos d.symm]
      · rw [if_neg d, if_neg (Ne.symm d), if_neg (fun z => d (z.symm.trans c))]
    · rw [if_neg c]
      unfold getT
      by_cases d : p.1 = s
      · rw [if_pos d, if_neg (fun z => c (d.trans z)), if_pos d]
      · rw [if_neg d, ih, if_neg d]
theorem keysT_put {m : TM} {r : RefD} {t : Thing} : keysT (putT m r t) = if r ∈ keysT m then keysT m else keysT m ++ [r] := by
  induction m with
  | nil => rfl
  | cons p m ih =>
    unfold putT
    by_cases c : p.1 = r
    · rw [if_pos c, if_pos (by simp [keysT, c])]
      simp [keysT, c]
    · rw [if_neg c]
      show p.1 :: keysT (putT m r t) = _
      rw [ih]
      by_cases d : r ∈ keysT m
      · rw [if_pos d, if_pos (by show r ∈ p.1 :: keysT m; simp [d])]
        rfl
      · rw [if_neg d, if_neg (by show ¬ r ∈ p.1 :: keysT m; simp [d, Ne.symm c])]
        rfl
theorem putT_len {m : TM} {r : RefD} {t : Thing} : (putT m r t).length ≤ m.length + 1 := by
  have := congrArg List.length (keysT_put (m := m) (r := r) (t := t))
  have e : ∀ m : TM, (keysT m).length = m.length := fun m => List.length_map _
  rw [e] at this
  rw [this]
  by_cases c : r ∈ keysT m
  · rw [if_pos c, e]; omega
  · rw [if_neg c, List.length_append, e]; simp
theorem putT_nodup {m : TM} {r : RefD} {t : Thing} (h : (keysT m).Nodup) : (keysT (putT m r t)).Nodup := by
  rw [keysT_put]
  split
  · exact h
  · rename_i c
    rw [List.nodup_append]
    exact ⟨h, by simp, fun x hx y hy => by simp at hy; subst hy; exact fun e => c (e ▸ hx)⟩
theorem enc_get {m : TM} {r : RefD} : valX (encT m) (refK r) = (getT m r).map Thing.v := by
  induction m with
  | nil => rfl
  | cons p m ih =>
    unfold getT
    by_cases c : p.1 = r
    · rw [if_pos c]
      exact valX_pos (p := (refK p.1, p.2.v)) (by rw [c])
    · rw [if_neg c, ← ih]
      exact valX_neg (p := (refK p.1, p.2.v)) fun z => c (refK_inj z)
theorem enc_put {m : TM} {r : RefD} {t : Thing} (nd : (keysT m).Nodup) : putX (encT m) (refK r) t.v = encT (putT m r t) := by
  have ha : ((encT m).any fun kv => decide (kv.1 = refK r)) = true ↔ r ∈ keysT m := by
    rw [valX_any, enc_get, Option.isSome_map, getT_key]
  unfold putX
  by_cases c : r ∈ keysT m
  · rw [if_pos (ha.mpr c)]
    clear ha
    induction m with
    | nil => simp [keysT] at c
    | cons p m ih =>
      have nd2 := List.nodup_cons.mp (show (p.1 :: keysT m).Nodup from nd)
      unfold putT
      by_cases d : p.1 = r
      · rw [if_pos d]
        have e : ∀ q ∈ m, ¬ q.1 = r := fun q hq z => nd2.1 (by rw [d, ← z]; exact List.mem_map.mpr ⟨q, hq, rfl⟩)
        show (if refK p.1 = refK r then (refK p.1, t.v) else (refK p.1, p.2.v)) :: (encT m).map _ = (refK r, t.v) :: encT m
        rw [if_pos (by rw [d]), d]
        congr 1
        unfold encT
        rw [List.map_map]
        exact List.map_congr_left fun q hq => if_neg fun z => e q hq (refK_inj z)
      · rw [if_neg d]
        show (if refK p.1 = refK r then (refK p.1, t.v) else (refK p.1, p.2.v)) :: (encT m).map _ = (refK p.1, p.2.v) :: encT (putT m r t)
        rw [if_neg fun z => d (refK_inj z), ih nd2.2 (by rcases List.mem_cons.mp c with z | z; exact absurd z.symm d; exact z)]
  · rw [if_neg fun z => c (ha.mp z)]
    clear ha nd
    induction m with
    | nil => rfl
    | cons p m ih =>
      have c2 : ¬ p.1 = r ∧ r ∉ keysT m := by
        have : r ∉ p.1 :: keysT m := c
        simp at this
        exact ⟨Ne.symm this.1, this.2⟩
      unfold putT
      rw [if_neg c2.1]
      show (refK p.1, p.2.v) :: (encT m ++ _) = (refK p.1, p.2.v) :: encT (putT m r t)
      rw [ih c2.2]
/-! ### the end of relays -/
def endN (m : TM) : Nat → RefD → Option RefD
  | 0, _ => none
  | n + 1, r => match getT m r with
    | some (.relay q) => endN m n q
    | _ => some r
def endT (m : TM) (r : RefD) : Option RefD := endN m (m.length + 1) r
/-- every relay leads to a thing that is there -/
def Closed (m : TM) : Prop := ∀ r q, getT m r = some (.relay q) → ∃ t, getT m q = some t
/-- relays passed, one behind the other; the next ref -/
inductive Path (m : TM) (s : RefD) : List RefD → RefD → Prop
  | nil : Path m s [] s
  | step {xs r q} : Path m s xs r → getT m r = some (.relay q) → Path m s (xs ++ [r]) q
theorem Path.get {m : TM} {s : RefD} {xs : List RefD} {r : RefD} (p : Path m s xs r) : ∀ i x, xs[i]? = some x → ∃ q, getT m x = some (.relay q) ∧ (xs ++ [r])[i + 1]? = some q := by
  induction p with
  | nil => intro i x h; simp at h
  | @step xs r q p g ih =>
    intro i x h
    by_cases c : i < xs.length
    · rw [List.getElem?_append_left c] at h
      obtain ⟨q2, g2, h2⟩ := ih i x h
      refine ⟨q2, g2, ?_⟩
      rw [List.getElem?_append_left (by simp; omega)]
      exact h2
    · rw [List.getElem?_append_right (by omega)] at h
      have e := (List.getElem?_eq_some_iff.mp h).1
      simp at e
      have hi : i = xs.length := by omega
      subst hi
      simp at h
      subst h
      exact ⟨q, g, by rw [List.getElem?_append_right (by simp)]; simp⟩
theorem Path.mem {m : TM} {s : RefD} {xs : List RefD} {r : RefD} (p : Path m s xs r) {x : RefD} (h : x ∈ xs) : ∃ q, getT m x = some (.relay q) := by
  obtain ⟨i, hi, rfl⟩ := List.getElem_of_mem h
  obtain ⟨q, g, _⟩ := p.get i _ (List.getElem?_eq_getElem hi)
  exact ⟨q, g⟩
theorem Path.end_ {m : TM} {s : RefD} {xs : List RefD} {r : RefD} (p : Path m s xs r) : ∀ n, endN m (n + xs.length) s = endN m n r := by
  induction p with
  | nil => intro n; rfl
  | @step xs r q p g ih =>
    intro n
    rw [List.length_append, show n + (xs.length + [r].length) = (n + 1) + xs.length by simp; omega, ih (n + 1)]
    show (match getT m r with
      | some (.relay q) => endN m n q
      | _ => some r) = _
    rw [g]
/-- a ring has no end -/
theorem Path.ring {m : TM} {s : RefD} {xs : List RefD} {r : RefD} (p : Path m s xs r) (h : r ∈ xs) : ∀ n x, x ∈ xs → endN m n x = none := by
  intro n
  induction n with
  | zero => intro x _; rfl
  | succ n ih =>
    intro x hx
    obtain ⟨i, hi, rfl⟩ := List.getElem_of_mem hx
    obtain ⟨q, g, e⟩ := p.get i _ (List.getElem?_eq_getElem hi)
    show (match getT m xs[i] with
      | some (.relay q) => endN m n q
      | _ => some xs[i]) = _
    rw [g]
    refine ih q ?_
    by_cases c : i + 1 < xs.length
    · rw [List.getElem?_append_left c] at e
      exact List.mem_of_getElem? e
    · have : i + 1 = xs.length := by omega
      rw [this, List.getElem?_append_right (Nat.le_refl _)] at e
      simp at e
      subst e
      exact h
theorem nodup_len {α : Type} [DecidableEq α] : ∀ {xs ys : List α}, xs.Nodup → (∀ x ∈ xs, x ∈ ys) → xs.length ≤ ys.length
  | [], _, _, _ => Nat.zero_le _
  | x :: xs, ys, nd, h => by
    have nd2 := List.nodup_cons.mp nd
    have hx := h x (by simp)
    have := nodup_len (xs := xs) (ys := ys.erase x) nd2.2 fun z hz => (List.mem_erase_of_ne (fun e => nd2.1 (by rw [← e]; exact hz))).mpr (h z (by simp [hz]))
    rw [List.length_erase_of_mem hx] at this
    have : 1 ≤ ys.length := List.length_pos_of_mem hx
    simp
    omega
theorem Path.len {m : TM} {s : RefD} {xs : List RefD} {r : RefD} (p : Path m s xs r) (nd : xs.Nodup) : xs.length ≤ m.length := by
  have := nodup_len nd (ys := keysT m) fun x hx => by
    obtain ⟨q, g⟩ := p.mem hx
    exact getT_key.mp (by rw [g]; rfl)
  simpa [keysT] using this
theorem Path.found {m : TM} {s : RefD} {xs : List RefD} {r : RefD} (p : Path m s xs r) (nd : xs.Nodup) (h : ∀ q, getT m r ≠ some (.relay q)) : endT m s = some r := by
  have l := p.len nd
  unfold endT
  rw [show m.length + 1 = (m.length - xs.length + 1) + xs.length by omega, p.end_]
  show (match getT m r with
    | some (.relay q) => endN m _ q
    | _ => some r) = _
  cases e : getT m r with
  | none => rfl
  | some t =>
    cases t with
    | relay q => exact absurd e (h q)
    | _ => rfl
theorem Path.round {m : TM} {s : RefD} {xs : List RefD} {r : RefD} (p : Path m s xs r) (nd : xs.Nodup) (h : r ∈ xs) : endT m s = none := by
  have l := p.len nd
  unfold endT
  rw [show m.length + 1 = (m.length - xs.length + 1) + xs.length by omega, p.end_]
  exact p.ring h _ _ h
/-- the end is a thing that is there and no relay -/
theorem endN_some {m : TM} (cl : Closed m) : ∀ {n r s}, (∃ t, getT m r = some t) → endN m n r = some s → ∃ t, getT m s = some t ∧ ∀ q, t ≠ .relay q
  | 0, _, _, _, h => by cases h
  | n + 1, r, s, ⟨t, g⟩, h => by
    have h2 : (match getT m r with
      | some (.relay q) => endN m n q
      | _ => some r) = some s := h
    rw [g] at h2
    cases t with
    | relay q => exact endN_some cl (cl r q g) h2
    | box w => cases h2; exact ⟨_, g, fun q => by simp⟩
    | shelf w => cases h2; exact ⟨_, g, fun q => by simp⟩
    | maker => cases h2; exact ⟨_, g, fun q => by simp⟩
    | stone => cases h2; exact ⟨_, g, fun q => by simp⟩
theorem endT_some {m : TM} (cl : Closed m) {r s : RefD} (g : ∃ t, getT m r = some t) (h : endT m r = some s) : ∃ t, getT m s = some t ∧ ∀ q, t ≠ .relay q := endN_some cl g h
/-! LP1 -/


/-! ### the program's Plain -/
/-- a Plain, owned: the instance, its dict, the things -/
structure PlainAt (cl : Str → Addr) (h : Hh) (p d : Addr) (m : TM) : Prop where
  ins : h p = some (.ins (cl "Plain") [("things_kept", .ref d)])
  dct : h d = some (.dT (encT m))
theorem PlainAt.ne {cl : Str → Addr} {h : Hh} {p d : Addr} {m : TM} (P : PlainAt cl h p d m) : p ≠ d := fun z => by
  have := P.ins
  rw [z, P.dct] at this
  cases this
theorem PlainAt.keep {cl : Str → Addr} {h h' : Hh} {p d : Addr} {m : TM} (P : PlainAt cl h p d m) (a : h' p = h p) (b : h' d = h d) : PlainAt cl h' p d m := ⟨a.trans P.ins, b.trans P.dct⟩
/-- what is kept of the things: no ref twice, relays lead to things that are there -/
structure Tidy (m : TM) : Prop where
  nd : (keysT m).Nodup
  cls : Closed m
  len : m.length ≤ 1000000
  refs : ∀ p ∈ m, p.2.refs.length ≤ 1000
theorem dg_get {h : Hh} {d : Addr} {m : TM} {r : RefD} {t : Thing} {A : Val → Prop} (e : h d = some (.dT (encT m))) (g : getT m r = some t) (q : A t.v) : ∃ v, DG h (.ref d) r.v (some v) ∧ A v := by
  rw [refK_v]
  exact dgT e (by rw [enc_get, g]; rfl) q
theorem dg_in {h : Hh} {d : Addr} {m : TM} {r : RefD} {A : Option Val → Prop} (e : h d = some (.dT (encT m))) (q : A ((getT m r).map Thing.v)) : ∃ o, DG h (.ref d) r.v o ∧ A o := by
  rw [refK_v]
  exact ⟨_, .t (refK r) e, by rw [enc_get]; exact q⟩
theorem dg_put {h : Hh} {d : Addr} {m : TM} {r : RefD} {t : Thing} {A : Hh → Prop} (e : h d = some (.dT (encT m))) (nd : (keysT m).Nodup) (l : m.length < 16000000) (q : A (hup h d (.dT (encT (putT m r t))))) : ∃ h', DP h (.ref d) r.v t.v h' ∧ A h' := by
  rw [refK_v]
  refine ⟨_, .t (refK r) e (by unfold encT; rw [List.length_map]; exact l), ?_⟩
  rw [enc_put nd]
  exact q
def fs_Plain_thing (cl : Str → Addr) : FS where
  P := Addr × Addr × TM × RefD
  pre := fun (p, d, m, r) vs h => vs = [.ref p, r.v] ∧ PlainAt cl h p d m
  post := fun (p, d, m, r) h v h' => ∃ t, getT m r = some t ∧ v = t.v ∧ h' = h
  xpost := fun (p, d, m, r) h C x h' => getT m r = none ∧ C = cl "NoThing" ∧ x = r.v ∧ h' = h
theorem c_Plain_thing {cl : Str → Addr} {p d : Addr} {m : TM} {r : RefD} {t : Thing} {h : Hh} {E : XQ} {Q : KQ} (P : PlainAt cl h p d m) (g : getT m r = some t) (k : Q t.v h) : (fs_Plain_thing cl).sp [.ref p, r.v] h E Q :=
  ⟨(p, d, m, r), ⟨rfl, P⟩, fun v h' ⟨t', e, a, b⟩ => by subst a b; rw [g] at e; cases e; exact k, fun C x h' ⟨e, _⟩ => by rw [g] at e; cases e⟩
def fs_Plain_end (cl : Str → Addr) : FS where
  P := Addr × Addr × TM × RefD
  pre := fun (p, d, m, r) vs h => vs = [.ref p, r.v] ∧ PlainAt cl h p d m ∧ Tidy m
  post := fun (p, d, m, r) h v h' => (∃ t, getT m r = some t) ∧ v = orf (endT m r) ∧ h' = h
  xpost := fun (p, d, m, r) h C x h' => getT m r = none ∧ C = cl "NoThing" ∧ x = r.v ∧ Ext h h'
theorem c_Plain_end {cl : Str → Addr} {p d : Addr} {m : TM} {r : RefD} {t : Thing} {h : Hh} {E : XQ} {Q : KQ} (P : PlainAt cl h p d m) (ty : Tidy m) (g : getT m r = some t) (k : Q (orf (endT m r)) h) : (fs_Plain_end cl).sp [.ref p, r.v] h E Q :=
  ⟨(p, d, m, r), ⟨rfl, P, ty⟩, fun v h' ⟨_, a, b⟩ => by subst a b; exact k, fun C x h' ⟨e, _⟩ => by rw [g] at e; cases e⟩
def r_Plain_thing (cl : Str → Addr) : WS :=
  wSeq (wIf (wTv (wDIn true (wVar 1) (wFld (cl "Plain") (wVar 0) "things_kept"))) (wRaise (cl "NoThing") (wVar 1)) (wNext))
  (wRet (wDGet (wFld (cl "Plain") (wVar 0) "things_kept") (wVar 1)))

def r_Plain_end (cl : Str → Addr) : WS :=
  wSeq (wAsg (wDNewT) (wgName 2))
  (wSeq (wAsg (wMeth (cl "Plain") "thing" (fs_Plain_thing cl) [] (wVar 0) (wCons (wVar 1) (wNil))) (wgName 3))
  (wSeq (wWhile (wTv (wOp wEqS (wOp wIx (wVar 3) (wC (.int 0))) (wC (.str "relay"))))
  (wSeq (wIf (wTv (wDIn false (wVar 1) (wVar 2))) (wRet (wC .non)) (wNext))
  (wSeq (wDPut (wVar 2) (wVar 1) (wC (.bl true)))
  (wSeq (wAsg (wOp wIx (wVar 3) (wC (.int 1))) (wgName 1))
  (wAsg (wDGet (wFld (cl "Plain") (wVar 0) "things_kept") (wVar 1)) (wgName 3))))))
  (wRet (wVar 1))))

theorem rd_Plain_thing {K : Fr} {cl : Str → Addr} {p vs h Q} {X : XQ} (gd : Good K Q) (q : (fs_Plain_thing cl).pre p vs h) (hp : ∀ v h', (fs_Plain_thing cl).post p h v h' → Q v h') (hx : ∀ C v h', (fs_Plain_thing cl).xpost p h C v h' → X C v h') :
    r_Plain_thing cl (fun _ h' => Q .non h') Q (fun _ _ => False) (fun _ _ => False) (fun C v _ h' => X C v h') (startV ["self", "ref"] vs) h := by
  obtain ⟨p, d, m, r⟩ := p
  obtain ⟨rfl, P⟩ := q
  show r_Plain_thing _ _ _ _ _ _ [some (.ref p), some r.v] h
  unfold r_Plain_thing
  have hi := P.ins
  walk_at "zgo"
  refine dg_in P.dct ?_
  cases g : getT m r with
  | none =>
    walk_at "zgo"
    exact hx _ _ _ ⟨g, rfl, rfl, rfl⟩
  | some t =>
    walk_at "zgo"
    refine dg_get P.dct g ?_
    exact hp _ _ ⟨t, g, rfl, rfl⟩
def relV (r : RefD) : List Key × Val := (refK r, .bl true)
theorem rel_put {xs : List RefD} {r : RefD} (h : r ∉ xs) : putX (xs.map relV) (refK r) (.bl true) = (xs ++ [r]).map relV := by
  unfold putX
  rw [if_neg]
  · simp [relV]
  · intro a
    rw [List.any_eq_true] at a
    obtain ⟨p, hp, e⟩ := a
    obtain ⟨x, hx, rfl⟩ := List.mem_map.mp hp
    exact h (refK_inj (of_decide_eq_true e) ▸ hx)
theorem rel_get {xs : List RefD} {r : RefD} : (valX (xs.map relV) (refK r)).isSome = decide (r ∈ xs) := by
  rw [← valX_any, Bool.eq_iff_iff, List.any_eq_true, decide_eq_true_eq]
  constructor
  · rintro ⟨p, hp, e⟩
    obtain ⟨x, hx, rfl⟩ := List.mem_map.mp hp
    exact refK_inj (of_decide_eq_true e) ▸ hx
  · intro hx
    exact ⟨relV r, List.mem_map.mpr ⟨r, hx, rfl⟩, decide_eq_true rfl⟩
theorem rd_Plain_end {K : Fr} {cl : Str → Addr} {p vs h Q} {X : XQ} (gd : Good K Q) (q : (fs_Plain_end cl).pre p vs h) (hp : ∀ v h', (fs_Plain_end cl).post p h v h' → Q v h') (hx : ∀ C v h', (fs_Plain_end cl).xpost p h C v h' → X C v h') :
    r_Plain_end cl (fun _ h' => Q .non h') Q (fun _ _ => False) (fun _ _ => False) (fun C v _ h' => X C v h') (startV ["self", "ref", "passed", "thing"] vs) h := by
  obtain ⟨p, d, m, r⟩ := p
  obtain ⟨rfl, P, ty⟩ := q
  show r_Plain_end _ _ _ _ _ _ [some (.ref p), some r.v, none, none] h
  unfold r_Plain_end
  walk_at "zgo"
  intro b hb
  have ex : Ext h (hup h b (.dT [])) := Ext.refl.hup hb
  have pb : p ≠ b := fun z => by have := P.ins; rw [z, hb] at this; cases this
  have db : d ≠ b := fun z => by have := P.dct; rw [z, hb] at this; cases this
  have P1 : PlainAt cl (hup h b (.dT [])) p d m := P.keep (hup_ne pb) (hup_ne db)
  have hi := P1.ins
  walk_at "zgo"
  refine ⟨(p, d, m, r), ⟨rfl, P1⟩, fun v h' ⟨t, g, a, c⟩ => ?_, fun C x h' ⟨e, a, c, f⟩ => ?_⟩
  rotate_left
  · subst a c f
    exact hx _ _ _ ⟨e, rfl, rfl, ex⟩
  subst a c
  have fin : ∀ h', Ext h h' → ∀ v, v = orf (endT m r) → Q v h' := fun h' e v ev => gd.drop (h' := h) (fun a o ha => e a o ha) (hp _ _ ⟨⟨t, g⟩, ev, rfl⟩)
  walk_at "zgo"
  refine while_inv (fun k ρ h' => ∃ (xs : List RefD) (cur : RefD) (th : Thing), ρ = [some (.ref p), some cur.v, some (.ref b), some th.v] ∧ Path m r xs cur ∧ xs.Nodup ∧ getT m cur = some th ∧ h' = hup h b (.dT (xs.map relV)) ∧ k = m.length + 1 - xs.length) _ ⟨[], r, t, rfl, .nil, List.nodup_nil, g, rfl, rfl⟩ ?_
  rintro k ρ h' ⟨xs, cur, th, rfl, pa, nd, gc, rfl, rfl⟩
  have P2 : PlainAt cl (hup h b (.dT (xs.map relV))) p d m := P.keep (hup_ne pb) (hup_ne db)
  have ex2 : Ext h (hup h b (.dT (xs.map relV))) := Ext.refl.hup hb
  have hi2 := P2.ins
  have ld := pa.len nd
  cases th with
  | relay nx =>
    unfold Thing.v
    walk_at "zgo"
    rw [refK_v cur]
    refine ⟨_, .t (refK cur) hup_same, ?_⟩
    rw [rel_get]
    by_cases c : cur ∈ xs
    · rw [decide_eq_true c]
      walk_at "zgo"
      exact fin _ ex2 _ (by rw [pa.round nd c]; rfl)
    · rw [decide_eq_false c]
      walk_at "zgo"
      refine ⟨_, .t (refK cur) hup_same (by rw [List.length_map]; have := ty.len; omega), ?_⟩
      rw [rel_put c, hup_hup]
      obtain ⟨t2, g2⟩ := ty.cls cur nx gc
      have P3 : PlainAt cl (hup h b (.dT ((xs ++ [cur]).map relV))) p d m := P.keep (hup_ne pb) (hup_ne db)
      have hi3 := P3.ins
      walk_at "zgo"
      refine dg_get P3.dct g2 ?_
      walk_at "zgo"
      refine ⟨m.length + 1 - (xs ++ [cur]).length, by rw [List.length_append]; simp; omega, xs ++ [cur], nx, t2, rfl, .step pa gc, ?_, g2, rfl, rfl⟩
      rw [List.nodup_append]
      exact ⟨nd, by simp, fun x hx y hy => by simp at hy; subst hy; exact fun e => c (e ▸ hx)⟩
  | box w =>
    unfold Thing.v
    walk_at "zgo"
    exact fin _ ex2 _ (by rw [pa.found nd fun q e => by rw [gc] at e; cases e]; rfl)
  | shelf w =>
    unfold Thing.v
    walk_at "zgo"
    exact fin _ ex2 _ (by rw [pa.found nd fun q e => by rw [gc] at e; cases e]; rfl)
  | maker =>
    unfold Thing.v
    walk_at "zgo"
    exact fin _ ex2 _ (by rw [pa.found nd fun q e => by rw [gc] at e; cases e]; rfl)
  | stone =>
    unfold Thing.v
    walk_at "zgo"
    exact fin _ ex2 _ (by rw [pa.found nd fun q e => by rw [gc] at e; cases e]; rfl)
/-! LP2 -/


/-! ### a Plain made, and called -/
def houseT (i : Nat) : Nat → List Thing → TM
  | _, [] => []
  | j, t :: ts => (.thing (i : Int) (j : Int), t) :: houseT i (j + 1) ts
def worldT : Nat → Rooms → TM
  | _, [] => []
  | i, hs :: ws => houseT i 0 hs ++ worldT (i + 1) ws
def thingsOf (ws : Rooms) : TM := worldT 0 ws
theorem getT_app {m n : TM} {r : RefD} : getT (m ++ n) r = match getT m r with
    | some t => some t
    | none => getT n r := by
  induction m with
  | nil => rfl
  | cons p m ih =>
    show (if p.1 = r then some p.2 else getT (m ++ n) r) = match (if p.1 = r then some p.2 else getT m r) with
      | some t => some t
      | none => getT n r
    by_cases c : p.1 = r
    · rw [if_pos c, if_pos c]
    · rw [if_neg c, if_neg c, ih]
theorem houseT_get {i : Nat} : ∀ {ts : List Thing} {j : Nat} {a b : Int}, getT (houseT i j ts) (.thing a b) = if a = i ∧ (j : Int) ≤ b then ts[(b - j).toNat]? else none
  | [], j, a, b => by
    show none = _
    split <;> simp
  | t :: ts, j, a, b => by
    unfold houseT getT
    by_cases c : RefD.thing (i : Int) (j : Int) = .thing a b
    · cases c
      rw [if_pos rfl, if_pos ⟨rfl, Int.le_refl _⟩]
      simp
    · rw [if_neg c, houseT_get]
      by_cases d : a = i ∧ (j : Int) ≤ b
      · have hne : b ≠ j := fun e => c (by rw [d.1, e])
        rw [if_pos d, if_pos ⟨d.1, by push_cast; omega⟩]
        have : (b - j).toNat = (b - ((j + 1 : Nat) : Int)).toNat + 1 := by push_cast; omega
        rw [this]
        rfl
      · rw [if_neg d, if_neg fun z => d ⟨z.1, by have := z.2; push_cast at this; omega⟩]
theorem houseT_made {i : Nat} : ∀ {ts : List Thing} {j : Nat} {a b c : Int}, getT (houseT i j ts) (.made a b c) = none
  | [], _, _, _, _ => rfl
  | t :: ts, j, a, b, c => by
    unfold houseT getT
    rw [if_neg (by simp), houseT_made]
theorem worldT_get : ∀ {ws : Rooms} {s : Nat} {a b : Int}, getT (worldT s ws) (.thing a b) = if (s : Int) ≤ a ∧ 0 ≤ b then (ws[(a - s).toNat]?).bind (·[b.toNat]?) else none
  | [], s, a, b => by
    show none = _
    split <;> simp
  | hs :: ws, s, a, b => by
    unfold worldT
    rw [getT_app, houseT_get, worldT_get]
    by_cases c : a = s
    · subst c
      rw [if_neg (show ¬ (((s + 1 : Nat) : Int) ≤ (s : Int) ∧ 0 ≤ b) by push_cast; omega)]
      by_cases d : 0 ≤ b
      · rw [if_pos ⟨rfl, by simpa using d⟩, if_pos ⟨Int.le_refl _, d⟩]
        simp
        cases hs[b.toNat]? <;> rfl
      · rw [if_neg (by simpa using d), if_neg (by simp [d])]
    · rw [if_neg (by simp [c])]
      by_cases d : (s : Int) ≤ a ∧ 0 ≤ b
      · rw [if_pos d, if_pos ⟨by have := d.1; push_cast; omega, d.2⟩]
        have : (a - s).toNat = (a - ((s + 1 : Nat) : Int)).toNat + 1 := by have := d.1; push_cast; omega
        rw [this]
        rfl
      · rw [if_neg d, if_neg fun z => d ⟨by have := z.1; push_cast at this; omega, z.2⟩]
theorem worldT_made : ∀ {ws : Rooms} {s : Nat} {a b c : Int}, getT (worldT s ws) (.made a b c) = none
  | [], _, _, _, _ => rfl
  | hs :: ws, s, a, b, c => by
    unfold worldT
    rw [getT_app, houseT_made, worldT_made]
theorem things_get (ws : Rooms) (r : RefD) : getT (thingsOf ws) r = thingAt ws r := by
  cases r with
  | made a b c => exact worldT_made
  | thing a b =>
    unfold thingsOf
    rw [worldT_get]
    show _ = if 0 ≤ a ∧ 0 ≤ b then (ws[a.toNat]?).bind (·[b.toNat]?) else none
    simp
theorem putT_new : ∀ {m : TM} {r : RefD} {t : Thing}, getT m r = none → putT m r t = m ++ [(r, t)]
  | [], _, _, _ => rfl
  | p :: m, r, t, h => by
    unfold getT at h
    unfold putT
    by_cases c : p.1 = r
    · rw [if_pos c] at h; cases h
    · rw [if_neg c] at h ⊢
      rw [putT_new h]
      rfl
theorem houseT_snoc (i : Nat) : ∀ (ts : List Thing) (j : Nat) (t : Thing), houseT i j (ts ++ [t]) = houseT i j ts ++ [(.thing (i : Int) ((j + ts.length : Nat) : Int), t)]
  | [], j, t => by simp [houseT]
  | x :: ts, j, t => by
    show _ :: houseT i (j + 1) (ts ++ [t]) = _
    rw [houseT_snoc i ts (j + 1) t]
    simp [houseT]
    omega
theorem worldT_snoc : ∀ (ws : Rooms) (s : Nat) (hs : List Thing), worldT s (ws ++ [hs]) = worldT s ws ++ houseT (s + ws.length) 0 hs
  | [], s, hs => by simp [worldT]
  | x :: ws, s, hs => by
    show houseT s 0 x ++ worldT (s + 1) (ws ++ [hs]) = _
    rw [worldT_snoc ws (s + 1) hs]
    simp [worldT, Nat.add_comm, Nat.add_left_comm]
theorem keysT_app (m n : TM) : keysT (m ++ n) = keysT m ++ keysT n := by simp [keysT]
theorem houseT_nd (i : Nat) : ∀ (ts : List Thing) (j : Nat), (keysT (houseT i j ts)).Nodup
  | [], _ => by simp [houseT, keysT]
  | t :: ts, j => by
    show (RefD.thing (i : Int) (j : Int) :: keysT (houseT i (j + 1) ts)).Nodup
    refine List.nodup_cons.mpr ⟨fun h => ?_, houseT_nd i ts (j + 1)⟩
    have := getT_key.mpr h
    rw [houseT_get, if_neg (by push_cast; omega)] at this
    cases this
theorem worldT_nd : ∀ (ws : Rooms) (s : Nat), (keysT (worldT s ws)).Nodup
  | [], _ => by simp [worldT, keysT]
  | hs :: ws, s => by
    unfold worldT
    rw [keysT_app, List.nodup_append]
    refine ⟨houseT_nd s hs 0, worldT_nd ws (s + 1), fun x hx y hy e => ?_⟩
    subst e
    have h1 := getT_key.mpr hx
    have h2 := getT_key.mpr hy
    cases x with
    | made a b c => rw [houseT_made] at h1; cases h1
    | thing a b =>
      rw [houseT_get] at h1
      rw [worldT_get] at h2
      split at h1
      · rename_i c
        rw [if_neg (by have := c.1; push_cast; omega)] at h2
        cases h2
      · cases h1
theorem houseT_len (i : Nat) : ∀ (ts : List Thing) (j : Nat), (houseT i j ts).length = ts.length
  | [], _ => rfl
  | t :: ts, j => congrArg (· + 1) (houseT_len i ts (j + 1))
theorem worldT_len : ∀ (ws : Rooms) (s : Nat), (worldT s ws).length = (ws.map List.length).sum
  | [], _ => rfl
  | hs :: ws, s => by
    unfold worldT
    rw [List.length_append, houseT_len, worldT_len]
    simp
theorem houseT_mem {i : Nat} : ∀ {ts : List Thing} {j : Nat} {p : RefD × Thing}, p ∈ houseT i j ts → p.2 ∈ ts
  | t :: ts, j, p, h => by
    rcases List.mem_cons.mp h with rfl | h
    · simp
    · exact List.mem_cons_of_mem _ (houseT_mem h)
theorem worldT_mem : ∀ {ws : Rooms} {s : Nat} {p : RefD × Thing}, p ∈ worldT s ws → ∃ hs ∈ ws, p.2 ∈ hs
  | hs :: ws, s, p, h => by
    rcases List.mem_append.mp h with h | h
    · exact ⟨hs, by simp, houseT_mem h⟩
    · obtain ⟨gs, hg, hp⟩ := worldT_mem h
      exact ⟨gs, List.mem_cons_of_mem _ hg, hp⟩
theorem in_at {ws : Rooms} {r : RefD} (h : In (ws.map List.length) r) : ∃ t, thingAt ws r = some t := by
  cases r with
  | made a b c => exact h.elim
  | thing a b =>
    obtain ⟨k, a0, e, b0, bk⟩ := h
    rw [List.getElem?_map] at e
    obtain ⟨hs, e1, rfl⟩ := Option.map_eq_some_iff.mp e
    have hb : b.toNat < hs.length := by omega
    refine ⟨hs[b.toNat], ?_⟩
    show (if 0 ≤ a ∧ 0 ≤ b then (ws[a.toNat]?).bind (·[b.toNat]?) else none) = _
    rw [if_pos ⟨a0, b0⟩, e1]
    exact List.getElem?_eq_getElem hb
theorem at_mem {ws : Rooms} {r : RefD} {t : Thing} (h : thingAt ws r = some t) : ∃ hs ∈ ws, t ∈ hs := by
  cases r with
  | made a b c => cases h
  | thing a b =>
    have h2 : (if 0 ≤ a ∧ 0 ≤ b then (ws[a.toNat]?).bind (·[b.toNat]?) else none) = some t := h
    split at h2
    · obtain ⟨hs, e1, e2⟩ := Option.bind_eq_some_iff.mp h2
      exact ⟨hs, List.mem_of_getElem? e1, List.mem_of_getElem? e2⟩
    · cases h2
theorem WorldOk.tidy {ws : Rooms} (o : WorldOk ws) : Tidy (thingsOf ws) := by
  refine ⟨worldT_nd ws 0, fun r q g => ?_, ?_, fun p hp => ?_⟩
  · rw [things_get] at g ⊢
    obtain ⟨hs, hh, ht⟩ := at_mem g
    exact in_at (o.ok hs hh _ ht)
  · unfold thingsOf
    rw [worldT_len]
    have := sum_le (ns := ws.map List.length) fun k hk => by
      obtain ⟨hs, hh, rfl⟩ := List.mem_map.mp hk
      exact o.house hs hh
    rw [List.length_map] at this
    have := o.most
    omega
  · obtain ⟨hs, hh, ht⟩ := worldT_mem hp
    exact Nat.le_trans (refs_ok (o.ok hs hh _ ht)) (by decide)
def fs_Plain___init__ (cl : Str → Addr) : FS where
  P := Addr × Rooms
  pre := fun (a, ws) vs h => vs = [.ref a, worldV cl ws] ∧ h a = some (.ins (cl "Plain") []) ∧ WorldOk ws
  post := fun (a, ws) h r h' => r = .non ∧ ∃ d, h d = none ∧ h' = hup (hup h a (.ins (cl "Plain") [("things_kept", .ref d)])) d (.dT (encT (thingsOf ws)))
theorem c_Plain_mk {cl : Str → Addr} {ws : Rooms} {h : Hh} {E : XQ} {Q : KQ} (o : WorldOk ws) (k : ∀ p d h', h p = none → h d = none → PlainAt cl h' p d (thingsOf ws) → (∀ c, c ≠ p → c ≠ d → h' c = h c) → Q (.ref p) h') :
    ∀ a, h a = none → (fs_Plain___init__ cl).sp (.ref a :: ([worldV cl ws] ++ [])) (hup h a (.ins (cl "Plain") [])) E (fun v h2 => v = .non ∧ MkEnd (cl "Plain") a h2 Q) := fun a ha =>
  ⟨(a, ws), ⟨rfl, hup_same, o⟩, fun v h' ⟨e, d, hd, e2⟩ => by
    subst e e2
    have da : d ≠ a := fun z => by rw [z, hup_same] at hd; cases hd
    rw [hup_ne da] at hd
    refine ⟨rfl, .inl (k a d _ ha hd ⟨by rw [hup_ne da.symm]; exact hup_same, hup_same⟩ fun c c1 c2 => ?_)⟩
    rw [hup_ne c2, hup_ne c1, hup_ne c1], fun _ _ _ z => z.elim⟩
def r_Plain___init__ (cl : Str → Addr) : WS :=
  wSeq (wFldS (cl "Plain") (wVar 0) (wDNewT) "things_kept")
  (wFor (wiR1 (wCB (cLenO (cl "World") (fs_World___len__ cl)) (wCons (wVar 1) (wNil)))) (wgName 2)
  (wFor (wiE (wMeth (cl "World") "house" (fs_World_house cl) [] (wVar 1) (wCons (wVar 2) (wNil)))) (wgTup 2 (wgCons (wgName 3) (wgCons (wgName 4) (wgNil))))
  (wDPut (wFld (cl "Plain") (wVar 0) "things_kept") (wTup (wCons (wC (.str "thing")) (wCons (wVar 2) (wCons (wVar 3) (wNil))))) (wVar 4))))

theorem rd_Plain___init__ {K : Fr} {cl : Str → Addr} {p vs h Q} {X : XQ} (gd : Good K Q) (q : (fs_Plain___init__ cl).pre p vs h) (hp : ∀ v h', (fs_Plain___init__ cl).post p h v h' → Q v h') :
    r_Plain___init__ cl (fun _ h' => Q .non h') Q (fun _ _ => False) (fun _ _ => False) (fun C v _ h' => X C v h') (startV ["self", "world", "house", "number", "thing"] vs) h := by
  obtain ⟨a, ws⟩ := p
  obtain ⟨rfl, ha, ok⟩ := q
  have sm := ok.small
  have hml := ok.most
  show r_Plain___init__ _ _ _ _ _ _ [some (.ref a), some (worldV cl ws), none, none, none] h
  unfold r_Plain___init__
  walk_at "zgo"
  intro d hd
  have da : d ≠ a := fun z => by rw [z, ha] at hd; cases hd
  have ha1 : hup h d (.dT []) a = some (.ins (cl "Plain") []) := by rw [hup_ne da.symm]; exact ha
  walk_at "zgo"
  refine ⟨a, [], rfl, ha1, by decide, ?_⟩
  show wFor _ _ _ _ _ _ _ _ _ (hup (hup h d (.dT [])) a (.ins (cl "Plain") [("things_kept", .ref d)]))
  rw [hup_comm da]
  have ln : ((ws.map houseV).length : Int) = ws.length := by rw [List.length_map]
  generalize hH : hup h a (.ins (cl "Plain") [("things_kept", .ref d)]) = h0
  have ea : h0 a = some (.ins (cl "Plain") [("things_kept", .ref d)]) := by rw [← hH]; exact hup_same
  walk_at "zgo"
  refine c_World_len sm ⟨_, rfl, ⟨by omega, by omega⟩, ?_⟩
  walk_at "zgo"
  refine for_inv (fun i ρ h' => (∃ b c e : Option Val, ρ = [some (.ref a), some (worldV cl ws), b, c, e]) ∧ h' = hup h0 d (.dT (encT (worldT 0 (ws.take i)))) ∧ i ≤ ws.length) ⟨⟨_, _, _, rfl⟩, rfl, Nat.zero_le _⟩ ?_
  rintro i ρ h' ⟨⟨b, c, e, rfl⟩, rfl, hi⟩
  refine ⟨trivial, fun hi2 => ?_, fun z hz => ?_⟩
  · rw [rng_len] at hi2
    rw [List.take_of_length_le (by simp at hi2; omega)]
    refine hp _ _ ⟨rfl, d, hd, ?_⟩
    rw [hH]
    rfl
  obtain ⟨hi3, rfl⟩ := rng_get hz
  have hi4 : i < ws.length := by simpa using hi3
  have hw : ws[i]? = some ws[i] := List.getElem?_eq_getElem hi4
  have hm := List.getElem_mem hi4
  have l12 := ok.house _ hm
  have ea2 : ∀ m, hup h0 d (.dT m) a = some (.ins (cl "Plain") [("things_kept", .ref d)]) := fun m => by rw [hup_ne da.symm]; exact ea
  walk_at "zgo"
  refine c_World_house (hs := ws[i]) (n := 0 + (i : Int)) sm (by omega) (by rw [show ((0 : Int) + (i : Int)).toNat = i by omega]; exact hw) ?_
  unfold houseV
  walk_at "zgo"
  refine for_inv (fun j ρ h' => (∃ c e : Option Val, ρ = [some (.ref a), some (worldV cl ws), some (.int (0 + (i : Int))), c, e]) ∧ h' = hup h0 d (.dT (encT (worldT 0 (ws.take i) ++ houseT i 0 (ws[i].take j)))) ∧ j ≤ ws[i].length) ⟨⟨_, _, rfl⟩, by simp [houseT], Nat.zero_le _⟩ ?_
  rintro j ρ h' ⟨⟨c, e, rfl⟩, rfl, hj⟩
  have et : ws.take (i + 1) = ws.take i ++ [ws[i]] := by rw [List.take_succ, hw]; rfl
  have wl : (ws.take i).length = i := by rw [List.length_take]; omega
  refine ⟨trivial, fun hj2 => ?_, fun z hz => ?_⟩
  · rw [enumV_len, List.length_map] at hj2
    rw [List.take_of_length_le hj2]
    refine ⟨⟨_, _, _, rfl⟩, ?_, by omega⟩
    rw [et, worldT_snoc, wl, Nat.zero_add]
  obtain ⟨x, hx, rfl⟩ := enum_get hz
  obtain ⟨th, hth, rfl⟩ := map_get hx
  have hjl := (List.getElem?_eq_some_iff.mp hth).1
  have eas := ea2 (encT (worldT 0 (ws.take i) ++ houseT i 0 (ws[i].take j)))
  have new : getT (worldT 0 (ws.take i) ++ houseT i 0 (ws[i].take j)) (.thing (i : Int) (j : Int)) = none := by
    rw [getT_app, worldT_get]
    have e1 : (ws.take i)[((i : Int) - (0 : Nat)).toNat]? = none := List.getElem?_eq_none (by rw [wl]; simp)
    rw [e1]
    rw [show (if ((0 : Nat) : Int) ≤ (i : Int) ∧ (0 : Int) ≤ (j : Int) then (none : Option (List Thing)).bind (·[(j : Int).toNat]?) else none) = none by split <;> rfl]
    show getT (houseT i 0 (ws[i].take j)) (.thing (i : Int) (j : Int)) = none
    rw [houseT_get]
    split
    · exact List.getElem?_eq_none (by rw [List.length_take]; simp; omega)
    · rfl
  have nd : (keysT (worldT 0 (ws.take i) ++ houseT i 0 (ws[i].take j))).Nodup := by
    have := worldT_nd (ws.take i ++ [ws[i].take j]) 0
    rw [worldT_snoc, wl, Nat.zero_add] at this
    exact this
  have lm : (worldT 0 (ws.take i) ++ houseT i 0 (ws[i].take j)).length ≤ 1000 := by
    rw [List.length_append, worldT_len, houseT_len, List.length_take]
    have := sum_le (ns := (ws.take i).map List.length) fun k hk => by
      obtain ⟨hs, hh, rfl⟩ := List.mem_map.mp hk
      exact ok.house hs (List.mem_of_mem_take hh)
    rw [List.length_map, wl] at this
    omega
  walk_at "zgo"
  rw [Int.zero_add]
  refine dg_put (r := .thing (i : Int) (j : Int)) hup_same nd (by omega) ?_
  rw [hup_hup, putT_new new]
  refine ⟨⟨_, _, rfl⟩, ?_, by omega⟩
  rw [List.take_succ, hth]
  show _ = hup h0 d (.dT (encT (worldT 0 (ws.take i) ++ houseT i 0 (ws[i].take j ++ [th]))))
  rw [houseT_snoc, List.append_assoc]
  have : (0 + (ws[i].take j).length) = j := by rw [List.length_take]; omega
  rw [this]
/-! LP3 -/


/-! ### a Plain called -/
def RefD.house : RefD → Int
  | .thing a _ => a
  | .made a _ _ => a
theorem ix_house {r : RefD} {h : Hh} {Q : KQ} (k : Q (.int r.house) h) : wIx r.v (.int 1) h Q := by
  cases r <;> exact ⟨_, _, rfl, .tup rfl, k⟩
/-- the calls of a Plain; none: the box is there -/
def callT (m : TM) (r : RefD) (word : Str) (w : Option Wo) (k j : Int) : Option (TM × Wo) :=
  match endT m r with
  | none => some (m, .brk "ring")
  | some e => match getT m e with
    | none => none
    | some t => match (doneF t word w (some (.made e.house k j))).2.1 with
      | none => none
      | some a => match (doneF t word w (some (.made e.house k j))).2.2 with
        | none => some (putT m e (doneF t word w (some (.made e.house k j))).1, a)
        | some b => if (getT m (.made e.house k j)).isSome then none else some (putT (putT m e (doneF t word w (some (.made e.house k j))).1) (.made e.house k j) b, a)
theorem Tidy.put {m : TM} {r : RefD} {t : Thing} (ty : Tidy m) (hl : m.length + 1 ≤ 1000000) (hr : ∀ q, t ≠ .relay q) (hs : t.refs.length ≤ 1000) : Tidy (putT m r t) := by
  refine ⟨putT_nodup ty.nd, fun s q g => ?_, Nat.le_trans putT_len hl, fun p hp => ?_⟩
  · rw [getT_put] at g ⊢
    split at g
    · cases g; exact absurd rfl (hr q)
    · obtain ⟨u, hu⟩ := ty.cls s q g
      split
      · exact ⟨_, rfl⟩
      · exact ⟨u, hu⟩
  · have : ∀ {m : TM}, p ∈ putT m r t → p = (r, t) ∨ p ∈ m := fun {m} => by
      induction m with
      | nil => intro h; simp [putT] at h; exact .inl h
      | cons x m ih =>
        intro h
        unfold putT at h
        split at h
        · rcases List.mem_cons.mp h with h | h
          · exact .inl h
          · exact .inr (List.mem_cons_of_mem _ h)
        · rcases List.mem_cons.mp h with h | h
          · exact .inr (by simp [h])
          · rcases ih h with h | h
            · exact .inl h
            · exact .inr (List.mem_cons_of_mem _ h)
    rcases this hp with rfl | h
    · exact hs
    · exact ty.refs p h
theorem done_norel {t : Thing} {z : Str} {w : Option Wo} {r : Option RefD} (hrel : ∀ q, t ≠ .relay q) : (∀ q, (doneF t z w r).1 ≠ .relay q) ∧ (doneF t z w r).1.refs.length ≤ max t.refs.length 0 ∧ ∀ b, (doneF t z w r).2.2 = some b → ∃ n, b = .box n := by
  unfold doneF
  repeat' split
  all_goals first
    | exact ⟨fun q => hrel q, by simp, fun b h => by have h : (none : Option Thing) = some b := h; cases h⟩
    | exact ⟨fun q => by simp, by simp [Thing.refs], fun b h => ⟨_, (Option.some.inj h).symm⟩⟩
    | exact ⟨fun q => by simp, by simp [Thing.refs], fun b h => absurd (show (none : Option Thing) = some b from h) (Option.some_ne_none b).symm⟩
    | exact absurd rfl (hrel _)
theorem callT_tidy {m m' : TM} {r : RefD} {word : Str} {w : Option Wo} {k j : Int} {a : Wo} (ty : Tidy m) (hl : m.length + 2 ≤ 1000000) (g : ∃ t, getT m r = some t) (e : callT m r word w k j = some (m', a)) : Tidy m' ∧ m'.length ≤ m.length + 1 := by
  unfold callT at e
  cases he : endT m r with
  | none => rw [he] at e; cases e; exact ⟨ty, by omega⟩
  | some s =>
    rw [he] at e
    obtain ⟨t, ht, hr⟩ := endT_some ty.cls g he
    obtain ⟨h1, h2, h3⟩ := done_norel (t := t) (z := word) (w := w) (r := some (.made s.house k j)) hr
    have hrf : t.refs.length ≤ 1000 := by
      have : ∀ {m : TM}, getT m s = some t → (s, t) ∈ m := fun {m} => by
        induction m with
        | nil => intro h; cases h
        | cons x m ih =>
          intro h
          unfold getT at h
          split at h
          · rename_i c; cases h; subst c; simp
          · exact List.mem_cons_of_mem _ (ih h)
      exact ty.refs _ (this ht)
    have ss : (getT m s).isSome = true := by rw [ht]; rfl
    dsimp only at e
    rw [ht] at e
    dsimp only at e
    have len1 : (putT m s (doneF t word w (some (.made s.house k j))).1).length = m.length := by
      have := congrArg List.length (keysT_put (m := m) (r := s) (t := (doneF t word w (some (.made s.house k j))).1))
      rw [if_pos (getT_key.mp ss)] at this
      simpa [keysT] using this
    have ty1 : Tidy (putT m s (doneF t word w (some (.made s.house k j))).1) := ty.put (by omega) h1 (by omega)
    generalize hd : doneF t word w (some (.made s.house k j)) = d at *
    obtain ⟨d1, d2, d3⟩ := d
    cases d2 with
    | none => cases e
    | some a2 =>
      cases d3 with
      | none => cases e; exact ⟨ty1, by omega⟩
      | some b =>
        dsimp only at e
        split at e
        · cases e
        · cases e
          obtain ⟨n, rfl⟩ := h3 b rfl
          refine ⟨ty1.put (by omega) (fun q => by simp) (by simp [Thing.refs]), ?_⟩
          refine Nat.le_trans putT_len ?_
          rw [len1]
          exact Nat.le_refl _
abbrev PCall := Addr × Addr × TM × RefD × Str × Option Wo × Int × Int
/-- the box that would be made is there -/
def twiceT (m : TM) (r : RefD) (word : Str) (w : Option Wo) (k j : Int) (b : RefD) : Prop := ∃ e t, endT m r = some e ∧ getT m e = some t ∧ b = .made e.house k j ∧ (doneF t word w (some b)).2.2 ≠ none ∧ (getT m b).isSome = true
def fs_Plain_call (cl : Str → Addr) : FS where
  P := PCall
  pre := fun (p, d, m, r, word, w, k, j) vs h => vs = [.ref p, r.v, .str word, ov w, .int k, .int j] ∧ PlainAt cl h p d m ∧ Tidy m ∧ (w = none → word = "get")
  post := fun (p, d, m, r, word, w, k, j) h v h' => (∃ t, getT m r = some t) ∧ ∃ m' a, callT m r word w k j = some (m', a) ∧ v = a.v ∧ h' = hup h d (.dT (encT m'))
  xpost := fun (p, d, m, r, word, w, k, j) h C x h' => Ext h h' ∧ ((getT m r = none ∧ C = cl "NoThing" ∧ x = r.v) ∨ ∃ b, (∃ t, getT m r = some t) ∧ twiceT m r word w k j b ∧ C = cl "Twice" ∧ x = b.v)
theorem callT_twice {m : TM} {r b : RefD} {word : Str} {w : Option Wo} {k j : Int} (t : twiceT m r word w k j b) : callT m r word w k j = none := by
  obtain ⟨e, t, h1, h2, h3, h4, h5⟩ := t
  subst h3
  unfold callT
  rw [h1]
  dsimp only
  rw [h2]
  dsimp only
  cases q : (doneF t word w (some (.made e.house k j))).2.1 with
  | none => rfl
  | some a =>
    dsimp only
    cases q2 : (doneF t word w (some (.made e.house k j))).2.2 with
    | none => exact absurd q2 h4
    | some x =>
      dsimp only
      rw [if_pos h5]
theorem c_Plain_call {cl : Str → Addr} {p d : Addr} {m m' : TM} {r : RefD} {t : Thing} {word : Str} {w : Option Wo} {k j : Int} {a : Wo} {h : Hh} {E : XQ} {Q : KQ} (P : PlainAt cl h p d m) (ty : Tidy m) (hw : w = none → word = "get") (g : getT m r = some t) (e : callT m r word w k j = some (m', a)) (q : Q a.v (hup h d (.dT (encT m')))) : (fs_Plain_call cl).sp [.ref p, r.v, .str word, ov w, .int k, .int j] h E Q :=
  ⟨(p, d, m, r, word, w, k, j), ⟨rfl, P, ty, hw⟩, fun v h' ⟨_, m2, a2, e2, b, c⟩ => by rw [e] at e2; cases e2; subst b c; exact q, fun C x h' ⟨_, z⟩ => by
    rcases z with z | ⟨b, _, z, _⟩
    · rw [g] at z; cases z.1
    · rw [callT_twice z] at e; cases e⟩
theorem some_done {th : Thing} {z : Str} {w : Option Wo} {r : RefD} (hrel : ∀ r, th ≠ .relay r) : ∃ u, (doneF th z w (some r)).2.1 = some u := by
  unfold doneF
  split
  · exact ⟨_, rfl⟩
  · split
    · exact ⟨_, rfl⟩
    · split
      · exact ⟨_, rfl⟩
      · split
        · split <;> exact ⟨_, rfl⟩
        · split
          · split <;> exact ⟨_, rfl⟩
          · exact ⟨_, rfl⟩
    · split
      · split
        · split
          · exact ⟨_, rfl⟩
          · rename_i n hn
            rw [List.getElem?_eq_getElem (by omega)]
            exact ⟨_, rfl⟩
        · exact ⟨_, rfl⟩
      · exact ⟨_, rfl⟩
    · split
      · split <;> exact ⟨_, rfl⟩
      · exact ⟨_, rfl⟩
    · exact absurd rfl (hrel _)
def r_Plain_call (cl : Str → Addr) : WS :=
  wSeq (wAsg (wMeth (cl "Plain") "end" (fs_Plain_end cl) [] (wVar 0) (wCons (wVar 1) (wNil))) (wgName 6))
  (wSeq (wIf (wTv (wIsN (wVar 6))) (wRet (wTup (wCons (wC (.str "broken")) (wCons (wC (.str "ring")) (wNil))))) (wNext))
  (wSeq (wAsg (wTup (wCons (wC (.str "made")) (wCons (wOp wIx (wVar 6) (wC (.int 1))) (wCons (wVar 4) (wCons (wVar 5) (wNil)))))) (wgName 7))
  (wSeq (wAsg (wCall fs_done [] (wCons (wDGet (wFld (cl "Plain") (wVar 0) "things_kept") (wVar 6)) (wCons (wVar 2) (wCons (wVar 3) (wCons (wVar 7) (wNil)))))) (wgTup 3 (wgCons (wgName 8) (wgCons (wgName 9) (wgCons (wgName 10) (wgNil))))))
  (wSeq (wIf (wAnd (wTv (wNotN (wVar 10))) (wTv (wDIn false (wVar 7) (wFld (cl "Plain") (wVar 0) "things_kept")))) (wRaise (cl "Twice") (wVar 7)) (wNext))
  (wSeq (wDPut (wFld (cl "Plain") (wVar 0) "things_kept") (wVar 6) (wVar 8))
  (wSeq (wIf (wTv (wNotN (wVar 10))) (wDPut (wFld (cl "Plain") (wVar 0) "things_kept") (wVar 7) (wVar 10)) (wNext))
  (wRet (wVar 9))))))))

theorem rd_Plain_call {K : Fr} {cl : Str → Addr} {p vs h Q} {X : XQ} (gd : Good K Q) (q : (fs_Plain_call cl).pre p vs h) (hp : ∀ v h', (fs_Plain_call cl).post p h v h' → Q v h') (hx : ∀ C v h', (fs_Plain_call cl).xpost p h C v h' → X C v h') :
    r_Plain_call cl (fun _ h' => Q .non h') Q (fun _ _ => False) (fun _ _ => False) (fun C v _ h' => X C v h') (startV ["self", "ref", "word", "value", "asker", "row", "at", "made", "thing", "answer", "box"] vs) h := by
  obtain ⟨p, d, m, r, word, w, k, j⟩ := p
  obtain ⟨rfl, P, ty, hw⟩ := q
  have hi := P.ins
  show r_Plain_call _ _ _ _ _ _ [some (.ref p), some r.v, some (.str word), some (ov w), some (.int k), some (.int j), none, none, none, none, none] h
  unfold r_Plain_call
  walk_at "zgo"
  refine ⟨(p, d, m, r), ⟨rfl, P, ty⟩, fun v h' ⟨⟨t0, g⟩, a, c⟩ => ?_, fun C x h' ⟨e, a, c, f⟩ => ?_⟩
  rotate_left
  · subst a c
    exact hx _ _ _ ⟨f, .inl ⟨e, rfl, rfl⟩⟩
  subst a c
  cases he : endT m r with
  | none =>
    show wSeq _ _ _ _ _ _ _ [some (.ref p), some r.v, some (.str word), some (ov w), some (.int k), some (.int j), some .non, none, none, none, none] _
    walk_at "zgo"
    refine hp _ _ ⟨⟨t0, g⟩, m, .brk "ring", ?_, rfl, ?_⟩
    · unfold callT; rw [he]
    · funext b
      unfold hup
      split
      · rename_i e; rw [e]; exact P.dct
      · rfl
  | some s =>
    obtain ⟨t, ht, hr⟩ := endT_some ty.cls ⟨t0, g⟩ he
    have hrf : t.refs.length ≤ 1000 := by
      have : ∀ {m : TM}, getT m s = some t → (s, t) ∈ m := fun {m} => by
        induction m with
        | nil => intro h; cases h
        | cons x m ih =>
          intro h
          unfold getT at h
          split at h
          · rename_i c; cases h; subst c; simp
          · exact List.mem_cons_of_mem _ (ih h)
      exact ty.refs _ (this ht)
    obtain ⟨a, ea⟩ := some_done (z := word) (w := w) (r := .made s.house k j) hr
    have hn : isNon s.v = false := by cases s <;> rfl
    show wSeq _ _ _ _ _ _ _ [some (.ref p), some r.v, some (.str word), some (ov w), some (.int k), some (.int j), some s.v, none, none, none, none] _
    walk_at "zgo"
    refine ix_house ?_
    walk_at "zgo"
    refine dg_get P.dct ht ?_
    walk_at "zgo"
    refine c_done (m := some (.made s.house k j)) ⟨hr, hw, by omega⟩ ?_
    have ec : callT m r word w k j = match (doneF t word w (some (.made s.house k j))).2.1 with
      | none => none
      | some a => match (doneF t word w (some (.made s.house k j))).2.2 with
        | none => some (putT m s (doneF t word w (some (.made s.house k j))).1, a)
        | some b => if (getT m (.made s.house k j)).isSome then none else some (putT (putT m s (doneF t word w (some (.made s.house k j))).1) (.made s.house k j) b, a) := by
      unfold callT
      rw [he]
      dsimp only
      rw [ht]
    have htw : (doneF t word w (some (.made s.house k j))).2.2 ≠ none → (getT m (.made s.house k j)).isSome = true → twiceT m r word w k j (.made s.house k j) := fun a b => ⟨s, t, he, ht, rfl, a, b⟩
    rw [ea] at ec
    dsimp only at ec
    generalize hd : doneF t word w (some (.made s.house k j)) = dn at *
    obtain ⟨d1, d2, d3⟩ := dn
    dsimp only at ea ec htw
    subst ea
    cases d3 with
    | none =>
      show wgTup _ _ (.tup [d1.v, a.v, .non]) _ _ _
      walk_at "zgo"
      refine dg_put P.dct ty.nd (by have := ty.len; omega) ?_
      walk_at "zgo"
      exact hp _ _ ⟨⟨t0, g⟩, _, _, ec, rfl, rfl⟩
    | some b =>
      show wgTup _ _ (.tup [d1.v, a.v, b.v]) _ _ _
      have hb : isNon b.v = false := by cases b <;> rfl
      walk_at "zgo"
      rw [hb]
      walk_at "zgo"
      rw [show (.tup [.str "made", .int s.house, .int k, .int j] : Val) = (RefD.made s.house k j).v from rfl]
      refine dg_in P.dct ?_
      dsimp only at ec
      cases gm : getT m (.made s.house k j) with
      | some u =>
        walk_at "zgo"
        exact hx _ _ _ ⟨Ext.refl, .inr ⟨.made s.house k j, ⟨t0, g⟩, htw (by simp) (by rw [gm]; rfl), rfl, rfl⟩⟩
      | none =>
        rw [gm] at ec
        walk_at "zgo"
        refine dg_put P.dct ty.nd (by have := ty.len; omega) ?_
        have P2 : PlainAt cl (hup h' d (.dT (encT (putT m s d1)))) p d (putT m s d1) := ⟨by rw [hup_ne P.ne]; exact hi, hup_same⟩
        have hi2 := P2.ins
        walk_at "zgo"
        rw [hb]
        walk_at "zgo"
        refine dg_put P2.dct (putT_nodup ty.nd) (by have := ty.len; have := putT_len (m := m) (r := s) (t := d1); omega) ?_
        rw [hup_hup]
        walk_at "zgo"
        exact hp _ _ ⟨⟨t0, g⟩, _, _, ec, rfl, rfl⟩
/-! ZR -/
/-! dicts with nested keys: their methods, walks; sorted -/
/-! ### methods by what their calls do -/
section
variable {X : Cx} {o e : Expr} {es : List Expr} {to : L2.TE} {t : L2.TA} {name : Str} {apos cpos : Pos} {T id : String}
end
/-! ### a dict with nested keys -/
/-- a method of such a dict, called -/
def wDM (m : WM) (to : WE) (t : WA) : WE := fun ρ h E Q => to ρ h E fun x h1 => (∃ a kvs, x = .ref a ∧ DctAt h1 a kvs) ∧ t ρ h1 E fun xs h2 => m x xs h2 Q
section
variable {X : Cx} {W : WX} {pos : Pos}
end
/-! ### len -/
/-! ZS -/
/-! walks over dicts with nested keys; sorted -/
/-! ### the keys, walked -/
section
variable {P : Program} {w : World} {K : PySem.W.Frag} {tg : Expr} {a d : Addr} {es : Array DictEntry} {ep : Nat}
end
section
variable {X : Cx} {tg e : Expr} {td : L2.TE} {apos cpos : Pos}
end
/-! ### the same, over values: the dict is locked meanwhile -/
def itemV (p : NestedKey × Val) : Val := .tup [keyN p.1, p.2]
def wiKN (t : WE) : WI := fun ρ h E G => t ρ h E fun v h1 => ∃ a kvs, v = .ref a ∧ DctAt h1 a kvs ∧ ∀ u, G (kvs.map fun p => keyN p.1) (fun h => h a = some (.lk u kvs)) (hup h1 a (.lk u kvs))
def wiIN (t : WE) : WI := fun ρ h E G => t ρ h E fun v h1 => ∃ a kvs, v = .ref a ∧ DctAt h1 a kvs ∧ ∀ u, G (kvs.map itemV) (fun h => h a = some (.lk u kvs)) (hup h1 a (.lk u kvs))
section
variable {X : Cx} {W : WX} {pos : Pos}
end
/-! ### sorted -/
/-! ZT -/
/-! sorted of a dict; sorted as a step -/
section
variable {prog : Program} {w : World} {d : Addr} {es : Array DictEntry} {ep : Nat}
end
/-! ### over values -/
/-! steps -/
theorem i_dm {m : WM} {to : WE} {t : WA} {ρ h E} {Q : KQ} (q : to ρ h E fun x h1 => (∃ a kvs, x = .ref a ∧ DctAt h1 a kvs) ∧ t ρ h1 E fun xs h2 => m x xs h2 Q) : wDM m to t ρ h E Q := q
theorem i_kn {t : WE} {ρ h E} {G : List Val → (Hh → Prop) → Hh → Prop} (q : t ρ h E fun v h1 => ∃ a kvs, v = .ref a ∧ DctAt h1 a kvs ∧ ∀ u, G (kvs.map fun p => keyN p.1) (fun h => h a = some (.lk u kvs)) (hup h1 a (.lk u kvs))) : wiKN t ρ h E G := q
theorem i_in {t : WE} {ρ h E} {G : List Val → (Hh → Prop) → Hh → Prop} (q : t ρ h E fun v h1 => ∃ a kvs, v = .ref a ∧ DctAt h1 a kvs ∧ ∀ u, G (kvs.map itemV) (fun h => h a = some (.lk u kvs)) (hup h1 a (.lk u kvs))) : wiIN t ρ h E G := q
/-! LG1 -/
/-! the steps: one macro -/
local macro_rules | `(tactic| walk_at "hlk") => `(tactic| first | assumption | with_reducible exact hup_same | ((with_reducible refine' (hup_ne ?nn).trans ?tt); (case nn => first | assumption | (refine Ne.symm ?_; assumption)); (case tt => walk_at "hlk")))
local macro_rules | `(tactic| walk_at "zgo") => `(tactic| repeat (first
  | with_reducible refine i_seq ?_
  | with_reducible refine i_op ?_
  | ((with_reducible refine g_var ?_); first
    | with_reducible refine i_var0 ?_
    | with_reducible refine i_var1 ?_
    | with_reducible refine i_var2 ?_
    | with_reducible refine i_var3 ?_
    | with_reducible refine i_var4 ?_
    | with_reducible refine i_var5 ?_
    | with_reducible refine i_var6 ?_
    | with_reducible refine i_var7 ?_
    | with_reducible refine i_var8 ?_
    | with_reducible refine i_var9 ?_
    | with_reducible refine i_var10 ?_
    | with_reducible refine i_var11 ?_
    | with_reducible refine i_var12 ?_
    | with_reducible refine i_var13 ?_
    | with_reducible refine i_var14 ?_
    | with_reducible refine i_var15 ?_
    | with_reducible refine i_var16 ?_
    | with_reducible refine i_var17 ?_
    | with_reducible refine i_var18 ?_
    | with_reducible refine i_var19 ?_
    | with_reducible refine i_var20 ?_
    | with_reducible refine i_var21 ?_
    | with_reducible refine i_var22 ?_
    | with_reducible refine i_var23 ?_
    | with_reducible refine i_var24 ?_
    | with_reducible refine i_var25 ?_)
  | with_reducible refine i_c ?_
  | with_reducible refine i_cons ?_
  | with_reducible refine i_nil ?_
  | with_reducible refine i_asg ?_
  | ((with_reducible refine g_name ?_); first
    | with_reducible refine i_name0 ?_
    | with_reducible refine i_name1 ?_
    | with_reducible refine i_name2 ?_
    | with_reducible refine i_name3 ?_
    | with_reducible refine i_name4 ?_
    | with_reducible refine i_name5 ?_
    | with_reducible refine i_name6 ?_
    | with_reducible refine i_name7 ?_
    | with_reducible refine i_name8 ?_
    | with_reducible refine i_name9 ?_
    | with_reducible refine i_name10 ?_
    | with_reducible refine i_name11 ?_
    | with_reducible refine i_name12 ?_
    | with_reducible refine i_name13 ?_
    | with_reducible refine i_name14 ?_
    | with_reducible refine i_name15 ?_
    | with_reducible refine i_name16 ?_
    | with_reducible refine i_name17 ?_
    | with_reducible refine i_name18 ?_
    | with_reducible refine i_name19 ?_
    | with_reducible refine i_name20 ?_
    | with_reducible refine i_name21 ?_
    | with_reducible refine i_name22 ?_
    | with_reducible refine i_name23 ?_
    | with_reducible refine i_name24 ?_
    | with_reducible refine i_name25 ?_)
  | ((with_reducible refine g_tg1 ?_); first
    | with_reducible refine i_tg1_0 ?_
    | with_reducible refine i_tg1_1 ?_
    | with_reducible refine i_tg1_2 ?_
    | with_reducible refine i_tg1_3 ?_
    | with_reducible refine i_tg1_4 ?_
    | with_reducible refine i_tg1_5 ?_
    | with_reducible refine i_tg1_6 ?_
    | with_reducible refine i_tg1_7 ?_
    | with_reducible refine i_tg1_8 ?_
    | with_reducible refine i_tg1_9 ?_
    | with_reducible refine i_tg1_10 ?_
    | with_reducible refine i_tg1_11 ?_
    | with_reducible refine i_tg1_12 ?_
    | with_reducible refine i_tg1_13 ?_
    | with_reducible refine i_tg1_14 ?_
    | with_reducible refine i_tg1_15 ?_
    | with_reducible refine i_tg1_16 ?_
    | with_reducible refine i_tg1_17 ?_
    | with_reducible refine i_tg1_18 ?_
    | with_reducible refine i_tg1_19 ?_
    | with_reducible refine i_tg1_20 ?_
    | with_reducible refine i_tg1_21 ?_
    | with_reducible refine i_tg1_22 ?_
    | with_reducible refine i_tg1_23 ?_)
  | with_reducible refine i_yes ?_
  | with_reducible refine i_if ?_
  | with_reducible refine i_tv ?_
  | with_reducible refine i_bl ?_
  | with_reducible refine i_blV ?_
  | ((with_reducible refine g_if ?_); first
    | with_reducible refine iteT ?_
    | with_reducible refine iteF ?_
    | ((with_reducible refine' i_ifdt ?cc ?_); (case cc => first | decide | omega | assumption | decide +kernel))
    | ((with_reducible refine' i_ifdf ?cc ?_); (case cc => first | decide | omega | assumption | decide +kernel))
    | ((with_reducible refine' i_ifnt ?cc ?_); (case cc => first | decide | omega | assumption | decide +kernel))
    | ((with_reducible refine' i_ifnf ?cc ?_); (case cc => first | decide | omega | assumption | decide +kernel))
    | ((with_reducible refine' i_ift ?cc ?_); (case cc => first | assumption | rfl))
    | ((with_reducible refine' i_iff ?cc ?_); (case cc => first | assumption | rfl)))
  | with_reducible refine i_eqT ?_
  | with_reducible refine i_neT ?_
  | with_reducible refine i_eqI ?_
  | with_reducible refine i_neI ?_
  | with_reducible refine i_eqB ?_
  | with_reducible refine i_neB ?_
  | with_reducible refine i_lt ?_
  | with_reducible refine i_le ?_
  | with_reducible refine i_gt ?_
  | with_reducible refine i_ge ?_
  | with_reducible refine i_add ?_
  | with_reducible refine i_sub ?_
  | with_reducible refine i_and ?_
  | with_reducible refine i_or ?_
  | with_reducible refine i_not ?_
  | with_reducible refine i_andV ?_
  | with_reducible refine i_orV ?_
  | with_reducible refine i_notV ?_
  | with_reducible refine i_ifE ?_
  | with_reducible refine i_isN ?_
  | with_reducible refine i_notN ?_
  | with_reducible refine i_un ?_
  | with_reducible refine i_int1 ?_
  | with_reducible refine i_tup ?_
  | with_reducible refine i_lst ?_
  | ((with_reducible refine' i_small ?ss ?_); (case ss => first | decide | (simp only [List.length_cons, List.length_nil, List.length_map, List.length_append]; omega)))
  | with_reducible refine i_cb ?_
  | with_reducible refine i_call0 ?_
  | with_reducible refine i_call ?_
  | with_reducible refine i_meth0 ?_
  | with_reducible refine i_make0 ?_
  | with_reducible refine i_fld ?_
  | ((with_reducible refine' i_fldO ?ll ?_); (case ll => repeat (first | exact lk_hd | exact lk_nil | (refine lk_tl (by decide +kernel) ?_))))
  | ((with_reducible refine' i_fldR ?ee ?ll ?_); (case ee => walk_at "hlk"); (case ll => repeat (first | exact lk_hd | exact lk_nil | (refine lk_tl (by decide +kernel) ?_))))
  | ((with_reducible refine' i_mO ?ll ?_); (case ll => repeat (first | exact lk_hd | exact lk_nil | (refine lk_tl (by decide +kernel) ?_))))
  | ((with_reducible refine' i_mR ?ee ?ll ?_); (case ee => walk_at "hlk"); (case ll => repeat (first | exact lk_hd | exact lk_nil | (refine lk_tl (by decide +kernel) ?_))))
  | ((with_reducible refine' i_ixT ?at_ ?_); (case at_ => first | exact rfl | exact L2.atI_nat (j := 0) rfl | exact L2.atI_nat (j := 1) rfl))
  | ((with_reducible refine' i_ixL ?at_ ?_); (case at_ => first | exact rfl | exact L2.atI_nat (j := 0) rfl | exact L2.atI_nat (j := 1) rfl))
  | ((with_reducible refine' i_ixR ?hh ?at_ ?_); (case hh => walk_at "hlk"); (case at_ => first | exact rfl | exact L2.atI_nat (j := 0) rfl | exact L2.atI_nat (j := 1) rfl))
  | with_reducible refine i_fldS ?_
  | with_reducible refine i_bm ?_
  | ((with_reducible refine' i_tyL ?hh ?_); (case hh => walk_at "hlk"))
  | ((with_reducible refine' i_l2 ?xx ?yy ?_); (case xx => exact rfl); (case yy => exact rfl))
  | with_reducible refine i_callK ?_
  | with_reducible refine i_makeK ?_
  | with_reducible refine i_chain ?_
  | with_reducible refine i_raise ?_
  | with_reducible refine i_atx ?_
  | with_reducible refine i_lenO ?_
  | with_reducible refine i_sub_ ?_
  | with_reducible refine i_expr ?_
  | with_reducible refine i_ret ?_
  | with_reducible refine i_next ?_
  | with_reducible refine i_lc ?_
  | with_reducible refine i_r1 ?_
  | with_reducible refine i_iL ?_
  | with_reducible refine i_iT ?_
  | with_reducible refine i_itsF ?_
  | with_reducible refine i_itsS ?_
  | with_reducible refine i_itsT ?_
  | ((with_reducible refine' i_itsR ?hh ?_); (case hh => walk_at "hlk"))
  | with_reducible refine i_lenF ?_
  | with_reducible refine i_lenT ?_
  | ((with_reducible refine' i_lenR ?hh ?_); (case hh => walk_at "hlk"))
  | with_reducible refine i_listF ?_
  | with_reducible refine i_listT ?_
  | ((with_reducible refine' i_listR ?hh ?_); (case hh => walk_at "hlk"))
  | with_reducible refine i_tupF ?_
  | ((with_reducible refine' i_lenOR ?hh ?_); (case hh => walk_at "hlk"))
  | ((with_reducible refine' i_tupR ?hh ?_); (case hh => walk_at "hlk"))
  | ((with_reducible refine g_isi ?_); first
    | with_reducible refine i_isi_non_bool ?_
    | with_reducible refine i_isi_non_int ?_
    | with_reducible refine i_isi_non_str ?_
    | with_reducible refine i_isi_non_list ?_
    | with_reducible refine i_isi_non_tuple ?_
    | with_reducible refine i_isi_bl_bool ?_
    | with_reducible refine i_isi_bl_int ?_
    | with_reducible refine i_isi_bl_str ?_
    | with_reducible refine i_isi_bl_list ?_
    | with_reducible refine i_isi_bl_tuple ?_
    | with_reducible refine i_isi_int_bool ?_
    | with_reducible refine i_isi_int_int ?_
    | with_reducible refine i_isi_int_str ?_
    | with_reducible refine i_isi_int_list ?_
    | with_reducible refine i_isi_int_tuple ?_
    | with_reducible refine i_isi_str_bool ?_
    | with_reducible refine i_isi_str_int ?_
    | with_reducible refine i_isi_str_str ?_
    | with_reducible refine i_isi_str_list ?_
    | with_reducible refine i_isi_str_tuple ?_
    | with_reducible refine i_isi_tup_bool ?_
    | with_reducible refine i_isi_tup_int ?_
    | with_reducible refine i_isi_tup_str ?_
    | with_reducible refine i_isi_tup_list ?_
    | with_reducible refine i_isi_tup_tuple ?_
    | with_reducible refine i_isi_lst_bool ?_
    | with_reducible refine i_isi_lst_int ?_
    | with_reducible refine i_isi_lst_str ?_
    | with_reducible refine i_isi_lst_list ?_
    | with_reducible refine i_isi_lst_tuple ?_)
  | with_reducible refine i_max ?_
  | with_reducible refine i_min ?_
  | with_reducible refine i_rgin ?_
  | with_reducible refine i_tabin ?_
  | with_reducible refine i_disp ?_
  | with_reducible refine i_pcons ?_
  | with_reducible refine i_pnil ?_
  | with_reducible refine i_dget ?_
  | with_reducible refine i_din ?_
  | with_reducible refine i_dput ?_
  | ((with_reducible refine' i_wgtup ?nn ?_); (case nn => exact rfl))
  | ((with_reducible refine' i_rngB ?aa ?bb ?_); (case aa => first | decide | omega); (case bb => first | decide | omega))
  | with_reducible refine i_for ?_
  | with_reducible refine i_while ?_
  | with_reducible refine i_wgcons ?_
  | with_reducible refine i_wgnil ?_
  | with_reducible refine i_wslL ?_
  | with_reducible refine i_nopart ?_
  | with_reducible refine i_part ?_
  ))

def fs_law_word : FS where
  P := Addr × Addr × Int × Thing
  pre := fun (t, g, n, th) vs h => vs = [.ref t, th.v] ∧ Tray h t g n ∧ n ≤ 10000000000
  post := fun (t, g, n, th) h v h' => ∃ z : Str, v = .str z ∧ Tray h' t g (n + 3) ∧ Keep t g h h'
theorem c_law_word {t g : Addr} {n : Int} {th : Thing} {h : Hh} {E : XQ} {Q : KQ} (T : Tray h t g n) (hn : n ≤ 10000000000) (k : ∀ (z : Str) h', Tray h' t g (n + 3) → Keep t g h h' → Q (.str z) h') : fs_law_word.sp [.ref t, th.v] h E Q :=
  ⟨(t, g, n, th), ⟨rfl, T, hn⟩, fun v h' ⟨r, e, a, b⟩ => by subst e; exact k r h' a b, fun _ _ _ z => z.elim⟩
def r_law_word : WS :=
  wSeq (wAsg (wLst (wCons (wC (.str "get")) (wCons (wC (.str "put")) (wCons (wC (.str "add")) (wCons (wC (.str "take")) (wCons (wC (.str "make")) (wNil))))))) (wgName 2))
  (wSeq (wAsg (wCall fs_law_draw [] (wCons (wVar 0) (wCons (wC (.int 4)) (wNil)))) (wgName 3))
  (wSeq (wAsg (wOp wIx (wVar 2) (wCall fs_law_draw [] (wCons (wVar 0) (wCons (wC (.int 5)) (wNil))))) (wgName 4))
  (wSeq (wIf (wAnd (wTv (wOp wGt (wVar 3) (wC (.int 0)))) (wTv (wOp wEqS (wOp wIx (wVar 1) (wC (.int 0))) (wC (.str "box"))))) (wAsg (wOp wIx (wVar 2) (wCall fs_law_draw [] (wCons (wVar 0) (wCons (wC (.int 3)) (wNil))))) (wgName 4)) (wNext))
  (wSeq (wIf (wAnd (wTv (wOp wGt (wVar 3) (wC (.int 0)))) (wTv (wOp wEqS (wOp wIx (wVar 1) (wC (.int 0))) (wC (.str "shelf"))))) (wAsg (wC (.str "take")) (wgName 4)) (wNext))
  (wSeq (wIf (wAnd (wTv (wOp wGt (wVar 3) (wC (.int 0)))) (wTv (wOp wEqS (wOp wIx (wVar 1) (wC (.int 0))) (wC (.str "maker"))))) (wAsg (wC (.str "make")) (wgName 4)) (wNext))
  (wRet (wVar 4)))))))

theorem rd_law_word {K : Fr} {p vs h Q} {X : XQ} (gd : Good K Q) (q : fs_law_word.pre p vs h) (hp : ∀ v h', fs_law_word.post p h v h' → Q v h') :
    r_law_word (fun _ h' => Q .non h') Q (fun _ _ => False) (fun _ _ => False) (fun C v _ h' => X C v h') (startV ["tray", "item", "words", "kind", "verb"] vs) h := by
  obtain ⟨t, g, n, th⟩ := p
  obtain ⟨rfl, T, hn⟩ := q
  obtain ⟨nm, rest, hv⟩ : ∃ (nm : Str) (rest : List Val), th.v = .tup (.str nm :: rest) := by cases th <;> exact ⟨_, _, rfl⟩
  show r_law_word _ _ _ _ _ [some (.ref t), some th.v, none, none, none] h
  rw [hv]
  unfold r_law_word
  walk_at "zgo"
  refine i_newF ?_
  walk_at "zgo"
  refine c_law_draw T (by omega) (by decide) (by decide) fun d h1 d0 d1 T1 kp1 => ?_
  walk_at "zgo"
  refine c_law_draw T1 (by omega) (by decide) (by decide) fun d2 h2 e0 e1 T2 kp2 => ?_
  obtain ⟨w, ha⟩ : ∃ w : Str, L2.atI [Val.str "get", Val.str "put", Val.str "add", Val.str "take", Val.str "make"] d2 = some (.str w) := by
    have e : d2 = 0 ∨ d2 = 1 ∨ d2 = 2 ∨ d2 = 3 ∨ d2 = 4 := by omega
    rcases e with rfl | rfl | rfl | rfl | rfl <;> exact ⟨_, rfl⟩
  refine i_ixL ha ?_
  walk_at "zgo"
  have kp := kp1.trans kp2
  by_cases c0 : d > 0
  · by_cases c1 : nm = "box"
    · subst c1
      walk_at "zgo"
      refine c_law_draw T2 (by omega) (by decide) (by decide) fun d3 h3 e0 e1 T3 kp3 => ?_
      obtain ⟨w2, ha⟩ : ∃ w : Str, L2.atI [Val.str "get", Val.str "put", Val.str "add", Val.str "take", Val.str "make"] d3 = some (.str w) := by
        have e : d3 = 0 ∨ d3 = 1 ∨ d3 = 2 := by omega
        rcases e with rfl | rfl | rfl <;> exact ⟨_, rfl⟩
      refine i_ixL ha ?_
      walk_at "zgo"
      exact hp _ _ ⟨_, rfl, T3.more (by omega), kp.trans kp3⟩
    · by_cases c2 : nm = "shelf"
      · subst c2
        walk_at "zgo"
        exact hp _ _ ⟨_, rfl, T2.more (by omega), kp⟩
      · by_cases c3 : nm = "maker"
        · subst c3
          walk_at "zgo"
          exact hp _ _ ⟨_, rfl, T2.more (by omega), kp⟩
        · walk_at "zgo"
          exact hp _ _ ⟨_, rfl, T2.more (by omega), kp⟩
  · walk_at "zgo"
    exact hp _ _ ⟨_, rfl, T2.more (by omega), kp⟩
/-! LP4 -/
/-! the steps: one macro -/
local macro_rules | `(tactic| walk_at "hlk") => `(tactic| first | assumption | with_reducible exact hup_same | ((with_reducible refine' (hup_ne ?nn).trans ?tt); (case nn => first | assumption | (refine Ne.symm ?_; assumption)); (case tt => walk_at "hlk")))
local macro_rules | `(tactic| walk_at "zgo") => `(tactic| repeat (first
  | with_reducible refine i_seq ?_
  | with_reducible refine i_op ?_
  | ((with_reducible refine g_var ?_); first
    | with_reducible refine i_var0 ?_
    | with_reducible refine i_var1 ?_
    | with_reducible refine i_var2 ?_
    | with_reducible refine i_var3 ?_
    | with_reducible refine i_var4 ?_
    | with_reducible refine i_var5 ?_
    | with_reducible refine i_var6 ?_
    | with_reducible refine i_var7 ?_
    | with_reducible refine i_var8 ?_
    | with_reducible refine i_var9 ?_
    | with_reducible refine i_var10 ?_
    | with_reducible refine i_var11 ?_
    | with_reducible refine i_var12 ?_
    | with_reducible refine i_var13 ?_
    | with_reducible refine i_var14 ?_
    | with_reducible refine i_var15 ?_
    | with_reducible refine i_var16 ?_
    | with_reducible refine i_var17 ?_
    | with_reducible refine i_var18 ?_
    | with_reducible refine i_var19 ?_
    | with_reducible refine i_var20 ?_
    | with_reducible refine i_var21 ?_
    | with_reducible refine i_var22 ?_
    | with_reducible refine i_var23 ?_
    | with_reducible refine i_var24 ?_
    | with_reducible refine i_var25 ?_)
  | with_reducible refine i_c ?_
  | with_reducible refine i_cons ?_
  | with_reducible refine i_nil ?_
  | with_reducible refine i_asg ?_
  | ((with_reducible refine g_name ?_); first
    | with_reducible refine i_name0 ?_
    | with_reducible refine i_name1 ?_
    | with_reducible refine i_name2 ?_
    | with_reducible refine i_name3 ?_
    | with_reducible refine i_name4 ?_
    | with_reducible refine i_name5 ?_
    | with_reducible refine i_name6 ?_
    | with_reducible refine i_name7 ?_
    | with_reducible refine i_name8 ?_
    | with_reducible refine i_name9 ?_
    | with_reducible refine i_name10 ?_
    | with_reducible refine i_name11 ?_
    | with_reducible refine i_name12 ?_
    | with_reducible refine i_name13 ?_
    | with_reducible refine i_name14 ?_
    | with_reducible refine i_name15 ?_
    | with_reducible refine i_name16 ?_
    | with_reducible refine i_name17 ?_
    | with_reducible refine i_name18 ?_
    | with_reducible refine i_name19 ?_
    | with_reducible refine i_name20 ?_
    | with_reducible refine i_name21 ?_
    | with_reducible refine i_name22 ?_
    | with_reducible refine i_name23 ?_
    | with_reducible refine i_name24 ?_
    | with_reducible refine i_name25 ?_)
  | ((with_reducible refine g_tg1 ?_); first
    | with_reducible refine i_tg1_0 ?_
    | with_reducible refine i_tg1_1 ?_
    | with_reducible refine i_tg1_2 ?_
    | with_reducible refine i_tg1_3 ?_
    | with_reducible refine i_tg1_4 ?_
    | with_reducible refine i_tg1_5 ?_
    | with_reducible refine i_tg1_6 ?_
    | with_reducible refine i_tg1_7 ?_
    | with_reducible refine i_tg1_8 ?_
    | with_reducible refine i_tg1_9 ?_
    | with_reducible refine i_tg1_10 ?_
    | with_reducible refine i_tg1_11 ?_
    | with_reducible refine i_tg1_12 ?_
    | with_reducible refine i_tg1_13 ?_
    | with_reducible refine i_tg1_14 ?_
    | with_reducible refine i_tg1_15 ?_
    | with_reducible refine i_tg1_16 ?_
    | with_reducible refine i_tg1_17 ?_
    | with_reducible refine i_tg1_18 ?_
    | with_reducible refine i_tg1_19 ?_
    | with_reducible refine i_tg1_20 ?_
    | with_reducible refine i_tg1_21 ?_
    | with_reducible refine i_tg1_22 ?_
    | with_reducible refine i_tg1_23 ?_)
  | with_reducible refine i_yes ?_
  | with_reducible refine i_if ?_
  | with_reducible refine i_tv ?_
  | with_reducible refine i_bl ?_
  | with_reducible refine i_blV ?_
  | ((with_reducible refine g_if ?_); first
    | with_reducible refine iteT ?_
    | with_reducible refine iteF ?_
    | ((with_reducible refine' i_ifdt ?cc ?_); (case cc => first | decide | omega | assumption | decide +kernel))
    | ((with_reducible refine' i_ifdf ?cc ?_); (case cc => first | decide | omega | assumption | decide +kernel))
    | ((with_reducible refine' i_ifnt ?cc ?_); (case cc => first | decide | omega | assumption | decide +kernel))
    | ((with_reducible refine' i_ifnf ?cc ?_); (case cc => first | decide | omega | assumption | decide +kernel))
    | ((with_reducible refine' i_ift ?cc ?_); (case cc => first | assumption | rfl))
    | ((with_reducible refine' i_iff ?cc ?_); (case cc => first | assumption | rfl)))
  | with_reducible refine i_eqT ?_
  | with_reducible refine i_neT ?_
  | with_reducible refine i_eqI ?_
  | with_reducible refine i_neI ?_
  | with_reducible refine i_eqB ?_
  | with_reducible refine i_neB ?_
  | with_reducible refine i_lt ?_
  | with_reducible refine i_le ?_
  | with_reducible refine i_gt ?_
  | with_reducible refine i_ge ?_
  | with_reducible refine i_add ?_
  | with_reducible refine i_sub ?_
  | with_reducible refine i_and ?_
  | with_reducible refine i_or ?_
  | with_reducible refine i_not ?_
  | with_reducible refine i_andV ?_
  | with_reducible refine i_orV ?_
  | with_reducible refine i_notV ?_
  | with_reducible refine i_ifE ?_
  | with_reducible refine i_isN ?_
  | with_reducible refine i_notN ?_
  | with_reducible refine i_un ?_
  | with_reducible refine i_int1 ?_
  | with_reducible refine i_tup ?_
  | with_reducible refine i_lst ?_
  | ((with_reducible refine' i_small ?ss ?_); (case ss => first | decide | (simp only [List.length_cons, List.length_nil, List.length_map, List.length_append]; omega)))
  | with_reducible refine i_cb ?_
  | with_reducible refine i_call0 ?_
  | with_reducible refine i_call ?_
  | with_reducible refine i_meth0 ?_
  | with_reducible refine i_methK ?_
  | with_reducible refine i_make0 ?_
  | with_reducible refine i_fld ?_
  | ((with_reducible refine' i_fldO ?ll ?_); (case ll => repeat (first | exact lk_hd | exact lk_nil | (refine lk_tl (by decide +kernel) ?_))))
  | ((with_reducible refine' i_fldR ?ee ?ll ?_); (case ee => walk_at "hlk"); (case ll => repeat (first | exact lk_hd | exact lk_nil | (refine lk_tl (by decide +kernel) ?_))))
  | ((with_reducible refine' i_mO ?ll ?_); (case ll => repeat (first | exact lk_hd | exact lk_nil | (refine lk_tl (by decide +kernel) ?_))))
  | ((with_reducible refine' i_mR ?ee ?ll ?_); (case ee => walk_at "hlk"); (case ll => repeat (first | exact lk_hd | exact lk_nil | (refine lk_tl (by decide +kernel) ?_))))
  | ((with_reducible refine' i_ixT ?at_ ?_); (case at_ => first | exact rfl | exact L2.atI_nat (j := 0) rfl | exact L2.atI_nat (j := 1) rfl))
  | ((with_reducible refine' i_ixL ?at_ ?_); (case at_ => first | exact rfl | exact L2.atI_nat (j := 0) rfl | exact L2.atI_nat (j := 1) rfl))
  | ((with_reducible refine' i_ixR ?hh ?at_ ?_); (case hh => walk_at "hlk"); (case at_ => first | exact rfl | exact L2.atI_nat (j := 0) rfl | exact L2.atI_nat (j := 1) rfl))
  | with_reducible refine i_fldS ?_
  | with_reducible refine i_bm ?_
  | ((with_reducible refine' i_tyL ?hh ?_); (case hh => walk_at "hlk"))
  | ((with_reducible refine' i_l2 ?xx ?yy ?_); (case xx => exact rfl); (case yy => exact rfl))
  | with_reducible refine i_callK ?_
  | with_reducible refine i_makeK ?_
  | with_reducible refine i_chain ?_
  | with_reducible refine i_raise ?_
  | with_reducible refine i_atx ?_
  | with_reducible refine i_lenO ?_
  | with_reducible refine i_sub_ ?_
  | with_reducible refine i_expr ?_
  | with_reducible refine i_ret ?_
  | with_reducible refine i_next ?_
  | with_reducible refine i_lc ?_
  | with_reducible refine i_r1 ?_
  | with_reducible refine i_iL ?_
  | with_reducible refine i_iE ?_
  | with_reducible refine i_iZ ?_
  | with_reducible refine i_iT ?_
  | with_reducible refine i_itsF ?_
  | with_reducible refine i_itsS ?_
  | with_reducible refine i_itsT ?_
  | ((with_reducible refine' i_itsR ?hh ?_); (case hh => walk_at "hlk"))
  | with_reducible refine i_lenF ?_
  | with_reducible refine i_lenT ?_
  | ((with_reducible refine' i_lenR ?hh ?_); (case hh => walk_at "hlk"))
  | with_reducible refine i_listF ?_
  | with_reducible refine i_listT ?_
  | ((with_reducible refine' i_listR ?hh ?_); (case hh => walk_at "hlk"))
  | with_reducible refine i_tupF ?_
  | ((with_reducible refine' i_lenOR ?hh ?_); (case hh => walk_at "hlk"))
  | ((with_reducible refine' i_tupR ?hh ?_); (case hh => walk_at "hlk"))
  | ((with_reducible refine g_isi ?_); first
    | with_reducible refine i_isi_non_bool ?_
    | with_reducible refine i_isi_non_int ?_
    | with_reducible refine i_isi_non_str ?_
    | with_reducible refine i_isi_non_list ?_
    | with_reducible refine i_isi_non_tuple ?_
    | with_reducible refine i_isi_bl_bool ?_
    | with_reducible refine i_isi_bl_int ?_
    | with_reducible refine i_isi_bl_str ?_
    | with_reducible refine i_isi_bl_list ?_
    | with_reducible refine i_isi_bl_tuple ?_
    | with_reducible refine i_isi_int_bool ?_
    | with_reducible refine i_isi_int_int ?_
    | with_reducible refine i_isi_int_str ?_
    | with_reducible refine i_isi_int_list ?_
    | with_reducible refine i_isi_int_tuple ?_
    | with_reducible refine i_isi_str_bool ?_
    | with_reducible refine i_isi_str_int ?_
    | with_reducible refine i_isi_str_str ?_
    | with_reducible refine i_isi_str_list ?_
    | with_reducible refine i_isi_str_tuple ?_
    | with_reducible refine i_isi_tup_bool ?_
    | with_reducible refine i_isi_tup_int ?_
    | with_reducible refine i_isi_tup_str ?_
    | with_reducible refine i_isi_tup_list ?_
    | with_reducible refine i_isi_tup_tuple ?_
    | with_reducible refine i_isi_lst_bool ?_
    | with_reducible refine i_isi_lst_int ?_
    | with_reducible refine i_isi_lst_str ?_
    | with_reducible refine i_isi_lst_list ?_
    | with_reducible refine i_isi_lst_tuple ?_)
  | with_reducible refine i_max ?_
  | with_reducible refine i_min ?_
  | with_reducible refine i_rgin ?_
  | with_reducible refine i_tabin ?_
  | with_reducible refine i_disp ?_
  | with_reducible refine i_pcons ?_
  | with_reducible refine i_pnil ?_
  | with_reducible refine i_dget ?_
  | with_reducible refine i_din ?_
  | with_reducible refine i_dput ?_
  | ((with_reducible refine' i_wgtup ?nn ?_); (case nn => exact rfl))
  | ((with_reducible refine' i_rngB ?aa ?bb ?_); (case aa => first | decide | omega); (case bb => first | decide | omega))
  | with_reducible refine i_for ?_
  | with_reducible refine i_while ?_
  | with_reducible refine i_wgcons ?_
  | with_reducible refine i_wgnil ?_
  | with_reducible refine i_wslL ?_
  | with_reducible refine i_nopart ?_
  | with_reducible refine i_part ?_
  | ((with_reducible refine' i_wgunl ?nn ?_); (case nn => exact rfl))
  | ((with_reducible refine' i_xf ?ee ?_); (case ee => exact rfl))
  | ((with_reducible refine' i_errIs ?ee ?_); (case ee => exact rfl))
  | with_reducible refine i_bm0 ?_
  | with_reducible refine i_intB ?_
  | with_reducible refine i_intI ?_
  | with_reducible refine i_tryThru ?_
  | with_reducible refine i_iS ?_
  | with_reducible refine i_str1 ?_
  | with_reducible refine i_tyS ?_
  | with_reducible refine i_fmtI ?_
  | with_reducible refine i_js ?_
  | with_reducible refine i_jsc ?_
  | with_reducible refine i_jsn ?_
  | with_reducible refine i_dm ?_
  | with_reducible refine i_kn ?_
  | with_reducible refine i_in ?_
  ))

/-! ### the law's things: plain law -/
def refN : RefD → NestedKey
  | .thing a b => .tup [.text "thing", .num a, .num b]
  | .made a b c => .tup [.text "made", .num a, .num b, .num c]
def encN (m : TM) : List (NestedKey × Val) := m.map fun p => (refN p.1, p.2.v)
/-! ### the law's things -/
/-! LP5 -/


theorem ref_of_get {m : TM} {s : RefD} {t : Thing} : getT m s = some t → (s, t) ∈ m := by
  induction m with
  | nil => intro h; cases h
  | cons x m ih =>
    intro h
    unfold getT at h
    split at h
    · rename_i c; cases h; subst c; simp
    · exact List.mem_cons_of_mem _ (ih h)
/-! ZU -/
/-! owned lists of lists fixed for ever -/
def hdels (h : Hh) (bs : List Addr) : Hh := fun c => if c ∈ bs then none else h c
theorem hdels_out {h : Hh} {bs : List Addr} {c : Addr} (n : c ∉ bs) : hdels h bs c = h c := if_neg n
theorem hdels_cons {h : Hh} {b : Addr} {bs : List Addr} : hdels (hdel h b) bs = hdels h (b :: bs) := by
  funext c
  unfold hdels hdel
  by_cases e : c = b
  · simp [e]
  · simp [e]
theorem R.frz_all {K : Fr} {F H : Hp} : ∀ {bs : List Addr} {xss : List (List Val)} {S : Hp} {h : Hh}, R K S F H h → bs.length = xss.length → (∀ (i : Nat) (b : Addr) (xs : List Val), bs[i]? = some b → xss[i]? = some xs → h b = some (.lst xs)) → bs.Nodup →
    ∃ S2, Sub S S2 ∧ R K S2 F H (hdels h bs) ∧ Rels K S2 (xss.map Val.lst) (bs.map V.ref)
  | [], xss, S, h, r, hl, e, nd => by
    have : xss = [] := List.length_eq_zero_iff.mp hl.symm
    subst this
    refine ⟨S, Sub.refl S, ?_, rels_nil.mpr rfl⟩
    rw [show hdels h [] = h from funext fun c => if_neg (by simp)]
    exact r
  | b :: bs, [], S, h, r, hl, e, nd => by simp at hl
  | b :: bs, xs :: xss, S, h, r, hl, e, nd => by
    obtain ⟨n1, n2⟩ := List.nodup_cons.mp nd
    have hb := e 0 b xs rfl rfl
    obtain ⟨u, ⟨ws, eu, x⟩, r2, s2⟩ := r.freeze hb
    subst eu
    obtain ⟨S3, s3, r3, x3⟩ := R.frz_all (bs := bs) (xss := xss) r2 (by simpa using hl) (fun i c ys e1 e2 => by
      rw [hdel_ne (fun z => n1 (by rw [← z]; exact List.mem_of_getElem? e1))]
      exact e (i + 1) c ys (by simpa using e1) (by simpa using e2)) n2
    rw [hdels_cons] at r3
    exact ⟨S3, s2.trans s3, r3, rels_cons.mpr ⟨_, _, rfl, rel_lst.mpr ⟨b, ws, rfl, s3 _ _ upd_same, Rels.mono (s2.trans s3) _ _ x⟩, x3⟩⟩
theorem R.nest {K : Fr} {S F H : Hp} {h : Hh} {a : Addr} {bs : List Addr} {xss : List (List Val)} (r : R K S F H h) (N : Nest h a bs xss) : ∃ S2, Sub S S2 ∧ R K S2 F H (hdels h (a :: bs)) ∧ Rel K S2 (.lst (xss.map Val.lst)) (.ref a) := by
  obtain ⟨n1, n2⟩ := List.nodup_cons.mp N.nd
  obtain ⟨u, ⟨ws, eu, x⟩, r2, s2⟩ := r.freeze N.top
  subst eu
  obtain ⟨S3, s3, r3, x3⟩ := R.frz_all (bs := bs) (xss := xss) r2 N.len (fun i c ys e1 e2 => by
    rw [hdel_ne (fun z => n1 (by rw [← z]; exact List.mem_of_getElem? e1))]
    exact N.each i c ys e1 e2) n2
  rw [hdels_cons] at r3
  have ew : ∀ (cs : List Addr) (vs : List V), Rels K S (cs.map Val.ref) vs → vs = cs.map V.ref := by
    intro cs
    induction cs with
    | nil => intro vs h; rw [List.map_nil, rels_nil] at h; exact h
    | cons c cs ih =>
      intro vs h
      rw [List.map_cons, rels_cons] at h
      obtain ⟨w, rs, rfl, h1, h2⟩ := h
      rw [rel_ref.mp h1, ih rs h2]
      rfl
  have := ew bs ws x
  subst this
  exact ⟨S3, s2.trans s3, r3, rel_lst.mpr ⟨a, _, rfl, s3 _ _ upd_same, x3⟩⟩
/-- a list of lists that stands in slot i is fixed -/
theorem shf_nest {K : Fr} {ρ : Ev} {h : Hh} {a : Addr} {bs : List Addr} {xss : List (List Val)} {i : Nat} (N : Nest h a bs xss) (e : ρ[i]? = some (some (.ref a))) : Shf K ρ h (ρ.set i (some (.lst (xss.map Val.lst)))) (hdels h (a :: bs)) := fun S F H σ r rl => by
  obtain ⟨S2, s2, r2, x2⟩ := r.nest N
  refine ⟨S2, s2, r2, ?_⟩
  obtain ⟨w, e2, x⟩ := rl.2 i _ e
  have rl2 := (rl.mono s2).set i (v := .lst (xss.map Val.lst)) (w := w) (by rw [rel_ref.mp x]; exact x2)
  rwa [show σ.set i (some w) = σ from by
    apply List.ext_getElem?
    intro j
    by_cases c : i = j
    · subst c
      rw [List.getElem?_set_self (by obtain ⟨z, _⟩ := List.getElem?_eq_some_iff.mp e2; exact z), e2]
    · rw [List.getElem?_set_ne c]] at rl2
/-! LP6 -/


/-! ### what a call is handed, by the laws of Plains -/
theorem Wo.pure (w : Wo) : PureV 2 w.v := by
  cases w with
  | num n =>
    refine .tup (by simp) fun x hx => ?_
    simp only [List.mem_cons, List.not_mem_nil, or_false] at hx
    rcases hx with rfl | rfl
    · exact .str _ _
    · exact .int _ _
  | brk z =>
    refine .tup (by simp) fun x hx => ?_
    simp only [List.mem_cons, List.not_mem_nil, or_false] at hx
    rcases hx with rfl | rfl
    · exact .str _ _
    · exact .str _ _
  | ref r => exact (RefD.pure r).up
/-- a call that makes nothing twice -/
theorem callT_some {m : TM} {r : RefD} {word : Str} {w : Option Wo} {k j : Int} (ty : Tidy m) (g : ∃ t, getT m r = some t) (hn : ∀ a, getT m (.made a k j) = none) : ∃ m' a, callT m r word w k j = some (m', a) := by
  unfold callT
  cases he : endT m r with
  | none => exact ⟨_, _, rfl⟩
  | some s =>
    obtain ⟨t, ht, hr⟩ := endT_some ty.cls g he
    obtain ⟨a, ea⟩ := some_done (z := word) (w := w) (r := .made s.house k j) hr
    dsimp only
    rw [ht]
    dsimp only
    rw [ea]
    dsimp only
    cases (doneF t word w (some (.made s.house k j))).2.2 with
    | none => exact ⟨_, _, rfl⟩
    | some b =>
      dsimp only
      rw [hn]
      exact ⟨_, _, rfl⟩
/-- what is there behind a call -/
theorem callT_keys {m m' : TM} {r : RefD} {word : Str} {w : Option Wo} {k j : Int} {a : Wo} (e : callT m r word w k j = some (m', a)) : (∀ x, (getT m x).isSome = true → (getT m' x).isSome = true) ∧ ∀ x, (getT m' x).isSome = true → (getT m x).isSome = true ∨ ∃ b, x = .made b k j := by
  unfold callT at e
  cases he : endT m r with
  | none => rw [he] at e; cases e; exact ⟨fun _ h => h, fun _ h => .inl h⟩
  | some s =>
    rw [he] at e
    dsimp only at e
    cases ht : getT m s with
    | none => rw [ht] at e; cases e
    | some t =>
      rw [ht] at e
      dsimp only at e
      generalize doneF t word w (some (.made s.house k j)) = d at e
      obtain ⟨d1, d2, d3⟩ := d
      have old : ∀ x, (getT (putT m s d1) x).isSome = true ↔ (getT m x).isSome = true := fun x => by
        rw [getT_put]
        by_cases c : x = s
        · rw [if_pos c, c, ht]; simp
        · rw [if_neg c]
      cases d2 with
      | none => cases e
      | some a2 =>
        cases d3 with
        | none => cases e; exact ⟨fun x h => (old x).mpr h, fun x h => .inl ((old x).mp h)⟩
        | some b =>
          dsimp only at e
          split at e
          · cases e
          · cases e
            refine ⟨fun x h => ?_, fun x h => ?_⟩
            · rw [getT_put]
              split
              · rfl
              · exact (old x).mpr h
            · rw [getT_put] at h
              split at h
              · rename_i c; exact .inr ⟨_, c⟩
              · exact .inl ((old x).mp h)
/-! ZV -/
/-! zip of tuples; abs, all, any; isinstance by a tuple of classes -/
/-! ### zip of two tuples -/
def wiZT (t u : WE) : WI := fun ρ h E G => t ρ h E fun v h1 => u ρ h1 E fun w h2 => ∃ xs ys, v = .tup xs ∧ w = .tup ys ∧ G (zipV xs ys) (fun _ => True) h2
section
variable {X : Cx} {W : WX} {pos : Pos}
end
theorem i_iZT {t u : WE} {ρ h E} {G : List Val → (Hh → Prop) → Hh → Prop} (q : t ρ h E fun v h1 => u ρ h1 E fun w h2 => ∃ xs ys, v = .tup xs ∧ w = .tup ys ∧ G (zipV xs ys) (fun _ => True) h2) : wiZT t u ρ h E G := q
/-! ### xs.pop() -/
/-! ### abs, all, any -/
def cAbs : WC := fun vs h Q => ∃ i, vs = [.int i] ∧ Q (.int (if i < 0 then -i else i)) h
theorem i_abs {i : Int} {h : Hh} {Q : KQ} (q : Q (.int (if i < 0 then -i else i)) h) : cAbs [.int i] h Q := ⟨i, rfl, q⟩
/-! ### isinstance(x, (T1, T2)) -/
/-! ### zip of two lists or of two tuples -/
def wiZX (t u : WE) : WI := fun ρ h E G => t ρ h E fun v h1 => u ρ h1 E fun w h2 => (∃ xs ys, v = .tup xs ∧ w = .tup ys ∧ G (zipV xs ys) (fun _ => True) h2) ∨ Its h2 v fun xs c1 _ => Its h2 w fun ys c2 _ => G (zipV xs ys) (fun h => c1 h ∧ c2 h) h2
section
variable {X : Cx} {W : WX} {pos : Pos}
end
theorem i_iZX {t u : WE} {ρ h E} {G : List Val → (Hh → Prop) → Hh → Prop} (q : t ρ h E fun v h1 => u ρ h1 E fun w h2 => (∃ xs ys, v = .tup xs ∧ w = .tup ys ∧ G (zipV xs ys) (fun _ => True) h2) ∨ Its h2 v fun xs c1 _ => Its h2 w fun ys c2 _ => G (zipV xs ys) (fun h => c1 h ∧ c2 h) h2) : wiZX t u ρ h E G := q
/-! LD0 -/
/-! the steps: one macro -/
local macro_rules | `(tactic| walk_at "hlk") => `(tactic| first | assumption | with_reducible exact hup_same | ((with_reducible refine' (hup_ne ?nn).trans ?tt); (case nn => first | assumption | (refine Ne.symm ?_; assumption)); (case tt => walk_at "hlk")))
local macro_rules | `(tactic| walk_at "zgo") => `(tactic| repeat (first
  | with_reducible refine i_seq ?_
  | with_reducible refine i_op ?_
  | ((with_reducible refine g_var ?_); first
    | with_reducible refine i_var0 ?_
    | with_reducible refine i_var1 ?_
    | with_reducible refine i_var2 ?_
    | with_reducible refine i_var3 ?_
    | with_reducible refine i_var4 ?_
    | with_reducible refine i_var5 ?_
    | with_reducible refine i_var6 ?_
    | with_reducible refine i_var7 ?_
    | with_reducible refine i_var8 ?_
    | with_reducible refine i_var9 ?_
    | with_reducible refine i_var10 ?_
    | with_reducible refine i_var11 ?_
    | with_reducible refine i_var12 ?_
    | with_reducible refine i_var13 ?_
    | with_reducible refine i_var14 ?_
    | with_reducible refine i_var15 ?_
    | with_reducible refine i_var16 ?_
    | with_reducible refine i_var17 ?_
    | with_reducible refine i_var18 ?_
    | with_reducible refine i_var19 ?_
    | with_reducible refine i_var20 ?_
    | with_reducible refine i_var21 ?_
    | with_reducible refine i_var22 ?_
    | with_reducible refine i_var23 ?_
    | with_reducible refine i_var24 ?_
    | with_reducible refine i_var25 ?_)
  | with_reducible refine i_c ?_
  | with_reducible refine i_cons ?_
  | with_reducible refine i_nil ?_
  | with_reducible refine i_asg ?_
  | ((with_reducible refine g_name ?_); first
    | with_reducible refine i_name0 ?_
    | with_reducible refine i_name1 ?_
    | with_reducible refine i_name2 ?_
    | with_reducible refine i_name3 ?_
    | with_reducible refine i_name4 ?_
    | with_reducible refine i_name5 ?_
    | with_reducible refine i_name6 ?_
    | with_reducible refine i_name7 ?_
    | with_reducible refine i_name8 ?_
    | with_reducible refine i_name9 ?_
    | with_reducible refine i_name10 ?_
    | with_reducible refine i_name11 ?_
    | with_reducible refine i_name12 ?_
    | with_reducible refine i_name13 ?_
    | with_reducible refine i_name14 ?_
    | with_reducible refine i_name15 ?_
    | with_reducible refine i_name16 ?_
    | with_reducible refine i_name17 ?_
    | with_reducible refine i_name18 ?_
    | with_reducible refine i_name19 ?_
    | with_reducible refine i_name20 ?_
    | with_reducible refine i_name21 ?_
    | with_reducible refine i_name22 ?_
    | with_reducible refine i_name23 ?_
    | with_reducible refine i_name24 ?_
    | with_reducible refine i_name25 ?_)
  | ((with_reducible refine g_tg1 ?_); first
    | with_reducible refine i_tg1_0 ?_
    | with_reducible refine i_tg1_1 ?_
    | with_reducible refine i_tg1_2 ?_
    | with_reducible refine i_tg1_3 ?_
    | with_reducible refine i_tg1_4 ?_
    | with_reducible refine i_tg1_5 ?_
    | with_reducible refine i_tg1_6 ?_
    | with_reducible refine i_tg1_7 ?_
    | with_reducible refine i_tg1_8 ?_
    | with_reducible refine i_tg1_9 ?_
    | with_reducible refine i_tg1_10 ?_
    | with_reducible refine i_tg1_11 ?_
    | with_reducible refine i_tg1_12 ?_
    | with_reducible refine i_tg1_13 ?_
    | with_reducible refine i_tg1_14 ?_
    | with_reducible refine i_tg1_15 ?_
    | with_reducible refine i_tg1_16 ?_
    | with_reducible refine i_tg1_17 ?_
    | with_reducible refine i_tg1_18 ?_
    | with_reducible refine i_tg1_19 ?_
    | with_reducible refine i_tg1_20 ?_
    | with_reducible refine i_tg1_21 ?_
    | with_reducible refine i_tg1_22 ?_
    | with_reducible refine i_tg1_23 ?_)
  | with_reducible refine i_yes ?_
  | with_reducible refine i_if ?_
  | with_reducible refine i_tv ?_
  | with_reducible refine i_bl ?_
  | with_reducible refine i_blV ?_
  | ((with_reducible refine g_if ?_); first
    | with_reducible refine iteT ?_
    | with_reducible refine iteF ?_
    | ((with_reducible refine' i_ifdt ?cc ?_); (case cc => first | decide | omega | assumption | decide +kernel))
    | ((with_reducible refine' i_ifdf ?cc ?_); (case cc => first | decide | omega | assumption | decide +kernel))
    | ((with_reducible refine' i_ifnt ?cc ?_); (case cc => first | decide | omega | assumption | decide +kernel))
    | ((with_reducible refine' i_ifnf ?cc ?_); (case cc => first | decide | omega | assumption | decide +kernel))
    | ((with_reducible refine' i_ift ?cc ?_); (case cc => first | assumption | rfl))
    | ((with_reducible refine' i_iff ?cc ?_); (case cc => first | assumption | rfl)))
  | with_reducible refine i_eqT ?_
  | with_reducible refine i_neT ?_
  | with_reducible refine i_eqI ?_
  | with_reducible refine i_neI ?_
  | with_reducible refine i_eqB ?_
  | with_reducible refine i_neB ?_
  | with_reducible refine i_lt ?_
  | with_reducible refine i_le ?_
  | with_reducible refine i_gt ?_
  | with_reducible refine i_ge ?_
  | with_reducible refine i_add ?_
  | with_reducible refine i_sub ?_
  | with_reducible refine i_and ?_
  | with_reducible refine i_or ?_
  | with_reducible refine i_not ?_
  | with_reducible refine i_andV ?_
  | with_reducible refine i_orV ?_
  | with_reducible refine i_notV ?_
  | with_reducible refine i_ifE ?_
  | with_reducible refine i_isN ?_
  | with_reducible refine i_notN ?_
  | with_reducible refine i_un ?_
  | with_reducible refine i_int1 ?_
  | with_reducible refine i_tup ?_
  | with_reducible refine i_lst ?_
  | ((with_reducible refine' i_small ?ss ?_); (case ss => first | decide | (simp only [List.length_cons, List.length_nil, List.length_map, List.length_append]; omega)))
  | with_reducible refine i_cb ?_
  | with_reducible refine i_call0 ?_
  | with_reducible refine i_call ?_
  | with_reducible refine i_meth0 ?_
  | with_reducible refine i_methK ?_
  | with_reducible refine i_make0 ?_
  | with_reducible refine i_fld ?_
  | ((with_reducible refine' i_fldO ?ll ?_); (case ll => repeat (first | exact lk_hd | exact lk_nil | (refine lk_tl (by decide +kernel) ?_))))
  | ((with_reducible refine' i_fldR ?ee ?ll ?_); (case ee => walk_at "hlk"); (case ll => repeat (first | exact lk_hd | exact lk_nil | (refine lk_tl (by decide +kernel) ?_))))
  | ((with_reducible refine' i_mO ?ll ?_); (case ll => repeat (first | exact lk_hd | exact lk_nil | (refine lk_tl (by decide +kernel) ?_))))
  | ((with_reducible refine' i_mR ?ee ?ll ?_); (case ee => walk_at "hlk"); (case ll => repeat (first | exact lk_hd | exact lk_nil | (refine lk_tl (by decide +kernel) ?_))))
  | ((with_reducible refine' i_ixT ?at_ ?_); (case at_ => first | exact rfl | exact L2.atI_nat (j := 0) rfl | exact L2.atI_nat (j := 1) rfl))
  | ((with_reducible refine' i_ixL ?at_ ?_); (case at_ => first | exact rfl | exact L2.atI_nat (j := 0) rfl | exact L2.atI_nat (j := 1) rfl))
  | ((with_reducible refine' i_ixR ?hh ?at_ ?_); (case hh => walk_at "hlk"); (case at_ => first | exact rfl | exact L2.atI_nat (j := 0) rfl | exact L2.atI_nat (j := 1) rfl))
  | with_reducible refine i_fldS ?_
  | with_reducible refine i_bm ?_
  | ((with_reducible refine' i_tyL ?hh ?_); (case hh => walk_at "hlk"))
  | ((with_reducible refine' i_l2 ?xx ?yy ?_); (case xx => exact rfl); (case yy => exact rfl))
  | with_reducible refine i_callK ?_
  | with_reducible refine i_makeK ?_
  | with_reducible refine i_chain ?_
  | with_reducible refine i_raise ?_
  | with_reducible refine i_atx ?_
  | with_reducible refine i_lenO ?_
  | with_reducible refine i_sub_ ?_
  | with_reducible refine i_expr ?_
  | with_reducible refine i_ret ?_
  | with_reducible refine i_next ?_
  | with_reducible refine i_lc ?_
  | with_reducible refine i_r1 ?_
  | with_reducible refine i_iL ?_
  | with_reducible refine i_iE ?_
  | with_reducible refine i_iZ ?_
  | with_reducible refine i_iT ?_
  | with_reducible refine i_itsF ?_
  | with_reducible refine i_itsS ?_
  | with_reducible refine i_itsT ?_
  | ((with_reducible refine' i_itsR ?hh ?_); (case hh => walk_at "hlk"))
  | with_reducible refine i_lenF ?_
  | with_reducible refine i_lenT ?_
  | ((with_reducible refine' i_lenR ?hh ?_); (case hh => walk_at "hlk"))
  | with_reducible refine i_listF ?_
  | with_reducible refine i_listT ?_
  | ((with_reducible refine' i_listR ?hh ?_); (case hh => walk_at "hlk"))
  | with_reducible refine i_tupF ?_
  | ((with_reducible refine' i_lenOR ?hh ?_); (case hh => walk_at "hlk"))
  | ((with_reducible refine' i_tupR ?hh ?_); (case hh => walk_at "hlk"))
  | ((with_reducible refine g_isi ?_); first
    | with_reducible refine i_isi_non_bool ?_
    | with_reducible refine i_isi_non_int ?_
    | with_reducible refine i_isi_non_str ?_
    | with_reducible refine i_isi_non_list ?_
    | with_reducible refine i_isi_non_tuple ?_
    | with_reducible refine i_isi_bl_bool ?_
    | with_reducible refine i_isi_bl_int ?_
    | with_reducible refine i_isi_bl_str ?_
    | with_reducible refine i_isi_bl_list ?_
    | with_reducible refine i_isi_bl_tuple ?_
    | with_reducible refine i_isi_int_bool ?_
    | with_reducible refine i_isi_int_int ?_
    | with_reducible refine i_isi_int_str ?_
    | with_reducible refine i_isi_int_list ?_
    | with_reducible refine i_isi_int_tuple ?_
    | with_reducible refine i_isi_str_bool ?_
    | with_reducible refine i_isi_str_int ?_
    | with_reducible refine i_isi_str_str ?_
    | with_reducible refine i_isi_str_list ?_
    | with_reducible refine i_isi_str_tuple ?_
    | with_reducible refine i_isi_tup_bool ?_
    | with_reducible refine i_isi_tup_int ?_
    | with_reducible refine i_isi_tup_str ?_
    | with_reducible refine i_isi_tup_list ?_
    | with_reducible refine i_isi_tup_tuple ?_
    | with_reducible refine i_isi_lst_bool ?_
    | with_reducible refine i_isi_lst_int ?_
    | with_reducible refine i_isi_lst_str ?_
    | with_reducible refine i_isi_lst_list ?_
    | with_reducible refine i_isi_lst_tuple ?_)
  | with_reducible refine i_max ?_
  | with_reducible refine i_min ?_
  | with_reducible refine i_rgin ?_
  | with_reducible refine i_tabin ?_
  | with_reducible refine i_disp ?_
  | with_reducible refine i_pcons ?_
  | with_reducible refine i_pnil ?_
  | with_reducible refine i_dget ?_
  | with_reducible refine i_din ?_
  | with_reducible refine i_dput ?_
  | ((with_reducible refine' i_wgtup ?nn ?_); (case nn => exact rfl))
  | ((with_reducible refine' i_rngB ?aa ?bb ?_); (case aa => first | decide | omega); (case bb => first | decide | omega))
  | with_reducible refine i_for ?_
  | with_reducible refine i_while ?_
  | with_reducible refine i_wgcons ?_
  | with_reducible refine i_wgnil ?_
  | with_reducible refine i_wslL ?_
  | with_reducible refine i_nopart ?_
  | with_reducible refine i_part ?_
  | ((with_reducible refine' i_wgunl ?nn ?_); (case nn => exact rfl))
  | ((with_reducible refine' i_xf ?ee ?_); (case ee => exact rfl))
  | ((with_reducible refine' i_errIs ?ee ?_); (case ee => exact rfl))
  | with_reducible refine i_bm0 ?_
  | with_reducible refine i_intB ?_
  | with_reducible refine i_intI ?_
  | with_reducible refine i_tryThru ?_
  | with_reducible refine i_iS ?_
  | with_reducible refine i_str1 ?_
  | with_reducible refine i_tyS ?_
  | with_reducible refine i_fmtI ?_
  | with_reducible refine i_js ?_
  | with_reducible refine i_jsc ?_
  | with_reducible refine i_jsn ?_
  | with_reducible refine i_dm ?_
  | with_reducible refine i_kn ?_
  | with_reducible refine i_in ?_
  | with_reducible refine i_iZT ?_
  | with_reducible refine i_iZX ?_
  | with_reducible refine i_abs ?_
  ))

/-! ### the deck: draws of the later laws -/
structure Deck (h : Hh) (t g : Addr) (n : Int) : Prop where
  ne : t ≠ g
  at_ : ∃ (gs : List Int) (fold c : Int), h t = some (.lst [.ref g, .int fold, .int c]) ∧ h g = some (.lst (gs.map Val.int)) ∧ (∀ x ∈ gs, 0 ≤ x) ∧ gs.length ≤ 63 ∧ 0 ≤ fold ∧ fold < 2305843009213693951 ∧ 0 ≤ c ∧ c ≤ n
theorem Deck.more {h : Hh} {t g : Addr} {n m : Int} (T : Deck h t g n) (l : n ≤ m) : Deck h t g m := by
  obtain ⟨ne, gs, fold, c, h1, h2, h3, h4, h6, h7, h8, h9⟩ := T
  exact ⟨ne, gs, fold, c, h1, h2, h3, h4, h6, h7, h8, by omega⟩
theorem Deck.same {h h' : Hh} {t g : Addr} {n : Int} (T : Deck h t g n) (e1 : h' t = h t) (e2 : h' g = h g) : Deck h' t g n := by
  obtain ⟨ne, gs, fold, c, h1, h2, r⟩ := T
  exact ⟨ne, gs, fold, c, e1.trans h1, e2.trans h2, r⟩
theorem Deck.hup {h : Hh} {t g a : Addr} {n : Int} {o : Ob} (T : Deck h t g n) (at' : a ≠ t) (ag : a ≠ g) : Deck (hup h a o) t g n := T.same (hup_ne at'.symm) (hup_ne ag.symm)
theorem Deck.new {h : Hh} {t g a : Addr} {n : Int} (T : Deck h t g n) (ha : h a = none) : a ≠ t ∧ a ≠ g := by
  obtain ⟨ne, gs, fold, c, h1, h2, r⟩ := T
  exact ⟨fun e => by (rw [e, h1] at ha; cases ha), fun e => by (rw [e, h2] at ha; cases ha)⟩
/-- what was no object of the deck keeps apart from it -/
theorem Deck.not {h : Hh} {t g a : Addr} {n : Int} (T : Deck h t g n) (h1 : ∀ xs, h a ≠ some (.lst xs)) : a ≠ t ∧ a ≠ g := by
  obtain ⟨ne, gs, fold, c, k1, k2, r⟩ := T
  exact ⟨fun e => h1 _ (by rw [e]; exact k1), fun e => h1 _ (by rw [e]; exact k2)⟩
/-! LD1 -/


/-! ### worlds drawn of a deck -/
theorem set_lens {ws : Rooms} {i : Nat} {hs : List Thing} {j : Nat} {th : Thing} (e : ws[i]? = some hs) : (ws.set i (hs.set j th)).map List.length = ws.map List.length := by
  rw [List.map_set, List.length_set]
  apply List.ext_getElem?
  intro k
  rw [List.getElem?_set]
  split
  · rename_i c
    subst c
    have := (List.getElem?_eq_some_iff.mp e).1
    rw [List.length_map, if_pos this, List.getElem?_map, e]
    rfl
  · rfl
theorem WorldOk.set {ws : Rooms} {i : Nat} {hs : List Thing} {j : Nat} {th : Thing} (o : WorldOk ws) (e : ws[i]? = some hs) (k : th.Ok (ws.map List.length)) : WorldOk (ws.set i (hs.set j th)) := by
  refine ⟨by rw [List.length_set]; exact o.pos, by rw [List.length_set]; exact o.most, fun xs hx => ?_, fun xs hx t ht => ?_⟩
  · rcases List.mem_or_eq_of_mem_set hx with h1 | h1
    · exact o.house xs h1
    · subst h1
      rw [List.length_set]
      exact o.house _ (List.mem_of_getElem? e)
  · rw [set_lens e]
    rcases List.mem_or_eq_of_mem_set hx with h1 | h1
    · exact o.ok xs h1 t ht
    · subst h1
      rcases List.mem_or_eq_of_mem_set ht with h2 | h2
      · exact o.ok _ (List.mem_of_getElem? e) t h2
      · subst h2; exact k
/-! LD2 -/


/-! ### what a thing does, by the laws of logs -/
/-! LD3 -/


/-! ### an asker alone: plain law -/
def calW (t : Tgt) (as : List Wo) : Option Wo := match t with
  | .thing a b => some (.ref (.thing a b))
  | .ans n => as[n.toNat]?
def valW (v : Verb) (as : List Wo) : Option Wo := match v with
  | .get => none
  | .op _ (.num i) => some (.num i)
  | .op _ (.ans n) => as[n.toNat]?
abbrev AlS := TM × List Wo × List (Option RefD)
def stepT (k : Int) (s : AlS) (r : Row) : AlS :=
  match calW r.t s.2.1 with
  | some (.ref q) => match callT s.1 q r.v.word (valW r.v s.2.1) k (s.2.1.length : Int) with
    | some (m', a) => (m', s.2.1 ++ [a], s.2.2 ++ [endT s.1 q])
    | none => (s.1, s.2.1 ++ [.brk "no thing"], s.2.2 ++ [none])
  | some (.brk z) => (s.1, s.2.1 ++ [.brk z], s.2.2 ++ [none])
  | _ => (s.1, s.2.1 ++ [.brk "no thing"], s.2.2 ++ [none])
def aloneT (m : TM) (k : Int) (rows : List Row) : AlS := rows.foldl (stepT k) (m, [], [])
theorem aloneT_snoc (m : TM) (k : Int) (rows : List Row) (r : Row) : aloneT m k (rows ++ [r]) = stepT k (aloneT m k rows) r := by
  unfold aloneT
  rw [List.foldl_append]
  rfl
theorem aloneT_take {m : TM} {k : Int} {rows : List Row} {i : Nat} {r : Row} (e : rows[i]? = some r) : aloneT m k (rows.take (i + 1)) = stepT k (aloneT m k (rows.take i)) r := by
  rw [List.take_succ, e]
  exact aloneT_snoc _ _ _ _
/-- a row suits a world of these sizes, and its place -/
def Tgt.Fits (ns : List Nat) (j : Nat) : Tgt → Prop
  | .thing a b => In ns (.thing a b)
  | .ans n => 0 ≤ n ∧ n < (j : Int)
def Arg.Fits (j : Nat) : Arg → Prop
  | .num _ => True
  | .ans n => 0 ≤ n ∧ n < (j : Int)
def Verb.Fits (j : Nat) : Verb → Prop
  | .get => True
  | .op _ a => a.Fits j
structure Row.Fits (ns : List Nat) (j : Nat) (r : Row) : Prop where
  t : r.t.Fits ns j
  v : r.v.Fits j
structure Asker.Fits (ns : List Nat) (a : Asker) : Prop where
  h0 : 0 ≤ a.house
  h1 : a.house < (ns.length : Int)
  many : a.rows.length ≤ 40
  rows : ∀ (j : Nat) r, a.rows[j]? = some r → r.Fits ns j
/-- what is kept behind so many rows -/
structure AlOk (m0 : TM) (k : Int) (i : Nat) (s : AlS) : Prop where
  ty : Tidy s.1
  len : s.1.length ≤ m0.length + i
  al : s.2.1.length = i
  el : s.2.2.length = i
  old : ∀ q, (getT m0 q).isSome = true → (getT s.1 q).isSome = true
  refs : ∀ p ∈ s.1, ∀ q ∈ p.2.refs, (getT s.1 q).isSome = true
  ans : ∀ q, Wo.ref q ∈ s.2.1 → (getT s.1 q).isSome = true
  made : ∀ a k2 j2, (getT s.1 (.made a k2 j2)).isSome = true → k2 = k ∧ 0 ≤ j2 ∧ j2 < (i : Int)
  ends : ∀ q, some q ∈ s.2.2 → (getT s.1 q).isSome = true
theorem doneF_ref {t : Thing} {z : Str} {w : Option Wo} {b q : RefD} : (doneF t z w (some b)).2.1 = some (.ref q) → q ∈ t.refs ∨ (q = b ∧ ∃ n, (doneF t z w (some b)).2.2 = some (.box n)) := by
  unfold doneF
  repeat' split
  all_goals intro h
  all_goals first
    | exact absurd (show (some (Wo.brk _)) = some (Wo.ref q) from h) (by simp)
    | exact absurd (show (some (Wo.num _)) = some (Wo.ref q) from h) (by simp)
    | exact absurd (show (none : Option Wo) = some (Wo.ref q) from h) (by simp)
    | skip
  · rename_i rs _ _ n _ _
    left
    have h : (rs[n.toNat]?).map Wo.ref = some (Wo.ref q) := h
    rw [Option.map_eq_some_iff] at h
    obtain ⟨a, e, h⟩ := h
    cases h
    exact List.mem_of_getElem? e
  · rename_i n _
    right
    have h : some (Wo.ref b) = some (Wo.ref q) := h
    cases h
    exact ⟨rfl, n, rfl⟩
theorem doneF_thing {t : Thing} {z : Str} {w : Option Wo} {b : Option RefD} : ∀ q ∈ (doneF t z w b).1.refs, q ∈ t.refs := by
  unfold doneF
  repeat' split
  all_goals intro q h
  all_goals first
    | exact h
    | exact absurd (show q ∈ ([] : List RefD) from h) (by simp)
theorem putT_mem {m : TM} {r : RefD} {t : Thing} {p : RefD × Thing} : p ∈ putT m r t → p = (r, t) ∨ p ∈ m := by
  induction m with
  | nil => intro h; simp [putT] at h; exact .inl h
  | cons x m ih =>
    intro h
    unfold putT at h
    split at h
    · rcases List.mem_cons.mp h with h | h
      · exact .inl h
      · exact .inr (List.mem_cons_of_mem _ h)
    · rcases List.mem_cons.mp h with h | h
      · exact .inr (by simp [h])
      · rcases ih h with h | h
        · exact .inl h
        · exact .inr (List.mem_cons_of_mem _ h)
theorem putT_some {m : TM} {r q : RefD} {t : Thing} (h : (getT m q).isSome = true) : (getT (putT m r t) q).isSome = true := by
  rw [getT_put]
  split
  · rfl
  · exact h
theorem callT_refs {m m' : TM} {r : RefD} {word : Str} {w : Option Wo} {k j : Int} {a : Wo} (rf : ∀ p ∈ m, ∀ q ∈ p.2.refs, (getT m q).isSome = true) (e : callT m r word w k j = some (m', a)) :
    (∀ p ∈ m', ∀ q ∈ p.2.refs, (getT m' q).isSome = true) ∧ ∀ q, a = .ref q → (getT m' q).isSome = true := by
  unfold callT at e
  cases he : endT m r with
  | none => rw [he] at e; cases e; exact ⟨rf, fun q z => by cases z⟩
  | some s =>
    rw [he] at e
    dsimp only at e
    cases ht : getT m s with
    | none => rw [ht] at e; cases e
    | some t =>
      rw [ht] at e
      dsimp only at e
      have hm := ref_of_get ht
      have h1 := fun q => doneF_ref (t := t) (z := word) (w := w) (b := .made s.house k j) (q := q)
      have h2 := doneF_thing (t := t) (z := word) (w := w) (b := some (.made s.house k j))
      have h3 := fun hr => (done_norel (t := t) (z := word) (w := w) (r := some (.made s.house k j)) hr).2.2
      generalize hd : doneF t word w (some (.made s.house k j)) = d at e h1 h2 h3
      obtain ⟨d1, d2, d3⟩ := d
      dsimp only at e h1 h2 h3
      have base : ∀ p ∈ putT m s d1, ∀ q ∈ p.2.refs, (getT (putT m s d1) q).isSome = true := fun p hp q hq => putT_some (by
        rcases putT_mem hp with rfl | hp
        · exact rf _ hm q (h2 q hq)
        · exact rf p hp q hq)
      cases d2 with
      | none => cases e
      | some a2 =>
        dsimp only at e
        cases d3 with
        | none =>
          cases e
          refine ⟨base, fun q z => ?_⟩
          subst z
          rcases h1 _ rfl with h1 | ⟨_, n, h1⟩
          · exact putT_some (rf _ hm q h1)
          · cases h1
        | some b =>
          dsimp only at e
          split at e
          · cases e
          cases e
          have hb : b.refs = [] := by
            cases t with
            | relay q => unfold doneF at hd; split at hd <;> cases hd
            | _ => obtain ⟨n, rfl⟩ := h3 (fun q z => by cases z) b rfl; rfl
          refine ⟨fun p hp q hq => ?_, fun q z => ?_⟩
          · rcases putT_mem hp with rfl | hp
            · rw [hb] at hq; simp at hq
            · exact putT_some (base p hp q hq)
          · subst z
            rcases h1 _ rfl with h1 | ⟨rfl, n, h1⟩
            · exact putT_some (putT_some (rf _ hm q h1))
            · rw [getT_put, if_pos rfl]; rfl
theorem WorldOk.tl96 {ws : Rooms} (o : WorldOk ws) : (thingsOf ws).length ≤ 96 := by
  unfold thingsOf
  rw [worldT_len]
  have := sum_le (ns := ws.map List.length) fun k hk => by
    obtain ⟨hs, hh, rfl⟩ := List.mem_map.mp hk
    exact o.house hs hh
  rw [List.length_map] at this
  have := o.most
  omega
theorem AlOk.zero {ws : Rooms} (o : WorldOk ws) (k : Int) : AlOk (thingsOf ws) k 0 (thingsOf ws, [], []) := by
  refine ⟨o.tidy, by simp, rfl, rfl, fun _ h => h, fun p hp q hq => ?_, by simp, fun a k2 j2 h => ?_, by simp⟩
  · obtain ⟨hs, hh, ht⟩ := worldT_mem hp
    have ok := o.ok hs hh _ ht
    have hi : In (ws.map List.length) q := by
      cases e : p.2 with
      | shelf rs => rw [e] at hq ok; exact ok.2 q hq
      | relay r => rw [e] at hq ok; simp [Thing.refs] at hq; subst hq; exact ok
      | box w => rw [e] at hq; simp [Thing.refs] at hq
      | maker => rw [e] at hq; simp [Thing.refs] at hq
      | stone => rw [e] at hq; simp [Thing.refs] at hq
    obtain ⟨t, e⟩ := in_at hi
    rw [things_get, e]
    rfl
  · unfold thingsOf at h
    rw [worldT_made] at h
    cases h
/-- the target of a fitting row is answered, and there if it is a ref -/
theorem AlOk.cal {ws : Rooms} {k : Int} {i : Nat} {s : AlS} {t : Tgt} (o : AlOk (thingsOf ws) k i s) (f : t.Fits (ws.map List.length) i) : ∃ c, calW t s.2.1 = some c ∧ ∀ q, c = .ref q → ∃ u, getT s.1 q = some u := by
  cases t with
  | thing a b =>
    refine ⟨_, rfl, fun q e => ?_⟩
    cases e
    obtain ⟨t, e⟩ := in_at (show In (ws.map List.length) (.thing a b) from f)
    exact Option.isSome_iff_exists.mp (o.old _ (by rw [things_get, e]; rfl))
  | ans n =>
    obtain ⟨f0, f1⟩ := f
    have hn : n.toNat < s.2.1.length := by rw [o.al]; omega
    refine ⟨_, List.getElem?_eq_getElem hn, fun q e => ?_⟩
    exact Option.isSome_iff_exists.mp (o.ans q (by rw [← e]; exact List.getElem_mem hn))
theorem AlOk.call {ws : Rooms} {k : Int} {i : Nat} {s : AlS} {q : RefD} {word : Str} {w : Option Wo} (o : AlOk (thingsOf ws) k i s) (g : ∃ u, getT s.1 q = some u) : ∃ m' a, callT s.1 q word w k (s.2.1.length : Int) = some (m', a) := by
  refine callT_some o.ty g fun a => ?_
  cases e : getT s.1 (.made a k (s.2.1.length : Int)) with
  | none => rfl
  | some u =>
    have := o.made a k _ (by rw [e]; rfl)
    rw [o.al] at this
    omega
theorem AlOk.step {ws : Rooms} {k : Int} {i : Nat} {s : AlS} {r : Row} (wo : WorldOk ws) (hi : i ≤ 1000) (o : AlOk (thingsOf ws) k i s) (f : r.Fits (ws.map List.length) i) : AlOk (thingsOf ws) k (i + 1) (stepT k s r) := by
  obtain ⟨c, ec, hc⟩ := o.cal f.t
  have still : ∀ a, (∀ q, a ≠ Wo.ref q) → AlOk (thingsOf ws) k (i + 1) (s.1, s.2.1 ++ [a], s.2.2 ++ [none]) := fun a na =>
    ⟨o.ty, by have := o.len; show s.1.length ≤ _; omega, by simp [o.al], by simp [o.el], o.old, o.refs, fun q hq => by
      rcases List.mem_append.mp hq with hq | hq
      · exact o.ans q hq
      · simp at hq; exact absurd hq.symm (na q), fun a k2 j2 h => by have := o.made a k2 j2 h; exact ⟨this.1, this.2.1, by omega⟩, fun q hq => by
      rcases List.mem_append.mp hq with hq | hq
      · exact o.ends q hq
      · simp at hq⟩
  unfold stepT
  rw [ec]
  cases c with
  | num n => exact still _ (by simp)
  | brk z => exact still _ (by simp)
  | ref q =>
    obtain ⟨u, hu⟩ := hc q rfl
    obtain ⟨m', a, e⟩ := o.call (word := r.v.word) (w := valW r.v s.2.1) ⟨u, hu⟩
    dsimp only
    rw [e]
    dsimp only
    have hlen := o.len
    have h96 := wo.tl96
    have td := callT_tidy o.ty (by omega) ⟨u, hu⟩ e
    have ks := callT_keys e
    have rf := callT_refs o.refs e
    refine ⟨td.1, by have := td.2; show m'.length ≤ _; omega, by simp [o.al], by simp [o.el], fun q hq => ks.1 q (o.old q hq), rf.1, fun q hq => ?_, fun b k2 j2 h => ?_, fun q2 hq => ?_⟩
    · rcases List.mem_append.mp hq with hq | hq
      · exact ks.1 q (o.ans q hq)
      · simp at hq; exact rf.2 q hq.symm
    · rcases ks.2 _ h with h | ⟨b2, h⟩
      · have := o.made b k2 j2 h; exact ⟨this.1, this.2.1, by omega⟩
      · cases h
        rw [o.al]
        exact ⟨rfl, by omega, by omega⟩
    · rcases List.mem_append.mp hq with hq | hq
      · exact ks.1 q2 (o.ends q2 hq)
      · simp at hq
        obtain ⟨t2, h2, _⟩ := endT_some o.ty.cls ⟨u, hu⟩ hq.symm
        exact ks.1 q2 (by rw [h2]; rfl)
theorem AlOk.all {ws : Rooms} {a : Asker} (k : Int) (wo : WorldOk ws) (f : a.Fits (ws.map List.length)) : ∀ i, i ≤ a.rows.length → AlOk (thingsOf ws) k i (aloneT (thingsOf ws) k (a.rows.take i))
  | 0, _ => by rw [List.take_zero]; exact AlOk.zero wo k
  | i + 1, h => by
    have e : a.rows[i]? = some a.rows[i] := List.getElem?_eq_getElem (by omega)
    rw [aloneT_take e]
    have := f.many
    exact (AlOk.all k wo f i (by omega)).step wo (by omega) (f.rows i _ e)
/-! LD4 -/


/-! ### the law's own asker alone -/
theorem DctAt.same {h h' : Hh} {d : Addr} {kvs : List (NestedKey × Val)} (e : DctAt h d kvs) (k : h' d = h d) : DctAt h' d kvs := by
  rcases e with e | ⟨u, e⟩
  · exact .inl (k.trans e)
  · exact .inr ⟨u, k.trans e⟩
theorem DctAt.ne {h : Hh} {d b : Addr} {kvs : List (NestedKey × Val)} (e : DctAt h d kvs) (k : h b = none) : d ≠ b := fun z => by
  subst z
  rcases e with e | ⟨u, e⟩ <;> rw [k] at e <;> cases e
theorem any_refd (xs : List RefD) (r : RefD) : ((xs.map RefD.d).any fun z => PyData.eqv z r.d) = decide (r ∈ xs) := by
  rw [Bool.eq_iff_iff, List.any_eq_true, decide_eq_true_eq]
  constructor
  · rintro ⟨z, hz, e⟩
    obtain ⟨x, hx, rfl⟩ := List.mem_map.mp hz
    exact RefD.d_inj ((eqv_pl _ _ x.pl r.pl).mp e) ▸ hx
  · intro hx
    exact ⟨r.d, List.mem_map.mpr ⟨r, hx, rfl⟩, (eqv_pl _ _ r.pl r.pl).mpr rfl⟩
theorem refs_shaped (xs : List RefD) : SeqAt.shaped (.list (xs.map RefD.d)) = true := (LayD.list (n := 1) fun d hd => by obtain ⟨r, _, rfl⟩ := List.mem_map.mp hd; exact r.lay).shaped (by decide)
def valO (v : Verb) (as : List (Option Wo)) : Option Wo := match v with
  | .get => none
  | .op _ (.num i) => some (.num i)
  | .op _ (.ans n) => (as[n.toNat]?).join
/-! ZW -/
/-! comprehensions over (asker, (house, script)) -/
/-! LD5 -/


/-! ### the program's scripts: what suits, and what is refused -/
theorem drop_cons {α : Type} {xs : List α} {i : Nat} {x : α} (e : xs[i]? = some x) : xs.drop i = x :: xs.drop (i + 1) := by
  obtain ⟨h, rfl⟩ := List.getElem?_eq_some_iff.mp e
  exact List.drop_eq_getElem_cons h
/-! LD6 -/


/-! ### the program's asker alone, and waiting -/
def calO (t : Tgt) (as : List (Option Wo)) : Option Wo := match t with
  | .thing a b => some (.ref (.thing a b))
  | .ans n => (as[n.toNat]?).join
def Tgt.Ahead (j : Nat) : Tgt → Prop
  | .thing _ _ => True
  | .ans n => 0 ≤ n ∧ n < (j : Int)
theorem Tgt.Fits.ahead {ns : List Nat} {j : Nat} {t : Tgt} (f : t.Fits ns j) : t.Ahead j := by
  cases t with
  | thing a b => trivial
  | ans n => exact f
/-- what a call on this, which is no ref, is answered -/
def brokW : Wo → Wo
  | .num _ => .brk "no thing"
  | w => w
/-- an owned list of owned lists, all new; nothing else is changed -/
structure NewN (h h' : Hh) (a : Addr) (bs : List Addr) (xss : List (List Val)) : Prop where
  nest : Nest h' a bs xss
  new : ∀ c ∈ a :: bs, h c = none
  old : ∀ c, c ∉ a :: bs → h' c = h c
theorem take_snoc {α : Type} {xs : List α} {i : Nat} {x : α} (e : xs[i]? = some x) : xs.take (i + 1) = xs.take i ++ [x] := by rw [List.take_succ, e]; rfl
/-! LD7 -/


/-! ### askers drawn of a deck -/
structure PpOk (ns : List Nat) (most : Int) (xs : List Asker) : Prop where
  many : xs.length ≤ 4
  each : ∀ a ∈ xs, a.Fits ns
  rows : ∀ a ∈ xs, (a.rows.length : Int) ≤ most
theorem Tgt.Fits.mono {ns : List Nat} {i j : Nat} {t : Tgt} (f : t.Fits ns i) (h : i ≤ j) : t.Fits ns j := by
  cases t with
  | thing a b => exact f
  | ans n => exact ⟨f.1, by have := f.2; omega⟩
theorem Row.Fits.of {ns : List Nat} {rs : List Row} {r : Row} (h : ∀ (j : Nat) x, rs[j]? = some x → x.Fits ns j) (f : r.Fits ns rs.length) : ∀ (j : Nat) x, (rs ++ [r])[j]? = some x → x.Fits ns j := fun j x e => by
  by_cases hj : j < rs.length
  · rw [List.getElem?_append_left hj] at e; exact h j x e
  · have := (List.getElem?_eq_some_iff.mp e).1
    simp at this
    have hj2 : j = rs.length := by omega
    subst hj2
    rw [List.getElem?_append_right (by omega), Nat.sub_self] at e
    simp at e
    subst e
    exact f
/-! LD8 -/


/-! ### alike, the kinds too -/
/-! LD9 -/


/-! ### answers as data -/
def Wo.d : Wo → PyData
  | .num n => .tuple [.str (Str.ofString "number"), .int n]
  | .brk z => .tuple [.str (Str.ofString "broken"), .str z]
  | .ref r => r.d
theorem Wo.dv {h : Hh} : ∀ w : Wo, Dv h w.v w.d
  | .num _ => .tup (.cons (.str _) (.cons (.int _) .nil))
  | .brk _ => .tup (.cons (.str _) (.cons (.str _) .nil))
  | .ref r => r.dv
theorem Wo.pl : ∀ w : Wo, plD w.d = true
  | .num _ => by simp [Wo.d, plD, plDs]
  | .brk _ => by simp [Wo.d, plD, plDs]
  | .ref r => r.pl
def Wo.Lay (w : Wo) : Prop := LayD 1 w.d
theorem Wo.lay_num (n : Int) : (Wo.num n).Lay := lay2 (.str 0 (by decide +kernel)) (.int 0 _)
theorem Wo.lay_ref (r : RefD) : (Wo.ref r).Lay := r.lay
theorem lay_c {z : Str} (h : (PyData.str z).canLay0 = true) : (Wo.brk z).Lay := lay2 (.str 0 (by decide +kernel)) (.str 0 h)
theorem doneF_lay {t : Thing} {z : Str} {w : Option Wo} {b : RefD} {a : Wo} (hw : ∀ x, w = some x → x.Lay) : (doneF t z w (some b)).2.1 = some a → a.Lay := by
  unfold doneF
  split
  · intro e
    exact hw _ e
  repeat' split
  all_goals intro e
  all_goals first
    | (cases (show some (Wo.brk _) = some a from e); exact lay_c (by decide +kernel))
    | (cases (show some (Wo.num _) = some a from e); exact Wo.lay_num _)
    | (cases (show (none : Option Wo) = some a from e))
    | (cases (show some (Wo.ref b) = some a from e); exact Wo.lay_ref _)
    | skip
  all_goals
    obtain ⟨r, _, rfl⟩ := Option.map_eq_some_iff.mp (show (_ : Option RefD).map Wo.ref = some a from e)
    exact Wo.lay_ref _
theorem callT_lay {m m' : TM} {r : RefD} {word : Str} {w : Option Wo} {k j : Int} {a : Wo} (hw : ∀ x, w = some x → x.Lay) (e : callT m r word w k j = some (m', a)) : a.Lay := by
  unfold callT at e
  cases he : endT m r with
  | none => rw [he] at e; cases e; exact lay_c (by decide +kernel)
  | some s =>
    rw [he] at e
    dsimp only at e
    cases ht : getT m s with
    | none => rw [ht] at e; cases e
    | some t =>
      rw [ht] at e
      dsimp only at e
      have h1 := fun a => doneF_lay (t := t) (z := word) (b := .made s.house k j) (a := a) hw
      generalize doneF t word w (some (.made s.house k j)) = d at e h1
      obtain ⟨d1, d2, d3⟩ := d
      cases d2 with
      | none => cases e
      | some a2 =>
        dsimp only at e h1
        have := h1 a2 rfl
        cases d3 with
        | none => cases e; exact this
        | some b =>
          dsimp only at e
          split at e
          · cases e
          · cases e; exact this
/-! LF0 -/
/-! ### logs: plain law of going along -/
/-- an answer at a place -/
abbrev gA (ys : List (Option Wo)) (i : Nat) : Option Wo := (ys[i]?).join
theorem gA_lt {ys : List (Option Wo)} {i : Nat} {w : Wo} (e : gA ys i = some w) : i < ys.length ∧ ys[i]? = some (some w) := by
  cases h : ys[i]? with
  | none => unfold gA at e; rw [h] at e; cases e
  | some o =>
    unfold gA at e
    rw [h] at e
    exact ⟨(List.getElem?_eq_some_iff.mp h).1, by rw [show o = some w from e]⟩
theorem gA_set {ys : List (Option Wo)} {i j : Nat} {o : Option Wo} (h : i < ys.length) : gA (ys.set i o) j = if j = i then o else gA ys j := by
  unfold gA
  rw [List.getElem?_set]
  by_cases c : i = j
  · subst c; rw [if_pos rfl, if_pos h, if_pos rfl]; rfl
  · rw [if_neg c, if_neg (fun z => c z.symm)]
/-- what a row that is not done is answered, by what it is called on -/
def sv (m : TM) : Option Wo → Option Wo
  | none => none
  | some (.ref q) => if endT m q = none then some (.brk "ring") else none
  | some w => some (brokW w)
def setl1 (m : TM) (ys : List (Option Wo)) (j : Nat) (t : Tgt) : List (Option Wo) := match gA ys j with
  | some _ => ys
  | none => match sv m (calO t ys) with
    | none => ys
    | some w => ys.set j (some w)
def setlN (m : TM) (rows : List Row) (ys : List (Option Wo)) : Nat → List (Option Wo)
  | 0 => ys
  | n + 1 => match rows[n]? with
    | some r => setl1 m (setlN m rows ys n) n r.t
    | none => setlN m rows ys n
abbrev setlF (m : TM) (rows : List Row) (ys : List (Option Wo)) : List (Option Wo) := setlN m rows ys rows.length
theorem setlN_succ {m : TM} {rows : List Row} {ys : List (Option Wo)} {n : Nat} {r : Row} (e : rows[n]? = some r) : setlN m rows ys (n + 1) = setl1 m (setlN m rows ys n) n r.t := by
  show (match rows[n]? with
    | some r => setl1 m (setlN m rows ys n) n r.t
    | none => setlN m rows ys n) = _
  rw [e]
theorem setl1_len {m : TM} {ys : List (Option Wo)} {j : Nat} {t : Tgt} : (setl1 m ys j t).length = ys.length := by
  unfold setl1
  split
  · rfl
  · split
    · rfl
    · exact List.length_set
theorem setlN_len {m : TM} {rows : List Row} {ys : List (Option Wo)} : ∀ n, (setlN m rows ys n).length = ys.length
  | 0 => rfl
  | n + 1 => by
    unfold setlN
    split
    · rw [setl1_len, setlN_len n]
    · exact setlN_len n
theorem setl1_other {m : TM} {ys : List (Option Wo)} {j i : Nat} {t : Tgt} (h : i ≠ j) : gA (setl1 m ys j t) i = gA ys i := by
  unfold setl1
  split
  · rfl
  · split
    · rfl
    · unfold gA
      rw [List.getElem?_set_ne (fun z => h z.symm)]
theorem setlN_other {m : TM} {rows : List Row} {ys : List (Option Wo)} {i : Nat} : ∀ n, n ≤ i → gA (setlN m rows ys n) i = gA ys i
  | 0, _ => rfl
  | n + 1, h => by
    unfold setlN
    split
    · rw [setl1_other (by omega), setlN_other n (by omega)]
    · exact setlN_other n (by omega)
theorem setlN_stay {m : TM} {rows : List Row} {ys : List (Option Wo)} {i k : Nat} (h : i < k) : ∀ n, gA (setlN m rows ys (k + n)) i = gA (setlN m rows ys k) i
  | 0 => rfl
  | n + 1 => by
    rw [show setlN m rows ys (k + (n + 1)) = (match rows[k + n]? with
      | some r => setl1 m (setlN m rows ys (k + n)) (k + n) r.t
      | none => setlN m rows ys (k + n)) from rfl]
    split
    · rw [setl1_other (by omega), setlN_stay h n]
    · exact setlN_stay h n
theorem setlN_last {m : TM} {rows : List Row} {ys : List (Option Wo)} {i k n : Nat} (h : i < k) (hn : k ≤ n) : gA (setlN m rows ys n) i = gA (setlN m rows ys k) i := by
  have := setlN_stay (m := m) (rows := rows) (ys := ys) h (n - k)
  rwa [show k + (n - k) = n by omega] at this
theorem calO_ext {t : Tgt} {j : Nat} {ys zs : List (Option Wo)} (f : t.Ahead j) (h : ∀ i, i < j → gA ys i = gA zs i) : calO t ys = calO t zs := by
  cases t with
  | thing a b => rfl
  | ans n =>
    obtain ⟨f0, f1⟩ := f
    exact h n.toNat (by omega)
/-- each row behind settling -/
theorem setl_fix {m : TM} {rows : List Row} {ys : List (Option Wo)} {j : Nat} {r : Row} (hl : ys.length = rows.length) (e : rows[j]? = some r) (f : r.t.Ahead j) : gA (setlF m rows ys) j = (gA ys j).or (sv m (calO r.t (setlF m rows ys))) := by
  have hj := (List.getElem?_eq_some_iff.mp e).1
  have e1 : calO r.t (setlF m rows ys) = calO r.t (setlN m rows ys j) := calO_ext f fun i hi => setlN_last hi (by omega)
  rw [e1]
  unfold setlF
  rw [setlN_last (k := j + 1) (by omega) (by omega), setlN_succ e]
  have e2 : gA (setlN m rows ys j) j = gA ys j := setlN_other j (Nat.le_refl _)
  have hl2 : j < (setlN m rows ys j).length := by rw [setlN_len]; omega
  generalize setlN m rows ys j = zs at *
  unfold setl1
  rw [← e2]
  cases h : gA zs j with
  | some w => dsimp only; rw [h]; rfl
  | none =>
    dsimp only
    cases h2 : sv m (calO r.t zs) with
    | none => dsimp only; rw [h]; rfl
    | some w => dsimp only; rw [gA_set hl2, if_pos rfl]; rfl
theorem sv_brk {m : TM} {o : Option Wo} {w : Wo} (h : sv m o = some w) : ∀ q, w ≠ .ref q := by
  intro q e
  subst e
  cases o with
  | none => cases h
  | some u =>
    cases u with
    | num n => exact absurd h (by simp [sv, brokW])
    | brk z => exact absurd h (by simp [sv, brokW])
    | ref s =>
      have h : (if endT m s = none then some (Wo.brk "ring") else none) = some (.ref q) := h
      split at h <;> cases h
/-! relays lead on alike -/
def SameR (m m' : TM) : Prop := ∀ r q, getT m r = some (.relay q) ↔ getT m' r = some (.relay q)
theorem SameR.refl (m : TM) : SameR m m := fun _ _ => Iff.rfl
theorem SameR.trans {a b c : TM} (h : SameR a b) (g : SameR b c) : SameR a c := fun r q => (h r q).trans (g r q)
theorem SameR.put {m : TM} {s : RefD} {t : Thing} (h1 : ∀ q, getT m s ≠ some (.relay q)) (h2 : ∀ q, t ≠ .relay q) : SameR m (putT m s t) := fun r q => by
  rw [getT_put]
  by_cases c : r = s
  · rw [if_pos c, c]
    constructor
    · intro h; exact absurd h (h1 q)
    · intro h; cases h; exact absurd rfl (h2 q)
  · rw [if_neg c]
theorem Path.same {m m' : TM} (h : SameR m m') {s : RefD} {xs : List RefD} {r : RefD} (p : Path m s xs r) : Path m' s xs r := by
  induction p with
  | nil => exact .nil
  | step p g ih => exact .step ih ((h _ _).mp g)
/-- each way comes to an end, or round -/
theorem path_all {m : TM} (s : RefD) : ∃ xs r, Path m s xs r ∧ xs.Nodup ∧ ((∀ q, getT m r ≠ some (.relay q)) ∨ r ∈ xs) := by
  have go : ∀ n xs r, Path m s xs r → xs.Nodup → m.length - xs.length = n → ∃ xs r, Path m s xs r ∧ xs.Nodup ∧ ((∀ q, getT m r ≠ some (.relay q)) ∨ r ∈ xs) := by
    intro n
    induction n using Nat.strongRecOn with
    | ind n ih =>
      intro xs r p nd hn
      by_cases hr : r ∈ xs
      · exact ⟨xs, r, p, nd, .inr hr⟩
      by_cases hq : ∃ q, getT m r = some (.relay q)
      · obtain ⟨q, hq⟩ := hq
        have p2 := p.step hq
        have nd2 : (xs ++ [r]).Nodup := by
          rw [List.nodup_append]
          exact ⟨nd, by simp, fun x hx y hy => by simp at hy; subst hy; exact fun z => hr (z ▸ hx)⟩
        have l2 := p2.len nd2
        rw [List.length_append] at l2
        refine ih (m.length - (xs ++ [r]).length) ?_ _ _ p2 nd2 rfl
        rw [List.length_append]
        simp at *
        omega
      · exact ⟨xs, r, p, nd, .inl fun q z => hq ⟨q, z⟩⟩
  exact go _ [] s .nil List.nodup_nil rfl
theorem endT_same {m m' : TM} (h : SameR m m') (s : RefD) : endT m s = endT m' s := by
  obtain ⟨xs, r, p, nd, c | c⟩ := path_all (m := m) s
  · rw [p.found nd c, (p.same h).found nd fun q z => c q ((h _ _).mpr z)]
  · rw [p.round nd c, (p.same h).round nd c]
theorem callT_same {m m' : TM} {r : RefD} {word : Str} {w : Option Wo} {k j : Int} {a : Wo} (cl : Closed m) (g : ∃ t, getT m r = some t) (e : callT m r word w k j = some (m', a)) : SameR m m' := by
  unfold callT at e
  cases he : endT m r with
  | none => rw [he] at e; cases e; exact SameR.refl _
  | some s =>
    rw [he] at e
    obtain ⟨t, ht, hr⟩ := endT_some cl g he
    obtain ⟨h1, h2, h3⟩ := done_norel (t := t) (z := word) (w := w) (r := some (.made s.house k j)) hr
    dsimp only at e
    rw [ht] at e
    dsimp only at e
    have s1 : SameR m (putT m s (doneF t word w (some (.made s.house k j))).1) := SameR.put (fun q z => by rw [ht] at z; cases z; exact hr q rfl) h1
    generalize doneF t word w (some (.made s.house k j)) = d at *
    obtain ⟨d1, d2, d3⟩ := d
    cases d2 with
    | none => cases e
    | some a2 =>
      cases d3 with
      | none => cases e; exact s1
      | some b =>
        dsimp only at e
        split at e
        · cases e
        · rename_i hn
          cases e
          obtain ⟨n, rfl⟩ := h3 b rfl
          refine s1.trans (SameR.put (fun q z => ?_) fun q z => by cases z)
          have z2 := (s1 _ _).mpr z
          rw [z2] at hn
          exact hn rfl
/-! a state behind a log -/
structure One where
  k : Int
  j : Int
  r : RefD
  deriving DecidableEq
def One.v (o : One) : Val := .tup [.int o.k, .int o.j, o.r.v]
structure Al where
  m : TM
  as : List (List (Option Wo))
  lg : List One
def setA (m : TM) (xs : List Asker) (as : List (List (Option Wo))) (k : Nat) : List (List (Option Wo)) := match xs[k]?, as[k]? with
  | some a, some ys => as.set k (setlF m a.rows ys)
  | _, _ => as
def nones (xs : List Asker) : List (List (Option Wo)) := xs.map fun a => List.replicate a.rows.length none
def begN (m : TM) (xs : List Asker) : Nat → List (List (Option Wo))
  | 0 => nones xs
  | n + 1 => setA m xs (begN m xs n) n
def begA (ws : Rooms) (xs : List Asker) : Al := ⟨thingsOf ws, begN (thingsOf ws) xs xs.length, []⟩
def argB (v : Verb) (ys : List (Option Wo)) : Bool := match v with
  | .op _ (.ans n) => (gA ys n.toNat).isSome
  | _ => true
def aheadB (rows : List Row) (ys : List (Option Wo)) (j : Nat) (t : Tgt) : Bool := (List.range j).all fun i => !decide ((rows[i]?).map Row.t = some t) || (gA ys i).isSome
/-- the thing by which a row can be done now -/
def nxt (m : TM) (rows : List Row) (ys : List (Option Wo)) (j : Nat) : Option RefD := match rows[j]? with
  | none => none
  | some r => match gA ys j, calO r.t ys with
    | none, some (.ref q) => if argB r.v ys = true ∧ aheadB rows ys j r.t = true then endT m q else none
    | _, _ => none
def mayB (xs : List Asker) (s : Al) (o : One) : Bool := decide (0 ≤ o.k ∧ 0 ≤ o.j) && match xs[o.k.toNat]?, s.as[o.k.toNat]? with
  | some a, some ys => decide (nxt s.m a.rows ys o.j.toNat = some o.r)
  | _, _ => false
def goA (xs : List Asker) (s : Al) (o : One) : Al := match xs[o.k.toNat]?, s.as[o.k.toNat]? with
  | some a, some ys => match a.rows[o.j.toNat]? with
    | some r => match calO r.t ys with
      | some (.ref q) => match callT s.m q r.v.word (valO r.v ys) o.k o.j with
        | some (m', w) => ⟨m', s.as.set o.k.toNat (setlF m' a.rows (ys.set o.j.toNat (some w))), s.lg ++ [o]⟩
        | none => s
      | _ => s
    | none => s
  | _, _ => s
def alongA (xs : List Asker) : Al → List One → Al
  | s, [] => s
  | s, o :: l => if mayB xs s o = true then alongA xs (goA xs s o) l else s
theorem calO_mono {t : Tgt} {ys zs : List (Option Wo)} {w : Wo} (h : ∀ i w, gA ys i = some w → gA zs i = some w) (e : calO t ys = some w) : calO t zs = some w := by
  cases t with
  | thing a b => exact e
  | ans n => exact h _ _ e
/-- what is kept of one asker: its answers, and which rows are logged -/
structure AkOk (ns : List Nat) (m : TM) (a : Asker) (ys : List (Option Wo)) (lg : Nat → Prop) : Prop where
  len : ys.length = a.rows.length
  ref : ∀ i q, gA ys i = some (.ref q) → (getT m q).isSome = true
  open_ : ∀ (j : Nat) r, a.rows[j]? = some r → gA ys j = none → ∀ c, calO r.t ys = some c → ∃ q e, c = .ref q ∧ endT m q = some e
  left : ∀ (j : Nat) r w, a.rows[j]? = some r → gA ys j = some w → ¬ lg j → ∃ c, calO r.t ys = some c ∧ sv m (some c) = some w
  done : ∀ j, lg j → ∃ w, gA ys j = some w
  dref : ∀ (j : Nat) r, a.rows[j]? = some r → lg j → ∃ q e, calO r.t ys = some (.ref q) ∧ endT m q = some e
theorem sv_same {m m' : TM} (h : SameR m m') (o : Option Wo) : sv m o = sv m' o := by
  cases o with
  | none => rfl
  | some w =>
    cases w with
    | ref q => show (if endT m q = none then some (Wo.brk "ring") else none) = if endT m' q = none then some (Wo.brk "ring") else none; rw [endT_same h]
    | _ => rfl
theorem calO_some_fits {ns : List Nat} {m : TM} {a : Asker} {ys : List (Option Wo)} {lg : Nat → Prop} {j : Nat} {r : Row} {q : RefD} (o : AkOk ns m a ys lg) (hin : ∀ r, In ns r → (getT m r).isSome = true) (f : a.Fits ns) (e : a.rows[j]? = some r) (c : calO r.t ys = some (.ref q)) : (getT m q).isSome = true := by
  have fr := (f.rows j r e).t
  cases ht : r.t with
  | thing x y =>
    rw [ht] at c fr
    cases c
    exact hin _ fr
  | ans n =>
    rw [ht] at c
    exact o.ref _ _ c
/-- a row more is answered, and the others settled -/
theorem AkOk.step {ns : List Nat} {m m' : TM} {a : Asker} {ys : List (Option Wo)} {lg : Nat → Prop} {j : Nat} {r : Row} {w : Wo} {q e : RefD} (o : AkOk ns m a ys lg) (f : a.Fits ns) (sr : SameR m m') (hm : ∀ q, (getT m q).isSome = true → (getT m' q).isSome = true) (er : a.rows[j]? = some r) (hn : gA ys j = none) (hc : calO r.t ys = some (.ref q)) (he : endT m q = some e) (hw : ∀ q, w = .ref q → (getT m' q).isSome = true) :
    AkOk ns m' a (setlF m' a.rows (ys.set j (some w))) (fun i => lg i ∨ i = j) := by
  have hj : j < ys.length := by rw [o.len]; exact (List.getElem?_eq_some_iff.mp er).1
  have hl : (ys.set j (some w)).length = a.rows.length := by rw [List.length_set, o.len]
  have g1 : ∀ i, gA (ys.set j (some w)) i = if i = j then some w else gA ys i := fun i => gA_set hj
  have fx : ∀ (i : Nat) x, a.rows[i]? = some x → gA (setlF m' a.rows (ys.set j (some w))) i = (gA (ys.set j (some w)) i).or (sv m' (calO x.t (setlF m' a.rows (ys.set j (some w))))) := fun i x ex => setl_fix hl ex (f.rows i x ex).t.ahead
  have out : ∀ i, a.rows.length ≤ i → gA (setlF m' a.rows (ys.set j (some w))) i = none := fun i hi => by
    unfold gA
    rw [List.getElem?_eq_none (by rw [setlN_len]; omega)]
    rfl
  have mono : ∀ i u, gA ys i = some u → gA (setlF m' a.rows (ys.set j (some w))) i = some u := fun i u hu => by
    have hi := (gA_lt hu).1
    rw [o.len] at hi
    have ex := List.getElem?_eq_getElem hi
    rw [fx i _ ex, g1]
    by_cases c : i = j
    · subst c; rw [hn] at hu; cases hu
    · rw [if_neg c, hu]; rfl
  have atj : gA (setlF m' a.rows (ys.set j (some w))) j = some w := by rw [fx j r er, g1, if_pos rfl]; rfl
  refine ⟨by rw [setlN_len, hl], fun i q2 hq => ?_, fun i x ex hx c hcx => ?_, fun i x u ex hu nl => ?_, fun i hi => ?_, fun i x ex hi => ?_⟩
  · by_cases hi : i < a.rows.length
    · have ex := List.getElem?_eq_getElem hi
      rw [fx i _ ex, g1] at hq
      by_cases c : i = j
      · rw [if_pos c] at hq
        have : w = .ref q2 := by simpa using hq
        exact hw _ this
      · rw [if_neg c] at hq
        cases hy : gA ys i with
        | some u =>
          rw [hy] at hq
          have : u = .ref q2 := by simpa using hq
          subst this
          exact hm _ (o.ref i q2 hy)
        | none =>
          rw [hy] at hq
          exact absurd rfl (sv_brk (show sv m' _ = some (.ref q2) from hq) q2)
    · rw [out i (by omega)] at hq
      cases hq
  · rw [fx i x ex] at hx
    cases h1 : gA (ys.set j (some w)) i with
    | some u => rw [h1] at hx; cases hx
    | none =>
      rw [h1] at hx
      have hx : sv m' (calO x.t (setlF m' a.rows (ys.set j (some w)))) = none := hx
      rw [hcx] at hx
      cases c with
      | num n => cases hx
      | brk z => cases hx
      | ref q2 =>
        have hx : (if endT m' q2 = none then some (Wo.brk "ring") else none) = none := hx
        cases h2 : endT m' q2 with
        | none => rw [if_pos h2] at hx; cases hx
        | some e2 => exact ⟨q2, e2, rfl, h2⟩
  · have hne : i ≠ j := fun z => nl (.inr z)
    have hnl : ¬ lg i := fun z => nl (.inl z)
    have h2 := fx i x ex
    rw [g1, if_neg hne, hu] at h2
    cases hy : gA ys i with
    | some u2 =>
      obtain ⟨c, hc1, hc2⟩ := o.left i x u2 ex hy hnl
      rw [hy] at h2
      cases h2
      exact ⟨c, calO_mono mono hc1, by rw [← sv_same sr]; exact hc2⟩
    | none =>
      rw [hy] at h2
      have h2 : some u = sv m' (calO x.t (setlF m' a.rows (ys.set j (some w)))) := h2
      cases hcx : calO x.t (setlF m' a.rows (ys.set j (some w))) with
      | none => rw [hcx] at h2; cases h2
      | some c => exact ⟨c, rfl, by rw [← hcx]; exact h2.symm⟩
  · rcases hi with hi | rfl
    · obtain ⟨u, hu⟩ := o.done i hi
      exact ⟨u, mono i u hu⟩
    · exact ⟨w, atj⟩
  · rcases hi with hi | rfl
    · obtain ⟨q2, e2, h1, h2⟩ := o.dref i x ex hi
      exact ⟨q2, e2, calO_mono mono h1, by rw [← endT_same sr]; exact h2⟩
    · rw [er] at ex
      cases ex
      exact ⟨q, e, calO_mono mono hc, by rw [← endT_same sr]; exact he⟩
/-- another asker's step changes nothing of this one -/
theorem AkOk.keep {ns : List Nat} {m m' : TM} {a : Asker} {ys : List (Option Wo)} {lg : Nat → Prop} (o : AkOk ns m a ys lg) (sr : SameR m m') (hm : ∀ q, (getT m q).isSome = true → (getT m' q).isSome = true) : AkOk ns m' a ys lg where
  len := o.len
  ref := fun i q h => hm _ (o.ref i q h)
  open_ := fun j r er hn c hc => by
    obtain ⟨q, e, h1, h2⟩ := o.open_ j r er hn c hc
    exact ⟨q, e, h1, by rw [← endT_same sr]; exact h2⟩
  left := fun j r w er hw nl => by
    obtain ⟨c, h1, h2⟩ := o.left j r w er hw nl
    exact ⟨c, h1, by rw [← sv_same sr]; exact h2⟩
  done := o.done
  dref := fun j r er hl => by
    obtain ⟨q, e, h1, h2⟩ := o.dref j r er hl
    exact ⟨q, e, h1, by rw [← endT_same sr]; exact h2⟩
theorem AkOk.lg {ns : List Nat} {m : TM} {a : Asker} {ys : List (Option Wo)} {lg lg' : Nat → Prop} (o : AkOk ns m a ys lg) (h : ∀ i, lg i ↔ lg' i) : AkOk ns m a ys lg' := by
  have : lg = lg' := funext fun i => propext (h i)
  rw [← this]
  exact o
/-- settled from nothing -/
theorem AkOk.zero {ns : List Nat} {m : TM} {a : Asker} (f : a.Fits ns) : AkOk ns m a (setlF m a.rows (List.replicate a.rows.length none)) (fun _ => False) := by
  have hl : (List.replicate a.rows.length (none : Option Wo)).length = a.rows.length := List.length_replicate
  have g0 : ∀ i, gA (List.replicate a.rows.length (none : Option Wo)) i = none := fun i => by
    unfold gA
    rw [List.getElem?_replicate]
    split <;> rfl
  have fx : ∀ (i : Nat) x, a.rows[i]? = some x → gA (setlF m a.rows (List.replicate a.rows.length none)) i = sv m (calO x.t (setlF m a.rows (List.replicate a.rows.length none))) := fun i x ex => by
    rw [setl_fix hl ex (f.rows i x ex).t.ahead, g0]; rfl
  have hlen : (setlF m a.rows (List.replicate a.rows.length (none : Option Wo))).length = a.rows.length := by rw [setlN_len, hl]
  generalize setlF m a.rows (List.replicate a.rows.length (none : Option Wo)) = zs at *
  refine ⟨hlen, fun i q hq => ?_, fun i x ex hx c hc => ?_, fun i x u ex hu _ => ?_, fun _ h => h.elim, fun _ _ _ h => h.elim⟩
  · have hi := (gA_lt hq).1
    rw [hlen] at hi
    rw [fx i _ (List.getElem?_eq_getElem hi)] at hq
    exact absurd rfl (sv_brk hq q)
  · rw [fx i x ex, hc] at hx
    cases c with
    | num n => cases hx
    | brk z => cases hx
    | ref q =>
      have hx : (if endT m q = none then some (Wo.brk "ring") else none) = none := hx
      cases h2 : endT m q with
      | none => rw [if_pos h2] at hx; cases hx
      | some e => exact ⟨q, e, rfl, h2⟩
  · have h2 := fx i x ex
    rw [hu] at h2
    cases hc : calO x.t zs with
    | none => rw [hc] at h2; cases h2
    | some c => exact ⟨c, rfl, by rw [← hc]; exact h2.symm⟩
/-! LF1 -/
/-! ### logs: what is kept of a state -/
abbrev lgAt (s : Al) (k : Nat) (j : Nat) : Prop := ∃ o ∈ s.lg, o.k = (k : Int) ∧ o.j = (j : Int)
structure AgOk (ws : Rooms) (xs : List Asker) (s : Al) : Prop where
  ty : Tidy s.m
  rel : SameR (thingsOf ws) s.m
  len : s.m.length ≤ (thingsOf ws).length + s.lg.length
  al : s.as.length = xs.length
  old : ∀ q, (getT (thingsOf ws) q).isSome = true → (getT s.m q).isSome = true
  refs : ∀ p ∈ s.m, ∀ q ∈ p.2.refs, (getT s.m q).isSome = true
  made : ∀ a k j, (getT s.m (.made a k j)).isSome = true → ∃ o ∈ s.lg, o.k = k ∧ o.j = j
  each : ∀ (k : Nat) a ys, xs[k]? = some a → s.as[k]? = some ys → AkOk (ws.map List.length) s.m a ys (lgAt s k)
  nd : (s.lg.map fun o => (o.k, o.j)).Nodup
  bnd : ∀ o ∈ s.lg, ∃ (k j : Nat) (a : Asker), o.k = (k : Int) ∧ o.j = (j : Int) ∧ xs[k]? = some a ∧ j < a.rows.length
def pairsTo (n : Nat) : List (Int × Int) := (List.range n).flatMap fun (k : Nat) => (List.range 40).map fun (j : Nat) => ((k : Int), (j : Int))
theorem pairsTo_len : ∀ n, (pairsTo n).length = 40 * n
  | 0 => rfl
  | n + 1 => by
    unfold pairsTo
    rw [List.range_succ (n := n), List.flatMap_append, List.length_append, show ((List.range n).flatMap fun (k : Nat) => (List.range 40).map fun (j : Nat) => ((k : Int), (j : Int))).length = 40 * n from pairsTo_len n]
    simp
    omega
theorem AgOk.many {ws : Rooms} {xs : List Asker} {s : Al} (o : AgOk ws xs s) (f : ∀ a ∈ xs, a.Fits (ws.map List.length)) : s.lg.length ≤ 40 * xs.length := by
  have := nodup_len (ys := pairsTo xs.length) o.nd fun p hp => by
    obtain ⟨x, hx, rfl⟩ := List.mem_map.mp hp
    obtain ⟨k, j, a, e1, e2, e3, e4⟩ := o.bnd x hx
    have hk := (List.getElem?_eq_some_iff.mp e3).1
    have h40 := (f a (List.mem_of_getElem? e3)).many
    exact List.mem_flatMap.mpr ⟨k, List.mem_range.mpr hk, List.mem_map.mpr ⟨j, List.mem_range.mpr (by omega), by rw [e1, e2]⟩⟩
  rw [List.length_map, pairsTo_len] at this
  exact this
theorem AgOk.mlen {ws : Rooms} {xs : List Asker} {s : Al} (o : AgOk ws xs s) (wo : WorldOk ws) (f : ∀ a ∈ xs, a.Fits (ws.map List.length)) : s.m.length ≤ 96 + 40 * xs.length := by
  have := o.many f
  have := wo.tl96
  have := o.len
  omega
theorem begN_get {m : TM} {xs : List Asker} {k : Nat} : ∀ n, (begN m xs n)[k]? = xs[k]?.map fun a => if k < n then setlF m a.rows (List.replicate a.rows.length none) else List.replicate a.rows.length none
  | 0 => by
    show (nones xs)[k]? = _
    unfold nones
    rw [List.getElem?_map]
    cases xs[k]? <;> simp
  | n + 1 => by
    show (setA m xs (begN m xs n) n)[k]? = _
    unfold setA
    have ih := fun k => begN_get (m := m) (xs := xs) (k := k) n
    rw [ih n]
    cases e : xs[n]? with
    | none =>
      dsimp only
      rw [ih k]
      have hn := List.getElem?_eq_none_iff.mp e
      cases e2 : xs[k]? with
      | none => rfl
      | some a =>
        have hk := (List.getElem?_eq_some_iff.mp e2).1
        show some (if k < n then _ else _) = some (if k < n + 1 then _ else _)
        rw [if_pos (by omega), if_pos (by omega)]
    | some a =>
      show ((begN m xs n).set n (setlF m a.rows (if n < n then _ else _)))[k]? = _
      rw [if_neg (by omega), List.getElem?_set]
      by_cases c : n = k
      · subst c
        rw [if_pos rfl, e]
        have hlen : n < (begN m xs n).length := by
          have := ih n
          rw [e] at this
          exact (List.getElem?_eq_some_iff.mp this).1
        rw [if_pos hlen]
        show _ = some (if n < n + 1 then _ else _)
        rw [if_pos (by omega)]
      · rw [if_neg c, ih k]
        cases xs[k]? with
        | none => rfl
        | some b =>
          show some (if k < n then _ else _) = some (if k < n + 1 then _ else _)
          by_cases c2 : k < n
          · rw [if_pos c2, if_pos (by omega)]
          · rw [if_neg c2, if_neg (by omega)]
theorem begN_len {m : TM} {xs : List Asker} : ∀ n, (begN m xs n).length = xs.length
  | 0 => List.length_map _
  | n + 1 => by
    show (setA m xs (begN m xs n) n).length = _
    unfold setA
    split
    · rw [List.length_set, begN_len n]
    · exact begN_len n
theorem WorldOk.closed {ws : Rooms} (o : WorldOk ws) : ∀ p ∈ thingsOf ws, ∀ q ∈ p.2.refs, (getT (thingsOf ws) q).isSome = true := (AlOk.zero o 0).refs
theorem in_there {ws : Rooms} {r : RefD} (h : In (ws.map List.length) r) : (getT (thingsOf ws) r).isSome = true := by
  obtain ⟨t, ht⟩ := in_at h
  rw [things_get, ht]
  rfl
theorem AgOk.begin {ws : Rooms} {xs : List Asker} (wo : WorldOk ws) (f : ∀ a ∈ xs, a.Fits (ws.map List.length)) : AgOk ws xs (begA ws xs) where
  ty := wo.tidy
  rel := SameR.refl _
  len := Nat.le_refl _
  al := begN_len _
  old := fun _ h => h
  refs := wo.closed
  made := fun a k j h => by rw [show (begA ws xs).m = thingsOf ws from rfl, things_get] at h; cases h
  each := fun k a ys e1 e2 => by
    rw [show (begA ws xs).as = begN (thingsOf ws) xs xs.length from rfl, begN_get, e1] at e2
    have hk := (List.getElem?_eq_some_iff.mp e1).1
    have e2 : some (if k < xs.length then _ else _) = some ys := e2
    rw [if_pos hk] at e2
    cases e2
    exact (AkOk.zero (f a (List.mem_of_getElem? e1))).lg fun i => ⟨fun h => h.elim, fun ⟨o, ho, _⟩ => by cases ho⟩
  nd := List.nodup_nil
  bnd := fun o ho => by cases ho
theorem nxt_inv {m : TM} {rows : List Row} {ys : List (Option Wo)} {j : Nat} {e : RefD} (h : nxt m rows ys j = some e) : ∃ r q, rows[j]? = some r ∧ gA ys j = none ∧ calO r.t ys = some (.ref q) ∧ argB r.v ys = true ∧ aheadB rows ys j r.t = true ∧ endT m q = some e := by
  unfold nxt at h
  cases er : rows[j]? with
  | none => rw [er] at h; cases h
  | some r =>
    rw [er] at h
    dsimp only at h
    cases hn : gA ys j with
    | some w => rw [hn] at h; cases h
    | none =>
      rw [hn] at h
      cases hc : calO r.t ys with
      | none => rw [hc] at h; cases h
      | some c =>
        rw [hc] at h
        cases c with
        | num n => cases h
        | brk z => cases h
        | ref q =>
          dsimp only at h
          split at h
          · rename_i hh
            exact ⟨r, q, rfl, rfl, hc, hh.1, hh.2, h⟩
          · cases h
theorem mayB_inv {xs : List Asker} {s : Al} {o : One} (h : mayB xs s o = true) : ∃ (k j : Nat) (a : Asker) (ys : List (Option Wo)), o.k = (k : Int) ∧ o.j = (j : Int) ∧ xs[k]? = some a ∧ s.as[k]? = some ys ∧ nxt s.m a.rows ys j = some o.r := by
  unfold mayB at h
  rw [Bool.and_eq_true, decide_eq_true_iff] at h
  obtain ⟨⟨h0, h1⟩, h2⟩ := h
  cases e1 : xs[o.k.toNat]? with
  | none => rw [e1] at h2; cases h2
  | some a =>
    rw [e1] at h2
    cases e2 : s.as[o.k.toNat]? with
    | none => rw [e2] at h2; cases h2
    | some ys =>
      rw [e2] at h2
      exact ⟨o.k.toNat, o.j.toNat, a, ys, by omega, by omega, e1, e2, of_decide_eq_true h2⟩
theorem lgAt_snoc {s s' : Al} {o : One} {k j k2 j2 : Nat} (e : s'.lg = s.lg ++ [o]) (hk : o.k = (k : Int)) (hj : o.j = (j : Int)) : lgAt s' k2 j2 ↔ lgAt s k2 j2 ∨ (k2 = k ∧ j2 = j) := by
  unfold lgAt
  rw [e]
  constructor
  · rintro ⟨x, hx, h1, h2⟩
    rcases List.mem_append.mp hx with hx | hx
    · exact .inl ⟨x, hx, h1, h2⟩
    · simp at hx
      subst hx
      exact .inr ⟨by omega, by omega⟩
  · rintro (⟨x, hx, h⟩ | ⟨rfl, rfl⟩)
    · exact ⟨x, List.mem_append_left _ hx, h⟩
    · exact ⟨o, List.mem_append_right _ (by simp), hk, hj⟩
/-- a tuple that fits, done -/
structure GoneBy (xs : List Asker) (s : Al) (o : One) (k j : Nat) (a : Asker) (ys : List (Option Wo)) (r : Row) (q : RefD) (m' : TM) (w : Wo) : Prop where
  hk : o.k = (k : Int)
  hj : o.j = (j : Int)
  ea : xs[k]? = some a
  ey : s.as[k]? = some ys
  er : a.rows[j]? = some r
  hn : gA ys j = none
  hc : calO r.t ys = some (.ref q)
  he : endT s.m q = some o.r
  hv : argB r.v ys = true
  ha : aheadB a.rows ys j r.t = true
  call : callT s.m q r.v.word (valO r.v ys) o.k o.j = some (m', w)
  eq : goA xs s o = ⟨m', s.as.set k (setlF m' a.rows (ys.set j (some w))), s.lg ++ [o]⟩
theorem AgOk.goes {ws : Rooms} {xs : List Asker} {s : Al} {o : One} (A : AgOk ws xs s) (f : ∀ a ∈ xs, a.Fits (ws.map List.length)) (h : mayB xs s o = true) : ∃ k j a ys r q m' w, GoneBy xs s o k j a ys r q m' w := by
  obtain ⟨k, j, a, ys, hk, hj, ea, ey, hx⟩ := mayB_inv h
  obtain ⟨r, q, er, hn, hc, hv, ha, he⟩ := nxt_inv hx
  have K := A.each k a ys ea ey
  have fa := f a (List.mem_of_getElem? ea)
  have hq := calO_some_fits K (fun r h => A.old r (in_there h)) fa er hc
  have nomade : ∀ b, getT s.m (.made b o.k o.j) = none := fun b => by
    cases g : getT s.m (.made b o.k o.j) with
    | none => rfl
    | some t =>
      obtain ⟨x, hx, h1, h2⟩ := A.made b o.k o.j (by rw [g]; rfl)
      obtain ⟨u, hu⟩ := K.done j ⟨x, hx, by rw [h1, hk], by rw [h2, hj]⟩
      rw [hn] at hu
      cases hu
  obtain ⟨m', w, ec⟩ := callT_some (r := q) (word := r.v.word) (w := valO r.v ys) A.ty (Option.isSome_iff_exists.mp hq) nomade
  refine ⟨k, j, a, ys, r, q, m', w, hk, hj, ea, ey, er, hn, hc, he, hv, ha, ec, ?_⟩
  unfold goA
  rw [show o.k.toNat = k by omega, show o.j.toNat = j by omega, ea, ey]
  dsimp only
  rw [er]
  dsimp only
  rw [hc]
  dsimp only
  rw [ec]
theorem GoneBy.ok {ws : Rooms} {xs : List Asker} {s : Al} {o : One} {k j : Nat} {a : Asker} {ys : List (Option Wo)} {r : Row} {q : RefD} {m' : TM} {w : Wo} (A : AgOk ws xs s) (f : ∀ a ∈ xs, a.Fits (ws.map List.length)) (wo : WorldOk ws) (hl : xs.length ≤ 100) (G : GoneBy xs s o k j a ys r q m' w) : AgOk ws xs (goA xs s o) := by
  have K := A.each k a ys G.ea G.ey
  have fa := f a (List.mem_of_getElem? G.ea)
  have hq := Option.isSome_iff_exists.mp (calO_some_fits K (fun r h => A.old r (in_there h)) fa G.er G.hc)
  have sr := callT_same A.ty.cls hq G.call
  obtain ⟨ky1, ky2⟩ := callT_keys G.call
  obtain ⟨rf1, rf2⟩ := callT_refs A.refs G.call
  have hml := A.mlen wo f
  obtain ⟨ty2, len2⟩ := callT_tidy A.ty (by omega) hq G.call
  rw [G.eq]
  have hkl := (List.getElem?_eq_some_iff.mp G.ey).1
  refine ⟨ty2, A.rel.trans sr, ?_, by rw [List.length_set]; exact A.al, fun x hx => ky1 x (A.old x hx), rf1, fun b k2 j2 hb => ?_, fun k2 a2 ys2 e1 e2 => ?_, ?_, fun x hx => ?_⟩
  · have := A.len
    rw [List.length_append]
    show m'.length ≤ _ + (_ + 1)
    omega
  · rcases ky2 _ hb with h | ⟨b2, h⟩
    · obtain ⟨x, hx, h1⟩ := A.made b k2 j2 h
      exact ⟨x, List.mem_append_left _ hx, h1⟩
    · cases h
      exact ⟨o, List.mem_append_right _ (by simp), rfl, rfl⟩
  · have e2 : (s.as.set k (setlF m' a.rows (ys.set j (some w))))[k2]? = some ys2 := e2
    rw [List.getElem?_set] at e2
    by_cases c : k = k2
    · subst c
      rw [if_pos rfl, if_pos hkl] at e2
      cases e2
      rw [G.ea] at e1
      cases e1
      refine (K.step fa sr ky1 G.er G.hn G.hc G.he rf2).lg fun i => ?_
      rw [lgAt_snoc (s := s) (s' := ⟨m', s.as.set k (setlF m' a.rows (ys.set j (some w))), s.lg ++ [o]⟩) rfl G.hk G.hj]
      simp
    · rw [if_neg c] at e2
      refine ((A.each k2 a2 ys2 e1 e2).keep sr ky1).lg fun i => ?_
      rw [lgAt_snoc (s := s) (s' := ⟨m', s.as.set k (setlF m' a.rows (ys.set j (some w))), s.lg ++ [o]⟩) rfl G.hk G.hj]
      constructor
      · exact .inl
      · rintro (h | ⟨rfl, _⟩)
        · exact h
        · exact absurd rfl c
  · show ((s.lg ++ [o]).map fun o => (o.k, o.j)).Nodup
    rw [List.map_append, List.nodup_append]
    refine ⟨A.nd, by simp, fun x hx y hy => ?_⟩
    simp at hy
    subst hy
    obtain ⟨z, hz, rfl⟩ := List.mem_map.mp hx
    intro e
    have e1 : z.k = o.k := congrArg Prod.fst e
    have e2 : z.j = o.j := congrArg Prod.snd e
    obtain ⟨u, hu⟩ := K.done j ⟨z, hz, by rw [e1, G.hk], by rw [e2, G.hj]⟩
    rw [G.hn] at hu
    cases hu
  · rcases List.mem_append.mp hx with hx | hx
    · exact A.bnd x hx
    · simp at hx
      subst hx
      exact ⟨k, j, a, G.hk, G.hj, G.ea, (List.getElem?_eq_some_iff.mp G.er).1⟩
theorem AgOk.go {ws : Rooms} {xs : List Asker} {s : Al} {o : One} (A : AgOk ws xs s) (f : ∀ a ∈ xs, a.Fits (ws.map List.length)) (wo : WorldOk ws) (hl : xs.length ≤ 100) (h : mayB xs s o = true) : AgOk ws xs (goA xs s o) := by
  obtain ⟨k, j, a, ys, r, q, m', w, G⟩ := A.goes f h
  exact G.ok A f wo hl
theorem AgOk.along {ws : Rooms} {xs : List Asker} (f : ∀ a ∈ xs, a.Fits (ws.map List.length)) (wo : WorldOk ws) (hl : xs.length ≤ 100) : ∀ (log : List One) (s : Al), AgOk ws xs s → AgOk ws xs (alongA xs s log)
  | [], s, A => A
  | o :: log, s, A => by
    unfold alongA
    split
    · rename_i h
      exact AgOk.along f wo hl log _ (A.go f wo hl h)
    · exact A
/-! LF2 -/


/-! ### what goes along a log: the program's own -/
structure AlAd where
  o : Addr
  p : Addr
  d : Addr
  g : Addr
  a : Addr
  bs : List Addr
def AlAd.all (A : AlAd) : List Addr := A.o :: A.p :: A.d :: A.g :: A.a :: A.bs
abbrev scrsV (xs : List Asker) : Val := .lst (xs.map fun a => Val.lst (a.rows.map Row.val))
def lgX (lg : List One) : List (List Key × Val) := lg.map fun o => ([.inl o.k, .inl o.j], .bl true)
abbrev ovsV (as : List (List (Option Wo))) : List (List Val) := as.map (·.map ov)
structure AlongAt (cl : Str → Addr) (h : Hh) (A : AlAd) (xs : List Asker) (s : Al) : Prop where
  ins : h A.o = some (.ins (cl "Along") [("plain", .ref A.p), ("scripts", scrsV xs), ("answers", .ref A.a), ("logged", .ref A.g)])
  pl : PlainAt cl h A.p A.d s.m
  ans : Nest h A.a A.bs (ovsV s.as)
  lgd : h A.g = some (.dT (lgX s.lg))
  dg : A.d ≠ A.g
section
variable {cl : Str → Addr} {h h' : Hh} {A : AlAd} {xs : List Asker} {s : Al}
theorem AlongAt.keep (L : AlongAt cl h A xs s) (k : ∀ c ∈ A.all, h' c = h c) : AlongAt cl h' A xs s where
  ins := by rw [k _ (by simp [AlAd.all])]; exact L.ins
  pl := L.pl.keep (k _ (by simp [AlAd.all])) (k _ (by simp [AlAd.all]))
  ans := L.ans.keep fun c hc => k c (by
    unfold AlAd.all
    rcases List.mem_cons.mp hc with rfl | hc
    · simp
    · simp [hc])
  lgd := by rw [k _ (by simp [AlAd.all])]; exact L.lgd
  dg := L.dg
theorem AlongAt.apart (L : AlongAt cl h A xs s) {c : Addr} {zs : List Val} (e : h c = some (.lst zs)) : c ≠ A.o ∧ c ≠ A.p ∧ c ≠ A.d ∧ c ≠ A.g :=
  ⟨fun z => (by rw [z, L.ins] at e; cases e), fun z => (by rw [z, L.pl.ins] at e; cases e), fun z => (by rw [z, L.pl.dct] at e; cases e), fun z => (by rw [z, L.lgd] at e; cases e)⟩
theorem AlongAt.op (L : AlongAt cl h A xs s) : A.o ≠ A.p := fun z => by
  have := L.ins
  rw [z, L.pl.ins] at this
  simp at this
theorem AlongAt.od (L : AlongAt cl h A xs s) : A.o ≠ A.d := fun z => by
  have := L.ins
  rw [z, L.pl.dct] at this
  cases this
theorem AlongAt.pg (L : AlongAt cl h A xs s) : A.p ≠ A.g := fun z => by
  have := L.pl.ins
  rw [z, L.lgd] at this
  cases this
theorem AlongAt.at (L : AlongAt cl h A xs s) {k : Nat} {ys : List (Option Wo)} (ey : s.as[k]? = some ys) : ∃ b, A.bs[k]? = some b ∧ h b = some (.lst (ys.map ov)) ∧ b ∈ A.all := by
  obtain ⟨b, eb, hb, _⟩ := L.ans.at (i := k) (xs := ys.map ov) (by rw [List.getElem?_map, ey]; rfl)
  exact ⟨b, eb, hb, by have := List.mem_of_getElem? eb; simp [AlAd.all, this]⟩
theorem AlongAt.inner (L : AlongAt cl h A xs s) {k : Nat} {b : Addr} {zs0 : List Val} (eb : A.bs[k]? = some b) (e0 : h b = some (.lst zs0)) (zs : List (Option Wo)) : AlongAt cl (hup h b (.lst (zs.map ov))) A xs ⟨s.m, s.as.set k zs, s.lg⟩ := by
  obtain ⟨n1, n2, n3, n4⟩ := L.apart e0
  refine ⟨by rw [hup_ne n1.symm]; exact L.ins, L.pl.keep (hup_ne n2.symm) (hup_ne n3.symm), ?_, by rw [hup_ne n4.symm]; exact L.lgd, L.dg⟩
  have := L.ans.inner eb (zs.map ov)
  rw [show (ovsV s.as).set k (zs.map ov) = ovsV (s.as.set k zs) from List.map_set.symm] at this
  exact this
end
/-! LD10 -/


/-! ### the ends of calls that wait -/
/-! LD11 -/


/-! ### lines of the things: plain law -/
section
variable {α : Type}
def getA : List (RefD × α) → RefD → Option α
  | [], _ => none
  | p :: m, r => if p.1 = r then some p.2 else getA m r
def putA (m : List (RefD × α)) (r : RefD) (a : α) : List (RefD × α) := if (m.any fun p => decide (p.1 = r)) = true then m.map fun p => if p.1 = r then (r, a) else p else m ++ [(r, a)]
def keysA (m : List (RefD × α)) : List RefD := m.map (·.1)
theorem getA_any {m : List (RefD × α)} {r : RefD} : (m.any fun p => decide (p.1 = r)) = (getA m r).isSome := by
  induction m with
  | nil => rfl
  | cons p m ih =>
    rw [List.any_cons]
    unfold getA
    by_cases c : p.1 = r
    · rw [if_pos c, decide_eq_true c]; rfl
    · rw [if_neg c, decide_eq_false c, ih]; rfl
theorem getA_in {m : List (RefD × α)} {r : RefD} {a : α} : getA m r = some a → (r, a) ∈ m := by
  induction m with
  | nil => intro h; cases h
  | cons p m ih =>
    intro h
    unfold getA at h
    split at h
    · rename_i c; cases h; subst c; simp
    · exact List.mem_cons_of_mem _ (ih h)
theorem getA_none {m : List (RefD × α)} {r : RefD} (h : getA m r = none) : r ∉ keysA m := fun z => by
  obtain ⟨p, hp, e⟩ := List.mem_map.mp z
  have : (m.any fun p => decide (p.1 = r)) = true := List.any_eq_true.mpr ⟨p, hp, decide_eq_true e⟩
  rw [getA_any, h] at this
  cases this
theorem putA_keys {m : List (RefD × α)} {r : RefD} {a : α} : keysA (putA m r a) = if (getA m r).isSome = true then keysA m else keysA m ++ [r] := by
  unfold putA
  rw [getA_any]
  split
  · unfold keysA
    rw [List.map_map]
    apply List.map_congr_left
    intro p _
    simp only [Function.comp]
    split
    · rename_i c; exact c.symm
    · rfl
  · unfold keysA
    rw [List.map_append]
    rfl
theorem putA_nd {m : List (RefD × α)} {r : RefD} {a : α} (nd : (keysA m).Nodup) : (keysA (putA m r a)).Nodup := by
  rw [putA_keys]
  split
  · exact nd
  · rename_i c
    have : getA m r = none := by simpa using c
    rw [List.nodup_append]
    exact ⟨nd, by simp, fun x hx y hy => by simp at hy; subst hy; exact fun e => getA_none this (e ▸ hx)⟩
theorem putA_mem {m : List (RefD × α)} {r : RefD} {a : α} {p : RefD × α} (h : p ∈ putA m r a) : p = (r, a) ∨ p ∈ m := by
  unfold putA at h
  split at h
  · obtain ⟨q, hq, e⟩ := List.mem_map.mp h
    split at e
    · exact .inl e.symm
    · exact .inr (e ▸ hq)
  · rcases List.mem_append.mp h with h | h
    · exact .inr h
    · simp at h; exact .inl h
theorem putA_len {m : List (RefD × α)} {r : RefD} {a : α} : (putA m r a).length ≤ m.length + 1 := by
  unfold putA
  split
  · rw [List.length_map]; omega
  · rw [List.length_append]; simp
end
abbrev Ln := Int × Tgt
abbrev LM := List (RefD × List Ln)
def addL (m : LM) (r : RefD) (l : Ln) : LM := putA m r ((getA m r).getD [] ++ [l])
/-- each line once -/
def dd (ls : List Ln) : List Ln := ls.foldl (fun acc l => if l ∈ acc then acc else acc ++ [l]) []
def rowM (i : Int) (m : LM) (p : Option RefD × Tgt) : LM := match p.1 with
  | none => m
  | some r => addL m r (i, p.2)
structure LMOk (m : LM) (n : Nat) : Prop where
  nd : (keysA m).Nodup
  ne : ∀ p ∈ m, p.2 ≠ []
  len : m.length ≤ n
  each : ∀ p ∈ m, p.2.length ≤ n
theorem LMOk.row {m : LM} {n : Nat} (o : LMOk m n) (i : Int) (p : Option RefD × Tgt) : LMOk (rowM i m p) (n + 1) := by
  unfold rowM
  split
  · exact ⟨o.nd, o.ne, by have := o.len; omega, fun q hq => by have := o.each q hq; omega⟩
  · rename_i r e
    unfold addL
    refine ⟨putA_nd o.nd, fun q hq => ?_, by have := putA_len (m := m) (r := r) (a := (getA m r).getD [] ++ [(i, p.2)]); have := o.len; omega, fun q hq => ?_⟩
    · rcases putA_mem hq with rfl | hq
      · simp
      · exact o.ne q hq
    · rcases putA_mem hq with rfl | hq
      · show ((getA m r).getD [] ++ [_]).length ≤ _
        rw [List.length_append]
        cases e2 : getA m r with
        | none => simp
        | some ls => have := o.each _ (getA_in e2); simp; exact this
      · have := o.each q hq; omega
theorem LMOk.fold {i : Int} : ∀ {ps : List (Option RefD × Tgt)} {m : LM} {n : Nat}, LMOk m n → LMOk (ps.foldl (rowM i) m) (n + ps.length)
  | [], _, _, o => o
  | p :: ps, m, n, o => by
    have := LMOk.fold (i := i) (ps := ps) (o.row i p)
    rw [show n + (p :: ps).length = n + 1 + ps.length by simp; omega]
    exact this
/-! LD12 -/


/-! ### lines, and what is shared: the law's own -/
/-! LF3 -/


/-- new lists, one behind the other -/
structure NewsAt (h h' : Hh) (bs : List Addr) (yss : List (List Val)) : Prop where
  len : bs.length = yss.length
  nd : bs.Nodup
  new : ∀ b ∈ bs, h b = none
  each : ∀ (j : Nat) b ys, bs[j]? = some b → yss[j]? = some ys → h' b = some (.lst ys)
  old : ∀ c, c ∉ bs → h' c = h c
theorem NewsAt.nil {h : Hh} : NewsAt h h [] [] := ⟨rfl, List.nodup_nil, by simp, by simp, fun _ _ => rfl⟩
theorem NewsAt.fresh {h h' : Hh} {bs : List Addr} {yss : List (List Val)} {b : Addr} (N : NewsAt h h' bs yss) (hb : h' b = none) : b ∉ bs ∧ h b = none := by
  have nb : b ∉ bs := fun z => by
    obtain ⟨j, hj, rfl⟩ := List.getElem_of_mem z
    have := N.each j bs[j] _ (List.getElem?_eq_getElem hj) (List.getElem?_eq_getElem (by rw [← N.len]; exact hj))
    rw [this] at hb
    cases hb
  exact ⟨nb, by rw [← N.old b nb]; exact hb⟩
theorem NewsAt.snoc {h h' : Hh} {bs : List Addr} {yss : List (List Val)} {b : Addr} {ys : List Val} (N : NewsAt h h' bs yss) (hb : h' b = none) : NewsAt h (hup h' b (.lst ys)) (bs ++ [b]) (yss ++ [ys]) := by
  obtain ⟨nb, h0⟩ := N.fresh hb
  refine ⟨by simp [N.len], ?_, fun c hc => ?_, fun j c zs e1 e2 => ?_, fun c hc => ?_⟩
  · rw [List.nodup_append]
    exact ⟨N.nd, by simp, fun x hx y hy => by simp at hy; subst hy; exact fun e => nb (e ▸ hx)⟩
  · rcases List.mem_append.mp hc with hc | hc
    · exact N.new c hc
    · simp at hc; subst hc; exact h0
  · by_cases hj : j < bs.length
    · rw [List.getElem?_append_left hj] at e1
      rw [List.getElem?_append_left (by rw [← N.len]; exact hj)] at e2
      rw [hup_ne (fun z => nb (by rw [← z]; exact List.mem_of_getElem? e1))]
      exact N.each j c zs e1 e2
    · rw [List.getElem?_append_right (by omega)] at e1
      rw [List.getElem?_append_right (by rw [← N.len]; omega), ← N.len] at e2
      cases hjj : j - bs.length with
      | zero => rw [hjj] at e1 e2; simp at e1 e2; subst e1 e2; exact hup_same
      | succ n => rw [hjj] at e1; simp at e1
  · rw [hup_ne (fun z => hc (by rw [z]; simp)), N.old c fun z => hc (List.mem_append_left _ z)]
theorem NewsAt.top {h h' : Hh} {bs : List Addr} {yss : List (List Val)} {a : Addr} (N : NewsAt h h' bs yss) (ha : h' a = none) : NewN h (hup h' a (.lst (bs.map Val.ref))) a bs yss := by
  obtain ⟨na, h0⟩ := N.fresh ha
  refine ⟨⟨hup_same, N.len, fun i b ys e1 e2 => ?_, List.nodup_cons.mpr ⟨na, N.nd⟩⟩, fun c hc => ?_, fun c hc => ?_⟩
  · rw [hup_ne (fun z => na (by rw [← z]; exact List.mem_of_getElem? e1))]
    exact N.each i b ys e1 e2
  · rcases List.mem_cons.mp hc with rfl | hc
    · exact h0
    · exact N.new c hc
  · rw [hup_ne (fun z => hc (by rw [z]; simp)), N.old c fun z => hc (List.mem_cons_of_mem _ z)]
def One.d (o : One) : PyData := .tuple [.int o.k, .int o.j, o.r.d]
theorem One.dv {h : Hh} (o : One) : Dv h o.v o.d := .tup (.cons (.int _) (.cons (.int _) (.cons o.r.dv .nil)))
theorem One.pl (o : One) : plD o.d = true := by simp [One.d, plD, plDs, o.r.pl]
theorem One.lay (o : One) : LayD 2 o.d := LayD.tuple fun d hd => by
  simp only [List.mem_cons, List.not_mem_nil, or_false] at hd
  rcases hd with rfl | rfl | rfl
  · exact .int 1 _
  · exact .int 1 _
  · exact o.r.lay
theorem One.d_inj {a b : One} (h : a.d = b.d) : a = b := by
  obtain ⟨k, j, r⟩ := a
  obtain ⟨k2, j2, r2⟩ := b
  simp only [One.d, PyData.tuple.injEq, List.cons.injEq, PyData.int.injEq, and_true] at h
  rw [h.1, h.2.1, RefD.d_inj h.2.2]
theorem One.eqv (a b : One) : PyData.eqv a.d b.d = decide (a = b) := by
  rw [Bool.eq_iff_iff, eqv_pl _ _ a.pl b.pl, decide_eq_true_iff]
  exact ⟨One.d_inj, fun h => by rw [h]⟩
/-! LF4 -/


/-! LF5 -/


/-! ### logs, gone along by the program -/
def fitA (xs : List Asker) : Al → List One → Bool
  | _, [] => true
  | s, o :: l => mayB xs s o && fitA xs (goA xs s o) l
abbrev goneA (ws : Rooms) (xs : List Asker) (l : List One) : Al := alongA xs (begA ws xs) l
abbrev fitsA (ws : Rooms) (xs : List Asker) (l : List One) : Bool := fitA xs (begA ws xs) l
theorem AgOk.gone {ws : Rooms} {xs : List Asker} {l : List One} (f : ∀ a ∈ xs, a.Fits (ws.map List.length)) (wo : WorldOk ws) (hl : xs.length ≤ 100) : AgOk ws xs (goneA ws xs l) := AgOk.along f wo hl l _ (AgOk.begin wo f)
/-! LF6 -/


/-! ### what goes along a log: the law's own -/
structure BxAd where
  b : Addr
  d : Addr
  l : Addr
  a : Addr
  bs : List Addr
def BxAd.all (B : BxAd) : List Addr := B.b :: B.d :: B.l :: B.a :: B.bs
structure BoxAt (h : Hh) (B : BxAd) (s : Al) : Prop where
  box : h B.b = some (.dK [(.inr "things", .ref B.d), (.inr "answers", .ref B.a), (.inr "log", .ref B.l)])
  dct : h B.d = some (.dN (encN s.m))
  lgd : h B.l = some (.lst (s.lg.map One.v))
  ans : Nest h B.a B.bs (ovsV s.as)
  la : B.l ∉ B.a :: B.bs
section
variable {h h' : Hh} {B : BxAd} {s : Al}
theorem BoxAt.keep (L : BoxAt h B s) (k : ∀ c ∈ B.all, h' c = h c) : BoxAt h' B s where
  box := by rw [k _ (by simp [BxAd.all])]; exact L.box
  dct := by rw [k _ (by simp [BxAd.all])]; exact L.dct
  lgd := by rw [k _ (by simp [BxAd.all])]; exact L.lgd
  ans := L.ans.keep fun c hc => k c (by
    unfold BxAd.all
    rcases List.mem_cons.mp hc with rfl | hc
    · simp
    · simp [hc])
  la := L.la
theorem BoxAt.apart (L : BoxAt h B s) {c : Addr} {zs : List Val} (e : h c = some (.lst zs)) : c ≠ B.b ∧ c ≠ B.d :=
  ⟨fun z => (by rw [z, L.box] at e; cases e), fun z => (by rw [z, L.dct] at e; cases e)⟩
theorem BoxAt.bd (L : BoxAt h B s) : B.b ≠ B.d := fun z => by
  have := L.box
  rw [z, L.dct] at this
  cases this
theorem BoxAt.at (L : BoxAt h B s) {k : Nat} {ys : List (Option Wo)} (ey : s.as[k]? = some ys) : ∃ b, B.bs[k]? = some b ∧ h b = some (.lst (ys.map ov)) ∧ b ∈ B.all ∧ b ≠ B.l := by
  obtain ⟨b, eb, hb, _⟩ := L.ans.at (i := k) (xs := ys.map ov) (by rw [List.getElem?_map, ey]; rfl)
  have hm := List.mem_of_getElem? eb
  exact ⟨b, eb, hb, by simp [BxAd.all, hm], fun z => L.la (by rw [← z]; exact List.mem_cons_of_mem _ hm)⟩
theorem BoxAt.inner (L : BoxAt h B s) {k : Nat} {b : Addr} {zs0 : List Val} (eb : B.bs[k]? = some b) (e0 : h b = some (.lst zs0)) (zs : List (Option Wo)) : BoxAt (hup h b (.lst (zs.map ov))) B ⟨s.m, s.as.set k zs, s.lg⟩ := by
  obtain ⟨n1, n2⟩ := L.apart e0
  have n3 : b ≠ B.l := fun z => L.la (by rw [← z]; exact List.mem_cons_of_mem _ (List.mem_of_getElem? eb))
  refine ⟨by rw [hup_ne n1.symm]; exact L.box, by rw [hup_ne n2.symm]; exact L.dct, by rw [hup_ne n3.symm]; exact L.lgd, ?_, L.la⟩
  have := L.ans.inner eb (zs.map ov)
  rw [show (ovsV s.as).set k (zs.map ov) = ovsV (s.as.set k zs) from List.map_set.symm] at this
  exact this
end
/-! LF7 -/


/-! LF8 -/


theorem One.pure (o : One) : PureV 2 o.v := .tup (by simp) fun x hx => by
  simp only [List.mem_cons, List.not_mem_nil, or_false] at hx
  rcases hx with rfl | rfl | rfl
  · exact .int _ _
  · exact .int _ _
  · exact RefD.pure _
/-! LK12 -/


/-! LF9 -/


/-! ### logs drawn and spoilt -/
/-- a world, askers, and a log that fits -/
structure CaseOk (ws : Rooms) (xs : List Asker) (l : List One) : Prop where
  wo : WorldOk ws
  pp : PpOk (ws.map List.length) 30 xs
  ft : fitsA ws xs l = true
  len : l.length ≤ 60
/-! LF10 -/


/-! LK14 -/


theorem wipe_len {ρ : Ev} {i : Nat} : (wipeV ρ [i]).length = ρ.length := by
  show (ρ.set i none).length = _
  exact List.length_set
/-- each house told again -/
theorem lc_houses {ws : Rooms} {i : Nat} {ρ : Ev} {h : Hh} {Q : KQ} (sm : SmallW ws) (hi : i < ρ.length) (q : Q (roomsV ws) h) : wLcB (tg1 i) (ws.map houseV) (fun _ => True) wYes (wCB cList (wCons (wVar i) wNil)) [i] ρ h Q := by
  refine lc_inv (fun k acc h6 => h6 = h ∧ acc = (ws.take k).map houseV ∧ k ≤ ws.length) ⟨rfl, by simp, Nat.zero_le _⟩ ?_
  rintro k acc h6 ⟨rfl, rfl, hk⟩
  refine ⟨trivial, fun hk => ?_, fun z hz3 => ?_⟩
  · rw [List.length_map] at hk
    rw [List.take_of_length_le hk]
    exact i_newF q
  obtain ⟨hs, hhs, rfl⟩ := map_get hz3
  have hk2 := (List.getElem?_eq_some_iff.mp hhs).1
  have := sm.len
  unfold tg1
  refine i_yes ?_
  rw [if_pos rfl]
  refine i_cb (i_cons (i_var (v := houseV hs) ?_ (i_nil ?_)))
  · rw [List.getElem?_set, if_pos rfl, wipe_len, if_pos hi]
  · unfold houseV
    refine i_listF (i_newF ⟨by rw [List.length_map, List.length_take]; omega, rfl, ?_, by omega⟩)
    rw [take_snoc hhs, List.map_append]
    rfl
/-! LF11 -/


/-! ### answers as data; what can be next -/
/-! LF14 -/
/-! ### two tuples exchanged (plain law) -/
/-- alike but for the order in which made boxes came -/
structure Eqv (s s' : Al) : Prop where
  as : s.as = s'.as
  get : ∀ r, getT s.m r = getT s'.m r
theorem sameR_get {m m' : TM} (h : ∀ r, getT m r = getT m' r) : SameR m m' := fun r q => by rw [h r]
theorem setlF_same {m m' : TM} {rows : List Row} {ys : List (Option Wo)} (h : SameR m m') : ∀ n, setlN m rows ys n = setlN m' rows ys n
  | 0 => rfl
  | n + 1 => by
    unfold setlN
    rw [setlF_same h n]
    split
    · unfold setl1
      split
      · rfl
      · rw [sv_same h]
    · rfl
theorem nxt_same {m m' : TM} {rows : List Row} {ys : List (Option Wo)} {j : Nat} (h : SameR m m') : nxt m rows ys j = nxt m' rows ys j := by
  unfold nxt
  split
  · rfl
  · split
    · rw [endT_same h]
    · rfl
theorem Eqv.may {xs : List Asker} {s s' : Al} {o : One} (h : Eqv s s') : mayB xs s o = mayB xs s' o := by
  unfold mayB
  rw [h.as]
  congr 1
  split
  · rw [nxt_same (sameR_get h.get)]
  · rfl
/-- what a call leaves -/
def laid (g : RefD → Option Thing) (e made : RefD) (t : Thing) (ob : Option Thing) (r : RefD) : Option Thing := if ob.isSome = true ∧ r = made then ob else if r = e then some t else g r
theorem callT_inv {m m' : TM} {q e : RefD} {word : Str} {v : Option Wo} {k j : Int} {w : Wo} (he : endT m q = some e) (h : callT m q word v k j = some (m', w)) : ∃ t t' ob, getT m e = some t ∧ doneF t word v (some (.made e.house k j)) = (t', some w, ob) ∧ (ob.isSome = true → getT m (.made e.house k j) = none) ∧ ∀ r, getT m' r = laid (getT m) e (.made e.house k j) t' ob r := by
  unfold callT at h
  rw [he] at h
  dsimp only at h
  cases ht : getT m e with
  | none => rw [ht] at h; cases h
  | some t =>
    rw [ht] at h
    dsimp only at h
    generalize hd : doneF t word v (some (.made e.house k j)) = d at h
    obtain ⟨t', oa, ob⟩ := d
    cases oa with
    | none => cases h
    | some a =>
      dsimp only at h
      cases ob with
      | none =>
        cases h
        refine ⟨t, t', none, rfl, hd, fun z => absurd z (by decide), fun r => ?_⟩
        rw [getT_put]
        unfold laid
        rw [if_neg (c := (none : Option Thing).isSome = true ∧ r = RefD.made e.house k j) (fun z => absurd z.1 (by decide))]
      | some b =>
        dsimp only at h
        split at h
        · cases h
        · rename_i hn
          cases h
          refine ⟨t, t', some b, rfl, hd, fun _ => ?_, fun r => ?_⟩
          · cases g : getT m (.made e.house k j) with
            | none => rfl
            | some _ => rw [g] at hn; exact absurd rfl hn
          · rw [getT_put, getT_put]
            unfold laid
            by_cases c : r = .made e.house k j
            · rw [if_pos c, if_pos ⟨rfl, c⟩]
            · rw [if_neg c, if_neg (c := (some b).isSome = true ∧ r = RefD.made e.house k j) (fun z => c z.2)]
theorem callT_of {m : TM} {q e : RefD} {word : Str} {v : Option Wo} {k j : Int} {w : Wo} {t t' : Thing} {ob : Option Thing} (he : endT m q = some e) (ht : getT m e = some t) (hd : doneF t word v (some (.made e.house k j)) = (t', some w, ob)) (hn : ob.isSome = true → getT m (.made e.house k j) = none) : ∃ m', callT m q word v k j = some (m', w) := by
  unfold callT
  rw [he]
  dsimp only
  rw [ht]
  dsimp only
  rw [hd]
  dsimp only
  cases ob with
  | none => exact ⟨_, rfl⟩
  | some b =>
    dsimp only
    rw [hn rfl]
    exact ⟨_, rfl⟩
/-- the same call of a state that is alike -/
theorem callT_eqv {m m1 m' : TM} {q e : RefD} {word : Str} {v : Option Wo} {k j : Int} {w : Wo} (hg : ∀ r, getT m r = getT m1 r) (he : endT m q = some e) (h : callT m q word v k j = some (m', w)) : ∃ m2, callT m1 q word v k j = some (m2, w) ∧ ∀ r, getT m' r = getT m2 r := by
  obtain ⟨t, t', ob, ht, hd, hn, hl⟩ := callT_inv he h
  have he1 : endT m1 q = some e := by rw [← endT_same (sameR_get hg), he]
  obtain ⟨m2, e2⟩ := callT_of he1 (by rw [← hg]; exact ht) hd (fun z => by rw [← hg]; exact hn z)
  refine ⟨m2, e2, fun r => ?_⟩
  obtain ⟨t2, t2', ob2, ht2, hd2, _, hl2⟩ := callT_inv he1 e2
  rw [← hg, ht] at ht2
  cases ht2
  rw [hd] at hd2
  cases hd2
  rw [hl, hl2]
  unfold laid
  rw [hg]
theorem GoneBy.of {xs : List Asker} {s : Al} {o : One} {k j : Nat} {a : Asker} {ys : List (Option Wo)} {r : Row} {q : RefD} {m' : TM} {w : Wo} (hk : o.k = (k : Int)) (hj : o.j = (j : Int)) (ea : xs[k]? = some a) (ey : s.as[k]? = some ys) (er : a.rows[j]? = some r) (hc : calO r.t ys = some (.ref q)) (call : callT s.m q r.v.word (valO r.v ys) o.k o.j = some (m', w)) : goA xs s o = ⟨m', s.as.set k (setlF m' a.rows (ys.set j (some w))), s.lg ++ [o]⟩ := by
  unfold goA
  rw [show o.k.toNat = k by omega, show o.j.toNat = j by omega, ea, ey]
  dsimp only
  rw [er]
  dsimp only
  rw [hc]
  dsimp only
  rw [call]
theorem Eqv.go {ws : Rooms} {xs : List Asker} {s s' : Al} {o : One} (h : Eqv s s') (A : AgOk ws xs s) (f : ∀ a ∈ xs, a.Fits (ws.map List.length)) (c : mayB xs s o = true) : Eqv (goA xs s o) (goA xs s' o) := by
  obtain ⟨k, j, a, ys, r, q, m', w, G⟩ := A.goes f c
  obtain ⟨m2, e2, g2⟩ := callT_eqv h.get G.he G.call
  rw [G.eq, GoneBy.of G.hk G.hj G.ea (by rw [← h.as]; exact G.ey) G.er G.hc e2]
  refine ⟨?_, g2⟩
  show s.as.set k _ = s'.as.set k _
  rw [h.as]
  unfold setlF
  rw [setlF_same (sameR_get g2)]
/-! settling twice -/
/-! two that may both come -/
/-! LK7 -/
/-! the steps: one macro -/
local macro_rules | `(tactic| walk_at "hlk") => `(tactic| first | assumption | with_reducible exact hup_same | ((with_reducible refine' (hup_ne ?nn).trans ?tt); (case nn => first | assumption | (refine Ne.symm ?_; assumption)); (case tt => walk_at "hlk")))
local macro_rules | `(tactic| walk_at "zgo") => `(tactic| repeat (first
  | with_reducible refine i_seq ?_
  | with_reducible refine i_op ?_
  | ((with_reducible refine g_var ?_); first
    | with_reducible refine i_var0 ?_
    | with_reducible refine i_var1 ?_
    | with_reducible refine i_var2 ?_
    | with_reducible refine i_var3 ?_
    | with_reducible refine i_var4 ?_
    | with_reducible refine i_var5 ?_
    | with_reducible refine i_var6 ?_
    | with_reducible refine i_var7 ?_
    | with_reducible refine i_var8 ?_
    | with_reducible refine i_var9 ?_
    | with_reducible refine i_var10 ?_
    | with_reducible refine i_var11 ?_
    | with_reducible refine i_var12 ?_
    | with_reducible refine i_var13 ?_
    | with_reducible refine i_var14 ?_
    | with_reducible refine i_var15 ?_
    | with_reducible refine i_var16 ?_
    | with_reducible refine i_var17 ?_
    | with_reducible refine i_var18 ?_
    | with_reducible refine i_var19 ?_
    | with_reducible refine i_var20 ?_
    | with_reducible refine i_var21 ?_
    | with_reducible refine i_var22 ?_
    | with_reducible refine i_var23 ?_
    | with_reducible refine i_var24 ?_
    | with_reducible refine i_var25 ?_)
  | with_reducible refine i_c ?_
  | with_reducible refine i_cons ?_
  | with_reducible refine i_nil ?_
  | with_reducible refine i_asg ?_
  | ((with_reducible refine g_name ?_); first
    | with_reducible refine i_name0 ?_
    | with_reducible refine i_name1 ?_
    | with_reducible refine i_name2 ?_
    | with_reducible refine i_name3 ?_
    | with_reducible refine i_name4 ?_
    | with_reducible refine i_name5 ?_
    | with_reducible refine i_name6 ?_
    | with_reducible refine i_name7 ?_
    | with_reducible refine i_name8 ?_
    | with_reducible refine i_name9 ?_
    | with_reducible refine i_name10 ?_
    | with_reducible refine i_name11 ?_
    | with_reducible refine i_name12 ?_
    | with_reducible refine i_name13 ?_
    | with_reducible refine i_name14 ?_
    | with_reducible refine i_name15 ?_
    | with_reducible refine i_name16 ?_
    | with_reducible refine i_name17 ?_
    | with_reducible refine i_name18 ?_
    | with_reducible refine i_name19 ?_
    | with_reducible refine i_name20 ?_
    | with_reducible refine i_name21 ?_
    | with_reducible refine i_name22 ?_
    | with_reducible refine i_name23 ?_
    | with_reducible refine i_name24 ?_
    | with_reducible refine i_name25 ?_)
  | ((with_reducible refine g_tg1 ?_); first
    | with_reducible refine i_tg1_0 ?_
    | with_reducible refine i_tg1_1 ?_
    | with_reducible refine i_tg1_2 ?_
    | with_reducible refine i_tg1_3 ?_
    | with_reducible refine i_tg1_4 ?_
    | with_reducible refine i_tg1_5 ?_
    | with_reducible refine i_tg1_6 ?_
    | with_reducible refine i_tg1_7 ?_
    | with_reducible refine i_tg1_8 ?_
    | with_reducible refine i_tg1_9 ?_
    | with_reducible refine i_tg1_10 ?_
    | with_reducible refine i_tg1_11 ?_
    | with_reducible refine i_tg1_12 ?_
    | with_reducible refine i_tg1_13 ?_
    | with_reducible refine i_tg1_14 ?_
    | with_reducible refine i_tg1_15 ?_
    | with_reducible refine i_tg1_16 ?_
    | with_reducible refine i_tg1_17 ?_
    | with_reducible refine i_tg1_18 ?_
    | with_reducible refine i_tg1_19 ?_
    | with_reducible refine i_tg1_20 ?_
    | with_reducible refine i_tg1_21 ?_
    | with_reducible refine i_tg1_22 ?_
    | with_reducible refine i_tg1_23 ?_)
  | with_reducible refine i_yes ?_
  | with_reducible refine i_if ?_
  | with_reducible refine i_tv ?_
  | with_reducible refine i_bl ?_
  | with_reducible refine i_blV ?_
  | ((with_reducible refine g_if ?_); first
    | with_reducible refine iteT ?_
    | with_reducible refine iteF ?_
    | ((with_reducible refine' i_ifdt ?cc ?_); (case cc => first | decide | omega | assumption | decide +kernel))
    | ((with_reducible refine' i_ifdf ?cc ?_); (case cc => first | decide | omega | assumption | decide +kernel))
    | ((with_reducible refine' i_ifnt ?cc ?_); (case cc => first | decide | omega | assumption | decide +kernel))
    | ((with_reducible refine' i_ifnf ?cc ?_); (case cc => first | decide | omega | assumption | decide +kernel))
    | ((with_reducible refine' i_ift ?cc ?_); (case cc => first | assumption | rfl))
    | ((with_reducible refine' i_iff ?cc ?_); (case cc => first | assumption | rfl)))
  | with_reducible refine i_eqT ?_
  | with_reducible refine i_neT ?_
  | with_reducible refine i_eqI ?_
  | with_reducible refine i_neI ?_
  | with_reducible refine i_eqB ?_
  | with_reducible refine i_neB ?_
  | with_reducible refine i_lt ?_
  | with_reducible refine i_le ?_
  | with_reducible refine i_gt ?_
  | with_reducible refine i_ge ?_
  | with_reducible refine i_add ?_
  | with_reducible refine i_sub ?_
  | with_reducible refine i_and ?_
  | with_reducible refine i_or ?_
  | with_reducible refine i_not ?_
  | with_reducible refine i_andV ?_
  | with_reducible refine i_orV ?_
  | with_reducible refine i_notV ?_
  | with_reducible refine i_ifE ?_
  | with_reducible refine i_isN ?_
  | with_reducible refine i_notN ?_
  | with_reducible refine i_un ?_
  | with_reducible refine i_int1 ?_
  | with_reducible refine i_tup ?_
  | with_reducible refine i_lst ?_
  | ((with_reducible refine' i_small ?ss ?_); (case ss => first | decide | (simp only [List.length_cons, List.length_nil, List.length_map, List.length_append]; omega)))
  | with_reducible refine i_cb ?_
  | with_reducible refine i_call0 ?_
  | with_reducible refine i_call ?_
  | with_reducible refine i_meth0 ?_
  | with_reducible refine i_methK ?_
  | with_reducible refine i_make0 ?_
  | with_reducible refine i_fld ?_
  | ((with_reducible refine' i_fldO ?ll ?_); (case ll => repeat (first | exact lk_hd | exact lk_nil | (refine lk_tl (by decide +kernel) ?_))))
  | ((with_reducible refine' i_fldR ?ee ?ll ?_); (case ee => walk_at "hlk"); (case ll => repeat (first | exact lk_hd | exact lk_nil | (refine lk_tl (by decide +kernel) ?_))))
  | ((with_reducible refine' i_mO ?ll ?_); (case ll => repeat (first | exact lk_hd | exact lk_nil | (refine lk_tl (by decide +kernel) ?_))))
  | ((with_reducible refine' i_mR ?ee ?ll ?_); (case ee => walk_at "hlk"); (case ll => repeat (first | exact lk_hd | exact lk_nil | (refine lk_tl (by decide +kernel) ?_))))
  | ((with_reducible refine' i_ixT ?at_ ?_); (case at_ => first | exact rfl | exact L2.atI_nat (j := 0) rfl | exact L2.atI_nat (j := 1) rfl))
  | ((with_reducible refine' i_ixL ?at_ ?_); (case at_ => first | exact rfl | exact L2.atI_nat (j := 0) rfl | exact L2.atI_nat (j := 1) rfl))
  | ((with_reducible refine' i_ixR ?hh ?at_ ?_); (case hh => walk_at "hlk"); (case at_ => first | exact rfl | exact L2.atI_nat (j := 0) rfl | exact L2.atI_nat (j := 1) rfl))
  | with_reducible refine i_fldS ?_
  | with_reducible refine i_bm ?_
  | ((with_reducible refine' i_tyL ?hh ?_); (case hh => walk_at "hlk"))
  | ((with_reducible refine' i_l2 ?xx ?yy ?_); (case xx => exact rfl); (case yy => exact rfl))
  | with_reducible refine i_callK ?_
  | with_reducible refine i_makeK ?_
  | with_reducible refine i_chain ?_
  | with_reducible refine i_raise ?_
  | with_reducible refine i_atx ?_
  | with_reducible refine i_lenO ?_
  | with_reducible refine i_sub_ ?_
  | with_reducible refine i_expr ?_
  | with_reducible refine i_ret ?_
  | with_reducible refine i_next ?_
  | with_reducible refine i_lc ?_
  | with_reducible refine i_r1 ?_
  | with_reducible refine i_iL ?_
  | with_reducible refine i_iE ?_
  | with_reducible refine i_iZ ?_
  | with_reducible refine i_iT ?_
  | with_reducible refine i_itsF ?_
  | with_reducible refine i_itsS ?_
  | with_reducible refine i_itsT ?_
  | ((with_reducible refine' i_itsR ?hh ?_); (case hh => walk_at "hlk"))
  | with_reducible refine i_lenF ?_
  | with_reducible refine i_lenT ?_
  | ((with_reducible refine' i_lenR ?hh ?_); (case hh => walk_at "hlk"))
  | with_reducible refine i_listF ?_
  | with_reducible refine i_listT ?_
  | ((with_reducible refine' i_listR ?hh ?_); (case hh => walk_at "hlk"))
  | with_reducible refine i_tupF ?_
  | ((with_reducible refine' i_lenOR ?hh ?_); (case hh => walk_at "hlk"))
  | ((with_reducible refine' i_tupR ?hh ?_); (case hh => walk_at "hlk"))
  | ((with_reducible refine g_isi ?_); first
    | with_reducible refine i_isi_non_bool ?_
    | with_reducible refine i_isi_non_int ?_
    | with_reducible refine i_isi_non_str ?_
    | with_reducible refine i_isi_non_list ?_
    | with_reducible refine i_isi_non_tuple ?_
    | with_reducible refine i_isi_bl_bool ?_
    | with_reducible refine i_isi_bl_int ?_
    | with_reducible refine i_isi_bl_str ?_
    | with_reducible refine i_isi_bl_list ?_
    | with_reducible refine i_isi_bl_tuple ?_
    | with_reducible refine i_isi_int_bool ?_
    | with_reducible refine i_isi_int_int ?_
    | with_reducible refine i_isi_int_str ?_
    | with_reducible refine i_isi_int_list ?_
    | with_reducible refine i_isi_int_tuple ?_
    | with_reducible refine i_isi_str_bool ?_
    | with_reducible refine i_isi_str_int ?_
    | with_reducible refine i_isi_str_str ?_
    | with_reducible refine i_isi_str_list ?_
    | with_reducible refine i_isi_str_tuple ?_
    | with_reducible refine i_isi_tup_bool ?_
    | with_reducible refine i_isi_tup_int ?_
    | with_reducible refine i_isi_tup_str ?_
    | with_reducible refine i_isi_tup_list ?_
    | with_reducible refine i_isi_tup_tuple ?_
    | with_reducible refine i_isi_lst_bool ?_
    | with_reducible refine i_isi_lst_int ?_
    | with_reducible refine i_isi_lst_str ?_
    | with_reducible refine i_isi_lst_list ?_
    | with_reducible refine i_isi_lst_tuple ?_)
  | with_reducible refine i_max ?_
  | with_reducible refine i_min ?_
  | with_reducible refine i_rgin ?_
  | with_reducible refine i_tabin ?_
  | with_reducible refine i_disp ?_
  | with_reducible refine i_pcons ?_
  | with_reducible refine i_pnil ?_
  | with_reducible refine i_dget ?_
  | with_reducible refine i_din ?_
  | with_reducible refine i_dput ?_
  | ((with_reducible refine' i_wgtup ?nn ?_); (case nn => exact rfl))
  | ((with_reducible refine' i_rngB ?aa ?bb ?_); (case aa => first | decide | omega); (case bb => first | decide | omega))
  | with_reducible refine i_for ?_
  | with_reducible refine i_while ?_
  | with_reducible refine i_wgcons ?_
  | with_reducible refine i_wgnil ?_
  | with_reducible refine i_wslL ?_
  | with_reducible refine i_nopart ?_
  | with_reducible refine i_part ?_
  | ((with_reducible refine' i_wgunl ?nn ?_); (case nn => exact rfl))
  | ((with_reducible refine' i_xf ?ee ?_); (case ee => exact rfl))
  | ((with_reducible refine' i_errIs ?ee ?_); (case ee => exact rfl))
  | with_reducible refine i_bm0 ?_
  | with_reducible refine i_intB ?_
  | with_reducible refine i_intI ?_
  | with_reducible refine i_tryThru ?_
  | with_reducible refine i_iS ?_
  | with_reducible refine i_str1 ?_
  | with_reducible refine i_tyS ?_
  | with_reducible refine i_fmtI ?_
  | with_reducible refine i_js ?_
  | with_reducible refine i_jsc ?_
  | with_reducible refine i_jsn ?_
  | with_reducible refine i_dm ?_
  | with_reducible refine i_kn ?_
  | with_reducible refine i_in ?_
  ))

theorem WorldOk.tlen {ws : Rooms} (o : WorldOk ws) : (thingsOf ws).length ≤ 96 := by
  unfold thingsOf
  rw [worldT_len]
  have := sum_le (ns := ws.map List.length) fun k hk => by
    obtain ⟨hs, hh, rfl⟩ := List.mem_map.mp hk
    exact o.house hs hh
  rw [List.length_map] at this
  have := o.most
  omega
theorem sum0_all {ws : Rooms} (h : (ws.map List.length).sum = 0) : ∀ hs ∈ ws, hs = [] := fun hs hh => by
  cases hs with
  | nil => rfl
  | cons t ts =>
    have := sum_pos (ns := ws.map List.length) (k := (t :: ts).length) (List.mem_map.mpr ⟨_, hh, rfl⟩) (by simp)
    omega
/-- with one box in the first house -/
theorem WorldOk.box {ws : Rooms} (o : WorldOk ws) (h : (ws.map List.length).sum = 0) : WorldOk (ws.set 0 [.box 0]) ∧ 0 < ((ws.set 0 [.box 0]).map List.length).sum := by
  have all := sum0_all h
  have hp := o.pos
  refine ⟨⟨by rw [List.length_set]; exact hp, by rw [List.length_set]; exact o.most, fun hs hh => ?_, fun hs hh th ht => ?_⟩, ?_⟩
  · rcases List.mem_or_eq_of_mem_set hh with h1 | h1
    · exact o.house hs h1
    · subst h1; simp
  · rcases List.mem_or_eq_of_mem_set hh with h1 | h1
    · rw [all hs h1] at ht; simp at ht
    · subst h1
      simp at ht
      subst ht
      exact ⟨by decide, by decide⟩
  · cases ws with
    | nil => simp at hp
    | cons x xs => simp; omega
theorem ifE_ref {i j : Nat} {ρ : Ev} {h : Hh} {E : XQ} {Q : KQ} {o : Option RefD} {r : RefD} (e7 : ρ[i]? = some (some r.v)) (e8 : ρ[j]? = some (some (orf o))) (q : Q (o.getD r).v h) : if isNon (orf o) = true then wVar i ρ h E Q else wVar j ρ h E Q := by
  cases o with
  | none => exact ⟨_, e7, q⟩
  | some s =>
    have : isNon (orf (some s)) = false := by cases s <;> rfl
    rw [this]
    exact ⟨_, e8, q⟩
theorem end_there {m : TM} {r : RefD} {t : Thing} (ty : Tidy m) (g : getT m r = some t) : ∃ ts, getT m ((endT m r).getD r) = some ts := by
  cases e : endT m r with
  | none => exact ⟨t, g⟩
  | some s =>
    obtain ⟨ts, h, _⟩ := endT_some ty.cls ⟨t, g⟩ e
    exact ⟨ts, h⟩
/-! ZX -/
/-! An exception that was caught is held on to, as a value, behind the suite. -/
section
variable {X : Cx} {x n : Str} {c : Value} {i : Nat} {body suite : List Stmt} {b0 : Stmt} {np pos pos' : Pos} {tb : WX → L2.TS} {ts : Addr → Value → Option Addr → L2.TS} {Wo : WX}
end
/-! ZY -/
/-! A caught error as a value: the rules. -/
section
variable {X : Cx} {W : WX} {x n : Str} {c : Addr} {i : Nat} {body suite : List Stmt} {b0 : Stmt} {np pos pos' : Pos} {tb : WS} {ts : Addr → Addr → Addr → WS} {subs nots : List Addr}
end
/-! isinstance of None, or of an error that is held on to -/
section
variable {X : Cx} {tab : List (Addr × Bool)} {u : Value} {us : List Value}
end
def ErrIn (tab : List (Addr × Bool)) (x : Val) (h : Hh) (Q : KQ) : Prop := (x = .non ∧ Q (.bl false) h) ∨ ∃ C a dd v b, x = .err C a dd v ∧ (C, b) ∈ tab ∧ Q (.bl b) h
theorem ErrIn.l {K : Fr} {S F H : Hp} {h : Hh} {tab : List (Addr × Bool)} {x : Val} {v : V} {Q' : KQ} {Q : VK} (r : R K S F H h) (x1 : Rel K S x v) (q : ErrIn tab x h Q') (lq : LQ K S F Q' Q) : (v = .non ∧ Q (.bl false) H) ∨ ∃ (C a dd : Addr) (fs : List (Str × V)) (b : Bool), v = .ref a ∧ H a = some (ErrO (.ref C) (some dd) a) ∧ H dd = some (.xd fs) ∧ (C, b) ∈ tab ∧ Q (.bl b) H := by
  rcases q with ⟨rfl, q⟩ | ⟨C, a, dd, u, b, rfl, hb, q⟩
  · exact .inl ⟨rel_non.mp x1, lq _ _ S _ _ q (Sub.refl S) r (rel_bl.mpr rfl)⟩
  · obtain ⟨rfl, ha, z, hz, _⟩ := rel_err.mp x1
    exact .inr ⟨C, a, dd, _, b, rfl, r.sub _ _ ha, r.sub _ _ hz, hb, lq _ _ S _ _ q (Sub.refl S) r (rel_bl.mpr rfl)⟩
/-- classes as values -/
inductive ZCl (X : Cx) (W : WX) : List Expr → List Val → List Value → Prop where
  | nil : ZCl X W [] [] []
  | cons {e : Expr} {es : List Expr} {x : Val} {u : Value} {xs : List Val} {us : List Value} (h : ZE X W e (wC x)) (k : clsOf X.K x = some u) (r : ZCl X W es xs us)
      (hs : starEach (e :: es) X.env = (false, eval e X.env) :: starEach es X.env := by rfl) : ZCl X W (e :: es) (x :: xs) (u :: us)
theorem ZCl.cls {X : Cx} {W : WX} : ∀ {es : List Expr} {xs : List Val} {us : List Value}, ZCl X W es xs us → clsAll X.K xs = some us
  | _, _, _, .nil => rfl
  | _, _, _, .cons h k r hs => by
    unfold clsAll
    rw [r.cls, k]
    rfl
section
variable {X : Cx} {W : WX} {pos p x1 : Pos} {c0 : Nat} {e x : Expr} {te : WE} {tab : List (Addr × Bool)} {cv : Val} {u : Value}
end
/-! ZQ -/
/-! range with a step. -/
section
variable {K : Fr} {X : Cx} {W : WX}
end
/-! a method with both kinds of arguments -/
section
variable {X : Cx} {W : WX} {pos : Pos} {k n : Nat} {m : Str} {ps ks : List Str} {perm : List (Sum Nat Nat)} {fs : FS} {C : Addr} {apos : Pos} {e o : Expr} {es : List Expr} {kws : List Keyword} {t tk0 : WA} {ta : WE}
end
/-! LK9 -/
/-! the steps: one macro -/
local macro_rules | `(tactic| walk_at "hlk") => `(tactic| first | assumption | with_reducible exact hup_same | ((with_reducible refine' (hup_ne ?nn).trans ?tt); (case nn => first | assumption | (refine Ne.symm ?_; assumption)); (case tt => walk_at "hlk")))
local macro_rules | `(tactic| walk_at "zgo") => `(tactic| repeat (first
  | with_reducible refine i_seq ?_
  | with_reducible refine i_op ?_
  | ((with_reducible refine g_var ?_); first
    | with_reducible refine i_var0 ?_
    | with_reducible refine i_var1 ?_
    | with_reducible refine i_var2 ?_
    | with_reducible refine i_var3 ?_
    | with_reducible refine i_var4 ?_
    | with_reducible refine i_var5 ?_
    | with_reducible refine i_var6 ?_
    | with_reducible refine i_var7 ?_
    | with_reducible refine i_var8 ?_
    | with_reducible refine i_var9 ?_
    | with_reducible refine i_var10 ?_
    | with_reducible refine i_var11 ?_
    | with_reducible refine i_var12 ?_
    | with_reducible refine i_var13 ?_
    | with_reducible refine i_var14 ?_
    | with_reducible refine i_var15 ?_
    | with_reducible refine i_var16 ?_
    | with_reducible refine i_var17 ?_
    | with_reducible refine i_var18 ?_
    | with_reducible refine i_var19 ?_
    | with_reducible refine i_var20 ?_
    | with_reducible refine i_var21 ?_
    | with_reducible refine i_var22 ?_
    | with_reducible refine i_var23 ?_
    | with_reducible refine i_var24 ?_
    | with_reducible refine i_var25 ?_)
  | with_reducible refine i_c ?_
  | with_reducible refine i_cons ?_
  | with_reducible refine i_nil ?_
  | with_reducible refine i_asg ?_
  | ((with_reducible refine g_name ?_); first
    | with_reducible refine i_name0 ?_
    | with_reducible refine i_name1 ?_
    | with_reducible refine i_name2 ?_
    | with_reducible refine i_name3 ?_
    | with_reducible refine i_name4 ?_
    | with_reducible refine i_name5 ?_
    | with_reducible refine i_name6 ?_
    | with_reducible refine i_name7 ?_
    | with_reducible refine i_name8 ?_
    | with_reducible refine i_name9 ?_
    | with_reducible refine i_name10 ?_
    | with_reducible refine i_name11 ?_
    | with_reducible refine i_name12 ?_
    | with_reducible refine i_name13 ?_
    | with_reducible refine i_name14 ?_
    | with_reducible refine i_name15 ?_
    | with_reducible refine i_name16 ?_
    | with_reducible refine i_name17 ?_
    | with_reducible refine i_name18 ?_
    | with_reducible refine i_name19 ?_
    | with_reducible refine i_name20 ?_
    | with_reducible refine i_name21 ?_
    | with_reducible refine i_name22 ?_
    | with_reducible refine i_name23 ?_
    | with_reducible refine i_name24 ?_
    | with_reducible refine i_name25 ?_)
  | ((with_reducible refine g_tg1 ?_); first
    | with_reducible refine i_tg1_0 ?_
    | with_reducible refine i_tg1_1 ?_
    | with_reducible refine i_tg1_2 ?_
    | with_reducible refine i_tg1_3 ?_
    | with_reducible refine i_tg1_4 ?_
    | with_reducible refine i_tg1_5 ?_
    | with_reducible refine i_tg1_6 ?_
    | with_reducible refine i_tg1_7 ?_
    | with_reducible refine i_tg1_8 ?_
    | with_reducible refine i_tg1_9 ?_
    | with_reducible refine i_tg1_10 ?_
    | with_reducible refine i_tg1_11 ?_
    | with_reducible refine i_tg1_12 ?_
    | with_reducible refine i_tg1_13 ?_
    | with_reducible refine i_tg1_14 ?_
    | with_reducible refine i_tg1_15 ?_
    | with_reducible refine i_tg1_16 ?_
    | with_reducible refine i_tg1_17 ?_
    | with_reducible refine i_tg1_18 ?_
    | with_reducible refine i_tg1_19 ?_
    | with_reducible refine i_tg1_20 ?_
    | with_reducible refine i_tg1_21 ?_
    | with_reducible refine i_tg1_22 ?_
    | with_reducible refine i_tg1_23 ?_)
  | with_reducible refine i_yes ?_
  | with_reducible refine i_if ?_
  | with_reducible refine i_tv ?_
  | with_reducible refine i_bl ?_
  | with_reducible refine i_blV ?_
  | ((with_reducible refine g_if ?_); first
    | with_reducible refine iteT ?_
    | with_reducible refine iteF ?_
    | ((with_reducible refine' i_ifdt ?cc ?_); (case cc => first | decide | omega | assumption | decide +kernel))
    | ((with_reducible refine' i_ifdf ?cc ?_); (case cc => first | decide | omega | assumption | decide +kernel))
    | ((with_reducible refine' i_ifnt ?cc ?_); (case cc => first | decide | omega | assumption | decide +kernel))
    | ((with_reducible refine' i_ifnf ?cc ?_); (case cc => first | decide | omega | assumption | decide +kernel))
    | ((with_reducible refine' i_ift ?cc ?_); (case cc => first | assumption | rfl))
    | ((with_reducible refine' i_iff ?cc ?_); (case cc => first | assumption | rfl)))
  | with_reducible refine i_eqT ?_
  | with_reducible refine i_neT ?_
  | with_reducible refine i_eqI ?_
  | with_reducible refine i_neI ?_
  | with_reducible refine i_eqB ?_
  | with_reducible refine i_neB ?_
  | with_reducible refine i_lt ?_
  | with_reducible refine i_le ?_
  | with_reducible refine i_gt ?_
  | with_reducible refine i_ge ?_
  | with_reducible refine i_add ?_
  | with_reducible refine i_sub ?_
  | with_reducible refine i_and ?_
  | with_reducible refine i_or ?_
  | with_reducible refine i_not ?_
  | with_reducible refine i_andV ?_
  | with_reducible refine i_orV ?_
  | with_reducible refine i_notV ?_
  | with_reducible refine i_ifE ?_
  | with_reducible refine i_isN ?_
  | with_reducible refine i_notN ?_
  | with_reducible refine i_un ?_
  | with_reducible refine i_int1 ?_
  | with_reducible refine i_tup ?_
  | with_reducible refine i_lst ?_
  | ((with_reducible refine' i_small ?ss ?_); (case ss => first | decide | (simp only [List.length_cons, List.length_nil, List.length_map, List.length_append]; omega)))
  | with_reducible refine i_cb ?_
  | with_reducible refine i_call0 ?_
  | with_reducible refine i_call ?_
  | with_reducible refine i_meth0 ?_
  | with_reducible refine i_methK ?_
  | with_reducible refine i_make0 ?_
  | with_reducible refine i_fld ?_
  | ((with_reducible refine' i_fldO ?ll ?_); (case ll => repeat (first | exact lk_hd | exact lk_nil | (refine lk_tl (by decide +kernel) ?_))))
  | ((with_reducible refine' i_fldR ?ee ?ll ?_); (case ee => walk_at "hlk"); (case ll => repeat (first | exact lk_hd | exact lk_nil | (refine lk_tl (by decide +kernel) ?_))))
  | ((with_reducible refine' i_mO ?ll ?_); (case ll => repeat (first | exact lk_hd | exact lk_nil | (refine lk_tl (by decide +kernel) ?_))))
  | ((with_reducible refine' i_mR ?ee ?ll ?_); (case ee => walk_at "hlk"); (case ll => repeat (first | exact lk_hd | exact lk_nil | (refine lk_tl (by decide +kernel) ?_))))
  | ((with_reducible refine' i_ixT ?at_ ?_); (case at_ => first | exact rfl | exact L2.atI_nat (j := 0) rfl | exact L2.atI_nat (j := 1) rfl))
  | ((with_reducible refine' i_ixL ?at_ ?_); (case at_ => first | exact rfl | exact L2.atI_nat (j := 0) rfl | exact L2.atI_nat (j := 1) rfl))
  | ((with_reducible refine' i_ixR ?hh ?at_ ?_); (case hh => walk_at "hlk"); (case at_ => first | exact rfl | exact L2.atI_nat (j := 0) rfl | exact L2.atI_nat (j := 1) rfl))
  | with_reducible refine i_fldS ?_
  | with_reducible refine i_bm ?_
  | ((with_reducible refine' i_tyL ?hh ?_); (case hh => walk_at "hlk"))
  | ((with_reducible refine' i_l2 ?xx ?yy ?_); (case xx => exact rfl); (case yy => exact rfl))
  | with_reducible refine i_callK ?_
  | with_reducible refine i_makeK ?_
  | with_reducible refine i_chain ?_
  | with_reducible refine i_raise ?_
  | with_reducible refine i_atx ?_
  | with_reducible refine i_lenO ?_
  | with_reducible refine i_sub_ ?_
  | with_reducible refine i_expr ?_
  | with_reducible refine i_ret ?_
  | with_reducible refine i_next ?_
  | with_reducible refine i_lc ?_
  | with_reducible refine i_r1 ?_
  | with_reducible refine i_iL ?_
  | with_reducible refine i_iE ?_
  | with_reducible refine i_iZ ?_
  | with_reducible refine i_iT ?_
  | with_reducible refine i_itsF ?_
  | with_reducible refine i_itsS ?_
  | with_reducible refine i_itsT ?_
  | ((with_reducible refine' i_itsR ?hh ?_); (case hh => walk_at "hlk"))
  | with_reducible refine i_lenF ?_
  | with_reducible refine i_lenT ?_
  | ((with_reducible refine' i_lenR ?hh ?_); (case hh => walk_at "hlk"))
  | with_reducible refine i_listF ?_
  | with_reducible refine i_listT ?_
  | ((with_reducible refine' i_listR ?hh ?_); (case hh => walk_at "hlk"))
  | with_reducible refine i_tupF ?_
  | ((with_reducible refine' i_lenOR ?hh ?_); (case hh => walk_at "hlk"))
  | ((with_reducible refine' i_tupR ?hh ?_); (case hh => walk_at "hlk"))
  | ((with_reducible refine g_isi ?_); first
    | with_reducible refine i_isi_non_bool ?_
    | with_reducible refine i_isi_non_int ?_
    | with_reducible refine i_isi_non_str ?_
    | with_reducible refine i_isi_non_list ?_
    | with_reducible refine i_isi_non_tuple ?_
    | with_reducible refine i_isi_bl_bool ?_
    | with_reducible refine i_isi_bl_int ?_
    | with_reducible refine i_isi_bl_str ?_
    | with_reducible refine i_isi_bl_list ?_
    | with_reducible refine i_isi_bl_tuple ?_
    | with_reducible refine i_isi_int_bool ?_
    | with_reducible refine i_isi_int_int ?_
    | with_reducible refine i_isi_int_str ?_
    | with_reducible refine i_isi_int_list ?_
    | with_reducible refine i_isi_int_tuple ?_
    | with_reducible refine i_isi_str_bool ?_
    | with_reducible refine i_isi_str_int ?_
    | with_reducible refine i_isi_str_str ?_
    | with_reducible refine i_isi_str_list ?_
    | with_reducible refine i_isi_str_tuple ?_
    | with_reducible refine i_isi_tup_bool ?_
    | with_reducible refine i_isi_tup_int ?_
    | with_reducible refine i_isi_tup_str ?_
    | with_reducible refine i_isi_tup_list ?_
    | with_reducible refine i_isi_tup_tuple ?_
    | with_reducible refine i_isi_lst_bool ?_
    | with_reducible refine i_isi_lst_int ?_
    | with_reducible refine i_isi_lst_str ?_
    | with_reducible refine i_isi_lst_list ?_
    | with_reducible refine i_isi_lst_tuple ?_)
  | with_reducible refine i_max ?_
  | with_reducible refine i_min ?_
  | with_reducible refine i_rgin ?_
  | with_reducible refine i_tabin ?_
  | with_reducible refine i_disp ?_
  | with_reducible refine i_pcons ?_
  | with_reducible refine i_pnil ?_
  | with_reducible refine i_dget ?_
  | with_reducible refine i_din ?_
  | with_reducible refine i_dput ?_
  | ((with_reducible refine' i_wgtup ?nn ?_); (case nn => exact rfl))
  | ((with_reducible refine' i_rngB ?aa ?bb ?_); (case aa => first | decide | omega); (case bb => first | decide | omega))
  | with_reducible refine i_for ?_
  | with_reducible refine i_while ?_
  | with_reducible refine i_wgcons ?_
  | with_reducible refine i_wgnil ?_
  | with_reducible refine i_wslL ?_
  | with_reducible refine i_nopart ?_
  | with_reducible refine i_part ?_
  | ((with_reducible refine' i_wgunl ?nn ?_); (case nn => exact rfl))
  | ((with_reducible refine' i_xf ?ee ?_); (case ee => exact rfl))
  | ((with_reducible refine' i_errIs ?ee ?_); (case ee => exact rfl))
  | with_reducible refine i_bm0 ?_
  | with_reducible refine i_intB ?_
  | with_reducible refine i_intI ?_
  | with_reducible refine i_tryThru ?_
  | with_reducible refine i_iS ?_
  | with_reducible refine i_str1 ?_
  | with_reducible refine i_tyS ?_
  | with_reducible refine i_fmtI ?_
  | with_reducible refine i_js ?_
  | with_reducible refine i_jsc ?_
  | with_reducible refine i_jsn ?_
  | with_reducible refine i_dm ?_
  | with_reducible refine i_kn ?_
  | with_reducible refine i_in ?_
  | with_reducible refine i_iZT ?_
  | with_reducible refine i_iZX ?_
  | with_reducible refine i_abs ?_
  ))

theorem kinds_ne {cl : Str → Addr} {h : Hh} {p d e : Addr} {m : TM} (P : PlainAt cl h p d m) (he : h e = some (.dN (encN m))) : p ≠ e ∧ d ≠ e :=
  ⟨fun z => (by have := P.ins; rw [z, he] at this; cases this), fun z => (by have := P.dct; rw [z, he] at this; cases this)⟩
/-- the rows of boxes made so far -/
def RowsB (m : TM) (i : Nat) : Prop := ∀ a k j, (getT m (.made a k j)).isSome = true → j < (i : Int)
theorem rowsb_new {m : TM} {i : Nat} (h : RowsB m i) : ∀ a k, getT m (.made a k (i : Int)) = none := fun a k => by
  cases q : getT m (.made a k (i : Int)) with
  | none => rfl
  | some t =>
    have := h a k i (by rw [q]; rfl)
    omega
theorem rowsb_step {m m' : TM} {r : RefD} {word : Str} {w : Option Wo} {k : Int} {a : Wo} {i : Nat} (h : RowsB m i) (e : callT m r word w k (i : Int) = some (m', a)) : RowsB m' (i + 1) := fun b k2 j2 hb => by
  rcases (callT_keys e).2 _ hb with h2 | ⟨c, h2⟩
  · have := h b k2 j2 h2
    omega
  · cases h2
    omega
theorem rowsb_more {m : TM} {i : Nat} (h : RowsB m i) : RowsB m (i + 1) := fun a k j hb => by have := h a k j hb; omega
theorem rowsb_zero (ws : Rooms) : RowsB (thingsOf ws) 0 := fun a k j h => by
  unfold thingsOf at h
  rw [worldT_made] at h
  cases h
/-- a Plain, and its things kept here -/
structure SideAt (cl : Str → Addr) (h : Hh) (p d e : Addr) (m : TM) (i : Nat) : Prop where
  P : PlainAt cl h p d m
  e : h e = some (.dN (encN m))
  ty : Tidy m
  len : m.length ≤ 97 + i
  pos : 0 < m.length
  rows : RowsB m i
theorem SideAt.keep {cl : Str → Addr} {h h' : Hh} {p d e : Addr} {m : TM} {i : Nat} (S : SideAt cl h p d e m i) (a : h' p = h p) (b : h' d = h d) (c : h' e = h e) : SideAt cl h' p d e m i := ⟨S.P.keep a b, c.trans S.e, S.ty, S.len, S.pos, S.rows⟩
theorem SideAt.more {cl : Str → Addr} {h : Hh} {p d e : Addr} {m : TM} {i : Nat} (S : SideAt cl h p d e m i) : SideAt cl h p d e m (i + 1) := ⟨S.P, S.e, S.ty, by have := S.len; omega, S.pos, rowsb_more S.rows⟩
/-- a call by both -/
def Hh.both (h : Hh) (d e : Addr) (m : TM) : Hh := hup (hup h e (.dN (encN m))) d (.dT (encT m))
theorem SideAt.call {cl : Str → Addr} {h : Hh} {p d e : Addr} {m m' : TM} {i : Nat} {r : RefD} {word : Str} {w : Option Wo} {k : Int} {a : Wo} (S : SideAt cl h p d e m i) (hi : i ≤ 100) (g : ∃ t, getT m r = some t) (c : callT m r word w k (i : Int) = some (m', a)) : SideAt cl (h.both d e m') p d e m' (i + 1) := by
  have l := S.len
  have ty2 := callT_tidy S.ty (by omega) g c
  obtain ⟨pe, de⟩ := kinds_ne S.P S.e
  obtain ⟨t0, g0⟩ := g
  refine ⟨⟨(hup_ne S.P.ne).trans ((hup_ne pe).trans S.P.ins), hup_same⟩, by unfold Hh.both; rw [hup_ne de.symm]; exact hup_same, ty2.1, by omega, ?_, rowsb_step S.rows c⟩
  obtain ⟨x, hx⟩ := Option.isSome_iff_exists.mp ((callT_keys c).1 r (by rw [g0]; rfl))
  exact List.length_pos_of_mem (ref_of_get hx)
theorem SideAt.other {cl : Str → Addr} {h : Hh} {p d e q d2 e2 : Addr} {m m2 m' : TM} {i j : Nat} (S : SideAt cl h p d e m i) (S2 : SideAt cl h q d2 e2 m2 j) (hd : d ≠ d2) (he : e ≠ e2) : SideAt cl (h.both d2 e2 m') p d e m i := by
  have n1 : p ≠ e2 := fun z => by have := S.P.ins; rw [z, S2.e] at this; cases this
  have n2 : p ≠ d2 := fun z => by have := S.P.ins; rw [z, S2.P.dct] at this; cases this
  have n3 : d ≠ e2 := fun z => by have := S.P.dct; rw [z, S2.e] at this; cases this
  have n4 : e ≠ d2 := fun z => by have := S.e; rw [z, S2.P.dct] at this; cases this
  exact S.keep ((hup_ne n2).trans (hup_ne n1)) ((hup_ne hd).trans (hup_ne n3)) ((hup_ne n4).trans (hup_ne he))
theorem SideAt.tray {cl : Str → Addr} {h : Hh} {p d e t g : Addr} {m : TM} {i : Nat} {n : Int} (S : SideAt cl h p d e m i) (T : Tray h t g n) : (p ≠ t ∧ p ≠ g) ∧ (d ≠ t ∧ d ≠ g) ∧ (e ≠ t ∧ e ≠ g) := by
  obtain ⟨gs, x1, x2, x3, k1, k2, _⟩ := T.at_
  refine ⟨⟨fun z => ?_, fun z => ?_⟩, ⟨fun z => ?_, fun z => ?_⟩, ⟨fun z => ?_, fun z => ?_⟩⟩
  · have := S.P.ins; rw [z, k1] at this; cases this
  · have := S.P.ins; rw [z, k2] at this; cases this
  · have := S.P.dct; rw [z, k1] at this; cases this
  · have := S.P.dct; rw [z, k2] at this; cases this
  · have := S.e; rw [z, k1] at this; cases this
  · have := S.e; rw [z, k2] at this; cases this
/-- with a maker more in a house -/
theorem in_set {ns : List Nat} {j : Nat} {r : RefD} (h : In ns r) (k : Nat) (e : ns[j]? = some k) : In (ns.set j (k + 1)) r := by
  cases r with
  | made _ _ _ => exact h.elim
  | thing a b =>
    obtain ⟨x, h0, h1, h2, h3⟩ := h
    by_cases c : j = a.toNat
    · subst c
      rw [e] at h1
      cases h1
      exact ⟨k + 1, h0, by rw [List.getElem?_set, if_pos rfl, if_pos (List.getElem?_eq_some_iff.mp e).1], h2, by omega⟩
    · exact ⟨x, h0, by rw [List.getElem?_set, if_neg c]; exact h1, h2, h3⟩
theorem WorldOk.maker {ws : Rooms} (o : WorldOk ws) {j : Nat} {hs : List Thing} (e : ws[j]? = some hs) (l : hs.length < 12) : WorldOk (ws.set j (hs ++ [.maker])) ∧ 0 < ((ws.set j (hs ++ [.maker])).map List.length).sum := by
  have hj := (List.getElem?_eq_some_iff.mp e).1
  have em : (ws.set j (hs ++ [.maker])).map List.length = (ws.map List.length).set j (hs.length + 1) := by rw [List.map_set]; simp
  have ek : (ws.map List.length)[j]? = some hs.length := by rw [List.getElem?_map, e]; rfl
  have mono : ∀ th : Thing, th.Ok (ws.map List.length) → th.Ok ((ws.map List.length).set j (hs.length + 1)) := fun th ht => by
    cases th with
    | box b => exact ht
    | shelf rs => exact ⟨ht.1, fun r hr => in_set (ht.2 r hr) _ ek⟩
    | maker => trivial
    | stone => trivial
    | relay r => exact in_set ht _ ek
  refine ⟨⟨by rw [List.length_set]; exact o.pos, by rw [List.length_set]; exact o.most, fun xs hx => ?_, fun xs hx th ht => ?_⟩, ?_⟩
  · rcases List.mem_or_eq_of_mem_set hx with h1 | h1
    · exact o.house xs h1
    · subst h1; rw [List.length_append]; simp; omega
  · rw [em]
    refine mono th ?_
    rcases List.mem_or_eq_of_mem_set hx with h1 | h1
    · exact o.ok xs h1 th ht
    · subst h1
      rcases List.mem_append.mp ht with h2 | h2
      · exact o.ok hs (List.mem_of_getElem? e) th h2
      · simp at h2; subst h2; trivial
  · rw [em]
    exact sum_pos (k := hs.length + 1) (List.mem_of_getElem? (i := j) (by rw [List.getElem?_set, if_pos rfl, if_pos (by rw [List.length_map]; exact hj)])) (by omega)
/-! LM1 -/
/-! ### calls, and some of them again (plain law) -/
/-- a call done: its end, the ref called, word, value, asker, row, answer -/
structure Cl where
  e : Option RefD
  r : RefD
  z : Str
  w : Option Wo
  k : Int
  j : Int
  a : Wo
def Cl.v (c : Cl) : Val := .tup [orf c.e, c.r.v, .str c.z, ov c.w, .int c.k, .int c.j, c.a.v]
structure StepC (m m' : TM) (c : Cl) : Prop where
  get : ∃ t, getT m c.r = some t
  end_ : endT m c.r = c.e
  call : callT m c.r c.z c.w c.k c.j = some (m', c.a)
  get_ : c.w = none → c.z = "get"
inductive RunC : TM → List Cl → TM → Prop
  | nil {m} : RunC m [] m
  | cons {m m1 m2 c cs} : StepC m m1 c → RunC m1 cs m2 → RunC m (c :: cs) m2
theorem RunC.snoc {m m1 m2 : TM} {c : Cl} {cs : List Cl} (h : RunC m cs m1) (s : StepC m1 m2 c) : RunC m (cs ++ [c]) m2 := by
  induction h with
  | nil => exact .cons s .nil
  | cons a b ih => exact .cons a (ih s)
/-- what a run keeps of the world -/
structure KeptC (m0 m : TM) : Prop where
  cls : Closed m
  rel : SameR m0 m
  old : ∀ x, (getT m0 x).isSome = true → (getT m x).isSome = true
  mkr : ∀ x, getT m x = some .maker ↔ getT m0 x = some .maker
  refs : ∀ x t, getT m x = some t → ∀ q ∈ t.refs, ∃ a b, q = .thing a b
theorem laid_some {g : RefD → Option Thing} {e d : RefD} {t : Thing} {ob : Option Thing} {x : RefD} {u : Thing} (h : laid g e d t ob x = some u) : (ob = some u ∧ x = d) ∨ (u = t ∧ x = e) ∨ (g x = some u) := by
  unfold laid at h
  split at h
  · rename_i c; exact .inl ⟨h, c.2⟩
  · split at h
    · rename_i c; cases h; exact .inr (.inl ⟨rfl, c⟩)
    · exact .inr (.inr h)
theorem laid_isSome {g : RefD → Option Thing} {e d : RefD} {t : Thing} {ob : Option Thing} {x : RefD} (h : (g x).isSome = true) : (laid g e d t ob x).isSome = true := by
  unfold laid
  split
  · rename_i c; exact c.1
  · split
    · rfl
    · exact h
theorem done_maker {t t' : Thing} {z : Str} {w : Option Wo} {b : Option RefD} {a : Option Wo} {ob : Option Thing} (h : doneF t z w b = (t', a, ob)) : (ob.isSome = true → t = .maker ∧ a = b.map Wo.ref ∧ ∃ n, ob = some (.box n)) ∧ (t = .maker ↔ t' = .maker) ∧ ((∀ q, t ≠ .relay q) → ∀ q, t' ≠ .relay q) ∧ ∀ q ∈ t'.refs, q ∈ t.refs := by
  unfold doneF at h
  repeat' split at h
  all_goals cases h
  all_goals refine ⟨fun z => ?_, ⟨fun z => ?_, fun z => ?_⟩, fun z q => ?_, fun q hq => ?_⟩
  all_goals first
    | exact absurd z (by decide)
    | exact ⟨rfl, rfl, _, rfl⟩
    | rfl
    | exact z
    | (cases z; done)
    | exact z q
    | exact hq
    | (intro e; cases e; done)
    | (simp [Thing.refs] at hq; done)
theorem call_none {m m' : TM} {q : RefD} {z : Str} {w : Option Wo} {k j : Int} {a : Wo} (he : endT m q = none) (h : callT m q z w k j = some (m', a)) : m' = m ∧ a = .brk "ring" := by
  unfold callT at h
  rw [he] at h
  cases h
  exact ⟨rfl, rfl⟩
theorem KeptC.step {m0 m m' : TM} {c : Cl} (K : KeptC m0 m) (s : StepC m m' c) : KeptC m0 m' := by
  have sr := callT_same K.cls s.get s.call
  cases he : endT m c.r with
  | none => rw [(call_none he s.call).1]; exact K
  | some e =>
    obtain ⟨t, t', ob, ht, hd, hn, hl⟩ := callT_inv he s.call
    obtain ⟨d1, d2, d3, d4⟩ := done_maker hd
    have mono : ∀ x, (getT m x).isSome = true → (getT m' x).isSome = true := fun x hx => by rw [hl]; exact laid_isSome hx
    refine ⟨fun r q hr => ?_, K.rel.trans sr, fun x hx => mono x (K.old x hx), fun x => ⟨fun hx => ?_, fun hx => ?_⟩, fun x u hx q hq => ?_⟩
    · have := (sr r q).mpr hr
      exact Option.isSome_iff_exists.mp (mono _ (Option.isSome_iff_exists.mpr (K.cls r q this)))
    · rw [hl] at hx
      rcases laid_some hx with ⟨h1, _⟩ | ⟨h1, h2⟩ | h1
      · obtain ⟨_, _, n, h3⟩ := d1 (by rw [h1]; rfl)
        rw [h1] at h3
        cases h3
      · exact (K.mkr x).mp (by rw [h2, ht, d2.mpr h1.symm])
      · exact (K.mkr x).mp h1
    · have hm := (K.mkr x).mpr hx
      rw [hl]
      unfold laid
      rw [if_neg (fun z => by rw [z.2, hn z.1] at hm; cases hm)]
      by_cases c1 : x = e
      · rw [if_pos c1]
        rw [c1, ht] at hm
        cases hm
        rw [d2.mp rfl]
      · rw [if_neg c1]; exact hm
    · rw [hl] at hx
      rcases laid_some hx with ⟨h1, _⟩ | ⟨h1, h2⟩ | h1
      · obtain ⟨_, _, n, h3⟩ := d1 (by rw [h1]; rfl)
        rw [h1] at h3
        cases h3
        simp [Thing.refs] at hq
      · subst h1
        exact K.refs e t ht q (d4 q hq)
      · exact K.refs x u h1 q hq
theorem KeptC.run {m0 : TM} : ∀ {cs m mE}, RunC m cs mE → KeptC m0 m → KeptC m0 mE := by
  intro cs m mE h
  induction h with
  | nil => exact id
  | cons s _ ih => exact fun K => ih (K.step s)
theorem sub_run {m0 mE : TM} (keep : Cl → Bool) (D : RefD → Prop) : ∀ (cs : List Cl) (m1 m2 : TM), RunC m1 cs mE → KeptC m0 m1 → KeptC m0 m2 → (∀ x, D x → getT m2 x = getT m1 x) → (∀ x, (getT m2 x).isSome = true → (getT m1 x).isSome = true) →
    (∀ m m' c e, c ∈ cs → StepC m m' c → KeptC m0 m → keep c = true → c.e = some e → D e) →
    (∀ m m' c e cs', c ∈ cs → StepC m m' c → RunC m' cs' mE → KeptC m0 m → keep c = false → c.e = some e → (D e → getT m e = some .maker) ∧ (getT m e = some .maker → c.a = .ref (.made e.house c.k c.j) → ¬ D (.made e.house c.k c.j))) →
    ∃ m2', RunC m2 (cs.filter keep) m2' ∧ ∀ x, D x → getT m2' x = getT mE x
  | [], m1, m2, h, _, _, hD, _, _, _ => by
    cases h
    exact ⟨m2, .nil, hD⟩
  | c :: cs, m1, m2, h, K1, K2, hD, hK, hk, hs => by
    obtain _ | ⟨s, h⟩ := h
    rename_i m1'
    have hk' := fun m m' c' e (hc : c' ∈ cs) => hk m m' c' e (List.mem_cons_of_mem _ hc)
    have hs' := fun m m' c' e cs' (hc : c' ∈ cs) => hs m m' c' e cs' (List.mem_cons_of_mem _ hc)
    have sr : SameR m1 m2 := fun r q => (K1.rel r q).symm.trans (K2.rel r q)
    cases hc : keep c with
    | true =>
      rw [List.filter_cons_of_pos hc]
      have get2 : ∃ t, getT m2 c.r = some t := by
        by_cases c0 : (getT m0 c.r).isSome = true
        · exact Option.isSome_iff_exists.mp (K2.old _ c0)
        · have nr : ∀ q, getT m1 c.r ≠ some (.relay q) := fun q z => c0 (by rw [(K1.rel _ _).mpr z]; rfl)
          have e1 : endT m1 c.r = some c.r := (Path.nil (m := m1) (s := c.r)).found List.nodup_nil nr
          have := hk m1 m1' c c.r (List.mem_cons_self) s K1 hc (by rw [← s.end_, e1])
          rw [hD _ this]
          exact s.get
      cases he : endT m1 c.r with
      | none =>
        obtain ⟨e1, e2⟩ := call_none he s.call
        subst e1
        have s2 : StepC m2 m2 c := ⟨get2, by rw [← s.end_, endT_same sr], by
          unfold callT
          rw [← endT_same sr, he, e2], s.get_⟩
        obtain ⟨m2', r1, r2⟩ := sub_run keep D cs m1' m2 h K1 K2 hD hK hk' hs'
        exact ⟨m2', .cons s2 r1, r2⟩
      | some e =>
        have De := hk m1 m1' c e (List.mem_cons_self) s K1 hc (by rw [← s.end_, he])
        obtain ⟨t, t', ob, ht, hd, hn, hl⟩ := callT_inv he s.call
        have he2 : endT m2 c.r = some e := by rw [← endT_same sr, he]
        obtain ⟨m2a, e2⟩ := callT_of (k := c.k) (j := c.j) he2 (by rw [hD e De]; exact ht) hd (fun z => by
          cases q : getT m2 (.made e.house c.k c.j) with
          | none => rfl
          | some u =>
            have := hK (.made e.house c.k c.j) (by rw [q]; rfl)
            rw [hn z] at this
            cases this)
        have s2 : StepC m2 m2a c := ⟨get2, by rw [← s.end_, endT_same sr], e2, s.get_⟩
        obtain ⟨t2, t2', ob2, ht2, hd2, _, hl2⟩ := callT_inv he2 e2
        rw [hD e De, ht] at ht2
        cases ht2
        rw [hd] at hd2
        cases hd2
        obtain ⟨m2', r1, r2⟩ := sub_run keep D cs m1' m2a h (K1.step s) (K2.step s2) (fun x hx => by
          rw [hl, hl2]
          unfold laid
          rw [hD x hx]) (fun x hx => by
          rw [hl]
          rw [hl2] at hx
          obtain ⟨u, hu⟩ := Option.isSome_iff_exists.mp hx
          rcases laid_some hu with ⟨h1, h2⟩ | ⟨h1, h2⟩ | h1
          · unfold laid
            rw [if_pos ⟨by rw [h1]; rfl, h2⟩, h1]
            rfl
          · unfold laid
            split
            · rename_i q; exact q.1
            · first | rfl | (rw [if_pos h2]; rfl)
          · exact laid_isSome (hK x (by rw [h1]; rfl))) hk' hs'
        exact ⟨m2', .cons s2 r1, r2⟩
    | false =>
      rw [List.filter_cons_of_neg (by rw [hc]; decide)]
      refine sub_run keep D cs m1' m2 h (K1.step s) K2 (fun x hx => ?_) (fun x hx => ?_) hk' hs'
      · rw [hD x hx]
        cases he : endT m1 c.r with
        | none => rw [(call_none he s.call).1]
        | some e =>
          obtain ⟨t, t', ob, ht, hd, hn, hl⟩ := callT_inv he s.call
          obtain ⟨d1, d2, d3, d4⟩ := done_maker hd
          obtain ⟨k1, k2⟩ := hs m1 m1' c e cs (List.mem_cons_self) s h K1 hc (by rw [← s.end_, he])
          rw [hl]
          unfold laid
          rw [if_neg (fun z => by
            obtain ⟨tm, ta, _⟩ := d1 z.1
            rw [tm] at ht
            exact k2 ht (Option.some.inj ta) (z.2 ▸ hx))]
          by_cases c1 : x = e
          · rw [if_pos c1]
            have := k1 (c1 ▸ hx)
            rw [c1, this]
            rw [ht] at this
            rw [d2.mp (by cases this; rfl)]
          · rw [if_neg c1]
      · cases he : endT m1 c.r with
        | none => rw [(call_none he s.call).1]; exact hK x hx
        | some e =>
          obtain ⟨t, t', ob, ht, hd, hn, hl⟩ := callT_inv he s.call
          rw [hl]
          exact laid_isSome (hK x hx)
theorem worldT_ok {ws : Rooms} : ∀ {i : Nat} {x : RefD} {t : Thing}, getT (worldT i ws) x = some t → ∃ hs ∈ ws, t ∈ hs := fun h => worldT_mem (ref_of_get h)
theorem KeptC.zero {ws : Rooms} (wo : WorldOk ws) : KeptC (thingsOf ws) (thingsOf ws) := ⟨wo.tidy.cls, SameR.refl _, fun _ h => h, fun _ => Iff.rfl, fun x t h q hq => by
  obtain ⟨hs, h1, h2⟩ := worldT_ok h
  have := wo.ok hs h1 t h2
  cases t with
  | shelf rs =>
    have := this.2 q hq
    cases q with
    | thing a b => exact ⟨a, b, rfl⟩
    | made _ _ _ => exact this.elim
  | relay r =>
    simp [Thing.refs] at hq
    subst hq
    have this : In (ws.map List.length) q := this
    cases q with
    | thing a b => exact ⟨a, b, rfl⟩
    | made _ _ _ => exact this.elim
  | _ => simp [Thing.refs] at hq⟩
/-- the calls of an end, with the one that made it -/
def needB (e : RefD) (c : Cl) : Bool := decide (c.e = some e) || (decide (c.a = .ref e) && match e with
  | .made _ k j => decide (c.k = k ∧ c.j = j)
  | .thing _ _ => false)
theorem needed_run {ws : Rooms} (wo : WorldOk ws) {cs : List Cl} {mE : TM} (e : RefD) (h : RunC (thingsOf ws) cs mE) : ∃ m2, RunC (thingsOf ws) (cs.filter (needB e)) m2 ∧ getT m2 e = getT mE e := by
  refine (fun (x : ∃ m2', RunC (thingsOf ws) (cs.filter (needB e)) m2' ∧ ∀ y, (y = e ∨ getT (thingsOf ws) y = some .maker) → getT m2' y = getT mE y) => let ⟨m2, h1, h2⟩ := x; ⟨m2, h1, h2 e (.inl rfl)⟩) (sub_run (m0 := thingsOf ws) (needB e) (fun x => x = e ∨ getT (thingsOf ws) x = some .maker) cs _ _ h (KeptC.zero wo) (KeptC.zero wo) (fun _ _ => rfl) (fun _ h => h) (fun m m' c e' hc s K hk he => ?_) (fun m m' c e' cs' hc s r K hk he => ⟨fun hD => ?_, fun hm ha hD => ?_⟩))
  · unfold needB at hk
    rw [Bool.or_eq_true, decide_eq_true_iff] at hk
    rcases hk with hk | hk
    · rw [he] at hk
      exact .inl (Option.some.inj hk)
    · rw [Bool.and_eq_true, decide_eq_true_iff] at hk
      obtain ⟨ka, kb⟩ := hk
      obtain ⟨t, t', ob, ht, hd, hn, hl⟩ := callT_inv (s.end_.trans he) s.call
      have := doneF_ref (t := t) (z := c.z) (w := c.w) (b := .made e'.house c.k c.j) (q := e) (by rw [hd, ka])
      rcases this with h3 | ⟨_, n, h3⟩
      · obtain ⟨x, y, rfl⟩ := K.refs e' t ht e h3
        cases kb
      · rw [hd] at h3
        have h3 : ob = some (.box n) := h3
        have tm := ((done_maker hd).1 (by rw [h3]; rfl)).1
        exact .inr ((K.mkr e').mp (by rw [ht, tm]))
  · rcases hD with hD | hD
    · unfold needB at hk
      rw [he, hD] at hk
      simp at hk
    · exact (K.mkr e').mpr hD
  · rcases hD with hD | hD
    · unfold needB at hk
      rw [ha, hD, ← hD] at hk
      simp at hk
    · unfold thingsOf at hD
      rw [worldT_made] at hD
      cases hD
theorem rest_run {ws : Rooms} (wo : WorldOk ws) {cs : List Cl} {mE : TM} (e : RefD) (h : RunC (thingsOf ws) cs mE) (hm : getT mE e ≠ some .maker) : ∃ m2, RunC (thingsOf ws) (cs.filter fun c => !decide (c.e = some e)) m2 := by
  refine (fun (x : ∃ m2', RunC (thingsOf ws) (cs.filter fun c => !decide (c.e = some e)) m2' ∧ ∀ y, y ≠ e → getT m2' y = getT mE y) => let ⟨m2, h1, _⟩ := x; ⟨m2, h1⟩) (sub_run (m0 := thingsOf ws) (fun c => !decide (c.e = some e)) (fun x => x ≠ e) cs _ _ h (KeptC.zero wo) (KeptC.zero wo) (fun _ _ => rfl) (fun _ h => h) (fun m m' c e' hc s K hk he => ?_) (fun m m' c e' cs' hc s r K hk he => ⟨fun hD => ?_, fun hm' ha hD => ?_⟩))
  · intro z
    rw [he, z] at hk
    simp at hk
  · rw [he] at hk
    simp at hk
    exact absurd hk hD
  · rw [he] at hk
    simp at hk
    have KE := KeptC.run r (K.step s)
    exact hm ((KE.mkr e).mpr (by rw [← hk]; exact (K.mkr e').mp hm'))
/-! LM2 -/


/-! ### the law's calls -/
def fs_law_value_v1l : FS where
  P := Addr × Addr × Int × Str × List RefD × Addr
  pre := fun (t, g, n, z, rs, b) vs h => vs = [.ref t, .str z, .ref b] ∧ Tray h t g n ∧ n ≤ 10000000000 ∧ rs.length ≤ 1000000 ∧ b ≠ t ∧ b ≠ g ∧ h b = some (.lst (rs.map RefD.v))
  post := fun (t, g, n, z, rs, b) h v h' => ∃ w : Option Wo, v = ov w ∧ (w = none → z = "get") ∧ (∀ x, w = some x → x.Lay) ∧ Tray h' t g (n + 50) ∧ Keep t g h h'
theorem c_law_value_v1l {t g b : Addr} {n : Int} {z : Str} {rs : List RefD} {h : Hh} {E : XQ} {Q : KQ} (T : Tray h t g n) (hn : n ≤ 10000000000) (hl : rs.length ≤ 1000000) (bt : b ≠ t) (bg : b ≠ g) (eb : h b = some (.lst (rs.map RefD.v))) (k : ∀ (w : Option Wo) h', (w = none → z = "get") → (∀ x, w = some x → x.Lay) → Tray h' t g (n + 50) → Keep t g h h' → Q (ov w) h') : fs_law_value_v1l.sp [.ref t, .str z, .ref b] h E Q :=
  ⟨(t, g, n, z, rs, b), ⟨rfl, T, hn, hl, bt, bg, eb⟩, fun v h' ⟨r, e, a, l, b, c⟩ => by subst e; exact k r h' a l b c, fun _ _ _ z => z.elim⟩
/-- calls done again by another Plain -/
def fs_law_done_again (cl : Str → Addr) : FS where
  P := Rooms × List Cl × TM
  pre := fun (ws, cs, m) vs h => vs = [roomsV ws, .lst (cs.map Cl.v)] ∧ WorldOk ws ∧ RunC (thingsOf ws) cs m ∧ cs.length ≤ 1000
  post := fun (ws, cs, m) h v h' => ∃ p d, v = .ref p ∧ h p = none ∧ h d = none ∧ PlainAt cl h' p d m ∧ ∀ c, c ≠ p → c ≠ d → h' c = h c
theorem c_law_done_again {cl : Str → Addr} {ws : Rooms} {cs : List Cl} {m : TM} {h : Hh} {E : XQ} {Q : KQ} (wo : WorldOk ws) (r : RunC (thingsOf ws) cs m) (hl : cs.length ≤ 1000) (k : ∀ p d h', h p = none → h d = none → PlainAt cl h' p d m → (∀ c, c ≠ p → c ≠ d → h' c = h c) → Q (.ref p) h') : (fs_law_done_again cl).sp [roomsV ws, .lst (cs.map Cl.v)] h E Q :=
  ⟨(ws, cs, m), ⟨rfl, wo, r, hl⟩, fun v h' ⟨p, d, e, a, b, c, f⟩ => by subst e; exact k p d h' a b c f, fun _ _ _ z => z.elim⟩
def r_law_value_v1l : WS :=
  wSeq (wAsg (wCall fs_law_draw [] (wCons (wVar 0) (wCons (wC (.int 8)) (wNil)))) (wgName 3))
  (wSeq (wIf (wTv (wOp wEqS (wVar 1) (wC (.str "get")))) (wRet (wC .non)) (wNext))
  (wSeq (wIf (wAnd (wTv (wOp wEqS (wVar 3) (wC (.int 6)))) (wTv (wOp wNeD (wVar 2) (wLst (wNil))))) (wRet (wOp wIx (wVar 2) (wCall fs_law_draw [] (wCons (wVar 0) (wCons (wCB cLen (wCons (wVar 2) (wNil))) (wNil)))))) (wNext))
  (wSeq (wIf (wTv (wOp wEqS (wVar 3) (wC (.int 7)))) (wSeq (wAsg (wLst (wCons (wC (.str "stone")) (wCons (wC (.str "ring")) (wCons (wC (.str "no verb")) (wCons (wC (.str "no number")) (wCons (wC (.str "no place")) (wCons (wC (.str "no thing")) (wCons (wC (.str "")) (wCons (wC (.str "rain")) (wNil)))))))))) (wgName 4))
  (wRet (wTup (wCons (wC (.str "broken")) (wCons (wOp wIx (wVar 4) (wCall fs_law_draw [] (wCons (wVar 0) (wCons (wC (.int 8)) (wNil))))) (wNil)))))) (wNext))
  (wRet (wTup (wCons (wC (.str "number")) (wCons (wCall fs_law_any [] (wCons (wVar 0) (wNil))) (wNil))))))))

def r_law_done_again (cl : Str → Addr) : WS :=
  wSeq (wAsg (wMake (cl "Plain") (fs_Plain___init__ cl) [] (wCons (wMake (cl "World") (fs_World___init__ cl) [] (wCons (wLc (wiL (wVar 0)) (tg1 2) wYes (wCB cList (wCons (wVar 2) (wNil))) [2]) (wNil))) (wNil))) (wgName 3))
  (wSeq (wFor (wiL (wVar 1)) (wgTup 7 (wgCons (wgName 4) (wgCons (wgName 5) (wgCons (wgName 6) (wgCons (wgName 7) (wgCons (wgName 8) (wgCons (wgName 9) (wgCons (wgName 10) (wgNil)))))))))
  (wIf (wNot (wTv (wCall (fs_law_alike 5) [] (wCons (wMeth (cl "Plain") "call" (fs_Plain_call cl) [] (wVar 3) (wCons (wVar 5) (wCons (wVar 6) (wCons (wVar 7) (wCons (wVar 8) (wCons (wVar 9) (wNil))))))) (wCons (wVar 10) (wNil)))))) (wRet (wC .non)) (wNext)))
  (wRet (wVar 3)))

theorem rd_law_value_v1l {K : Fr} {p vs h Q} {X : XQ} (gd : Good K Q) (q : fs_law_value_v1l.pre p vs h) (hp : ∀ v h', fs_law_value_v1l.post p h v h' → Q v h') :
    r_law_value_v1l (fun _ h' => Q .non h') Q (fun _ _ => False) (fun _ _ => False) (fun C v _ h' => X C v h') (startV ["tray", "verb", "refs", "kind", "causes"] vs) h := by
  obtain ⟨t, g, n, z, rs, b⟩ := p
  obtain ⟨rfl, T, hn, hl, bt, bg, eb⟩ := q
  show r_law_value_v1l _ _ _ _ _ [some (.ref t), some (.str z), some (.ref b), none, none] h
  unfold r_law_value_v1l
  walk_at "zgo"
  refine c_law_draw T (by omega) (by decide) (by decide) fun kind h1 d0 d1 T1 kp1 => ?_
  have eb1 := (kp1 b bt bg).trans eb
  walk_at "zgo"
  refine i_ifd (fun c0 => ?_) (fun c0 => ?_)
  · walk_at "zgo"
    exact hp _ _ ⟨none, rfl, fun _ => c0, (fun w e => by cases e), T1.more (by omega), kp1⟩
  walk_at "zgo"
  have hnone : ∀ w : Wo, some w = none → z = "get" := fun w e => by cases e
  by_cases k6 : kind = 6
  · subst k6
    walk_at "zgo"
    refine i_newF ?_
    by_cases hr : rs = []
    · subst hr
      refine ne_same (d := .list []) (.ref eb1 .nil) (.lst .nil) (LayD.list (n := 0) fun d hd => by cases hd) (by decide) ?_
      walk_at "zgo"
      refine c_law_any T1 (by omega) fun r h2 _ _ T2 kp2 => ?_
      walk_at "zgo"
      exact hp _ _ ⟨some (.num r), rfl, hnone _, fun w e => by cases e; exact Wo.lay_num _, T2.more (by omega), kp1.trans kp2⟩
    · have hl0 : 0 < rs.length := List.length_pos_iff.mpr hr
      have hlm : (List.map RefD.v rs).length = rs.length := List.length_map _
      refine ⟨.list (rs.map RefD.d), .list [], .ref eb1 (dvs_map RefD.dv rs), .lst .nil, (LayD.list (n := 1) fun d hd => by obtain ⟨r, _, rfl⟩ := List.mem_map.mp hd; exact r.lay).shaped (by decide), (LayD.list (n := 0) fun d hd => by cases hd).shaped (by decide), ?_⟩
      have he : PyData.eqv (.list (rs.map RefD.d)) (.list []) = false := by
        cases rs with
        | nil => exact absurd rfl hr
        | cons r rs => simp [PyData.eqv, PyData.eqvAll]
      rw [he]
      walk_at "zgo"
      rw [hlm]
      refine c_law_draw (m := (rs.length : Int)) T1 (by omega) (by omega) (by omega) fun d2 h2 e0 e1 T2 kp2 => ?_
      have h3 : d2.toNat < rs.length := by omega
      refine i_ixR ((kp2 b bt bg).trans eb1) (v := (rs[d2.toNat]).v) (atI_toNat e0 (by rw [List.getElem?_map, List.getElem?_eq_getElem h3]; rfl)) ?_
      exact hp _ _ ⟨some (.ref rs[d2.toNat]), rfl, hnone _, fun w e => by cases e; exact Wo.lay_ref _, T2.more (by omega), kp1.trans kp2⟩
  by_cases k7 : kind = 7
  · subst k7
    walk_at "zgo"
    refine i_newF ?_
    walk_at "zgo"
    refine c_law_draw T1 (by omega) (by decide) (by decide) fun d3 h3 f0 f1 T3 kp3 => ?_
    obtain ⟨w2, ha, lw2⟩ : ∃ w : Str, L2.atI [Val.str "stone", Val.str "ring", Val.str "no verb", Val.str "no number", Val.str "no place", Val.str "no thing", Val.str "", Val.str "rain"] d3 = some (.str w) ∧ (Wo.brk w).Lay := by
      have e : d3 = 0 ∨ d3 = 1 ∨ d3 = 2 ∨ d3 = 3 ∨ d3 = 4 ∨ d3 = 5 ∨ d3 = 6 ∨ d3 = 7 := by omega
      rcases e with rfl | rfl | rfl | rfl | rfl | rfl | rfl | rfl <;> exact ⟨_, rfl, lay_c (by decide +kernel)⟩
    refine i_ixL ha ?_
    walk_at "zgo"
    exact hp _ _ ⟨some (.brk w2), rfl, hnone _, fun w e => by cases e; exact lw2, T3.more (by omega), kp1.trans kp3⟩
  · walk_at "zgo"
    refine c_law_any T1 (by omega) fun r h2 _ _ T2 kp2 => ?_
    walk_at "zgo"
    exact hp _ _ ⟨some (.num r), rfl, hnone _, fun w e => by cases e; exact Wo.lay_num _, T2.more (by omega), kp1.trans kp2⟩
theorem RunC.take {m m2 : TM} : ∀ {cs : List Cl}, RunC m cs m2 → ∀ i, ∃ mi, RunC m (cs.take i) mi ∧ RunC mi (cs.drop i) m2
  | [], h, i => ⟨m, by simpa using RunC.nil, by simpa using h⟩
  | c :: cs, h, 0 => ⟨m, .nil, h⟩
  | c :: cs, h, i + 1 => by
    obtain _ | ⟨s, h⟩ := h
    obtain ⟨mi, h1, h2⟩ := RunC.take h i
    exact ⟨mi, .cons s h1, h2⟩
theorem rd_law_done_again {K : Fr} {cl : Str → Addr} {p vs h Q} {X : XQ} (gd : Good K Q) (q : (fs_law_done_again cl).pre p vs h) (hp : ∀ v h', (fs_law_done_again cl).post p h v h' → Q v h') :
    r_law_done_again cl (fun _ h' => Q .non h') Q (fun _ _ => False) (fun _ _ => False) (fun C v _ h' => X C v h') (startV ["houses", "calls", "things", "plain", "end", "ref", "word", "value", "asker", "row", "answer"] vs) h := by
  obtain ⟨ws, cs, m⟩ := p
  obtain ⟨rfl, wo, r, hl⟩ := q
  show r_law_done_again _ _ _ _ _ _ [some (roomsV ws), some (.lst (cs.map Cl.v)), none, none, none, none, none, none, none, none, none] h
  unfold r_law_done_again
  have sml := wo.small
  have hwm := wo.most
  have lz := wo.tlen
  have lc : (cs.map Cl.v).length = cs.length := List.length_map _
  walk_at "zgo"
  refine lc_houses sml (by simp) ?_
  walk_at "zgo"
  refine c_World_mk (HsAt.frozen ws) sml wo.good ?_
  walk_at "zgo"
  refine c_Plain_mk wo fun p d h1 hp1 hd1 P1 k1 => ?_
  walk_at "zgo"
  refine for_inv (fun i ρ h' => ∃ (mi : TM) (x4 x5 x6 x7 x8 x9 x10 : Option Val), ρ = [some (roomsV ws), some (.lst (cs.map Cl.v)), none, some (.ref p), x4, x5, x6, x7, x8, x9, x10] ∧ RunC mi (cs.drop i) m ∧ PlainAt cl h' p d mi ∧ Tidy mi ∧ mi.length ≤ 96 + i ∧ (∀ c, c ≠ p → c ≠ d → h' c = h c) ∧ i ≤ cs.length) ⟨thingsOf ws, _, _, _, _, _, _, _, rfl, r, P1, wo.tidy, by omega, k1, Nat.zero_le _⟩ ?_
  rintro i ρ h2 ⟨mi, x4, x5, x6, x7, x8, x9, x10, rfl, ri, P2, ty, lm, old, hi⟩
  refine ⟨trivial, fun hi2 => ?_, fun z hz => ?_⟩
  · rw [List.drop_of_length_le (by omega)] at ri
    cases ri
    walk_at "zgo"
    exact hp _ _ ⟨p, d, rfl, hp1, hd1, P2, old⟩
  obtain ⟨c, ec, rfl⟩ := map_get hz
  have hil := (List.getElem?_eq_some_iff.mp ec).1
  rw [drop_cons ec] at ri
  obtain _ | ⟨s, ri⟩ := ri
  rename_i m3
  obtain ⟨t0, g0⟩ := s.get
  have ty2 := callT_tidy ty (by omega) s.get s.call
  have hi9 := P2.ins
  unfold Cl.v
  walk_at "zgo"
  refine c_Plain_call P2 ty s.get_ g0 s.call ?_
  walk_at "zgo"
  refine c_law_alike ((Wo.pure c.a).le (by omega)) ?_
  walk_at "zgo"
  exact ⟨m3, _, _, _, _, _, _, _, rfl, ri, ⟨(hup_ne P2.ne).trans P2.ins, hup_same⟩, ty2.1, by omega, fun x c1 c2 => by rw [hup_ne c2]; exact old x c1 c2, by omega⟩
/-! LM3 -/


theorem Wo.d_ref {w : Wo} {r : RefD} (h : w.d = r.d) : w = .ref r := by
  cases w with
  | ref q => exact congrArg Wo.ref (RefD.d_inj h)
  | num n => cases r <;> simp [Wo.d, RefD.d] at h <;> exact absurd h.1 (by decide +kernel)
  | brk n => cases r <;> simp [Wo.d, RefD.d] at h <;> exact absurd h.1 (by decide +kernel)
theorem eq_woR {w : Wo} {r : RefD} {h : Hh} {Q : KQ} (l : w.Lay) (q : Q (.bl (decide (w = .ref r))) h) : wEqD w.v r.v h Q := by
  refine ⟨w.d, r.d, w.dv, r.dv, LayD.shaped l (by decide), r.lay.shaped (by decide), ?_⟩
  rw [show PyData.eqv w.d r.d = decide (w = .ref r) by
    rw [Bool.eq_iff_iff, eqv_pl _ _ w.pl r.pl, decide_eq_true_iff]
    exact ⟨Wo.d_ref, fun h => by rw [h]; rfl⟩]
  exact q
theorem eq_orfR {o : Option RefD} {r : RefD} {h : Hh} {Q : KQ} (q : Q (.bl (decide (o = some r))) h) : wEqD (orf o) r.v h Q := by
  cases o with
  | none =>
    refine ⟨.none, r.d, .non, r.dv, by decide +kernel, r.lay.shaped (by decide), ?_⟩
    rw [show PyData.eqv .none r.d = decide ((none : Option RefD) = some r) by cases r <;> simp [RefD.d, PyData.eqv]]
    exact q
  | some s =>
    refine ⟨s.d, r.d, s.dv, r.dv, s.lay.shaped (by decide), r.lay.shaped (by decide), ?_⟩
    rw [show PyData.eqv s.d r.d = decide (some s = some r) by
      rw [Bool.eq_iff_iff, eqv_pl _ _ s.pl r.pl, decide_eq_true_iff]
      exact ⟨fun h => by rw [RefD.d_inj h], fun h => by rw [Option.some.inj h]⟩]
    exact q
theorem eq_ints2 {a b' : Int} {y : Val} {b : Bool} {h : Hh} {Q : KQ} (e : (b = false ∧ ∃ n, y = .tup [.int n]) ∨ ∃ k j, y = .tup [.int k, .int j] ∧ b = decide (a = k ∧ b' = j)) (q : Q (.bl b) h) : wEqD (.tup [.int a, .int b']) y h Q := by
  rcases e with ⟨rfl, n, rfl⟩ | ⟨k, j, rfl, rfl⟩
  · refine ⟨.tuple [.int a, .int b'], .tuple [.int n], .tup (.cons (.int _) (.cons (.int _) .nil)), .tup (.cons (.int _) .nil), (lay2 (.int 0 _) (.int 0 _)).shaped (by decide), (LayD.tuple (n := 0) fun d hd => by simp at hd; subst hd; exact .int 0 _).shaped (by decide), ?_⟩
    rw [show PyData.eqv (.tuple [.int a, .int b']) (.tuple [.int n]) = false by simp [PyData.eqv, PyData.eqvAll]]
    exact q
  · refine ⟨.tuple [.int a, .int b'], .tuple [.int k, .int j], .tup (.cons (.int _) (.cons (.int _) .nil)), .tup (.cons (.int _) (.cons (.int _) .nil)), (lay2 (.int 0 _) (.int 0 _)).shaped (by decide), (lay2 (.int 0 _) (.int 0 _)).shaped (by decide), ?_⟩
    rw [show PyData.eqv (.tuple [.int a, .int b']) (.tuple [.int k, .int j]) = decide (a = k ∧ b' = j) by rw [Bool.eq_iff_iff]; simp [PyData.eqv, PyData.eqvAll]]
    exact q
def fs_law_needed : FS where
  P := List Cl × RefD
  pre := fun (cs, e) vs h => vs = [.lst (cs.map Cl.v), e.v] ∧ cs.length ≤ 1000 ∧ ∀ c ∈ cs, c.a.Lay
  post := fun (cs, e) h v h' => v = .lst ((cs.filter (needB e)).map Cl.v) ∧ h' = h
  xpost := fun _ _ _ _ _ => False
theorem c_law_needed {cs : List Cl} {e : RefD} {h : Hh} {E : XQ} {Q : KQ} (hl : cs.length ≤ 1000) (l : ∀ c ∈ cs, c.a.Lay) (k : Q (.lst ((cs.filter (needB e)).map Cl.v)) h) : fs_law_needed.sp [.lst (cs.map Cl.v), e.v] h E Q :=
  ⟨(cs, e), ⟨rfl, hl, l⟩, fun v h' ⟨a, b⟩ => by subst a b; exact k, fun _ _ _ z => z.elim⟩
def r_law_needed : WS :=
  wSeq (wAsg (wLst (wNil)) (wgName 2))
  (wSeq (wFor (wiL (wVar 0)) (wgName 3)
  (wIf (wOr (wTv (wOp wEqD (wOp wIx (wVar 3) (wC (.int 0))) (wVar 1))) (wAnd (wTv (wOp wEqD (wOp wIx (wVar 3) (wC (.int 6))) (wVar 1))) (wTv (wOp wEqD (wSl wSlT (wVar 3) (wPart (wC (.int 4))) (wPart (wC (.int 6)))) (wSl wSlT (wVar 1) (wPart (wC (.int 2))) (wNoPart)))))) (wExpr (wBM "list" mAppend (wVar 2) (wCons (wVar 3) (wNil)))) (wNext)))
  (wRet (wVar 2)))

theorem rd_law_needed {K : Fr} {p vs h Q} {X : XQ} (gd : Good K Q) (q : fs_law_needed.pre p vs h) (hp : ∀ v h', fs_law_needed.post p h v h' → Q v h') :
    r_law_needed (fun _ h' => Q .non h') Q (fun _ _ => False) (fun _ _ => False) (fun C v _ h' => X C v h') (startV ["calls", "end", "found", "one"] vs) h := by
  obtain ⟨cs, e⟩ := p
  obtain ⟨rfl, hl, lay⟩ := q
  have hq := hp _ _ ⟨rfl, rfl⟩
  show r_law_needed _ _ _ _ _ [some (.lst (cs.map Cl.v)), some e.v, none, none] h
  unfold r_law_needed
  walk_at "zgo"
  refine i_newO fun d hd => ?_
  walk_at "zgo"
  refine for_inv (fun i ρ h' => ∃ x3 : Option Val, ρ = [some (.lst (cs.map Cl.v)), some e.v, some (.ref d), x3] ∧ h' = hup h d (.lst (((cs.take i).filter (needB e)).map Cl.v)) ∧ i ≤ cs.length) ⟨_, rfl, by simp, Nat.zero_le _⟩ ?_
  rintro i ρ h' ⟨x3, rfl, rfl, hi⟩
  refine ⟨trivial, fun hi2 => ?_, fun z hz => ?_⟩
  · rw [List.length_map] at hi2
    rw [List.take_of_length_le hi2]
    walk_at "zgo"
    refine gd.frz hup_same ?_
    rw [hdel_hup hd]
    exact hq
  obtain ⟨c, ec, rfl⟩ := map_get hz
  have hil := (List.getElem?_eq_some_iff.mp ec).1
  have lc := lay c (List.mem_of_getElem? ec)
  have hlf : ((cs.take i).filter (needB e)).length ≤ 1000 := Nat.le_trans (List.length_filter_le _ _) (by rw [List.length_take]; omega)
  have yes : needB e c = true → (cs.take (i + 1)).filter (needB e) = (cs.take i).filter (needB e) ++ [c] := fun y => by rw [take_snoc ec, List.filter_append]; simp [y]
  have no : needB e c = false → (cs.take (i + 1)).filter (needB e) = (cs.take i).filter (needB e) := fun y => by rw [take_snoc ec, List.filter_append]; simp [y]
  unfold Cl.v
  walk_at "zgo"
  refine eq_orfR ?_
  refine ⟨_, rfl, ?_⟩
  refine i_ifd (fun h1 => ?_) (fun h1 => ?_)
  · have y := yes (by unfold needB; rw [decide_eq_true h1]; rfl)
    walk_at "zgo"
    refine i_append hup_same (by rw [List.length_map]; omega) ?_
    walk_at "zgo"
    refine ⟨_, rfl, ?_, by omega⟩
    rw [hup_hup, y, List.map_append]
    rfl
  walk_at "zgo"
  refine eq_woR lc ?_
  refine ⟨_, rfl, ?_⟩
  refine i_ifd (fun h2 => ?_) (fun h2 => ?_)
  rotate_left
  · have y := no (by unfold needB; rw [decide_eq_false h1, decide_eq_false h2]; rfl)
    walk_at "zgo"
    refine ⟨_, rfl, by rw [y], by omega⟩
  walk_at "zgo"
  refine i_slT ?_
  walk_at "zgo"
  cases e with
  | thing x n =>
    have y := no (by unfold needB; rw [decide_eq_false h1]; simp)
    unfold RefD.v
    refine i_slT ?_
    show wEqD (.tup [.int c.k, .int c.j]) (.tup [.int n]) _ _
    refine eq_ints2 (b := false) (.inl ⟨rfl, _, rfl⟩) ?_
    refine ⟨_, rfl, ?_⟩
    walk_at "zgo"
    exact ⟨_, rfl, by rw [y] <;> rfl, by omega⟩
  | made x k j =>
    unfold RefD.v
    refine i_slT ?_
    show wEqD (.tup [.int c.k, .int c.j]) (.tup [.int k, .int j]) _ _
    refine eq_ints2 (b := decide (c.k = k ∧ c.j = j)) (.inr ⟨_, _, rfl, rfl⟩) ?_
    refine ⟨_, rfl, ?_⟩
    refine i_ifd (fun h3 => ?_) (fun h3 => ?_)
    · have y := yes (by unfold needB; rw [decide_eq_true h2]; dsimp only; rw [decide_eq_true h3]; simp)
      walk_at "zgo"
      refine i_append hup_same (by rw [List.length_map]; omega) ?_
      walk_at "zgo"
      refine ⟨_, rfl, ?_, by omega⟩
      rw [hup_hup, y, List.map_append]
      rfl
    · have y := no (by unfold needB; rw [decide_eq_false h1, decide_eq_true h2]; dsimp only; rw [decide_eq_false h3]; rfl)
      walk_at "zgo"
      exact ⟨_, rfl, by rw [y] <;> rfl, by omega⟩
/-! LM4 -/


theorem houseT_keys (i : Nat) : ∀ (ts : List Thing) (j : Nat), keysT (houseT i j ts) = (List.range ts.length).map fun (k : Nat) => RefD.thing (i : Int) ((j + k : Nat) : Int)
  | [], _ => rfl
  | t :: ts, j => by
    rw [List.length_cons, List.range_succ_eq_map, List.map_cons, List.map_map]
    show RefD.thing (i : Int) (j : Int) :: keysT (houseT i (j + 1) ts) = _
    rw [houseT_keys i ts (j + 1)]
    congr 1
    refine List.map_congr_left fun k _ => ?_
    show RefD.thing _ _ = RefD.thing _ _
    congr 1
    omega
theorem keys_snoc {ws : Rooms} {i : Nat} {hs : List Thing} (e : ws[i]? = some hs) : keysT (worldT 0 (ws.take (i + 1))) = keysT (worldT 0 (ws.take i)) ++ (List.range hs.length).map fun (k : Nat) => RefD.thing (i : Int) (k : Int) := by
  have hi := (List.getElem?_eq_some_iff.mp e).1
  rw [take_snoc e, worldT_snoc]
  unfold keysT
  rw [List.map_append]
  congr 1
  have := houseT_keys i hs 0
  unfold keysT at this
  rw [show 0 + (ws.take i).length = i by rw [List.length_take]; omega, this]
  refine List.map_congr_left fun k _ => ?_
  rw [Nat.zero_add]
def fs_law_calls (cl : Str → Addr) : FS where
  P := Addr × Addr × Int × Addr × Addr × Rooms × Int
  pre := fun (t, g, n, p, d, ws, many) vs h => vs = [.ref t, .ref p, roomsV ws, .int many] ∧ Tray h t g n ∧ n ≤ 100000 ∧ PlainAt cl h p d (thingsOf ws) ∧ WorldOk ws ∧ 0 < (ws.map List.length).sum ∧ 0 ≤ many ∧ many ≤ 40
  post := fun (t, g, n, p, d, ws, many) h v h' => ∃ (cs : List Cl) (m : TM), v = .lst (cs.map Cl.v) ∧ RunC (thingsOf ws) cs m ∧ cs.length ≤ 40 ∧ (∀ c ∈ cs, c.a.Lay) ∧ Tray h' t g (n + 5000) ∧ PlainAt cl h' p d m ∧ Tidy m ∧ ∀ c, c ≠ t → c ≠ g → c ≠ p → c ≠ d → h' c = h c
  xpost := fun _ _ _ _ _ => False
theorem c_law_calls {cl : Str → Addr} {t g p d : Addr} {n many : Int} {ws : Rooms} {h : Hh} {E : XQ} {Q : KQ} (T : Tray h t g n) (hn : n ≤ 100000) (P : PlainAt cl h p d (thingsOf ws)) (wo : WorldOk ws) (pos : 0 < (ws.map List.length).sum) (m0 : 0 ≤ many) (m1 : many ≤ 40) (k : ∀ (cs : List Cl) (m : TM) h', RunC (thingsOf ws) cs m → cs.length ≤ 40 → (∀ c ∈ cs, c.a.Lay) → Tray h' t g (n + 5000) → PlainAt cl h' p d m → Tidy m → (∀ c, c ≠ t → c ≠ g → c ≠ p → c ≠ d → h' c = h c) → Q (.lst (cs.map Cl.v)) h') : (fs_law_calls cl).sp [.ref t, .ref p, roomsV ws, .int many] h E Q :=
  ⟨(t, g, n, p, d, ws, many), ⟨rfl, T, hn, P, wo, pos, m0, m1⟩, fun v h' ⟨cs, m, e, a1, a2, a3, a4, a5, a6, a7⟩ => by subst e; exact k cs m h' a1 a2 a3 a4 a5 a6 a7, fun _ _ _ z => z.elim⟩
def r_law_calls (cl : Str → Addr) : WS :=
  wSeq (wAsg (wLst (wNil)) (wgName 4))
  (wSeq (wFor (wiR1 (wCB cLen (wCons (wVar 2) (wNil)))) (wgName 5)
  (wAsg (wOp wCat (wVar 4) (wLc (wiR1 (wCB cLen (wCons (wOp wIx (wVar 2) (wVar 5)) (wNil)))) (tg1 6) wYes (wTup (wCons (wC (.str "thing")) (wCons (wVar 5) (wCons (wVar 6) (wNil))))) [6])) (wgName 4)))
  (wSeq (wAsg (wLst (wNil)) (wgName 7))
  (wSeq (wFor (wiR1 (wVar 3)) (wgName 8)
  (wSeq (wAsg (wOp wIx (wVar 4) (wCall fs_law_draw [] (wCons (wVar 0) (wCons (wCB cLen (wCons (wVar 4) (wNil))) (wNil))))) (wgName 9))
  (wSeq (wAsg (wMeth (cl "Plain") "end" (fs_Plain_end cl) [] (wVar 1) (wCons (wVar 9) (wNil))) (wgName 10))
  (wSeq (wAsg (wCall fs_law_word [] (wCons (wVar 0) (wCons (wMeth (cl "Plain") "thing" (fs_Plain_thing cl) [] (wVar 1) (wCons (wIfE (wTv (wIsN (wVar 10))) (wVar 9) (wVar 10)) (wNil))) (wNil)))) (wgName 11))
  (wSeq (wAsg (wCall fs_law_value_v1l [] (wCons (wVar 0) (wCons (wVar 11) (wCons (wVar 4) (wNil))))) (wgName 12))
  (wSeq (wAsg (wCall fs_law_draw [] (wCons (wVar 0) (wCons (wC (.int 4)) (wNil)))) (wgName 13))
  (wSeq (wAsg (wMeth (cl "Plain") "call" (fs_Plain_call cl) [] (wVar 1) (wCons (wVar 9) (wCons (wVar 11) (wCons (wVar 12) (wCons (wVar 13) (wCons (wVar 8) (wNil))))))) (wgName 14))
  (wSeq (wExpr (wBM "list" mAppend (wVar 7) (wCons (wTup (wCons (wVar 10) (wCons (wVar 9) (wCons (wVar 11) (wCons (wVar 12) (wCons (wVar 13) (wCons (wVar 8) (wCons (wVar 14) (wNil))))))))) (wNil))))
  (wIf (wAnd (wTv (wOp wEqS (wOp wIx (wVar 14) (wC (.int 0))) (wC (.str "made")))) (wTv (wOp wNotInD (wVar 14) (wVar 4)))) (wExpr (wBM "list" mAppend (wVar 4) (wCons (wVar 14) (wNil)))) (wNext))))))))))
  (wRet (wVar 7)))))

theorem i_ninRefs {h : Hh} {y : Val} {xs : List RefD} {r : RefD} {Q : KQ} (e : Dv h y (.list (xs.map RefD.d))) (q : Q (.bl (!decide (r ∈ xs))) h) : wNotInD r.v y h Q := by
  refine ⟨r.d, xs.map RefD.d, r.dv, e, r.lay.shaped (by decide), refs_shaped xs, ?_⟩
  rw [any_refd]
  exact q
theorem kinds_tray {cl : Str → Addr} {h : Hh} {p d t g : Addr} {m : TM} {n : Int} (P : PlainAt cl h p d m) (T : Tray h t g n) : (p ≠ t ∧ p ≠ g) ∧ (d ≠ t ∧ d ≠ g) := by
  obtain ⟨gs, x1, x2, x3, k1, k2, _⟩ := T.at_
  refine ⟨⟨fun z => ?_, fun z => ?_⟩, ⟨fun z => ?_, fun z => ?_⟩⟩
  · have := P.ins; rw [z, k1] at this; cases this
  · have := P.ins; rw [z, k2] at this; cases this
  · have := P.dct; rw [z, k1] at this; cases this
  · have := P.dct; rw [z, k2] at this; cases this
theorem rd_law_calls {K : Fr} {cl : Str → Addr} {p vs h Q} {X : XQ} (gd : Good K Q) (q : (fs_law_calls cl).pre p vs h) (hp : ∀ v h', (fs_law_calls cl).post p h v h' → Q v h') :
    r_law_calls cl (fun _ h' => Q .non h') Q (fun _ _ => False) (fun _ _ => False) (fun C v _ h' => X C v h') (startV ["tray", "plain", "houses", "many", "refs", "house", "number", "calls", "row", "ref", "end", "word", "value", "asker", "answer"] vs) h := by
  obtain ⟨t, g, n, p, d, ws, many⟩ := p
  obtain ⟨rfl, T, hn, P, wo, pos, m0, m1⟩ := q
  show r_law_calls _ _ _ _ _ _ [some (.ref t), some (.ref p), some (roomsV ws), some (.int many), none, none, none, none, none, none, none, none, none, none, none] h
  unfold r_law_calls
  have hml := wo.most
  have lz := wo.tlen
  have lws : (ws.map houseV).length = ws.length := List.length_map _
  unfold roomsV
  walk_at "zgo"
  refine i_newO fun b0 hb0 => ?_
  walk_at "zgo"
  rw [lws]
  refine for_inv (fun i ρ h' => ∃ (b : Addr) (x5 : Option Val), ρ = [some (.ref t), some (.ref p), some (roomsV ws), some (.int many), some (.ref b), x5, none, none, none, none, none, none, none, none, none] ∧ h b = none ∧ h' b = some (.lst ((keysT (worldT 0 (ws.take i))).map RefD.v)) ∧ (∀ c u, h c = some u → h' c = some u) ∧ i ≤ ws.length) ⟨b0, _, rfl, hb0, by rw [List.take_zero]; exact hup_same, fun c u hu => by rw [hup_ne (fun z => by rw [z, hb0] at hu; cases hu)]; exact hu, Nat.zero_le _⟩ ?_
  rintro i ρ h1 ⟨b, x5, rfl, hb, eb, old, hi⟩
  refine ⟨trivial, fun hi2 => ?_, fun z hz => ?_⟩
  rotate_left
  · obtain ⟨hi3, rfl⟩ := rng_get hz
    have hi4 : i < ws.length := by omega
    have ew := List.getElem?_eq_getElem hi4
    have hw := wo.house _ (List.getElem_mem hi4)
    generalize ws[i] = hs at ew hw
    have lhs : (hs.map Thing.v).length = hs.length := List.length_map _
    rw [show (0 : Int) + (i : Int) = (i : Int) by omega]
    unfold roomsV
    walk_at "zgo"
    refine i_ixL (v := houseV hs) (L2.atI_nat (by rw [List.getElem?_map, ew]; rfl)) ?_
    unfold houseV
    walk_at "zgo"
    refine lc_inv (fun j acc h' => h' = h1 ∧ acc = ((List.range j).map fun (k : Nat) => RefD.thing (i : Int) (k : Int)).map RefD.v ∧ j ≤ hs.length) ⟨rfl, rfl, Nat.zero_le _⟩ ?_
    rintro j acc h2 ⟨rfl, rfl, hj⟩
    refine ⟨trivial, fun hj2 => ?_, fun z hz => ?_⟩
    rotate_left
    · obtain ⟨hj3, rfl⟩ := rng_get hz
      rw [show (0 : Int) + (j : Int) = (j : Int) by omega]
      walk_at "zgo"
      refine ⟨by simp; omega, rfl, by rw [List.range_succ, List.map_append, List.map_append]; rfl, by omega⟩
    have ej : j = hs.length := by rw [rng_len] at hj2; omega
    subst ej
    refine i_newF ?_
    have lk : (keysT (worldT 0 (ws.take i))).length ≤ 100 := by
      unfold keysT
      rw [List.length_map, worldT_len]
      have := sum_le (ns := (ws.take i).map List.length) fun k hk => by
        obtain ⟨x, hx, rfl⟩ := List.mem_map.mp hk
        exact wo.house x (List.mem_of_mem_take hx)
      rw [List.length_map, List.length_take] at this
      omega
    refine i_cat (.ref eb) (.lst _) (by simp; omega) (i_newO fun b2 hb2 => ?_)
    walk_at "zgo"
    have hb3 : h b2 = none := by
      cases e : h b2 with
      | none => rfl
      | some u => have := old _ _ e; rw [hb2] at this; cases this
    refine ⟨b2, _, rfl, hb3, ?_, fun c u hu => ?_, by omega⟩
    · rw [hup_same, keys_snoc ew, List.map_append]
    · rw [hup_ne (fun z => by rw [z, hb3] at hu; cases hu)]; exact old c u hu
  have ei : i = ws.length := by rw [rng_len] at hi2; omega
  subst ei
  rw [List.take_length] at eb
  clear hi hi2
  have liveT : Tray h1 t g n := by
    obtain ⟨ne, gs, a, fold, c, ht, hg, r⟩ := T
    exact ⟨ne, gs, a, fold, c, old _ _ ht, old _ _ hg, r⟩
  have liveP : PlainAt cl h1 p d (thingsOf ws) := ⟨old _ _ P.ins, old _ _ P.dct⟩
  have bne : ∀ c, h c = none → (c ≠ t ∧ c ≠ g) ∧ c ≠ p ∧ c ≠ d := fun c hc => ⟨T.new hc, fun z => (by have := P.ins; rw [← z, hc] at this; cases this), fun z => (by have := P.dct; rw [← z, hc] at this; cases this)⟩
  have tne := kinds_tray P T
  walk_at "zgo"
  refine i_newO fun qa hqa => ?_
  have hqh : h qa = none := by
    cases e : h qa with
    | none => rfl
    | some u => have := old _ _ e; rw [hqa] at this; cases this
  have qb : qa ≠ b := fun z => by rw [z, eb] at hqa; cases hqa
  obtain ⟨⟨bt, bg⟩, bp, bd⟩ := bne b hb
  obtain ⟨⟨qt, qg⟩, qp, qd⟩ := bne qa hqh
  have lks : (keysT (thingsOf ws)).length = (ws.map List.length).sum := by unfold keysT thingsOf; rw [List.length_map, worldT_len]
  have lks2 : (keysT (thingsOf ws)).length ≤ 96 := by unfold keysT; rw [List.length_map]; exact lz
  have old2 : ∀ c u, h c = some u → hup h1 qa (.lst []) c = some u := fun c u hu => by rw [hup_ne (fun z => by rw [z, hqh] at hu; cases hu)]; exact old c u hu
  walk_at "zgo"
  refine for_inv (fun i ρ h' => ∃ (rs : List RefD) (cs : List Cl) (m : TM) (x8 x9 x10 x11 x12 x13 x14 : Option Val), ρ = [some (.ref t), some (.ref p), some (roomsV ws), some (.int many), some (.ref b), x5, none, some (.ref qa), x8, x9, x10, x11, x12, x13, x14] ∧ h' b = some (.lst (rs.map RefD.v)) ∧ h' qa = some (.lst (cs.map Cl.v)) ∧ RunC (thingsOf ws) cs m ∧ cs.length = i ∧ (∀ c ∈ cs, c.a.Lay) ∧ Tray h' t g (n + 100 * i) ∧ PlainAt cl h' p d m ∧ Tidy m ∧ m.length ≤ 96 + i ∧ (∀ r ∈ rs, (getT m r).isSome = true) ∧ 0 < rs.length ∧ rs.length ≤ 96 + i ∧ RowsB m i ∧ (∀ c u, c ≠ t → c ≠ g → c ≠ p → c ≠ d → h c = some u → h' c = some u) ∧ i ≤ 40)
    ⟨keysT (thingsOf ws), [], thingsOf ws, _, _, _, _, _, _, _, rfl, (hup_ne qb.symm).trans eb, hup_same, .nil, rfl, (fun c hc => by simp at hc), (liveT.hup qt qg).more (by omega), liveP.keep (hup_ne qp.symm) (hup_ne qd.symm), wo.tidy, by omega, (fun r hr => getT_key.mpr hr), by omega, by omega, rowsb_zero ws, (fun c u _ _ _ _ hu => old2 c u hu), by decide⟩ ?_
  clear liveT liveP old2 old T P
  rintro i ρ h2 ⟨rs, cs, m, x8, x9, x10, x11, x12, x13, x14, rfl, eb2, eq2, run, lcs, lay, T2, P2, ty, ml, rok, rpos, rlen, rows, old, hi⟩
  refine ⟨trivial, fun hi2 => ?_, fun z hz => ?_⟩
  · walk_at "zgo"
    refine gd.frz eq2 ?_
    let hh : Hh := fun c => if c = t ∨ c = g ∨ c = p ∨ c = d then h2 c else h c
    have yes : ∀ c, c = t ∨ c = g ∨ c = p ∨ c = d → hh c = h2 c := fun c hc => if_pos hc
    refine gd.drop (h' := hh) (fun c u hu => ?_) (hp _ _ ⟨cs, m, rfl, run, by omega, lay, (T2.same (yes t (.inl rfl)) (yes g (.inr (.inl rfl)))).more (by omega), P2.keep (yes p (.inr (.inr (.inl rfl)))) (yes d (.inr (.inr (.inr rfl)))), ty, fun c c1 c2 c3 c4 => if_neg (by simp [c1, c2, c3, c4])⟩)
    by_cases c1 : c = t ∨ c = g ∨ c = p ∨ c = d
    · rw [yes c c1] at hu
      rw [hdel_ne (by rcases c1 with rfl | rfl | rfl | rfl; exact qt.symm; exact qg.symm; exact qp.symm; exact qd.symm)]
      exact hu
    · have hu : h c = some u := by rw [← hu]; exact (if_neg c1).symm
      rw [hdel_ne (fun z => by rw [z, hqh] at hu; cases hu)]
      exact old c u (fun z => c1 (.inl z)) (fun z => c1 (.inr (.inl z))) (fun z => c1 (.inr (.inr (.inl z)))) (fun z => c1 (.inr (.inr (.inr z)))) hu
  obtain ⟨hi3, rfl⟩ := rng_get hz
  have hi4 : i < 40 := by omega
  have lrs : (rs.map RefD.v).length = rs.length := List.length_map _
  rw [show (0 : Int) + (i : Int) = (i : Int) by omega]
  walk_at "zgo"
  refine c_law_draw T2 (by omega) (by omega) (by omega) fun dr h3 d0 d1 T3 kp3 => ?_
  obtain ⟨r, er, hr⟩ : ∃ r : RefD, L2.atI (rs.map RefD.v) dr = some r.v ∧ r ∈ rs := by
    have h3 : dr.toNat < rs.length := by omega
    exact ⟨rs[dr.toNat], atI_toNat d0 (by rw [List.getElem?_map, List.getElem?_eq_getElem h3]; rfl), List.getElem_mem h3⟩
  obtain ⟨t0, g0⟩ := Option.isSome_iff_exists.mp (rok r hr)
  have eb3 := (kp3 b bt bg).trans eb2
  have eq3 := (kp3 qa qt qg).trans eq2
  have P3 := P2.keep (kp3 p tne.1.1 tne.1.2) (kp3 d tne.2.1 tne.2.2)
  have hi3' := P3.ins
  refine i_ixR eb3 er ?_
  walk_at "zgo"
  refine c_Plain_end P3 ty g0 ?_
  obtain ⟨ts, gs⟩ := end_there ty g0
  walk_at "zgo"
  refine ifE_ref rfl rfl ?_
  refine c_Plain_thing P3 gs ?_
  walk_at "zgo"
  refine c_law_word T3 (by omega) fun z h4 T4 kp4 => ?_
  have eb4 := (kp4 b bt bg).trans eb3
  have eq4 := (kp4 qa qt qg).trans eq3
  have P4 := P3.keep (kp4 p tne.1.1 tne.1.2) (kp4 d tne.2.1 tne.2.2)
  walk_at "zgo"
  refine c_law_value_v1l T4 (by omega) (by omega) bt bg eb4 fun w h5 hw lw T5 kp5 => ?_
  have eb5 := (kp5 b bt bg).trans eb4
  have eq5 := (kp5 qa qt qg).trans eq4
  have P5 := P4.keep (kp5 p tne.1.1 tne.1.2) (kp5 d tne.2.1 tne.2.2)
  walk_at "zgo"
  refine c_law_draw T5 (by omega) (by decide) (by decide) fun k h6 k0 k1 T6 kp6 => ?_
  have eb6 := (kp6 b bt bg).trans eb5
  have eq6 := (kp6 qa qt qg).trans eq5
  have P6 := P5.keep (kp6 p tne.1.1 tne.1.2) (kp6 d tne.2.1 tne.2.2)
  have hi6 := P6.ins
  obtain ⟨m', a, hc⟩ := callT_some (r := r) (word := z) (w := w) (k := k) ty ⟨t0, g0⟩ (fun a => rowsb_new rows a k)
  have ty2 := callT_tidy ty (by omega) ⟨t0, g0⟩ hc
  walk_at "zgo"
  refine c_Plain_call P6 ty hw g0 hc ?_
  have P7 : PlainAt cl (hup h6 d (.dT (encT m'))) p d m' := ⟨(hup_ne P6.ne).trans P6.ins, hup_same⟩
  have eb7 := (hup_ne bd : hup h6 d (.dT (encT m')) b = h6 b).trans eb6
  have eq7 := (hup_ne qd : hup h6 d (.dT (encT m')) qa = h6 qa).trans eq6
  have T7 : Tray (hup h6 d (.dT (encT m'))) t g (n + 100 * ((i + 1 : Nat) : Int)) := (T6.hup tne.2.1 tne.2.2).more (by push_cast; omega)
  have old7 : ∀ c u, c ≠ t → c ≠ g → c ≠ p → c ≠ d → h c = some u → hup h6 d (.dT (encT m')) c = some u := fun c u c1 c2 c3 c4 hu => by
    rw [hup_ne c4, kp6 c c1 c2, kp5 c c1 c2, kp4 c c1 c2, kp3 c c1 c2]
    exact old c u c1 c2 c3 c4 hu
  generalize hup h6 d (.dT (encT m')) = h7 at P7 eb7 eq7 T7 old7
  have run2 := run.snoc (c := ⟨endT m r, r, z, w, k, (i : Int), a⟩) ⟨⟨t0, g0⟩, rfl, hc, hw⟩
  have lay2' : ∀ c ∈ cs ++ [(⟨endT m r, r, z, w, k, (i : Int), a⟩ : Cl)], c.a.Lay := fun c hc2 => by
    rcases List.mem_append.mp hc2 with h1 | h1
    · exact lay c h1
    · simp at h1
      subst h1
      exact callT_lay lw hc
  have lc2 : (cs.map Cl.v).length = cs.length := List.length_map _
  walk_at "zgo"
  refine i_append eq7 (by omega) ?_
  have eq8 : hup h7 qa (.lst (cs.map Cl.v ++ [.tup [orf (endT m r), r.v, .str z, ov w, .int k, .int (i : Int), a.v]])) qa = some (.lst ((cs ++ [(⟨endT m r, r, z, w, k, (i : Int), a⟩ : Cl)]).map Cl.v)) := by rw [hup_same, List.map_append]; rfl
  have eb8 := (hup_ne qb.symm : hup h7 qa (.lst (cs.map Cl.v ++ [.tup [orf (endT m r), r.v, .str z, ov w, .int k, .int (i : Int), a.v]])) b = h7 b).trans eb7
  have P8 := P7.keep (hup_ne qp.symm : hup h7 qa (.lst (cs.map Cl.v ++ [.tup [orf (endT m r), r.v, .str z, ov w, .int k, .int (i : Int), a.v]])) p = h7 p) (hup_ne qd.symm)
  have T8 := T7.hup (o := .lst (cs.map Cl.v ++ [.tup [orf (endT m r), r.v, .str z, ov w, .int k, .int (i : Int), a.v]])) qt qg
  have old8 : ∀ c u, c ≠ t → c ≠ g → c ≠ p → c ≠ d → h c = some u → hup h7 qa (.lst (cs.map Cl.v ++ [.tup [orf (endT m r), r.v, .str z, ov w, .int k, .int (i : Int), a.v]])) c = some u := fun c u c1 c2 c3 c4 hu => by
    rw [hup_ne (fun z => by rw [z, hqh] at hu; cases hu)]
    exact old7 c u c1 c2 c3 c4 hu
  generalize hup h7 qa (.lst (cs.map Cl.v ++ [.tup [orf (endT m r), r.v, .str z, ov w, .int k, .int (i : Int), a.v]])) = h8 at eq8 eb8 P8 T8 old8
  have rok2 : ∀ r ∈ rs, (getT m' r).isSome = true := fun x hx => (callT_keys hc).1 x (rok x hx)
  have done : ∀ (x8 x9 x10 x11 x12 x13 x14 : Option Val), ∃ (rs : List RefD) (cs : List Cl) (m : TM) (y8 y9 y10 y11 y12 y13 y14 : Option Val), [some (Val.ref t), some (.ref p), some (roomsV ws), some (.int many), some (.ref b), x5, none, some (.ref qa), x8, x9, x10, x11, x12, x13, x14] = [some (.ref t), some (.ref p), some (roomsV ws), some (.int many), some (.ref b), x5, none, some (.ref qa), y8, y9, y10, y11, y12, y13, y14] ∧ h8 b = some (.lst (rs.map RefD.v)) ∧ h8 qa = some (.lst (cs.map Cl.v)) ∧ RunC (thingsOf ws) cs m ∧ cs.length = i + 1 ∧ (∀ c ∈ cs, c.a.Lay) ∧ Tray h8 t g (n + 100 * ((i + 1 : Nat) : Int)) ∧ PlainAt cl h8 p d m ∧ Tidy m ∧ m.length ≤ 96 + (i + 1) ∧ (∀ r ∈ rs, (getT m r).isSome = true) ∧ 0 < rs.length ∧ rs.length ≤ 96 + (i + 1) ∧ RowsB m (i + 1) ∧ (∀ c u, c ≠ t → c ≠ g → c ≠ p → c ≠ d → h c = some u → h8 c = some u) ∧ i + 1 ≤ 40 := fun x8 x9 x10 x11 x12 x13 x14 => ⟨rs, _, m', x8, x9, x10, x11, x12, x13, x14, rfl, eb8, eq8, run2, by rw [List.length_append, lcs]; rfl, lay2', T8, P8, ty2.1, by omega, rok2, rpos, by omega, rowsb_step rows hc, old8, by omega⟩
  cases a with
  | num v =>
    unfold Wo.v
    walk_at "zgo"
    exact done _ _ _ _ _ _ _
  | brk v =>
    unfold Wo.v
    walk_at "zgo"
    exact done _ _ _ _ _ _ _
  | ref s =>
    cases s with
    | thing x y =>
      unfold Wo.v RefD.v
      walk_at "zgo"
      exact done _ _ _ _ _ _ _
    | made x y v =>
      unfold Wo.v RefD.v
      walk_at "zgo"
      have there : (getT m' (.made x y v)).isSome = true := by
        have K := KeptC.run run (KeptC.zero wo)
        cases he : endT m r with
        | none => have := (call_none he hc).2; cases this
        | some e =>
          obtain ⟨t1, t1', ob, ht, hd, hn', hl⟩ := callT_inv he hc
          rcases doneF_ref (t := t1) (z := z) (w := w) (b := .made e.house k (i : Int)) (q := .made x y v) (by rw [hd]) with h3 | ⟨h4, n', h3⟩
          · obtain ⟨_, _, h5⟩ := K.refs e t1 ht _ h3
            cases h5
          · rw [hl, h4]
            rw [hd] at h3
            have h3 : ob = some _ := h3
            unfold laid
            rw [if_pos ⟨by rw [h3]; rfl, rfl⟩, h3]
            rfl
      refine i_ninRefs (r := .made x y v) (.ref eb8 (dvs_map RefD.dv rs)) ?_
      refine ⟨_, rfl, ?_⟩
      refine i_ifn (fun nin => ?_) (fun _ => ?_)
      · walk_at "zgo"
        refine i_append eb8 (by omega) ?_
        exact ⟨rs ++ [.made x y v], _, m', _, _, _, _, _, _, _, rfl, by rw [hup_same, List.map_append]; rfl, (hup_ne qb).trans eq8, run2, by rw [List.length_append, lcs]; rfl, lay2', T8.hup bt bg, P8.keep (hup_ne bp.symm) (hup_ne bd.symm), ty2.1, by omega, fun q hq => by
          rcases List.mem_append.mp hq with h1 | h1
          · exact rok2 q h1
          · simp at h1; subst h1; exact there, by rw [List.length_append]; omega, by rw [List.length_append]; simp; omega, rowsb_step rows hc, fun c u c1 c2 c3 c4 hu => by
          rw [hup_ne (fun z => by rw [z, hb] at hu; cases hu)]
          exact old8 c u c1 c2 c3 c4 hu, by omega⟩
      · walk_at "zgo"
        exact done _ _ _ _ _ _ _
/-! LK10 -/


def r_law_k10 (cl : Str → Addr) (K : Fr) : WS :=
  wSeq (wAsg (wCall fs_law_tray [] (wCons (wVar 0) (wNil))) (wgName 1))
  (wSeq (wAsg (wCall fs_law_world_v1 [] (wCons (wVar 1) (wNil))) (wgName 2))
  (wSeq (wIf (wTv (wOp wLt (wCB cLen (wCons (wOp wIx (wVar 2) (wC (.int 0))) (wNil))) (wC (.int 12)))) (wExpr (wBM "list" mAppend (wOp wIx (wVar 2) (wC (.int 0))) (wCons (wTup (wCons (wC (.str "maker")) (wNil))) (wNil)))) (wNext))
  (wGhost K (wSeq (wAsg (wMake (cl "Plain") (fs_Plain___init__ cl) [] (wCons (wMake (cl "World") (fs_World___init__ cl) [] (wCons (wLc (wiL (wVar 2)) (tg1 3) wYes (wCB cList (wCons (wVar 3) (wNil))) [3]) (wNil))) (wNil))) (wgName 4))
  (wSeq (wAsg (wCall (fs_law_calls cl) [] (wCons (wVar 1) (wCons (wVar 4) (wCons (wVar 2) (wCons (wOp wAdd (wC (.int 6)) (wCB cLen (wCons (wSl wSlL (wVar 0) (wNoPart) (wPart (wC (.int 30)))) (wNil)))) (wNil)))))) (wgName 5))
  (wSeq (wAsg (wLst (wNil)) (wgName 6))
  (wSeq (wFor (wiL (wVar 5)) (wgName 7)
  (wIf (wAnd (wTv (wNotN (wOp wIx (wVar 7) (wC (.int 0))))) (wTv (wOp wNotInD (wOp wIx (wVar 7) (wC (.int 0))) (wVar 6)))) (wExpr (wBM "list" mAppend (wVar 6) (wCons (wOp wIx (wVar 7) (wC (.int 0))) (wNil)))) (wNext)))
  (wSeq (wFor (wiL (wVar 6)) (wgName 8)
  (wSeq (wAsg (wCall (fs_law_done_again cl) [] (wCons (wVar 2) (wCons (wCall fs_law_needed [] (wCons (wVar 5) (wCons (wVar 8) (wNil)))) (wNil)))) (wgName 9))
  (wSeq (wIf (wOr (wTv (wIsN (wVar 9))) (wNot (wTv (wCall (fs_law_alike 5) [] (wCons (wMeth (cl "Plain") "thing" (fs_Plain_thing cl) [] (wVar 9) (wCons (wVar 8) (wNil))) (wCons (wMeth (cl "Plain") "thing" (fs_Plain_thing cl) [] (wVar 4) (wCons (wVar 8) (wNil))) (wNil))))))) (wRet (wC (.bl false))) (wNext))
  (wSeq (wAsg (wLc (wiL (wVar 5)) (tg1 7) (wTv (wOp wNeD (wOp wIx (wVar 7) (wC (.int 0))) (wVar 8))) (wVar 7) [7]) (wgName 10))
  (wIf (wAnd (wTv (wOp wNeS (wOp wIx (wMeth (cl "Plain") "thing" (fs_Plain_thing cl) [] (wVar 4) (wCons (wVar 8) (wNil))) (wC (.int 0))) (wC (.str "maker")))) (wTv (wIsN (wCall (fs_law_done_again cl) [] (wCons (wVar 2) (wCons (wVar 10) (wNil))))))) (wRet (wC (.bl false))) (wNext))))))
  (wRet (wC (.bl true)))))))))))

theorem ne_orfR {o : Option RefD} {r : RefD} {h : Hh} {Q : KQ} (q : Q (.bl (!decide (o = some r))) h) : wNeD (orf o) r.v h Q := by
  cases o with
  | none =>
    refine ⟨.none, r.d, .non, r.dv, by decide +kernel, r.lay.shaped (by decide), ?_⟩
    rw [show PyData.eqv .none r.d = decide ((none : Option RefD) = some r) by cases r <;> simp [RefD.d, PyData.eqv]]
    exact q
  | some s =>
    refine ⟨s.d, r.d, s.dv, r.dv, s.lay.shaped (by decide), r.lay.shaped (by decide), ?_⟩
    rw [show PyData.eqv s.d r.d = decide (some s = some r) by
      rw [Bool.eq_iff_iff, eqv_pl _ _ s.pl r.pl, decide_eq_true_iff]
      exact ⟨fun h => by rw [RefD.d_inj h], fun h => by rw [Option.some.inj h]⟩]
    exact q
theorem RunC.ends {m0 : TM} : ∀ {cs m mE}, RunC m cs mE → KeptC m0 m → ∀ c ∈ cs, ∀ e, c.e = some e → ∃ t, getT mE e = some t := by
  intro cs m mE h
  have mono : ∀ {cs m mE}, RunC m cs mE → KeptC m0 m → ∀ x, (getT m x).isSome = true → (getT mE x).isSome = true := by
    intro cs m mE h
    induction h with
    | nil => exact fun _ _ h => h
    | cons s _ ih => exact fun K x hx => ih (K.step s) x ((callT_keys s.call).1 x hx)
  induction h with
  | nil => intro _ c hc; simp at hc
  | cons s r ih =>
    intro K c hc e he
    rcases List.mem_cons.mp hc with rfl | hc
    · obtain ⟨t, ht, _⟩ := endT_some K.cls s.get (s.end_.trans he)
      exact Option.isSome_iff_exists.mp (mono r (K.step s) e ((callT_keys s.call).1 e (by rw [ht]; rfl)))
    · exact ih (K.step s) c hc e he
theorem rd_law_k10 {K : Fr} {cl : Str → Addr} {vs h Q} (q : preL vs h) (hp : ∀ h', Q (.bl true) h') :
    r_law_k10 cl K (fun _ h' => Q .non h') Q (fun _ _ => False) (fun _ _ => False) (fun _ _ _ _ => False) (startV ["script", "tray", "houses", "things", "plain", "calls", "finals", "one", "end", "again", "rest"] vs) h := by
  obtain ⟨ns, rfl, hl, rfl⟩ := q
  show r_law_k10 _ _ _ _ _ _ _ [some (.scr (ns.map Val.int)), none, none, none, none, none, none, none, none, none, none] _
  unfold r_law_k10
  generalize hR : wGhost K _ = REST
  walk_at "zgo"
  refine c_law_tray hl fun t g h0 _ _ T0 kp0 => ?_
  walk_at "zgo"
  refine c_law_world_o T0 (by omega) fun ws a bs h1 ok T1 N1 kn1 => ?_
  have rest : ∀ (ws : Rooms) (h2 : Hh), WorldOk ws → 0 < (ws.map List.length).sum → Tray h2 t g 2500 → Nest h2 a bs (thsV ws) → t ∉ a :: bs → g ∉ a :: bs →
      REST (fun _ h' => Q .non h') Q (fun _ _ => False) (fun _ _ => False) (fun _ _ _ _ => False) [some (.scr (ns.map Val.int)), some (.ref t), some (.ref a), none, none, none, none, none, none, none, none] h2 := by
    clear T1 N1 kn1 ok ws
    intro ws h2 ok hpos T1 N1 ta ga
    rw [← hR]
    refine ⟨_, _, shf_nest (i := 2) N1 rfl, ?_⟩
    have ev : (thsV ws).map Val.lst = ws.map houseV := by rw [List.map_map]; rfl
    rw [ev]
    dsimp only [List.set]
    have T2 : Tray (hdels h2 (a :: bs)) t g 2500 := T1.same (hdels_out ta) (hdels_out ga)
    generalize hH : hdels h2 (a :: bs) = h3 at T2
    clear N1 hH hR T1 T0 ta ga
    have sml := ok.small
    have hml := ok.most
    walk_at "zgo"
    refine lc_houses sml (by simp) ?_
    walk_at "zgo"
    refine c_World_mk (HsAt.frozen ws) sml ok.good ?_
    walk_at "zgo"
    refine c_Plain_mk ok fun p d h4 hp0 hd0 P0 k0 => ?_
    have T4 : Tray h4 t g 2500 := T2.same (k0 _ (T2.new hp0).1.symm (T2.new hd0).1.symm) (k0 _ (T2.new hp0).2.symm (T2.new hd0).2.symm)
    walk_at "zgo"
    refine ⟨_, .scr _, i_newF ?_⟩
    have hcut : (cut (List.map Val.int ns) none (some 30)).length ≤ 30 := by
      unfold cut
      rw [List.length_take]
      have : HT.sIx (List.map Val.int ns).length (List.map Val.int ns).length (some 30) ≤ 30 := by
        simp [HT.sIx]; omega
      omega
    revert hcut
    generalize cut (List.map Val.int ns) none (some 30) = sc
    intro hcut
    walk_at "zgo"
    refine c_law_calls T4 (by omega) P0 ok hpos (by omega) (by omega) fun cs m h5 run lcs lay T5 P5 ty old5 => ?_
    walk_at "zgo"
    have lcv : (cs.map Cl.v).length = cs.length := List.length_map _
    have K := KeptC.run run (KeptC.zero ok)
    refine i_newO fun f hf => ?_
    have pf : p ≠ f ∧ d ≠ f := ⟨fun z => (by have := P5.ins; rw [z, hf] at this; cases this), fun z => (by have := P5.dct; rw [z, hf] at this; cases this)⟩
    walk_at "zgo"
    refine for_inv (fun i ρ h' => ∃ (fs : List RefD) (x7 : Option Val), ρ = [some (.scr (ns.map Val.int)), some (.ref t), some (roomsV ws), none, some (.ref p), some (.lst (cs.map Cl.v)), some (.ref f), x7, none, none, none] ∧ h' = hup h5 f (.lst (fs.map RefD.v)) ∧ (∀ e ∈ fs, ∃ c ∈ cs, c.e = some e) ∧ fs.length ≤ i ∧ i ≤ cs.length) ⟨[], _, rfl, rfl, (fun e he => by simp at he), Nat.le_refl _, Nat.zero_le _⟩ ?_
    rintro i ρ h6 ⟨fs, x7, rfl, rfl, hfs, lfs, hi⟩
    refine ⟨trivial, fun hi2 => ?_, fun z hz => ?_⟩
    rotate_left
    · obtain ⟨c, ec, rfl⟩ := map_get hz
      have hil := (List.getElem?_eq_some_iff.mp ec).1
      have hc := List.mem_of_getElem? ec
      unfold Cl.v
      walk_at "zgo"
      cases he : c.e with
      | none =>
        walk_at "zgo"
        exact ⟨fs, _, rfl, rfl, hfs, by omega, by omega⟩
      | some e =>
        have hn : isNon (orf (some e)) = false := by cases e <;> rfl
        rw [hn]
        walk_at "zgo"
        refine i_ninRefs (r := e) (.ref hup_same (dvs_map RefD.dv fs)) ?_
        refine ⟨_, rfl, ?_⟩
        refine i_ifn (fun nin => ?_) (fun _ => ?_)
        · walk_at "zgo"
          refine i_append hup_same (by rw [List.length_map]; omega) ?_
          refine ⟨fs ++ [e], _, rfl, by rw [hup_hup, List.map_append]; rfl, fun x hx => ?_, by rw [List.length_append]; simp; omega, by omega⟩
          rcases List.mem_append.mp hx with h1 | h1
          · exact hfs x h1
          · simp at h1; subst h1; exact ⟨c, hc, he⟩
        · walk_at "zgo"
          exact ⟨fs, _, rfl, rfl, hfs, by omega, by omega⟩
    have ef : hup h5 f (.lst (fs.map RefD.v)) f = some (.lst (fs.map RefD.v)) := hup_same
    have P6 : PlainAt cl (hup h5 f (.lst (fs.map RefD.v))) p d m := P5.keep (hup_ne pf.1) (hup_ne pf.2)
    generalize hup h5 f (.lst (fs.map RefD.v)) = h6 at ef P6
    walk_at "zgo"
    refine for_inv (fun j ρ h' => ∃ x7 x8 x9 x10 : Option Val, ρ = [some (.scr (ns.map Val.int)), some (.ref t), some (roomsV ws), none, some (.ref p), some (.lst (cs.map Cl.v)), some (.ref f), x7, x8, x9, x10] ∧ h' f = some (.lst (fs.map RefD.v)) ∧ PlainAt cl h' p d m) ⟨_, _, _, _, rfl, ef, P6⟩ ?_
    rintro j ρ h7 ⟨y7, y8, y9, y10, rfl, ef7, P7⟩
    refine ⟨ef7, fun hj2 => ?_, fun z hz => ?_⟩
    · walk_at "zgo"
      exact hp _
    obtain ⟨e, ee, rfl⟩ := map_get hz
    obtain ⟨c0, hc0, he0⟩ := hfs e (List.mem_of_getElem? ee)
    obtain ⟨th, hth⟩ := run.ends (KeptC.zero ok) c0 hc0 e he0
    have lth := ty.refs _ (ref_of_get hth)
    obtain ⟨m2, r2, g2⟩ := needed_run ok e run
    have lf1 := List.length_filter_le (needB e) cs
    walk_at "zgo"
    refine c_law_needed (by omega) lay ?_
    walk_at "zgo"
    refine c_law_done_again ok r2 (by omega) fun p2 d2 h8 hp2 hd2 P8 old8 => ?_
    have live7 : ∀ c, h7 c = none → p ≠ c ∧ d ≠ c ∧ f ≠ c := fun c hc => ⟨fun z => (by have := P7.ins; rw [z, hc] at this; cases this), fun z => (by have := P7.dct; rw [z, hc] at this; cases this), fun z => (by rw [z, hc] at ef7; cases ef7)⟩
    have P9 : PlainAt cl h8 p d m := P7.keep (old8 _ (live7 _ hp2).1 (live7 _ hd2).1) (old8 _ (live7 _ hp2).2.1 (live7 _ hd2).2.1)
    have ef8 := (old8 _ (live7 _ hp2).2.2 (live7 _ hd2).2.2).trans ef7
    have hi8 := P8.ins
    have hi9 := P9.ins
    walk_at "zgo"
    refine c_Plain_thing P8 (g2.trans hth) ?_
    walk_at "zgo"
    refine c_Plain_thing P9 hth ?_
    walk_at "zgo"
    refine c_law_alike ((Thing.pure lth).up) ?_
    walk_at "zgo"
    refine lc_inv (fun i acc h' => h' = h8 ∧ acc = ((cs.take i).filter fun c => !decide (c.e = some e)).map Cl.v ∧ i ≤ cs.length) ⟨rfl, by simp, Nat.zero_le _⟩ ?_
    rintro i acc h9 ⟨rfl, rfl, hi⟩
    refine ⟨trivial, fun hi2 => ?_, fun z hz => ?_⟩
    rotate_left
    · obtain ⟨c, ec, rfl⟩ := map_get hz
      have hil := (List.getElem?_eq_some_iff.mp ec).1
      have lff : ((cs.take i).filter fun c => !decide (c.e = some e)).length ≤ 100 := Nat.le_trans (List.length_filter_le _ _) (by rw [List.length_take]; omega)
      unfold Cl.v
      walk_at "zgo"
      refine ne_orfR ?_
      refine ⟨_, rfl, ?_⟩
      refine i_ifn (fun h1 => ?_) (fun h1 => ?_)
      · walk_at "zgo"
        exact ⟨by rw [List.length_map]; omega, rfl, by rw [take_snoc ec, List.filter_append, List.map_append]; simp [h1], by omega⟩
      · exact ⟨rfl, by rw [take_snoc ec, List.filter_append, List.map_append]; simp [h1], by omega⟩
    have ei : i = cs.length := by omega
    subst ei
    rw [List.take_length]
    refine i_newF ?_
    have lf2 := List.length_filter_le (fun c : Cl => !decide (c.e = some e)) cs
    walk_at "zgo"
    refine c_Plain_thing P9 hth ?_
    have again : th ≠ .maker → ∃ m3, RunC (thingsOf ws) (cs.filter fun c => !decide (c.e = some e)) m3 := fun hne => rest_run ok e run (fun z => hne (by rw [hth] at z; cases z; rfl))
    cases th with
    | maker =>
      unfold Thing.v
      walk_at "zgo"
      exact ⟨_, _, _, _, rfl, ef8, P9⟩
    | box x =>
      obtain ⟨m3, r3⟩ := again (by intro z; cases z)
      unfold Thing.v
      walk_at "zgo"
      refine c_law_done_again ok r3 (by omega) fun p3 d3 h10 hp3 hd3 P10 old10 => ?_
      have live9 : ∀ c, h9 c = none → p ≠ c ∧ d ≠ c ∧ f ≠ c := fun c hc => ⟨fun z => (by have := P9.ins; rw [z, hc] at this; cases this), fun z => (by have := P9.dct; rw [z, hc] at this; cases this), fun z => (by rw [z, hc] at ef8; cases ef8)⟩
      walk_at "zgo"
      exact ⟨_, _, _, _, rfl, (old10 _ (live9 _ hp3).2.2 (live9 _ hd3).2.2).trans ef8, P9.keep (old10 _ (live9 _ hp3).1 (live9 _ hd3).1) (old10 _ (live9 _ hp3).2.1 (live9 _ hd3).2.1)⟩
    | shelf x =>
      obtain ⟨m3, r3⟩ := again (by intro z; cases z)
      unfold Thing.v
      walk_at "zgo"
      refine c_law_done_again ok r3 (by omega) fun p3 d3 h10 hp3 hd3 P10 old10 => ?_
      have live9 : ∀ c, h9 c = none → p ≠ c ∧ d ≠ c ∧ f ≠ c := fun c hc => ⟨fun z => (by have := P9.ins; rw [z, hc] at this; cases this), fun z => (by have := P9.dct; rw [z, hc] at this; cases this), fun z => (by rw [z, hc] at ef8; cases ef8)⟩
      walk_at "zgo"
      exact ⟨_, _, _, _, rfl, (old10 _ (live9 _ hp3).2.2 (live9 _ hd3).2.2).trans ef8, P9.keep (old10 _ (live9 _ hp3).1 (live9 _ hd3).1) (old10 _ (live9 _ hp3).2.1 (live9 _ hd3).2.1)⟩
    | stone =>
      obtain ⟨m3, r3⟩ := again (by intro z; cases z)
      unfold Thing.v
      walk_at "zgo"
      refine c_law_done_again ok r3 (by omega) fun p3 d3 h10 hp3 hd3 P10 old10 => ?_
      have live9 : ∀ c, h9 c = none → p ≠ c ∧ d ≠ c ∧ f ≠ c := fun c hc => ⟨fun z => (by have := P9.ins; rw [z, hc] at this; cases this), fun z => (by have := P9.dct; rw [z, hc] at this; cases this), fun z => (by rw [z, hc] at ef8; cases ef8)⟩
      walk_at "zgo"
      exact ⟨_, _, _, _, rfl, (old10 _ (live9 _ hp3).2.2 (live9 _ hd3).2.2).trans ef8, P9.keep (old10 _ (live9 _ hp3).1 (live9 _ hd3).1) (old10 _ (live9 _ hp3).2.1 (live9 _ hd3).2.1)⟩
    | relay x =>
      obtain ⟨m3, r3⟩ := again (by intro z; cases z)
      unfold Thing.v
      walk_at "zgo"
      refine c_law_done_again ok r3 (by omega) fun p3 d3 h10 hp3 hd3 P10 old10 => ?_
      have live9 : ∀ c, h9 c = none → p ≠ c ∧ d ≠ c ∧ f ≠ c := fun c hc => ⟨fun z => (by have := P9.ins; rw [z, hc] at this; cases this), fun z => (by have := P9.dct; rw [z, hc] at this; cases this), fun z => (by rw [z, hc] at ef8; cases ef8)⟩
      walk_at "zgo"
      exact ⟨_, _, _, _, rfl, (old10 _ (live9 _ hp3).2.2 (live9 _ hd3).2.2).trans ef8, P9.keep (old10 _ (live9 _ hp3).1 (live9 _ hd3).1) (old10 _ (live9 _ hp3).2.1 (live9 _ hd3).2.1)⟩
  have ta : t ∉ a :: bs := fun z => (T0.new (kn1.new t z)).1 rfl
  have ga : g ∉ a :: bs := fun z => (T0.new (kn1.new g z)).2 rfl
  have top1 := N1.top
  have hml := ok.most
  have hp0 := ok.pos
  have hwj := List.getElem?_eq_getElem (show 0 < ws.length by omega)
  generalize ws[0] = hs at hwj
  have hhs := ok.house hs (List.mem_of_getElem? hwj)
  obtain ⟨b, hb, hbl, hba⟩ := N1.at (i := 0) (xs := thV hs) (by rw [List.getElem?_map, hwj]; rfl)
  have at_ : L2.atI (bs.map Val.ref) 0 = some (.ref b) := L2.atI_nat (j := 0) (by rw [List.getElem?_map, hb]; rfl)
  walk_at "zgo"
  refine i_ixR top1 at_ ?_
  walk_at "zgo"
  have lth : (thV hs).length = hs.length := List.length_map _
  rw [lth]
  refine i_ifd (fun c0 => ?_) (fun c0 => ?_)
  · walk_at "zgo"
    refine i_ixR top1 at_ ?_
    walk_at "zgo"
    refine i_append hbl (by omega) ?_
    walk_at "zgo"
    obtain ⟨ok2, pos2⟩ := ok.maker hwj (by omega)
    have bt : b ≠ t ∧ b ≠ g := ⟨fun z => ta (by rw [← z]; exact List.mem_cons_of_mem _ (List.mem_of_getElem? hb)), fun z => ga (by rw [← z]; exact List.mem_cons_of_mem _ (List.mem_of_getElem? hb))⟩
    refine rest _ _ ok2 pos2 (T1.hup bt.1 bt.2) ?_ ta ga
    have := N1.inner hb (thV hs ++ [Thing.v .maker])
    rw [show (thsV ws).set 0 (thV hs ++ [Thing.v .maker]) = thsV (ws.set 0 (hs ++ [.maker])) from by unfold thsV; rw [List.map_set]; unfold thV; rw [List.map_append]; rfl] at this
    exact this
  · walk_at "zgo"
    exact rest _ _ ok (sum_pos (k := hs.length) (List.mem_map.mpr ⟨hs, List.mem_of_getElem? hwj, rfl⟩) (by omega)) T1 N1 ta ga
/-!  -/
end Z
/-! HEAD -/
namespace Z
open PySem PySem.Spec L2
variable [Wrl]
namespace K10
structure Tx (w : World) (K : Fr) (mg : Str → Option Value) : Prop where
  c_Plain : Cls K (cl K "Plain")
  c_World : Cls K (cl K "World")
  g_bool : mg "bool" = none
  g_enumerate : mg "enumerate" = none
  g_int : mg "int" = none
  g_isinstance : mg "isinstance" = none
  g_len : mg "len" = none
  g_list : mg "list" = none
  g_max : mg "max" = none
  g_range : mg "range" = none
  g_str : mg "str" = none
  g_sum : mg "sum" = none
  g_tuple : mg "tuple" = none
  h_w : w = Wrl.w
  i_MOST_HOUSES : ∃ t, mg "MOST_HOUSES" = some (.int 8 t)
  i_MOST_REFS : ∃ t, mg "MOST_REFS" = some (.int 12 t)
  i_MOST_THINGS : ∃ t, mg "MOST_THINGS" = some (.int 12 t)
  n_Plain_things_kept : NoAttr K (cl K "Plain") "things_kept"
  n_World_houses_kept : NoAttr K (cl K "World") "houses_kept"
  tab_VERBS : TabOk K w mg "VERBS" [("box", ["get", "put", "add"]), ("shelf", ["take"]), ("maker", ["make"])]
section
variable {P : Program} {w : World} {K : Fr} {mg : Str → Option Value} {base : Heap} {f : Addr} {fd : FuncData}
theorem ok_World___len__ (T : Tx w K mg) (F : FunD K "__len__" "World.__len__" (defArgs s_World___len__) (defBody s_World___len__) (defScope s_World___len__) [] [] f fd) : FnOk P w K mg base (L2.CX P w) 3 f fd ["self"] (lSp K (fs_World___len__ (cl K))) := by
  refine zdef F sc_World___len__ (fun p vs h q => by first | exact congrArg List.length q | exact congrArg List.length q.1 | (obtain ⟨_, _⟩ := p; first | exact congrArg List.length q | exact congrArg List.length q.1) | (obtain ⟨_, _, _⟩ := p; first | exact congrArg List.length q | exact congrArg List.length q.1) | (obtain ⟨_, _, _, _⟩ := p; first | exact congrArg List.length q | exact congrArg List.length q.1) | (obtain ⟨_, _, _, _, _⟩ := p; first | exact congrArg List.length q | exact congrArg List.length q.1)) fun cdv A outer s H E hr => ⟨r_World___len__ (cl K), ?_, fun p vs h Q X g q hp hx => rd_World___len__ g q hp⟩
  exact zb_one (zs_ret (zcallB call_len s_len rfl T.g_len PySem.boot_len (za_cons (zfld T.c_World T.n_World_houses_kept (zv 0)) (za_nil))))
theorem ok_World_house (T : Tx w K mg) (F : FunD K "house" "World.house" (defArgs s_World_house) (defBody s_World_house) (defScope s_World_house) [] [] f fd)
    (E_NoHouse : Ex P w K mg base "NoHouse" (cl K "NoHouse")) : FnOk P w K mg base (L2.CX P w) 3 f fd ["self", "number"] (lSp K (fs_World_house (cl K))) := by
  refine zdef F sc_World_house (fun p vs h q => by first | exact congrArg List.length q | exact congrArg List.length q.1 | (obtain ⟨_, _⟩ := p; first | exact congrArg List.length q | exact congrArg List.length q.1) | (obtain ⟨_, _, _⟩ := p; first | exact congrArg List.length q | exact congrArg List.length q.1) | (obtain ⟨_, _, _, _⟩ := p; first | exact congrArg List.length q | exact congrArg List.length q.1) | (obtain ⟨_, _, _, _, _⟩ := p; first | exact congrArg List.length q | exact congrArg List.length q.1)) fun cdv A outer s H E hr => ⟨r_World_house (cl K), ?_, fun p vs h Q X g q hp hx => rd_World_house g q hp hx⟩
  exact zb_cons (zs_if (ztw (zwor (ztc op_lt (s_lt) (zv 1) (zint) (nomark _)) (zw1 (ztc op_ge (s_ge) (zv 1) (zcallB call_len s_len rfl T.g_len PySem.boot_len (za_cons (zfld T.c_World T.n_World_houses_kept (zv 0)) (za_nil))) (nomark _))))) (zb_one (zs_raise tkd rfl E_NoHouse (hr.mono (by decide)) rfl (zv 1))) (zb_nil))
      (zb_one (zs_ret (zcallTy call_list_of s_list rfl T.g_list (by decide +kernel) (za_cons (zix ix_seq s_ix (zfld T.c_World T.n_World_houses_kept (zv 0)) (zv 1) (fun _ _ => rfl)) (za_nil)))))
theorem ok_Plain___init__ (T : Tx w K mg) (F : FunD K "__init__" "Plain.__init__" (defArgs s_Plain___init__) (defBody s_Plain___init__) (defScope s_Plain___init__) [] [] f fd)
    (G_World___len__ : Mt P w K mg base (cl K "World") "__len__" 3 ["self"] [] (fs_World___len__ (cl K)))
    (G_World_house : Mt P w K mg base (cl K "World") "house" 3 ["self", "number"] [] (fs_World_house (cl K))) : FnOk P w K mg base (L2.CX P w) 5 f fd ["self", "world"] (lSp K (fs_Plain___init__ (cl K))) := by
  refine zdef F sc_Plain___init__ (fun p vs h q => by first | exact congrArg List.length q | exact congrArg List.length q.1 | (obtain ⟨_, _⟩ := p; first | exact congrArg List.length q | exact congrArg List.length q.1) | (obtain ⟨_, _, _⟩ := p; first | exact congrArg List.length q | exact congrArg List.length q.1) | (obtain ⟨_, _, _, _⟩ := p; first | exact congrArg List.length q | exact congrArg List.length q.1) | (obtain ⟨_, _, _, _, _⟩ := p; first | exact congrArg List.length q | exact congrArg List.length q.1)) fun cdv A outer s H E hr => ⟨r_Plain___init__ (cl K), ?_, fun p vs h Q X g q hp hx => rd_Plain___init__ g q hp⟩
  exact zb_cons (zs_fld T.c_Plain T.n_Plain_things_kept (zv 0) (zdnewT))
      (zb_one (zs_for psd rfl (zi_r1 rfl T.g_range (zlenO G_World___len__ (hr.mono (by decide)) rfl T.g_len (za_cons (zv 1) (za_nil)))) (zg_name (i := 2) sc_Plain___init__.nd rfl (Or.inl rfl))
      (zb_one (zs_for psd rfl (zi_enum rfl T.g_enumerate (zmeth tkd T.c_World G_World_house (hr.mono (by decide)) (zv 1) (za_cons (zv 2) (za_nil)))) (zg_tup rfl (zgs_cons (zg_name (i := 3) sc_Plain___init__.nd rfl (Or.inl rfl)) (zgs_cons (zg_name (i := 4) sc_Plain___init__.nd rfl (Or.inl rfl)) (zgs_nil))))
      (zb_one (zs_dput (hu10 hr) T.h_w (zfld T.c_Plain T.n_Plain_things_kept (zv 0)) (ztup (za_cons (zstr) (za_cons (zv 2) (za_cons (zv 3) (za_nil))))) (zv 4)))))))
theorem ok_Plain_thing (T : Tx w K mg) (F : FunD K "thing" "Plain.thing" (defArgs s_Plain_thing) (defBody s_Plain_thing) (defScope s_Plain_thing) [] [] f fd)
    (E_NoThing : Ex P w K mg base "NoThing" (cl K "NoThing")) : FnOk P w K mg base (L2.CX P w) 3 f fd ["self", "ref"] (lSp K (fs_Plain_thing (cl K))) := by
  refine zdef F sc_Plain_thing (fun p vs h q => by first | exact congrArg List.length q | exact congrArg List.length q.1 | (obtain ⟨_, _⟩ := p; first | exact congrArg List.length q | exact congrArg List.length q.1) | (obtain ⟨_, _, _⟩ := p; first | exact congrArg List.length q | exact congrArg List.length q.1) | (obtain ⟨_, _, _, _⟩ := p; first | exact congrArg List.length q | exact congrArg List.length q.1) | (obtain ⟨_, _, _, _, _⟩ := p; first | exact congrArg List.length q | exact congrArg List.length q.1)) fun cdv A outer s H E hr => ⟨r_Plain_thing (cl K), ?_, fun p vs h Q X g q hp hx => rd_Plain_thing g q hp hx⟩
  exact zb_cons (zs_if (ztdnotin (hu10 hr) T.h_w (zv 1) (zfld T.c_Plain T.n_Plain_things_kept (zv 0))) (zb_one (zs_raise tkd rfl E_NoThing (hr.mono (by decide)) rfl (zv 1))) (zb_nil))
      (zb_one (zs_ret (zdget (hu10 hr) T.h_w (zfld T.c_Plain T.n_Plain_things_kept (zv 0)) (zv 1) (fun _ _ => rfl))))
theorem ok_is_there (T : Tx w K mg) (F : FunD K "is_there" "is_there" (defArgs s_is_there) (defBody s_is_there) (defScope s_is_there) [] [] f fd) : FnOk P w K mg base (L2.CX P w) 3 f fd ["houses", "ref"] (lSp K (fs_is_there)) := by
  refine zdef F sc_is_there (fun p vs h q => by first | exact congrArg List.length q | exact congrArg List.length q.1 | (obtain ⟨_, _⟩ := p; first | exact congrArg List.length q | exact congrArg List.length q.1) | (obtain ⟨_, _, _⟩ := p; first | exact congrArg List.length q | exact congrArg List.length q.1) | (obtain ⟨_, _, _, _⟩ := p; first | exact congrArg List.length q | exact congrArg List.length q.1) | (obtain ⟨_, _, _, _, _⟩ := p; first | exact congrArg List.length q | exact congrArg List.length q.1)) fun cdv A outer s H E hr => ⟨r_is_there, ?_, fun p vs h Q X g q hp hx => rd_is_there g q hp⟩
  exact zb_cons (zs_if (ztw (zwor (ztc op_ne (s_neS) (zix ix_seq s_ix (zv 1) (zint) (fun _ _ => rfl)) (zstr) (nomark _)) (zwor (ztc op_lt (s_lt) (zix ix_seq s_ix (zv 1) (zint) (fun _ _ => rfl)) (zint) (nomark _)) (zw1 (ztc op_ge (s_ge) (zix ix_seq s_ix (zv 1) (zint) (fun _ _ => rfl)) (zcallB call_len s_len rfl T.g_len PySem.boot_len (za_cons (zv 0) (za_nil))) (nomark _)))))) (zb_one (zs_ret (zbl))) (zb_nil))
      (zb_one (zs_ret (zchain op_le op_lt (s_le) (s_lt) (zint) (zix ix_seq s_ix (zv 1) (zint) (fun _ _ => rfl)) (zcallB call_len s_len rfl T.g_len PySem.boot_len (za_cons (zix ix_seq s_ix (zv 0) (zix ix_seq s_ix (zv 1) (zint) (fun _ _ => rfl)) (fun _ _ => rfl)) (za_nil))))))
theorem ok_refs_of (T : Tx w K mg) (F : FunD K "refs_of" "refs_of" (defArgs s_refs_of) (defBody s_refs_of) (defScope s_refs_of) [] [] f fd) : FnOk P w K mg base (L2.CX P w) 3 f fd ["thing"] (lSp K (fs_refs_of)) := by
  refine zdef F sc_refs_of (fun p vs h q => by first | exact congrArg List.length q | exact congrArg List.length q.1 | (obtain ⟨_, _⟩ := p; first | exact congrArg List.length q | exact congrArg List.length q.1) | (obtain ⟨_, _, _⟩ := p; first | exact congrArg List.length q | exact congrArg List.length q.1) | (obtain ⟨_, _, _, _⟩ := p; first | exact congrArg List.length q | exact congrArg List.length q.1) | (obtain ⟨_, _, _, _, _⟩ := p; first | exact congrArg List.length q | exact congrArg List.length q.1)) fun cdv A outer s H E hr => ⟨r_refs_of, ?_, fun p vs h Q X g q hp hx => rd_refs_of g q hp⟩
  exact zb_cons (zs_if (ztc op_eq (s_eqS) (zix ix_seq s_ix (zv 0) (zint) (fun _ _ => rfl)) (zstr) (nomark _)) (zb_one (zs_ret (zcallTy call_list_of s_list rfl T.g_list (by decide +kernel) (za_cons (zix ix_seq s_ix (zv 0) (zint) (fun _ _ => rfl)) (za_nil))))) (zb_nil))
      (zb_cons (zs_if (ztc op_eq (s_eqS) (zix ix_seq s_ix (zv 0) (zint) (fun _ _ => rfl)) (zstr) (nomark _)) (zb_one (zs_ret (zlst (za_cons (zix ix_seq s_ix (zv 0) (zint) (fun _ _ => rfl)) (za_nil))))) (zb_nil))
      (zb_one (zs_ret (zlst (za_nil)))))
theorem ok_is_good (T : Tx w K mg) (F : FunD K "is_good" "is_good" (defArgs s_is_good) (defBody s_is_good) (defScope s_is_good) [] [] f fd)
    (G_is_there : Fn P w K mg base "is_there" 3 ["houses", "ref"] [] (fs_is_there))
    (G_refs_of : Fn P w K mg base "refs_of" 3 ["thing"] [] (fs_refs_of)) : FnOk P w K mg base (L2.CX P w) 4 f fd ["houses", "things"] (lSp K (fs_is_good)) := by
  refine zdef F sc_is_good (fun p vs h q => by first | exact congrArg List.length q | exact congrArg List.length q.1 | (obtain ⟨_, _⟩ := p; first | exact congrArg List.length q | exact congrArg List.length q.1) | (obtain ⟨_, _, _⟩ := p; first | exact congrArg List.length q | exact congrArg List.length q.1) | (obtain ⟨_, _, _, _⟩ := p; first | exact congrArg List.length q | exact congrArg List.length q.1) | (obtain ⟨_, _, _, _, _⟩ := p; first | exact congrArg List.length q | exact congrArg List.length q.1)) fun cdv A outer s H E hr => ⟨r_is_good, ?_, fun p vs h Q X g q hp hx => rd_is_good g q hp⟩
  exact zb_cons (zs_if (ztc op_gt (s_gt) (zcallB call_len s_len rfl T.g_len PySem.boot_len (za_cons (zv 1) (za_nil))) (zglobI rfl T.i_MOST_THINGS) (nomark _)) (zb_one (zs_ret (zbl))) (zb_nil))
      (zb_cons (zs_for psd rfl (zi_list (zv 1)) (zg_name (i := 2) sc_is_good.nd rfl (Or.inl rfl))
      (zb_cons (zs_set (i := 3) sc_is_good.nd rfl (Or.inl rfl) (zcall tkd G_refs_of (hr.mono (by decide)) rfl (za_cons (zv 2) (za_nil))))
      (zb_cons (zs_if (ztc op_gt (s_gt) (zcallB call_len s_len rfl T.g_len PySem.boot_len (za_cons (zv 3) (za_nil))) (zglobI rfl T.i_MOST_REFS) (nomark _)) (zb_one (zs_ret (zbl))) (zb_nil))
      (zb_one (zs_for psd rfl (zi_list (zv 3)) (zg_name (i := 4) sc_is_good.nd rfl (Or.inl rfl))
      (zb_one (zs_if (ztnot (ztv (zcall tkd G_is_there (hr.mono (by decide)) rfl (za_cons (zv 0) (za_cons (zv 4) (za_nil)))))) (zb_one (zs_ret (zbl))) (zb_nil))))))))
      (zb_one (zs_ret (zbl))))
theorem ok_World___init__ (T : Tx w K mg) (F : FunD K "__init__" "World.__init__" (defArgs s_World___init__) (defBody s_World___init__) (defScope s_World___init__) [] [] f fd)
    (G_is_good : Fn P w K mg base "is_good" 4 ["houses", "things"] [] (fs_is_good))
    (E_NoWorld : Ex P w K mg base "NoWorld" (cl K "NoWorld")) : FnOk P w K mg base (L2.CX P w) 5 f fd ["self", "houses"] (lSp K (fs_World___init__ (cl K))) := by
  refine zdef F sc_World___init__ (fun p vs h q => by first | exact congrArg List.length q | exact congrArg List.length q.1 | (obtain ⟨_, _⟩ := p; first | exact congrArg List.length q | exact congrArg List.length q.1) | (obtain ⟨_, _, _⟩ := p; first | exact congrArg List.length q | exact congrArg List.length q.1) | (obtain ⟨_, _, _, _⟩ := p; first | exact congrArg List.length q | exact congrArg List.length q.1) | (obtain ⟨_, _, _, _, _⟩ := p; first | exact congrArg List.length q | exact congrArg List.length q.1)) fun cdv A outer s H E hr => ⟨r_World___init__ (cl K), ?_, fun p vs h Q X g q hp hx => rd_World___init__ g q hp hx⟩
  exact zb_cons (zs_if (ztw (zwor (ztc op_lt (s_lt) (zcallB call_len s_len rfl T.g_len PySem.boot_len (za_cons (zv 1) (za_nil))) (zint) (nomark _)) (zw1 (ztc op_gt (s_gt) (zcallB call_len s_len rfl T.g_len PySem.boot_len (za_cons (zv 1) (za_nil))) (zglobI rfl T.i_MOST_HOUSES) (nomark _))))) (zb_one (zs_raise tkd rfl E_NoWorld (hr.mono (by decide)) rfl (znon))) (zb_nil))
      (zb_cons (zs_for psd rfl (zi_list (zv 1)) (zg_name (i := 2) sc_World___init__.nd rfl (Or.inl rfl))
      (zb_one (zs_if (ztnot (ztv (zcall tkd G_is_good (hr.mono (by decide)) rfl (za_cons (zv 1) (za_cons (zv 2) (za_nil)))))) (zb_one (zs_raise tkd rfl E_NoWorld (hr.mono (by decide)) rfl (znon))) (zb_nil))))
      (zb_one (zs_fld T.c_World T.n_World_houses_kept (zv 0) (zlc (own := [("things", 2)]) tg1_ok rfl sc_World___init__.nd (zi_list (zv 1)) (blkOk_by (own := [("things", 2)]) (N := ["self", "houses", "things"]) (sc := defScope s_World___init__) (by decide +kernel)) (fun _ _ _ _ _ => pg_name (i := 2) sc_World___init__.nd rfl (Or.inl rfl)) (fun _ _ _ _ _ => zts_nil) (fun _ _ _ _ _ => zcallTy call_list_of s_list rfl T.g_list (by decide +kernel) (za_cons (zv 2) (za_nil)))))))
theorem ok_law_alike (T : Tx w K mg) (F : FunD K "_law_alike" "_law_alike" (defArgs s_law_alike) (defBody s_law_alike) (defScope s_law_alike) [] [] f fd) (gx : mg "_law_alike" = some (.ref f)) : ∀ d : Nat, FnOk P w K mg base (L2.CX P w) (3 + d) f fd ["found", "due"] (lSp K (fs_law_alike d))
  | 0 => ok_bot.mono (Nat.zero_le _)
  | d + 1 => by
    have G_law_alike : Fn P w K mg base "_law_alike" (3 + d) ["found", "due"] [] (fs_law_alike d) := ⟨_, _, [], [], ok_law_alike T F gx d, gx, F.kp, .nil, fun _ => rels_nil.mpr rfl, FunD.bindsN F fun _ _ _ _ _ _ us hl => match us, hl with | [_, _], _ => rfl⟩
    refine zdef (k := 3 + d) F sc_law_alike (fun p vs h q => by first | exact congrArg List.length q | exact congrArg List.length q.1 | (obtain ⟨_, _⟩ := p; first | exact congrArg List.length q | exact congrArg List.length q.1) | (obtain ⟨_, _, _⟩ := p; first | exact congrArg List.length q | exact congrArg List.length q.1) | (obtain ⟨_, _, _, _⟩ := p; first | exact congrArg List.length q | exact congrArg List.length q.1) | (obtain ⟨_, _, _, _, _⟩ := p; first | exact congrArg List.length q | exact congrArg List.length q.1)) fun cdv A outer s H E hr => ⟨r_law_alike d, ?_, fun p vs h Q X g q hp hx => rd_law_alike g q hp⟩
    exact zb_cons (zs_if (ztisN (zv 1)) (zb_one (zs_ret (zisN (zv 0)))) (zb_nil))
      (zb_cons (zs_if (ztv (zcallB call_isi s_isi rfl T.g_isinstance (by decide +kernel) (za_cons (zv 1) (za_cons (ztyp rfl T.g_bool (by decide +kernel)) (za_nil))))) (zb_one (zs_ret (zand (zcallB call_isi s_isi rfl T.g_isinstance (by decide +kernel) (za_cons (zv 0) (za_cons (ztyp rfl T.g_bool (by decide +kernel)) (za_nil)))) (zone (zcmp op_eq (s_eqS) (zv 0) (zv 1) (nomark _)))))) (zb_nil))
      (zb_cons (zs_if (ztv (zcallB call_isi s_isi rfl T.g_isinstance (by decide +kernel) (za_cons (zv 1) (za_cons (ztyp rfl T.g_int (by decide +kernel)) (za_nil))))) (zb_one (zs_ret (zand (zcallB call_isi s_isi rfl T.g_isinstance (by decide +kernel) (za_cons (zv 0) (za_cons (ztyp rfl T.g_int (by decide +kernel)) (za_nil)))) (zand (znot (zcallB call_isi s_isi rfl T.g_isinstance (by decide +kernel) (za_cons (zv 0) (za_cons (ztyp rfl T.g_bool (by decide +kernel)) (za_nil))))) (zone (zcmp op_eq (s_eqS) (zv 0) (zv 1) (nomark _))))))) (zb_nil))
      (zb_cons (zs_if (ztv (zcallB call_isi s_isi rfl T.g_isinstance (by decide +kernel) (za_cons (zv 1) (za_cons (ztyp rfl T.g_str (by decide +kernel)) (za_nil))))) (zb_one (zs_ret (zand (zcallB call_isi s_isi rfl T.g_isinstance (by decide +kernel) (za_cons (zv 0) (za_cons (ztyp rfl T.g_str (by decide +kernel)) (za_nil)))) (zone (zcmp op_eq (s_eqS) (zv 0) (zv 1) (nomark _)))))) (zb_nil))
      (zb_cons (zs_if (ztw (zwor (ztc op_ne (s_neS) (zcallB call_isi s_isi rfl T.g_isinstance (by decide +kernel) (za_cons (zv 0) (za_cons (ztyp rfl T.g_list (by decide +kernel)) (za_nil)))) (zcallB call_isi s_isi rfl T.g_isinstance (by decide +kernel) (za_cons (zv 1) (za_cons (ztyp rfl T.g_list (by decide +kernel)) (za_nil)))) (nomark _)) (zw1 (ztc op_ne (s_neS) (zcallB call_isi s_isi rfl T.g_isinstance (by decide +kernel) (za_cons (zv 0) (za_cons (ztyp rfl T.g_tuple (by decide +kernel)) (za_nil)))) (zcallB call_isi s_isi rfl T.g_isinstance (by decide +kernel) (za_cons (zv 1) (za_cons (ztyp rfl T.g_tuple (by decide +kernel)) (za_nil)))) (nomark _))))) (zb_one (zs_ret (zbl))) (zb_nil))
      (zb_cons (zs_if (ztc op_ne (s_neS) (zcallB call_len s_len rfl T.g_len PySem.boot_len (za_cons (zv 0) (za_nil))) (zcallB call_len s_len rfl T.g_len PySem.boot_len (za_cons (zv 1) (za_nil))) (nomark _)) (zb_one (zs_ret (zbl))) (zb_nil))
      (zb_cons (zs_for psd rfl (zi_r1 rfl T.g_range (zcallB call_len s_len rfl T.g_len PySem.boot_len (za_cons (zv 1) (za_nil)))) (zg_name (i := 2) sc_law_alike.nd rfl (Or.inl rfl))
      (zb_one (zs_if (ztnot (ztv (zcall tkd G_law_alike (hr.mono (by omega)) rfl (za_cons (zix ix_seq s_ix (zv 0) (zv 2) (fun _ _ => rfl)) (za_cons (zix ix_seq s_ix (zv 1) (zv 2) (fun _ _ => rfl)) (za_nil)))))) (zb_one (zs_ret (zbl))) (zb_nil))))
      (zb_one (zs_ret (zbl)))))))))
theorem ok_Plain_end (T : Tx w K mg) (F : FunD K "end" "Plain.end" (defArgs s_Plain_end) (defBody s_Plain_end) (defScope s_Plain_end) [] [] f fd)
    (G_Plain_thing : Mt P w K mg base (cl K "Plain") "thing" 3 ["self", "ref"] [] (fs_Plain_thing (cl K))) : FnOk P w K mg base (L2.CX P w) 4 f fd ["self", "ref"] (lSp K (fs_Plain_end (cl K))) := by
  refine zdef F sc_Plain_end (fun p vs h q => by first | exact congrArg List.length q | exact congrArg List.length q.1 | (obtain ⟨_, _⟩ := p; first | exact congrArg List.length q | exact congrArg List.length q.1) | (obtain ⟨_, _, _⟩ := p; first | exact congrArg List.length q | exact congrArg List.length q.1) | (obtain ⟨_, _, _, _⟩ := p; first | exact congrArg List.length q | exact congrArg List.length q.1) | (obtain ⟨_, _, _, _, _⟩ := p; first | exact congrArg List.length q | exact congrArg List.length q.1)) fun cdv A outer s H E hr => ⟨r_Plain_end (cl K), ?_, fun p vs h Q X g q hp hx => rd_Plain_end g q hp hx⟩
  exact zb_cons (zs_set (i := 2) sc_Plain_end.nd rfl (Or.inl rfl) (zdnewT))
      (zb_cons (zs_set (i := 3) sc_Plain_end.nd rfl (Or.inl rfl) (zmeth tkd T.c_Plain G_Plain_thing (hr.mono (by decide)) (zv 0) (za_cons (zv 1) (za_nil))))
      (zb_cons (zs_while psd (ztc op_eq (s_eqS) (zix ix_seq s_ix (zv 3) (zint) (fun _ _ => rfl)) (zstr) (nomark _))
      (zb_cons (zs_if (ztdin (hu10 hr) T.h_w (zv 1) (zv 2)) (zb_one (zs_ret (znon))) (zb_nil))
      (zb_cons (zs_dput (hu10 hr) T.h_w (zv 2) (zv 1) (zbl))
      (zb_cons (zs_set (i := 1) sc_Plain_end.nd rfl (Or.inl rfl) (zix ix_seq s_ix (zv 3) (zint) (fun _ _ => rfl)))
      (zb_one (zs_set (i := 3) sc_Plain_end.nd rfl (Or.inl rfl) (zdget (hu10 hr) T.h_w (zfld T.c_Plain T.n_Plain_things_kept (zv 0)) (zv 1) (fun _ _ => rfl))))))))
      (zb_one (zs_ret (zv 1)))))
theorem ok_done_by_box (T : Tx w K mg) (F : FunD K "done_by_box" "done_by_box" (defArgs s_done_by_box) (defBody s_done_by_box) (defScope s_done_by_box) [] [] f fd) : FnOk P w K mg base (L2.CX P w) 3 f fd ["worth", "word", "value"] (lSp K (fs_done_by_box)) := by
  refine zdef F sc_done_by_box (fun p vs h q => by first | exact congrArg List.length q | exact congrArg List.length q.1 | (obtain ⟨_, _⟩ := p; first | exact congrArg List.length q | exact congrArg List.length q.1) | (obtain ⟨_, _, _⟩ := p; first | exact congrArg List.length q | exact congrArg List.length q.1) | (obtain ⟨_, _, _, _⟩ := p; first | exact congrArg List.length q | exact congrArg List.length q.1) | (obtain ⟨_, _, _, _, _⟩ := p; first | exact congrArg List.length q | exact congrArg List.length q.1)) fun cdv A outer s H E hr => ⟨r_done_by_box, ?_, fun p vs h Q X g q hp hx => rd_done_by_box g q hp⟩
  exact zb_cons (zs_if (ztc op_eq (s_eqS) (zv 1) (zstr) (nomark _)) (zb_one (zs_ret (ztup (za_cons (ztup (za_cons (zstr) (za_cons (zv 0) (za_nil)))) (za_cons (ztup (za_cons (zstr) (za_cons (zv 0) (za_nil)))) (za_cons (znon) (za_nil))))))) (zb_nil))
      (zb_cons (zs_if (ztc op_eq (s_eqS) (zv 1) (zstr) (nomark _)) (zb_one (zs_ret (ztup (za_cons (ztup (za_cons (zstr) (za_cons (zix ix_seq s_ix (zv 2) (zint) (fun _ _ => rfl)) (za_nil)))) (za_cons (ztup (za_cons (zstr) (za_cons (zv 0) (za_nil)))) (za_cons (znon) (za_nil))))))) (zb_nil))
      (zb_one (zs_ret (ztup (za_cons (ztup (za_cons (zstr) (za_cons (zop op_add s_add (zv 0) (zix ix_seq s_ix (zv 2) (zint) (fun _ _ => rfl))) (za_nil)))) (za_cons (ztup (za_cons (zstr) (za_cons (zop op_add s_add (zv 0) (zix ix_seq s_ix (zv 2) (zint) (fun _ _ => rfl))) (za_nil)))) (za_cons (znon) (za_nil))))))))
theorem ok_done (T : Tx w K mg) (F : FunD K "done" "done" (defArgs s_done) (defBody s_done) (defScope s_done) [.non] [] f fd)
    (G_done_by_box : Fn P w K mg base "done_by_box" 3 ["worth", "word", "value"] [] (fs_done_by_box)) : FnOk P w K mg base (L2.CX P w) 4 f fd ["thing", "word", "value", "made"] (lSp K (fs_done)) := by
  refine zdef F sc_done (fun p vs h q => by first | exact congrArg List.length q | exact congrArg List.length q.1 | (obtain ⟨_, _⟩ := p; first | exact congrArg List.length q | exact congrArg List.length q.1) | (obtain ⟨_, _, _⟩ := p; first | exact congrArg List.length q | exact congrArg List.length q.1) | (obtain ⟨_, _, _, _⟩ := p; first | exact congrArg List.length q | exact congrArg List.length q.1) | (obtain ⟨_, _, _, _, _⟩ := p; first | exact congrArg List.length q | exact congrArg List.length q.1)) fun cdv A outer s H E hr => ⟨r_done, ?_, fun p vs h Q X g q hp hx => rd_done g q hp⟩
  exact zb_cons (zs_if (ztw (zwand (ztnotN (zv 2)) (zw1 (ztc op_eq (s_eqS) (zix ix_seq s_ix (zv 2) (zint) (fun _ _ => rfl)) (zstr) (nomark _))))) (zb_one (zs_ret (ztup (za_cons (zv 0) (za_cons (zv 2) (za_cons (znon) (za_nil))))))) (zb_nil))
      (zb_cons (zs_if (ztc op_eq (s_eqS) (zix ix_seq s_ix (zv 0) (zint) (fun _ _ => rfl)) (zstr) (nomark _)) (zb_one (zs_ret (ztup (za_cons (zv 0) (za_cons (ztup (za_cons (zstr) (za_cons (zstr) (za_nil)))) (za_cons (znon) (za_nil))))))) (zb_nil))
      (zb_cons (zs_if (zttabnin rfl T.tab_VERBS (zv 1) (zix ix_seq s_ix (zv 0) (zint) (fun _ _ => rfl)) (fun _ _ => rfl)) (zb_one (zs_ret (ztup (za_cons (zv 0) (za_cons (ztup (za_cons (zstr) (za_cons (zstr) (za_nil)))) (za_cons (znon) (za_nil))))))) (zb_nil))
      (zb_cons (zs_if (ztw (zwand (ztc op_ne (s_neS) (zv 1) (zstr) (nomark _)) (zw1 (ztc op_ne (s_neS) (zix ix_seq s_ix (zv 2) (zint) (fun _ _ => rfl)) (zstr) (nomark _))))) (zb_one (zs_ret (ztup (za_cons (zv 0) (za_cons (ztup (za_cons (zstr) (za_cons (zstr) (za_nil)))) (za_cons (znon) (za_nil))))))) (zb_nil))
      (zb_cons (zs_if (ztc op_eq (s_eqS) (zix ix_seq s_ix (zv 0) (zint) (fun _ _ => rfl)) (zstr) (nomark _)) (zb_one (zs_ret (zcall tkd G_done_by_box (hr.mono (by decide)) rfl (za_cons (zix ix_seq s_ix (zv 0) (zint) (fun _ _ => rfl)) (za_cons (zv 1) (za_cons (zv 2) (za_nil))))))) (zb_nil))
      (zb_cons (zs_if (ztc op_eq (s_eqS) (zix ix_seq s_ix (zv 0) (zint) (fun _ _ => rfl)) (zstr) (nomark _)) (zb_one (zs_ret (ztup (za_cons (zv 0) (za_cons (zv 3) (za_cons (ztup (za_cons (zstr) (za_cons (zix ix_seq s_ix (zv 2) (zint) (fun _ _ => rfl)) (za_nil)))) (za_nil))))))) (zb_nil))
      (zb_cons (zs_if (ztw (zwor (ztc op_lt (s_lt) (zix ix_seq s_ix (zv 2) (zint) (fun _ _ => rfl)) (zint) (nomark _)) (zw1 (ztc op_ge (s_ge) (zix ix_seq s_ix (zv 2) (zint) (fun _ _ => rfl)) (zcallB call_len s_len rfl T.g_len PySem.boot_len (za_cons (zix ix_seq s_ix (zv 0) (zint) (fun _ _ => rfl)) (za_nil))) (nomark _))))) (zb_one (zs_ret (ztup (za_cons (zv 0) (za_cons (ztup (za_cons (zstr) (za_cons (zstr) (za_nil)))) (za_cons (znon) (za_nil))))))) (zb_nil))
      (zb_one (zs_ret (ztup (za_cons (zv 0) (za_cons (zix ix_seq s_ix (zix ix_seq s_ix (zv 0) (zint) (fun _ _ => rfl)) (zix ix_seq s_ix (zv 2) (zint) (fun _ _ => rfl)) (fun _ _ => rfl)) (za_cons (znon) (za_nil)))))))))))))
theorem ok_Plain_call (T : Tx w K mg) (F : FunD K "call" "Plain.call" (defArgs s_Plain_call) (defBody s_Plain_call) (defScope s_Plain_call) [] [] f fd)
    (G_Plain_end : Mt P w K mg base (cl K "Plain") "end" 4 ["self", "ref"] [] (fs_Plain_end (cl K)))
    (G_done : Fn P w K mg base "done" 4 ["thing", "word", "value", "made"] [] (fs_done))
    (E_Twice : Ex P w K mg base "Twice" (cl K "Twice")) : FnOk P w K mg base (L2.CX P w) 5 f fd ["self", "ref", "word", "value", "asker", "row"] (lSp K (fs_Plain_call (cl K))) := by
  refine zdef F sc_Plain_call (fun p vs h q => by first | exact congrArg List.length q | exact congrArg List.length q.1 | (obtain ⟨_, _⟩ := p; first | exact congrArg List.length q | exact congrArg List.length q.1) | (obtain ⟨_, _, _⟩ := p; first | exact congrArg List.length q | exact congrArg List.length q.1) | (obtain ⟨_, _, _, _⟩ := p; first | exact congrArg List.length q | exact congrArg List.length q.1) | (obtain ⟨_, _, _, _, _⟩ := p; first | exact congrArg List.length q | exact congrArg List.length q.1)) fun cdv A outer s H E hr => ⟨r_Plain_call (cl K), ?_, fun p vs h Q X g q hp hx => rd_Plain_call g q hp hx⟩
  exact zb_cons (zs_set (i := 6) sc_Plain_call.nd rfl (Or.inl rfl) (zmeth tkd T.c_Plain G_Plain_end (hr.mono (by decide)) (zv 0) (za_cons (zv 1) (za_nil))))
      (zb_cons (zs_if (ztisN (zv 6)) (zb_one (zs_ret (ztup (za_cons (zstr) (za_cons (zstr) (za_nil)))))) (zb_nil))
      (zb_cons (zs_set (i := 7) sc_Plain_call.nd rfl (Or.inl rfl) (ztup (za_cons (zstr) (za_cons (zix ix_seq s_ix (zv 6) (zint) (fun _ _ => rfl)) (za_cons (zv 4) (za_cons (zv 5) (za_nil)))))))
      (zb_cons (zs_asg (zcall tkd G_done (hr.mono (by decide)) rfl (za_cons (zdget (hu10 hr) T.h_w (zfld T.c_Plain T.n_Plain_things_kept (zv 0)) (zv 6) (fun _ _ => rfl)) (za_cons (zv 2) (za_cons (zv 3) (za_cons (zv 7) (za_nil)))))) (zg_tup rfl (zgs_cons (zg_name (i := 8) sc_Plain_call.nd rfl (Or.inl rfl)) (zgs_cons (zg_name (i := 9) sc_Plain_call.nd rfl (Or.inl rfl)) (zgs_cons (zg_name (i := 10) sc_Plain_call.nd rfl (Or.inl rfl)) (zgs_nil))))))
      (zb_cons (zs_if (ztw (zwand (ztnotN (zv 10)) (zw1 (ztdin (hu10 hr) T.h_w (zv 7) (zfld T.c_Plain T.n_Plain_things_kept (zv 0)))))) (zb_one (zs_raise tkd rfl E_Twice (hr.mono (by decide)) rfl (zv 7))) (zb_nil))
      (zb_cons (zs_dput (hu10 hr) T.h_w (zfld T.c_Plain T.n_Plain_things_kept (zv 0)) (zv 6) (zv 8))
      (zb_cons (zs_if (ztnotN (zv 10)) (zb_one (zs_dput (hu10 hr) T.h_w (zfld T.c_Plain T.n_Plain_things_kept (zv 0)) (zv 7) (zv 10))) (zb_nil))
      (zb_one (zs_ret (zv 9)))))))))
theorem ok_law_draw (T : Tx w K mg) (F : FunD K "_law_draw" "_law_draw" (defArgs s_law_draw) (defBody s_law_draw) (defScope s_law_draw) [] [] f fd) : FnOk P w K mg base (L2.CX P w) 3 f fd ["tray", "many"] (lSp K (fs_law_draw)) := by
  refine zdef F sc_law_draw (fun p vs h q => by first | exact congrArg List.length q | exact congrArg List.length q.1 | (obtain ⟨_, _⟩ := p; first | exact congrArg List.length q | exact congrArg List.length q.1) | (obtain ⟨_, _, _⟩ := p; first | exact congrArg List.length q | exact congrArg List.length q.1) | (obtain ⟨_, _, _, _⟩ := p; first | exact congrArg List.length q | exact congrArg List.length q.1) | (obtain ⟨_, _, _, _, _⟩ := p; first | exact congrArg List.length q | exact congrArg List.length q.1)) fun cdv A outer s H E hr => ⟨r_law_draw, ?_, fun p vs h Q X g q hp hx => rd_law_draw g q hp⟩
  exact zb_cons (zs_while psd (ztw (zwand (ztc op_lt (s_lt) (zix ix_seq s_ix (zv 0) (zint) (fun _ _ => rfl)) (zint) (nomark _)) (zw1 (ztc (op_neD hr.units) (s_neD) (zix ix_seq s_ix (zv 0) (zint) (fun _ _ => rfl)) (zlst (za_nil)) (nomark _)))))
      (zb_one (zs_asg (zbm PySem.F.plainAttrs_list PySem.F.slot_list_pop PySem.F.type_list_pop mt_popAt s_popAt (zix ix_seq s_ix (zv 0) (zint) (fun _ _ => rfl)) (za_cons (zint) (za_nil))) (zg_sub (W0 := WF) s_setL set_list (zv 0) (zint)))))
      (zb_cons (zs_if (ztc op_ge (s_ge) (zix ix_seq s_ix (zv 0) (zint) (fun _ _ => rfl)) (zint) (nomark _)) (zb_cons (zs_set (i := 2) sc_law_draw.nd rfl (Or.inl rfl) (zop op_mod s_mod (zix ix_seq s_ix (zv 0) (zint) (fun _ _ => rfl)) (zv 1)))
      (zb_cons (zs_asg (zop op_fdivW s_divW (zix ix_seq s_ix (zv 0) (zint) (fun _ _ => rfl)) (zv 1)) (zg_sub (W0 := WF) s_setL set_list (zv 0) (zint)))
      (zb_one (zs_ret (zv 2))))) (zb_nil))
      (zb_cons (zs_asg (zop op_add s_add (zix ix_seq s_ix (zv 0) (zint) (fun _ _ => rfl)) (zint)) (zg_sub (W0 := WF) s_setL set_list (zv 0) (zint)))
      (zb_cons (zs_set (i := 3) sc_law_draw.nd rfl (Or.inl rfl) (zop op_mod s_mod (zop op_add s_add (zop op_mul s_mul (zop op_add s_add (zix ix_seq s_ix (zv 0) (zint) (fun _ _ => rfl)) (zint)) (zop op_pow s_pow (zop op_add s_add (zix ix_seq s_ix (zv 0) (zint) (fun _ _ => rfl)) (zint)) (zint))) (zop op_mul s_mul (zint) (zix ix_seq s_ix (zv 0) (zint) (fun _ _ => rfl)))) (zop op_sub s_sub (zop op_pow s_pow (zint) (zint)) (zint))))
      (zb_one (zs_ret (zop op_mod s_mod (zop op_fdivW s_divW (zop op_mod s_mod (zop op_pow s_pow (zv 3) (zint)) (zop op_add s_add (zop op_pow s_pow (zint) (zint)) (zint))) (zint)) (zv 1)))))))
theorem ok_law_any (T : Tx w K mg) (F : FunD K "_law_any" "_law_any" (defArgs s_law_any) (defBody s_law_any) (defScope s_law_any) [] [] f fd)
    (G_law_draw : Fn P w K mg base "_law_draw" 3 ["tray", "many"] [] (fs_law_draw)) : FnOk P w K mg base (L2.CX P w) 4 f fd ["tray"] (lSp K (fs_law_any)) := by
  refine zdef F sc_law_any (fun p vs h q => by first | exact congrArg List.length q | exact congrArg List.length q.1 | (obtain ⟨_, _⟩ := p; first | exact congrArg List.length q | exact congrArg List.length q.1) | (obtain ⟨_, _, _⟩ := p; first | exact congrArg List.length q | exact congrArg List.length q.1) | (obtain ⟨_, _, _, _⟩ := p; first | exact congrArg List.length q | exact congrArg List.length q.1) | (obtain ⟨_, _, _, _, _⟩ := p; first | exact congrArg List.length q | exact congrArg List.length q.1)) fun cdv A outer s H E hr => ⟨r_law_any, ?_, fun p vs h Q X g q hp hx => rd_law_any g q hp⟩
  exact zb_cons (zs_set (i := 1) sc_law_any.nd rfl (Or.inl rfl) (zcall tkd G_law_draw (hr.mono (by decide)) rfl (za_cons (zv 0) (za_cons (zint) (za_nil)))))
      (zb_cons (zs_if (ztc op_lt (s_lt) (zv 1) (zint) (nomark _)) (zb_one (zs_ret (zop op_sub s_sub (zcall tkd G_law_draw (hr.mono (by decide)) rfl (za_cons (zv 0) (za_cons (zint) (za_nil)))) (zint)))) (zb_nil))
      (zb_cons (zs_set (i := 2) sc_law_any.nd rfl (Or.inl rfl) (zcall tkd G_law_draw (hr.mono (by decide)) rfl (za_cons (zv 0) (za_cons (zop op_pow s_pow (zint) (zint)) (za_nil)))))
      (zb_cons (zs_for psd rfl (zi_r1 rfl T.g_range (zint)) (zg_name (i := 3) sc_law_any.nd rfl (Or.inl rfl))
      (zb_one (zs_set (i := 2) sc_law_any.nd rfl (Or.inl rfl) (zop op_add s_add (zop op_mul s_mul (zv 2) (zop op_pow s_pow (zint) (zint))) (zcall tkd G_law_draw (hr.mono (by decide)) rfl (za_cons (zv 0) (za_cons (zop op_pow s_pow (zint) (zint)) (za_nil))))))))
      (zb_one (zs_ret (zop op_mul s_mul (zv 2) (zop op_sub s_sub (zint) (zop op_mul s_mul (zint) (zv 1)))))))))
theorem ok_law_value (T : Tx w K mg) (F : FunD K "_law_value" "_law_value" (defArgs s_law_value) (defBody s_law_value) (defScope s_law_value) [] [] f fd)
    (G_law_any : Fn P w K mg base "_law_any" 4 ["tray"] [] (fs_law_any))
    (G_law_draw : Fn P w K mg base "_law_draw" 3 ["tray", "many"] [] (fs_law_draw)) : FnOk P w K mg base (L2.CX P w) 5 f fd ["tray", "word", "refs"] (lSp K (fs_law_value_v1l)) := by
  refine zdef F sc_law_value (fun p vs h q => by first | exact congrArg List.length q | exact congrArg List.length q.1 | (obtain ⟨_, _⟩ := p; first | exact congrArg List.length q | exact congrArg List.length q.1) | (obtain ⟨_, _, _⟩ := p; first | exact congrArg List.length q | exact congrArg List.length q.1) | (obtain ⟨_, _, _, _⟩ := p; first | exact congrArg List.length q | exact congrArg List.length q.1) | (obtain ⟨_, _, _, _, _⟩ := p; first | exact congrArg List.length q | exact congrArg List.length q.1)) fun cdv A outer s H E hr => ⟨r_law_value_v1l, ?_, fun p vs h Q X g q hp hx => rd_law_value_v1l g q hp⟩
  exact zb_cons (zs_set (i := 3) sc_law_value.nd rfl (Or.inl rfl) (zcall tkd G_law_draw (hr.mono (by decide)) rfl (za_cons (zv 0) (za_cons (zint) (za_nil)))))
      (zb_cons (zs_if (ztc op_eq (s_eqS) (zv 1) (zstr) (nomark _)) (zb_one (zs_ret (znon))) (zb_nil))
      (zb_cons (zs_if (ztw (zwand (ztc op_eq (s_eqS) (zv 3) (zint) (nomark _)) (zw1 (ztc (op_neD hr.units) (s_neD) (zv 2) (zlst (za_nil)) (nomark _))))) (zb_one (zs_ret (zix ix_seq s_ix (zv 2) (zcall tkd G_law_draw (hr.mono (by decide)) rfl (za_cons (zv 0) (za_cons (zcallB call_len s_len rfl T.g_len PySem.boot_len (za_cons (zv 2) (za_nil))) (za_nil)))) (fun _ _ => rfl)))) (zb_nil))
      (zb_cons (zs_if (ztc op_eq (s_eqS) (zv 3) (zint) (nomark _)) (zb_cons (zs_set (i := 4) sc_law_value.nd rfl (Or.inl rfl) (zlst (za_cons (zstr) (za_cons (zstr) (za_cons (zstr) (za_cons (zstr) (za_cons (zstr) (za_cons (zstr) (za_cons (zstr) (za_cons (zstr) (za_nil)))))))))))
      (zb_one (zs_ret (ztup (za_cons (zstr) (za_cons (zix ix_seq s_ix (zv 4) (zcall tkd G_law_draw (hr.mono (by decide)) rfl (za_cons (zv 0) (za_cons (zint) (za_nil)))) (fun _ _ => rfl)) (za_nil))))))) (zb_nil))
      (zb_one (zs_ret (ztup (za_cons (zstr) (za_cons (zcall tkd G_law_any (hr.mono (by decide)) rfl (za_cons (zv 0) (za_nil))) (za_nil)))))))))
theorem ok_law_word (T : Tx w K mg) (F : FunD K "_law_word" "_law_word" (defArgs s_law_word) (defBody s_law_word) (defScope s_law_word) [] [] f fd)
    (G_law_draw : Fn P w K mg base "_law_draw" 3 ["tray", "many"] [] (fs_law_draw)) : FnOk P w K mg base (L2.CX P w) 4 f fd ["tray", "thing"] (lSp K (fs_law_word)) := by
  refine zdef F sc_law_word (fun p vs h q => by first | exact congrArg List.length q | exact congrArg List.length q.1 | (obtain ⟨_, _⟩ := p; first | exact congrArg List.length q | exact congrArg List.length q.1) | (obtain ⟨_, _, _⟩ := p; first | exact congrArg List.length q | exact congrArg List.length q.1) | (obtain ⟨_, _, _, _⟩ := p; first | exact congrArg List.length q | exact congrArg List.length q.1) | (obtain ⟨_, _, _, _, _⟩ := p; first | exact congrArg List.length q | exact congrArg List.length q.1)) fun cdv A outer s H E hr => ⟨r_law_word, ?_, fun p vs h Q X g q hp hx => rd_law_word g q hp⟩
  exact zb_cons (zs_set (i := 2) sc_law_word.nd rfl (Or.inl rfl) (zlst (za_cons (zstr) (za_cons (zstr) (za_cons (zstr) (za_cons (zstr) (za_cons (zstr) (za_nil))))))))
      (zb_cons (zs_set (i := 3) sc_law_word.nd rfl (Or.inl rfl) (zcall tkd G_law_draw (hr.mono (by decide)) rfl (za_cons (zv 0) (za_cons (zint) (za_nil)))))
      (zb_cons (zs_set (i := 4) sc_law_word.nd rfl (Or.inl rfl) (zix ix_seq s_ix (zv 2) (zcall tkd G_law_draw (hr.mono (by decide)) rfl (za_cons (zv 0) (za_cons (zint) (za_nil)))) (fun _ _ => rfl)))
      (zb_cons (zs_if (ztw (zwand (ztc op_gt (s_gt) (zv 3) (zint) (nomark _)) (zw1 (ztc op_eq (s_eqS) (zix ix_seq s_ix (zv 1) (zint) (fun _ _ => rfl)) (zstr) (nomark _))))) (zb_one (zs_set (i := 4) sc_law_word.nd rfl (Or.inl rfl) (zix ix_seq s_ix (zv 2) (zcall tkd G_law_draw (hr.mono (by decide)) rfl (za_cons (zv 0) (za_cons (zint) (za_nil)))) (fun _ _ => rfl)))) (zb_nil))
      (zb_cons (zs_if (ztw (zwand (ztc op_gt (s_gt) (zv 3) (zint) (nomark _)) (zw1 (ztc op_eq (s_eqS) (zix ix_seq s_ix (zv 1) (zint) (fun _ _ => rfl)) (zstr) (nomark _))))) (zb_one (zs_set (i := 4) sc_law_word.nd rfl (Or.inl rfl) (zstr))) (zb_nil))
      (zb_cons (zs_if (ztw (zwand (ztc op_gt (s_gt) (zv 3) (zint) (nomark _)) (zw1 (ztc op_eq (s_eqS) (zix ix_seq s_ix (zv 1) (zint) (fun _ _ => rfl)) (zstr) (nomark _))))) (zb_one (zs_set (i := 4) sc_law_word.nd rfl (Or.inl rfl) (zstr))) (zb_nil))
      (zb_one (zs_ret (zv 4))))))))
theorem ok_law_calls (T : Tx w K mg) (F : FunD K "_law_calls" "_law_calls" (defArgs s_law_calls) (defBody s_law_calls) (defScope s_law_calls) [] [] f fd)
    (G_Plain_call : Mt P w K mg base (cl K "Plain") "call" 5 ["self", "ref", "word", "value", "asker", "row"] [] (fs_Plain_call (cl K)))
    (G_Plain_end : Mt P w K mg base (cl K "Plain") "end" 4 ["self", "ref"] [] (fs_Plain_end (cl K)))
    (G_Plain_thing : Mt P w K mg base (cl K "Plain") "thing" 3 ["self", "ref"] [] (fs_Plain_thing (cl K)))
    (G_law_draw : Fn P w K mg base "_law_draw" 3 ["tray", "many"] [] (fs_law_draw))
    (G_law_value : Fn P w K mg base "_law_value" 5 ["tray", "word", "refs"] [] (fs_law_value_v1l))
    (G_law_word : Fn P w K mg base "_law_word" 4 ["tray", "thing"] [] (fs_law_word)) : FnOk P w K mg base (L2.CX P w) 6 f fd ["tray", "plain", "houses", "many"] (lSp K (fs_law_calls (cl K))) := by
  refine zdef F sc_law_calls (fun p vs h q => by first | exact congrArg List.length q | exact congrArg List.length q.1 | (obtain ⟨_, _⟩ := p; first | exact congrArg List.length q | exact congrArg List.length q.1) | (obtain ⟨_, _, _⟩ := p; first | exact congrArg List.length q | exact congrArg List.length q.1) | (obtain ⟨_, _, _, _⟩ := p; first | exact congrArg List.length q | exact congrArg List.length q.1) | (obtain ⟨_, _, _, _, _⟩ := p; first | exact congrArg List.length q | exact congrArg List.length q.1)) fun cdv A outer s H E hr => ⟨r_law_calls (cl K), ?_, fun p vs h Q X g q hp hx => rd_law_calls g q hp⟩
  exact zb_cons (zs_set (i := 4) sc_law_calls.nd rfl (Or.inl rfl) (zlst (za_nil)))
      (zb_cons (zs_for psd rfl (zi_r1 rfl T.g_range (zcallB call_len s_len rfl T.g_len PySem.boot_len (za_cons (zv 2) (za_nil)))) (zg_name (i := 5) sc_law_calls.nd rfl (Or.inr rfl))
      (zb_one (zs_set (i := 4) sc_law_calls.nd rfl (Or.inl rfl) (zop op_cat s_cat (zv 4) (zlc (own := [("number", 6)]) tg1_ok rfl sc_law_calls.nd (zi_r1 rfl T.g_range (zcallB call_len s_len rfl T.g_len PySem.boot_len (za_cons (zix ix_seq s_ix (zv 2) (zv 5) (fun _ _ => rfl)) (za_nil)))) (blkOk_by (own := [("number", 6)]) (N := ["tray", "plain", "houses", "many", "refs", "house", "number", "calls", "row", "ref", "end", "word", "value", "asker", "answer"]) (sc := defScope s_law_calls) (by decide +kernel)) (fun _ _ _ _ _ => pg_name (i := 6) sc_law_calls.nd rfl (Or.inl rfl)) (fun _ _ _ _ _ => zts_nil) (fun _ _ _ _ _ => ztup (za_cons (zstr) (za_cons (zv 5) (za_cons (zv 6) (za_nil))))))))))
      (zb_cons (zs_set (i := 7) sc_law_calls.nd rfl (Or.inl rfl) (zlst (za_nil)))
      (zb_cons (zs_for psd rfl (zi_r1 rfl T.g_range (zv 3)) (zg_name (i := 8) sc_law_calls.nd rfl (Or.inl rfl))
      (zb_cons (zs_set (i := 9) sc_law_calls.nd rfl (Or.inl rfl) (zix ix_seq s_ix (zv 4) (zcall tkd G_law_draw (hr.mono (by decide)) rfl (za_cons (zv 0) (za_cons (zcallB call_len s_len rfl T.g_len PySem.boot_len (za_cons (zv 4) (za_nil))) (za_nil)))) (fun _ _ => rfl)))
      (zb_cons (zs_set (i := 10) sc_law_calls.nd rfl (Or.inl rfl) (zmeth tkd T.c_Plain G_Plain_end (hr.mono (by decide)) (zv 1) (za_cons (zv 9) (za_nil))))
      (zb_cons (zs_set (i := 11) sc_law_calls.nd rfl (Or.inl rfl) (zcall tkd G_law_word (hr.mono (by decide)) rfl (za_cons (zv 0) (za_cons (zmeth tkd T.c_Plain G_Plain_thing (hr.mono (by decide)) (zv 1) (za_cons (zifE (ztisN (zv 10)) (zv 9) (zv 10)) (za_nil))) (za_nil)))))
      (zb_cons (zs_set (i := 12) sc_law_calls.nd rfl (Or.inl rfl) (zcall tkd G_law_value (hr.mono (by decide)) rfl (za_cons (zv 0) (za_cons (zv 11) (za_cons (zv 4) (za_nil))))))
      (zb_cons (zs_set (i := 13) sc_law_calls.nd rfl (Or.inl rfl) (zcall tkd G_law_draw (hr.mono (by decide)) rfl (za_cons (zv 0) (za_cons (zint) (za_nil)))))
      (zb_cons (zs_set (i := 14) sc_law_calls.nd rfl (Or.inl rfl) (zmeth tkd T.c_Plain G_Plain_call (hr.mono (by decide)) (zv 1) (za_cons (zv 9) (za_cons (zv 11) (za_cons (zv 12) (za_cons (zv 13) (za_cons (zv 8) (za_nil))))))))
      (zb_cons (zs_expr (zbm PySem.F.plainAttrs_list PySem.F.slot_list_append PySem.F.type_list_append mt_append s_append (zv 7) (za_cons (ztup (za_cons (zv 10) (za_cons (zv 9) (za_cons (zv 11) (za_cons (zv 12) (za_cons (zv 13) (za_cons (zv 8) (za_cons (zv 14) (za_nil))))))))) (za_nil))))
      (zb_one (zs_if (ztw (zwand (ztc op_eq (s_eqS) (zix ix_seq s_ix (zv 14) (zint) (fun _ _ => rfl)) (zstr) (nomark _)) (zw1 (ztc (op_notInD (hu65 hr)) (s_notInD) (zv 14) (zv 4) rfl)))) (zb_one (zs_expr (zbm PySem.F.plainAttrs_list PySem.F.slot_list_append PySem.F.type_list_append mt_append s_append (zv 4) (za_cons (zv 14) (za_nil))))) (zb_nil)))))))))))
      (zb_one (zs_ret (zv 7))))))
theorem ok_law_done_again (T : Tx w K mg) (F : FunD K "_law_done_again" "_law_done_again" (defArgs s_law_done_again) (defBody s_law_done_again) (defScope s_law_done_again) [] [] f fd)
    (G_Plain___init__ : Ck P w K mg base "Plain" (cl K "Plain") 5 ["self", "world"] [] (fs_Plain___init__ (cl K)))
    (G_Plain_call : Mt P w K mg base (cl K "Plain") "call" 5 ["self", "ref", "word", "value", "asker", "row"] [] (fs_Plain_call (cl K)))
    (G_World___init__ : Ck P w K mg base "World" (cl K "World") 5 ["self", "houses"] [] (fs_World___init__ (cl K)))
    (G_law_alike : Fn P w K mg base "_law_alike" 8 ["found", "due"] [] (fs_law_alike 5)) : FnOk P w K mg base (L2.CX P w) 9 f fd ["houses", "calls"] (lSp K (fs_law_done_again (cl K))) := by
  refine zdef F sc_law_done_again (fun p vs h q => by first | exact congrArg List.length q | exact congrArg List.length q.1 | (obtain ⟨_, _⟩ := p; first | exact congrArg List.length q | exact congrArg List.length q.1) | (obtain ⟨_, _, _⟩ := p; first | exact congrArg List.length q | exact congrArg List.length q.1) | (obtain ⟨_, _, _, _⟩ := p; first | exact congrArg List.length q | exact congrArg List.length q.1) | (obtain ⟨_, _, _, _, _⟩ := p; first | exact congrArg List.length q | exact congrArg List.length q.1)) fun cdv A outer s H E hr => ⟨r_law_done_again (cl K), ?_, fun p vs h Q X g q hp hx => rd_law_done_again g q hp⟩
  exact zb_cons (zs_set (i := 3) sc_law_done_again.nd rfl (Or.inl rfl) (zmake tkd G_Plain___init__ (hr.mono (by decide)) rfl (za_cons (zmake tkd G_World___init__ (hr.mono (by decide)) rfl (za_cons (zlc (own := [("things", 2)]) tg1_ok rfl sc_law_done_again.nd (zi_list (zv 0)) (blkOk_by (own := [("things", 2)]) (N := ["houses", "calls", "things", "plain", "end", "ref", "word", "value", "asker", "row", "answer"]) (sc := defScope s_law_done_again) (by decide +kernel)) (fun _ _ _ _ _ => pg_name (i := 2) sc_law_done_again.nd rfl (Or.inl rfl)) (fun _ _ _ _ _ => zts_nil) (fun _ _ _ _ _ => zcallTy call_list_of s_list rfl T.g_list (by decide +kernel) (za_cons (zv 2) (za_nil)))) (za_nil))) (za_nil))))
      (zb_cons (zs_for psd rfl (zi_list (zv 1)) (zg_tup rfl (zgs_cons (zg_name (i := 4) sc_law_done_again.nd rfl (Or.inl rfl)) (zgs_cons (zg_name (i := 5) sc_law_done_again.nd rfl (Or.inl rfl)) (zgs_cons (zg_name (i := 6) sc_law_done_again.nd rfl (Or.inl rfl)) (zgs_cons (zg_name (i := 7) sc_law_done_again.nd rfl (Or.inl rfl)) (zgs_cons (zg_name (i := 8) sc_law_done_again.nd rfl (Or.inl rfl)) (zgs_cons (zg_name (i := 9) sc_law_done_again.nd rfl (Or.inl rfl)) (zgs_cons (zg_name (i := 10) sc_law_done_again.nd rfl (Or.inl rfl)) (zgs_nil)))))))))
      (zb_one (zs_if (ztnot (ztv (zcall tkd G_law_alike (hr.mono (by decide)) rfl (za_cons (zmeth tkd T.c_Plain G_Plain_call (hr.mono (by decide)) (zv 3) (za_cons (zv 5) (za_cons (zv 6) (za_cons (zv 7) (za_cons (zv 8) (za_cons (zv 9) (za_nil))))))) (za_cons (zv 10) (za_nil)))))) (zb_one (zs_ret (znon))) (zb_nil))))
      (zb_one (zs_ret (zv 3))))
theorem ok_law_needed (T : Tx w K mg) (F : FunD K "_law_needed" "_law_needed" (defArgs s_law_needed) (defBody s_law_needed) (defScope s_law_needed) [] [] f fd) : FnOk P w K mg base (L2.CX P w) 3 f fd ["calls", "end"] (lSp K (fs_law_needed)) := by
  refine zdef F sc_law_needed (fun p vs h q => by first | exact congrArg List.length q | exact congrArg List.length q.1 | (obtain ⟨_, _⟩ := p; first | exact congrArg List.length q | exact congrArg List.length q.1) | (obtain ⟨_, _, _⟩ := p; first | exact congrArg List.length q | exact congrArg List.length q.1) | (obtain ⟨_, _, _, _⟩ := p; first | exact congrArg List.length q | exact congrArg List.length q.1) | (obtain ⟨_, _, _, _, _⟩ := p; first | exact congrArg List.length q | exact congrArg List.length q.1)) fun cdv A outer s H E hr => ⟨r_law_needed, ?_, fun p vs h Q X g q hp hx => rd_law_needed g q hp⟩
  exact zb_cons (zs_set (i := 2) sc_law_needed.nd rfl (Or.inl rfl) (zlst (za_nil)))
      (zb_cons (zs_for psd rfl (zi_list (zv 0)) (zg_name (i := 3) sc_law_needed.nd rfl (Or.inl rfl))
      (zb_one (zs_if (ztw (zwor (ztc (op_eqD hr.units) (s_eqD) (zix ix_seq s_ix (zv 3) (zint) (fun _ _ => rfl)) (zv 1) (nomark _)) (zw1 (ztw (zwand (ztc (op_eqD hr.units) (s_eqD) (zix ix_seq s_ix (zv 3) (zint) (fun _ _ => rfl)) (zv 1) (nomark _)) (zw1 (ztc (op_eqD hr.units) (s_eqD) (zslice sl_tupA s_slT (zv 3) (zo_some (zint)) (zo_some (zint))) (zslice sl_tupA s_slT (zv 1) (zo_some (zint)) (zo_none)) (nomark _)))))))) (zb_one (zs_expr (zbm PySem.F.plainAttrs_list PySem.F.slot_list_append PySem.F.type_list_append mt_append s_append (zv 2) (za_cons (zv 3) (za_nil))))) (zb_nil))))
      (zb_one (zs_ret (zv 2))))
theorem ok_law_tray (T : Tx w K mg) (F : FunD K "_law_tray" "_law_tray" (defArgs s_law_tray) (defBody s_law_tray) (defScope s_law_tray) [] [] f fd) : FnOk P w K mg base (L2.CX P w) 3 f fd ["script"] (lSp K (fs_law_tray)) := by
  refine zdef F sc_law_tray (fun p vs h q => by first | exact congrArg List.length q | exact congrArg List.length q.1 | (obtain ⟨_, _⟩ := p; first | exact congrArg List.length q | exact congrArg List.length q.1) | (obtain ⟨_, _, _⟩ := p; first | exact congrArg List.length q | exact congrArg List.length q.1) | (obtain ⟨_, _, _, _⟩ := p; first | exact congrArg List.length q | exact congrArg List.length q.1) | (obtain ⟨_, _, _, _, _⟩ := p; first | exact congrArg List.length q | exact congrArg List.length q.1)) fun cdv A outer s H E hr => ⟨r_law_tray, ?_, fun p vs h Q X g q hp hx => rd_law_tray g q hp⟩
  exact zb_cons (zs_set (i := 1) sc_law_tray.nd rfl (Or.inl rfl) (zint))
      (zb_cons (zs_set (i := 2) sc_law_tray.nd rfl (Or.inl rfl) (zlst (za_nil)))
      (zb_cons (zs_for psd rfl (zi_list (zv 0)) (zg_name (i := 3) sc_law_tray.nd rfl (Or.inl rfl))
      (zb_cons (zs_set (i := 1) sc_law_tray.nd rfl (Or.inl rfl) (zop op_mod s_mod (zop op_add s_add (zop op_mul s_mul (zv 1) (zint)) (zv 3)) (zop op_sub s_sub (zop op_pow s_pow (zint) (zint)) (zint))))
      (zb_cons (zs_set (i := 4) sc_law_tray.nd rfl (Or.inl rfl) (zcallB (call_max2 rfl) s_max2 rfl T.g_max (by decide +kernel) (za_cons (zv 3) (za_cons (zop op_sub s_sub (zint) (zv 3)) (za_nil)))))
      (zb_one (zs_if (ztc op_ge (s_ge) (zv 4) (zop op_pow s_pow (zint) (zint)) (nomark _)) (zb_one (zs_expr (zbm PySem.F.plainAttrs_list PySem.F.slot_list_append PySem.F.type_list_append mt_append s_append (zv 2) (za_cons (zop op_sub s_sub (zv 4) (zop op_pow s_pow (zint) (zint))) (za_nil))))) (zb_nil))))))
      (zb_one (zs_ret (zlst (za_cons (zv 2) (za_cons (zint) (za_cons (zv 1) (za_cons (zint) (za_nil))))))))))
theorem ok_law_sizes (T : Tx w K mg) (F : FunD K "_law_sizes" "_law_sizes" (defArgs s_law_sizes) (defBody s_law_sizes) (defScope s_law_sizes) [] [] f fd)
    (G_law_draw : Fn P w K mg base "_law_draw" 3 ["tray", "many"] [] (fs_law_draw)) : FnOk P w K mg base (L2.CX P w) 4 f fd ["tray"] (lSp K (fs_law_sizes)) := by
  refine zdef F sc_law_sizes (fun p vs h q => by first | exact congrArg List.length q | exact congrArg List.length q.1 | (obtain ⟨_, _⟩ := p; first | exact congrArg List.length q | exact congrArg List.length q.1) | (obtain ⟨_, _, _⟩ := p; first | exact congrArg List.length q | exact congrArg List.length q.1) | (obtain ⟨_, _, _, _⟩ := p; first | exact congrArg List.length q | exact congrArg List.length q.1) | (obtain ⟨_, _, _, _, _⟩ := p; first | exact congrArg List.length q | exact congrArg List.length q.1)) fun cdv A outer s H E hr => ⟨r_law_sizes, ?_, fun p vs h Q X g q hp hx => rd_law_sizes g q hp⟩
  exact zb_cons (zs_set (i := 1) sc_law_sizes.nd rfl (Or.inl rfl) (zcall tkd G_law_draw (hr.mono (by decide)) rfl (za_cons (zv 0) (za_cons (zint) (za_nil)))))
      (zb_cons (zs_set (i := 2) sc_law_sizes.nd rfl (Or.inr rfl) (zlst (za_cons (zint) (za_cons (zint) (za_nil)))))
      (zb_cons (zs_if (ztc op_eq (s_eqS) (zv 1) (zint) (nomark _)) (zb_one (zs_set (i := 2) sc_law_sizes.nd rfl (Or.inr rfl) (zlst (za_cons (zint) (za_cons (zint) (za_nil)))))) (zb_nil))
      (zb_cons (zs_set (i := 3) sc_law_sizes.nd rfl (Or.inl rfl) (zop op_add s_add (zint) (zcall tkd G_law_draw (hr.mono (by decide)) rfl (za_cons (zv 0) (za_cons (zix ix_seq s_ix (zv 2) (zint) (fun _ _ => rfl)) (za_nil))))))
      (zb_one (zs_ret (zlc (own := [("k", 4)]) tg1_ok rfl sc_law_sizes.nd (zi_r1 rfl T.g_range (zv 3)) (blkOk_by (own := [("k", 4)]) (N := ["tray", "wide", "bounds", "many", "k"]) (sc := defScope s_law_sizes) (by decide +kernel)) (fun _ _ _ _ _ => pg_name (i := 4) sc_law_sizes.nd rfl (Or.inl rfl)) (fun _ _ _ _ _ => zts_nil) (fun _ _ _ _ _ => zcall takes0 G_law_draw (hr.mono (by decide)) rfl (za_cons (zv 0) (za_cons (zix ix_seq s_ix (zv 2) (zint) (fun _ _ => rfl)) (za_nil))))))))))
theorem ok_law_ref (T : Tx w K mg) (F : FunD K "_law_ref" "_law_ref" (defArgs s_law_ref) (defBody s_law_ref) (defScope s_law_ref) [] [] f fd)
    (G_law_draw : Fn P w K mg base "_law_draw" 3 ["tray", "many"] [] (fs_law_draw)) : FnOk P w K mg base (L2.CX P w) 4 f fd ["tray", "sizes"] (lSp K (fs_law_ref)) := by
  refine zdef F sc_law_ref (fun p vs h q => by first | exact congrArg List.length q | exact congrArg List.length q.1 | (obtain ⟨_, _⟩ := p; first | exact congrArg List.length q | exact congrArg List.length q.1) | (obtain ⟨_, _, _⟩ := p; first | exact congrArg List.length q | exact congrArg List.length q.1) | (obtain ⟨_, _, _, _⟩ := p; first | exact congrArg List.length q | exact congrArg List.length q.1) | (obtain ⟨_, _, _, _, _⟩ := p; first | exact congrArg List.length q | exact congrArg List.length q.1)) fun cdv A outer s H E hr => ⟨r_law_ref, ?_, fun p vs h Q X g q hp hx => rd_law_ref g q hp⟩
  exact zb_cons (zs_set (i := 2) sc_law_ref.nd rfl (Or.inl rfl) (zcall tkd G_law_draw (hr.mono (by decide)) rfl (za_cons (zv 0) (za_cons (zcallB (cr_sum rfl) s_sum rfl T.g_sum (by decide +kernel) (za_cons (zv 1) (za_nil))) (za_nil)))))
      (zb_cons (zs_set (i := 3) sc_law_ref.nd rfl (Or.inl rfl) (zint))
      (zb_cons (zs_for psd rfl (zi_list (zv 1)) (zg_name (i := 4) sc_law_ref.nd rfl (Or.inl rfl))
      (zb_cons (zs_if (ztc op_lt (s_lt) (zv 2) (zv 4) (nomark _)) (zb_one (zs_ret (ztup (za_cons (zstr) (za_cons (zv 3) (za_cons (zv 2) (za_nil))))))) (zb_nil))
      (zb_cons (zs_set (i := 2) sc_law_ref.nd rfl (Or.inl rfl) (zop op_sub s_sub (zv 2) (zv 4)))
      (zb_one (zs_set (i := 3) sc_law_ref.nd rfl (Or.inl rfl) (zop op_add s_add (zv 3) (zint)))))))
      (zb_one (zs_ret (znon)))))
theorem ok_law_thing (T : Tx w K mg) (F : FunD K "_law_thing" "_law_thing" (defArgs s_law_thing) (defBody s_law_thing) (defScope s_law_thing) [] [] f fd)
    (G_law_any : Fn P w K mg base "_law_any" 4 ["tray"] [] (fs_law_any))
    (G_law_draw : Fn P w K mg base "_law_draw" 3 ["tray", "many"] [] (fs_law_draw))
    (G_law_ref : Fn P w K mg base "_law_ref" 4 ["tray", "sizes"] [] (fs_law_ref)) : FnOk P w K mg base (L2.CX P w) 5 f fd ["tray", "sizes"] (lSp K (fs_law_thing)) := by
  refine zdef F sc_law_thing (fun p vs h q => by first | exact congrArg List.length q | exact congrArg List.length q.1 | (obtain ⟨_, _⟩ := p; first | exact congrArg List.length q | exact congrArg List.length q.1) | (obtain ⟨_, _, _⟩ := p; first | exact congrArg List.length q | exact congrArg List.length q.1) | (obtain ⟨_, _, _, _⟩ := p; first | exact congrArg List.length q | exact congrArg List.length q.1) | (obtain ⟨_, _, _, _, _⟩ := p; first | exact congrArg List.length q | exact congrArg List.length q.1)) fun cdv A outer s H E hr => ⟨r_law_thing, ?_, fun p vs h Q X g q hp hx => rd_law_thing g q hp⟩
  exact zb_cons (zs_set (i := 2) sc_law_thing.nd rfl (Or.inl rfl) (zcall tkd G_law_draw (hr.mono (by decide)) rfl (za_cons (zv 0) (za_cons (zint) (za_nil)))))
      (zb_cons (zs_if (ztc op_lt (s_lt) (zv 2) (zint) (nomark _)) (zb_one (zs_ret (ztup (za_cons (zstr) (za_cons (zcall tkd G_law_any (hr.mono (by decide)) rfl (za_cons (zv 0) (za_nil))) (za_nil)))))) (zb_nil))
      (zb_cons (zs_if (ztc op_lt (s_lt) (zv 2) (zint) (nomark _)) (zb_cons (zs_set (i := 3) sc_law_thing.nd rfl (Or.inl rfl) (zcall tkd G_law_draw (hr.mono (by decide)) rfl (za_cons (zv 0) (za_cons (zix ix_seq s_ix (zlst (za_cons (zint) (za_cons (zint) (za_nil)))) (zop op_fdivW s_divW (zcall tkd G_law_draw (hr.mono (by decide)) rfl (za_cons (zv 0) (za_cons (zint) (za_nil)))) (zint)) (fun _ _ => rfl)) (za_nil)))))
      (zb_one (zs_ret (ztup (za_cons (zstr) (za_cons (zcallTy call_tuple_of s_tuple rfl T.g_tuple (by decide +kernel) (za_cons (zlc (own := [("k", 4)]) tg1_ok rfl sc_law_thing.nd (zi_r1 rfl T.g_range (zv 3)) (blkOk_by (own := [("k", 4)]) (N := ["tray", "sizes", "kind", "many", "k"]) (sc := defScope s_law_thing) (by decide +kernel)) (fun _ _ _ _ _ => pg_name (i := 4) sc_law_thing.nd rfl (Or.inl rfl)) (fun _ _ _ _ _ => zts_nil) (fun _ _ _ _ _ => zcall takes0 G_law_ref (hr.mono (by decide)) rfl (za_cons (zv 0) (za_cons (zv 1) (za_nil))))) (za_nil))) (za_nil))))))) (zb_nil))
      (zb_cons (zs_if (ztc op_lt (s_lt) (zv 2) (zint) (nomark _)) (zb_one (zs_ret (ztup (za_cons (zstr) (za_cons (zcall tkd G_law_ref (hr.mono (by decide)) rfl (za_cons (zv 0) (za_cons (zv 1) (za_nil)))) (za_nil)))))) (zb_nil))
      (zb_one (zs_ret (zix ix_seq s_ix (zlst (za_cons (ztup (za_cons (zstr) (za_nil))) (za_cons (ztup (za_cons (zstr) (za_nil))) (za_nil)))) (zop op_sub s_sub (zv 2) (zint)) (fun _ _ => rfl)))))))
theorem ok_law_world (T : Tx w K mg) (F : FunD K "_law_world" "_law_world" (defArgs s_law_world) (defBody s_law_world) (defScope s_law_world) [] [] f fd)
    (G_law_sizes : Fn P w K mg base "_law_sizes" 4 ["tray"] [] (fs_law_sizes))
    (G_law_thing : Fn P w K mg base "_law_thing" 5 ["tray", "sizes"] [] (fs_law_thing)) : FnOk P w K mg base (L2.CX P w) 6 f fd ["tray"] (lSp K (fs_law_world_v1)) := by
  refine zdef F sc_law_world (fun p vs h q => by first | exact congrArg List.length q | exact congrArg List.length q.1 | (obtain ⟨_, _⟩ := p; first | exact congrArg List.length q | exact congrArg List.length q.1) | (obtain ⟨_, _, _⟩ := p; first | exact congrArg List.length q | exact congrArg List.length q.1) | (obtain ⟨_, _, _, _⟩ := p; first | exact congrArg List.length q | exact congrArg List.length q.1) | (obtain ⟨_, _, _, _, _⟩ := p; first | exact congrArg List.length q | exact congrArg List.length q.1)) fun cdv A outer s H E hr => ⟨r_law_world_v1, ?_, fun p vs h Q X g q hp hx => rd_law_world_v1 g q hp⟩
  exact zb_cons (zs_set (i := 1) sc_law_world.nd rfl (Or.inr rfl) (zcall tkd G_law_sizes (hr.mono (by decide)) rfl (za_cons (zv 0) (za_nil))))
      (zb_cons (zs_set (i := 2) sc_law_world.nd rfl (Or.inl rfl) (zlst (za_nil)))
      (zb_cons (zs_for psd rfl (zi_list (zv 1)) (zg_name (i := 3) sc_law_world.nd rfl (Or.inl rfl))
      (zb_one (zs_expr (zbm PySem.F.plainAttrs_list PySem.F.slot_list_append PySem.F.type_list_append mt_append s_append (zv 2) (za_cons (zlc (own := [("k", 4)]) tg1_ok rfl sc_law_world.nd (zi_r1 rfl T.g_range (zv 3)) (blkOk_by (own := [("k", 4)]) (N := ["tray", "sizes", "houses", "size", "k"]) (sc := defScope s_law_world) (by decide +kernel)) (fun _ _ _ _ _ => pg_name (i := 4) sc_law_world.nd rfl (Or.inl rfl)) (fun _ _ _ _ _ => zts_nil) (fun _ _ _ _ _ => zcall takes0 G_law_thing (hr.mono (by decide)) rfl (za_cons (zv 0) (za_cons (zv 1) (za_nil))))) (za_nil))))))
      (zb_one (zs_ret (zv 2)))))
theorem ok_law (T : Tx w K mg) (F : FunD K "law" "law" (defArgs s_law) (defBody s_law) (defScope s_law) [] [] f fd)
    (G_Plain___init__ : Ck P w K mg base "Plain" (cl K "Plain") 5 ["self", "world"] [] (fs_Plain___init__ (cl K)))
    (G_Plain_thing : Mt P w K mg base (cl K "Plain") "thing" 3 ["self", "ref"] [] (fs_Plain_thing (cl K)))
    (G_World___init__ : Ck P w K mg base "World" (cl K "World") 5 ["self", "houses"] [] (fs_World___init__ (cl K)))
    (G_law_alike : Fn P w K mg base "_law_alike" 8 ["found", "due"] [] (fs_law_alike 5))
    (G_law_calls : Fn P w K mg base "_law_calls" 6 ["tray", "plain", "houses", "many"] [] (fs_law_calls (cl K)))
    (G_law_done_again : Fn P w K mg base "_law_done_again" 9 ["houses", "calls"] [] (fs_law_done_again (cl K)))
    (G_law_needed : Fn P w K mg base "_law_needed" 3 ["calls", "end"] [] (fs_law_needed))
    (G_law_tray : Fn P w K mg base "_law_tray" 3 ["script"] [] (fs_law_tray))
    (G_law_world : Fn P w K mg base "_law_world" 6 ["tray"] [] (fs_law_world_v1)) : FnOk P w K mg base CX0 10 f fd ["script"] (lSp K ⟨Unit, fun _ => preL, fun _ _ v _ => v = .bl true, fun _ _ _ _ _ => False⟩) := by
  refine zlaw F sc_law (fun vs h ⟨ns, q, _⟩ => congrArg List.length q) fun cdv A outer s H E hr => ⟨r_law_k10 (cl K) K, ?_, fun vs h Q q hp => rd_law_k10 q hp⟩
  exact zb_cons (zs_set (i := 1) sc_law.nd rfl (Or.inl rfl) (zcall tkl G_law_tray (hr.mono (by decide)) rfl (za_cons (zv 0) (za_nil))))
      (zb_cons (zs_set (i := 2) sc_law.nd rfl (Or.inl rfl) (zcall tkl G_law_world (hr.mono (by decide)) rfl (za_cons (zv 1) (za_nil))))
      (zb_cons (zs_if (ztc op_lt (s_lt) (zcallB call_len s_len rfl T.g_len PySem.boot_len (za_cons (zix ix_seq s_ix (zv 2) (zint) (fun _ _ => rfl)) (za_nil))) (zint) (nomark _)) (zb_one (zs_expr (zbm PySem.F.plainAttrs_list PySem.F.slot_list_append PySem.F.type_list_append mt_append s_append (zix ix_seq s_ix (zv 2) (zint) (fun _ _ => rfl)) (za_cons (ztup (za_cons (zstr) (za_nil))) (za_nil))))) (zb_nil))
      (zb_ghost (zb_cons (zs_set (i := 4) sc_law.nd rfl (Or.inl rfl) (zmake tkl G_Plain___init__ (hr.mono (by decide)) rfl (za_cons (zmake tkl G_World___init__ (hr.mono (by decide)) rfl (za_cons (zlc (own := [("things", 3)]) tg1_ok rfl sc_law.nd (zi_list (zv 2)) (blkOk_by (own := [("things", 3)]) (N := ["script", "tray", "houses", "things", "plain", "calls", "finals", "one", "end", "again", "rest"]) (sc := defScope s_law) (by decide +kernel)) (fun _ _ _ _ _ => pg_name (i := 3) sc_law.nd rfl (Or.inl rfl)) (fun _ _ _ _ _ => zts_nil) (fun _ _ _ _ _ => zcallTy call_list_of s_list rfl T.g_list (by decide +kernel) (za_cons (zv 3) (za_nil)))) (za_nil))) (za_nil))))
      (zb_cons (zs_set (i := 5) sc_law.nd rfl (Or.inl rfl) (zcall tkl G_law_calls (hr.mono (by decide)) rfl (za_cons (zv 1) (za_cons (zv 4) (za_cons (zv 2) (za_cons (zop op_add s_add (zint) (zcallB call_len s_len rfl T.g_len PySem.boot_len (za_cons (zslice sl_list s_slL (zv 0) (zo_none) (zo_some (zint))) (za_nil)))) (za_nil)))))))
      (zb_cons (zs_set (i := 6) sc_law.nd rfl (Or.inl rfl) (zlst (za_nil)))
      (zb_cons (zs_for psl rfl (zi_list (zv 5)) (zg_name (i := 7) sc_law.nd rfl (Or.inl rfl))
      (zb_one (zs_if (ztw (zwand (ztnotN (zix ix_seq s_ix (zv 7) (zint) (fun _ _ => rfl))) (zw1 (ztc (op_notInD (hu65 hr)) (s_notInD) (zix ix_seq s_ix (zv 7) (zint) (fun _ _ => rfl)) (zv 6) rfl)))) (zb_one (zs_expr (zbm PySem.F.plainAttrs_list PySem.F.slot_list_append PySem.F.type_list_append mt_append s_append (zv 6) (za_cons (zix ix_seq s_ix (zv 7) (zint) (fun _ _ => rfl)) (za_nil))))) (zb_nil))))
      (zb_cons (zs_for psl rfl (zi_list (zv 6)) (zg_name (i := 8) sc_law.nd rfl (Or.inr rfl))
      (zb_cons (zs_set (i := 9) sc_law.nd rfl (Or.inl rfl) (zcall tkl G_law_done_again (hr.mono (by decide)) rfl (za_cons (zv 2) (za_cons (zcall tkl G_law_needed (hr.mono (by decide)) rfl (za_cons (zv 5) (za_cons (zv 8) (za_nil)))) (za_nil)))))
      (zb_cons (zs_if (ztw (zwor (ztisN (zv 9)) (zw1 (ztnot (ztv (zcall tkl G_law_alike (hr.mono (by decide)) rfl (za_cons (zmeth tkl T.c_Plain G_Plain_thing (hr.mono (by decide)) (zv 9) (za_cons (zv 8) (za_nil))) (za_cons (zmeth tkl T.c_Plain G_Plain_thing (hr.mono (by decide)) (zv 4) (za_cons (zv 8) (za_nil))) (za_nil))))))))) (zb_one (zs_ret (zbl))) (zb_nil))
      (zb_cons (zs_setLc (i := 10) (own := [("one", 7)]) tg1_ok rfl sc_law.nd rfl rfl (sw_true rfl rfl rfl (by decide +kernel)) (zi_list (zv 5)) (blkOk_by (own := [("one", 7)]) (N := ["script", "tray", "houses", "things", "plain", "calls", "finals", "one", "end", "again", "rest"]) (sc := defScope s_law) (by decide +kernel)) (fun _ _ _ _ _ => pg_name (i := 7) sc_law.nd rfl (Or.inl rfl)) (fun _ _ _ _ _ => zts_one (ztc (op_neD hr.units) (s_neD) (zix ix_seq s_ix (zv 7) (zint) (fun _ _ => rfl)) (zv 8) (nomark _))) (fun _ _ _ _ _ => zv 7))
      (zb_one (zs_if (ztw (zwand (ztc op_ne (s_neS) (zix ix_seq s_ix (zmeth tkl T.c_Plain G_Plain_thing (hr.mono (by decide)) (zv 4) (za_cons (zv 8) (za_nil))) (zint) (fun _ _ => rfl)) (zstr) (nomark _)) (zw1 (ztisN (zcall tkl G_law_done_again (hr.mono (by decide)) rfl (za_cons (zv 2) (za_cons (zv 10) (za_nil)))))))) (zb_one (zs_ret (zbl))) (zb_nil)))))))
      (zb_one (zs_ret (zbl)))))))))))
end
theorem facts {P : Program} {w : World} (hww : w = Wrl.w) {K : PySem.W.Frag} {h : Heap} {mg : Str → Option Value} {f : Addr} (X : K.In h) (G : h.Ns mainGlobals mg) (hfa : mg ("law" : Str) = some (.ref f)) (ce : SaysE fa fn tb xs fb w K) :
    ∃ fd : FuncData, (∀ (s : Shared) (v : Value), BindsTo s fd ⟨[v], []⟩ [("script", v)]) ∧ ∀ base : Heap, FnOk P w K mg base CX0 10 f fd ["script"] (lSp K ⟨Unit, fun _ => preL, fun _ _ v _ => v = .bl true, fun _ _ _ _ _ => False⟩) := by
  have c := ce.d
  have T : Tx w K mg := ⟨He.cls_ok (c.fact 0), He.cls_ok (c.fact 1), He.free_ok X G (c.fact 2), He.free_ok X G (c.fact 3), He.free_ok X G (c.fact 4), He.free_ok X G (c.fact 5), He.free_ok X G (c.fact 6), He.free_ok X G (c.fact 7), He.free_ok X G (c.fact 8), He.free_ok X G (c.fact 9), He.free_ok X G (c.fact 10), He.free_ok X G (c.fact 11), He.free_ok X G (c.fact 12), hww, He.int_ok X G (c.fact 13), He.int_ok X G (c.fact 14), He.int_ok X G (c.fact 15), He.noat_ok (c.fact 16), He.noat_ok (c.fact 17), ce.tab (t := ("VERBS", [("box", ["get", "put", "add"]), ("shelf", ["take"]), ("maker", ["make"])])) 0 (He.glo_ok X G (c.fact 18))⟩
  obtain ⟨fdl, Fl⟩ := c.def_ 25 (d := d_law) rfl
  have ef := hfa.symm.trans (He.glo_ok X G (c.fact 50))
  cases ef
  have b := FunD.bindsA (ps := ["script"]) Fl fun _ _ _ _ _ _ us hl => match us, hl with | [_], _ => rfl
  refine ⟨fdl, fun s v => b s [v] rfl, fun base => ?_⟩
  obtain ⟨fd_World___len__, FD_World___len__⟩ := c.def_ 0 (d := d_World___len__) rfl
  obtain ⟨fd_World_house, FD_World_house⟩ := c.def_ 1 (d := d_World_house) rfl
  obtain ⟨fd_Plain___init__, FD_Plain___init__⟩ := c.def_ 2 (d := d_Plain___init__) rfl
  obtain ⟨fd_Plain_thing, FD_Plain_thing⟩ := c.def_ 3 (d := d_Plain_thing) rfl
  obtain ⟨fd_is_there, FD_is_there⟩ := c.def_ 4 (d := d_is_there) rfl
  obtain ⟨fd_refs_of, FD_refs_of⟩ := c.def_ 5 (d := d_refs_of) rfl
  obtain ⟨fd_is_good, FD_is_good⟩ := c.def_ 6 (d := d_is_good) rfl
  obtain ⟨fd_World___init__, FD_World___init__⟩ := c.def_ 7 (d := d_World___init__) rfl
  obtain ⟨fd_law_alike, FD_law_alike⟩ := c.def_ 8 (d := d_law_alike) rfl
  obtain ⟨fd_Plain_end, FD_Plain_end⟩ := c.def_ 9 (d := d_Plain_end) rfl
  obtain ⟨fd_done_by_box, FD_done_by_box⟩ := c.def_ 10 (d := d_done_by_box) rfl
  obtain ⟨fd_done, FD_done⟩ := c.def_ 11 (d := d_done) rfl
  obtain ⟨fd_Plain_call, FD_Plain_call⟩ := c.def_ 12 (d := d_Plain_call) rfl
  obtain ⟨fd_law_draw, FD_law_draw⟩ := c.def_ 13 (d := d_law_draw) rfl
  obtain ⟨fd_law_any, FD_law_any⟩ := c.def_ 14 (d := d_law_any) rfl
  obtain ⟨fd_law_value, FD_law_value⟩ := c.def_ 15 (d := d_law_value) rfl
  obtain ⟨fd_law_word, FD_law_word⟩ := c.def_ 16 (d := d_law_word) rfl
  obtain ⟨fd_law_calls, FD_law_calls⟩ := c.def_ 17 (d := d_law_calls) rfl
  obtain ⟨fd_law_done_again, FD_law_done_again⟩ := c.def_ 18 (d := d_law_done_again) rfl
  obtain ⟨fd_law_needed, FD_law_needed⟩ := c.def_ 19 (d := d_law_needed) rfl
  obtain ⟨fd_law_tray, FD_law_tray⟩ := c.def_ 20 (d := d_law_tray) rfl
  obtain ⟨fd_law_sizes, FD_law_sizes⟩ := c.def_ 21 (d := d_law_sizes) rfl
  obtain ⟨fd_law_ref, FD_law_ref⟩ := c.def_ 22 (d := d_law_ref) rfl
  obtain ⟨fd_law_thing, FD_law_thing⟩ := c.def_ 23 (d := d_law_thing) rfl
  obtain ⟨fd_law_world, FD_law_world⟩ := c.def_ 24 (d := d_law_world) rfl
  have FD_law := Fl
  obtain ⟨fd_SentError___init__, FD_SentError___init__⟩ := c.def_ 26 (d := d_SentError___init__) rfl
  have oe_SentError := ok_what (P := P) (w := w) (mg := mg) (base := base) FD_SentError___init__ sc_SentError___init__ rfl rfl
  have E_NoHouse : Ex P w K mg base "NoHouse" (cl K "NoHouse") := ex_of (y := "SentError") oe_SentError (He.glo_ok X G (c.fact 19)) (ce.ex 0) (FunD.bindsN FD_SentError___init__ fun _ _ _ _ _ _ us hl => match us, hl with | [_, _], _ => rfl)
  have E_NoThing : Ex P w K mg base "NoThing" (cl K "NoThing") := ex_of (y := "SentError") oe_SentError (He.glo_ok X G (c.fact 20)) (ce.ex 1) (FunD.bindsN FD_SentError___init__ fun _ _ _ _ _ _ us hl => match us, hl with | [_, _], _ => rfl)
  have E_NoWorld : Ex P w K mg base "NoWorld" (cl K "NoWorld") := ex_of (y := "SentError") oe_SentError (He.glo_ok X G (c.fact 21)) (ce.ex 2) (FunD.bindsN FD_SentError___init__ fun _ _ _ _ _ _ us hl => match us, hl with | [_, _], _ => rfl)
  have E_Twice : Ex P w K mg base "Twice" (cl K "Twice") := ex_of (y := "SentError") oe_SentError (He.glo_ok X G (c.fact 22)) (ce.ex 3) (FunD.bindsN FD_SentError___init__ fun _ _ _ _ _ _ us hl => match us, hl with | [_, _], _ => rfl)
  have o_World___len__ := ok_World___len__ (P := P) (w := w) (mg := mg) (base := base) T FD_World___len__
  have o_World_house := ok_World_house (P := P) (w := w) (mg := mg) (base := base) T FD_World_house E_NoHouse
  have G_World___len__ : Mt P w K mg base (cl K "World") "__len__" 3 ["self"] [] (fs_World___len__ (cl K)) := ⟨⟨_, _, [], [], o_World___len__, He.meth_ok (c.fact 23), .nil, fun _ => rels_nil.mpr rfl, (FunD.bindsN FD_World___len__ fun _ _ _ _ _ _ us hl => match us, hl with | [_], _ => rfl)⟩⟩
  have G_World_house : Mt P w K mg base (cl K "World") "house" 3 ["self", "number"] [] (fs_World_house (cl K)) := ⟨⟨_, _, [], [], o_World_house, He.meth_ok (c.fact 24), .nil, fun _ => rels_nil.mpr rfl, (FunD.bindsN FD_World_house fun _ _ _ _ _ _ us hl => match us, hl with | [_, _], _ => rfl)⟩⟩
  have o_Plain___init__ := ok_Plain___init__ (P := P) (w := w) (mg := mg) (base := base) T FD_Plain___init__ G_World___len__ G_World_house
  have o_Plain_thing := ok_Plain_thing (P := P) (w := w) (mg := mg) (base := base) T FD_Plain_thing E_NoThing
  have o_is_there := ok_is_there (P := P) (w := w) (mg := mg) (base := base) T FD_is_there
  have o_refs_of := ok_refs_of (P := P) (w := w) (mg := mg) (base := base) T FD_refs_of
  have G_is_there : Fn P w K mg base "is_there" 3 ["houses", "ref"] [] (fs_is_there) := ⟨⟨_, _, [], [], o_is_there, He.glo_ok X G (c.fact 25), FD_is_there.kp, .nil, fun _ => rels_nil.mpr rfl, (FunD.bindsN FD_is_there fun _ _ _ _ _ _ us hl => match us, hl with | [_, _], _ => rfl)⟩⟩
  have G_refs_of : Fn P w K mg base "refs_of" 3 ["thing"] [] (fs_refs_of) := ⟨⟨_, _, [], [], o_refs_of, He.glo_ok X G (c.fact 26), FD_refs_of.kp, .nil, fun _ => rels_nil.mpr rfl, (FunD.bindsN FD_refs_of fun _ _ _ _ _ _ us hl => match us, hl with | [_], _ => rfl)⟩⟩
  have o_is_good := ok_is_good (P := P) (w := w) (mg := mg) (base := base) T FD_is_good G_is_there G_refs_of
  have G_is_good : Fn P w K mg base "is_good" 4 ["houses", "things"] [] (fs_is_good) := ⟨⟨_, _, [], [], o_is_good, He.glo_ok X G (c.fact 27), FD_is_good.kp, .nil, fun _ => rels_nil.mpr rfl, (FunD.bindsN FD_is_good fun _ _ _ _ _ _ us hl => match us, hl with | [_, _], _ => rfl)⟩⟩
  have o_World___init__ := ok_World___init__ (P := P) (w := w) (mg := mg) (base := base) T FD_World___init__ G_is_good E_NoWorld
  have o_law_alike := ok_law_alike (P := P) (w := w) (mg := mg) (base := base) T FD_law_alike (He.glo_ok X G (c.fact 28)) 5
  have G_Plain_thing : Mt P w K mg base (cl K "Plain") "thing" 3 ["self", "ref"] [] (fs_Plain_thing (cl K)) := ⟨⟨_, _, [], [], o_Plain_thing, He.meth_ok (c.fact 29), .nil, fun _ => rels_nil.mpr rfl, (FunD.bindsN FD_Plain_thing fun _ _ _ _ _ _ us hl => match us, hl with | [_, _], _ => rfl)⟩⟩
  have o_Plain_end := ok_Plain_end (P := P) (w := w) (mg := mg) (base := base) T FD_Plain_end G_Plain_thing
  have o_done_by_box := ok_done_by_box (P := P) (w := w) (mg := mg) (base := base) T FD_done_by_box
  have G_done_by_box : Fn P w K mg base "done_by_box" 3 ["worth", "word", "value"] [] (fs_done_by_box) := ⟨⟨_, _, [], [], o_done_by_box, He.glo_ok X G (c.fact 30), FD_done_by_box.kp, .nil, fun _ => rels_nil.mpr rfl, (FunD.bindsN FD_done_by_box fun _ _ _ _ _ _ us hl => match us, hl with | [_, _, _], _ => rfl)⟩⟩
  have o_done := ok_done (P := P) (w := w) (mg := mg) (base := base) T FD_done G_done_by_box
  have G_Plain_end : Mt P w K mg base (cl K "Plain") "end" 4 ["self", "ref"] [] (fs_Plain_end (cl K)) := ⟨⟨_, _, [], [], o_Plain_end, He.meth_ok (c.fact 31), .nil, fun _ => rels_nil.mpr rfl, (FunD.bindsN FD_Plain_end fun _ _ _ _ _ _ us hl => match us, hl with | [_, _], _ => rfl)⟩⟩
  have G_done : Fn P w K mg base "done" 4 ["thing", "word", "value", "made"] [] (fs_done) := by
    obtain ⟨ds, hv, hb⟩ := (FunD.binds1 (ps := ["thing", "word", "value", "made"]) FD_done 4 1 (List.cons_ne_nil _ _) rfl fun _ _ _ _ _ _ _ us its l1 l2 => match us, l1, its, l2 with | [_, _, _, _], _, [_], _ => ⟨_, rfl, rfl⟩)
    exact ⟨⟨_, _, [], ds, o_done, He.glo_ok X G (c.fact 32), FD_done.kp, hv, fun _ => rels_nil.mpr rfl, hb⟩⟩
  have o_Plain_call := ok_Plain_call (P := P) (w := w) (mg := mg) (base := base) T FD_Plain_call G_Plain_end G_done E_Twice
  have o_law_draw := ok_law_draw (P := P) (w := w) (mg := mg) (base := base) T FD_law_draw
  have G_law_draw : Fn P w K mg base "_law_draw" 3 ["tray", "many"] [] (fs_law_draw) := ⟨⟨_, _, [], [], o_law_draw, He.glo_ok X G (c.fact 33), FD_law_draw.kp, .nil, fun _ => rels_nil.mpr rfl, (FunD.bindsN FD_law_draw fun _ _ _ _ _ _ us hl => match us, hl with | [_, _], _ => rfl)⟩⟩
  have o_law_any := ok_law_any (P := P) (w := w) (mg := mg) (base := base) T FD_law_any G_law_draw
  have G_law_any : Fn P w K mg base "_law_any" 4 ["tray"] [] (fs_law_any) := ⟨⟨_, _, [], [], o_law_any, He.glo_ok X G (c.fact 34), FD_law_any.kp, .nil, fun _ => rels_nil.mpr rfl, (FunD.bindsN FD_law_any fun _ _ _ _ _ _ us hl => match us, hl with | [_], _ => rfl)⟩⟩
  have o_law_value := ok_law_value (P := P) (w := w) (mg := mg) (base := base) T FD_law_value G_law_any G_law_draw
  have o_law_word := ok_law_word (P := P) (w := w) (mg := mg) (base := base) T FD_law_word G_law_draw
  have G_Plain_call : Mt P w K mg base (cl K "Plain") "call" 5 ["self", "ref", "word", "value", "asker", "row"] [] (fs_Plain_call (cl K)) := ⟨⟨_, _, [], [], o_Plain_call, He.meth_ok (c.fact 35), .nil, fun _ => rels_nil.mpr rfl, (FunD.bindsN FD_Plain_call fun _ _ _ _ _ _ us hl => match us, hl with | [_, _, _, _, _, _], _ => rfl)⟩⟩
  have G_law_value : Fn P w K mg base "_law_value" 5 ["tray", "word", "refs"] [] (fs_law_value_v1l) := ⟨⟨_, _, [], [], o_law_value, He.glo_ok X G (c.fact 36), FD_law_value.kp, .nil, fun _ => rels_nil.mpr rfl, (FunD.bindsN FD_law_value fun _ _ _ _ _ _ us hl => match us, hl with | [_, _, _], _ => rfl)⟩⟩
  have G_law_word : Fn P w K mg base "_law_word" 4 ["tray", "thing"] [] (fs_law_word) := ⟨⟨_, _, [], [], o_law_word, He.glo_ok X G (c.fact 37), FD_law_word.kp, .nil, fun _ => rels_nil.mpr rfl, (FunD.bindsN FD_law_word fun _ _ _ _ _ _ us hl => match us, hl with | [_, _], _ => rfl)⟩⟩
  have o_law_calls := ok_law_calls (P := P) (w := w) (mg := mg) (base := base) T FD_law_calls G_Plain_call G_Plain_end G_Plain_thing G_law_draw G_law_value G_law_word
  have G_Plain___init__ : Ck P w K mg base "Plain" (cl K "Plain") 5 ["self", "world"] [] (fs_Plain___init__ (cl K)) := ⟨⟨_, _, [], [], o_Plain___init__, He.glo_ok X G (c.fact 38), He.mkr_ok (c.fact 39), .nil, fun _ => rels_nil.mpr rfl, (FunD.bindsN FD_Plain___init__ fun _ _ _ _ _ _ us hl => match us, hl with | [_, _], _ => rfl)⟩⟩
  have G_World___init__ : Ck P w K mg base "World" (cl K "World") 5 ["self", "houses"] [] (fs_World___init__ (cl K)) := ⟨⟨_, _, [], [], o_World___init__, He.glo_ok X G (c.fact 40), He.mkr_ok (c.fact 41), .nil, fun _ => rels_nil.mpr rfl, (FunD.bindsN FD_World___init__ fun _ _ _ _ _ _ us hl => match us, hl with | [_, _], _ => rfl)⟩⟩
  have G_law_alike : Fn P w K mg base "_law_alike" 8 ["found", "due"] [] (fs_law_alike 5) := ⟨⟨_, _, [], [], o_law_alike, He.glo_ok X G (c.fact 28), FD_law_alike.kp, .nil, fun _ => rels_nil.mpr rfl, (FunD.bindsN FD_law_alike fun _ _ _ _ _ _ us hl => match us, hl with | [_, _], _ => rfl)⟩⟩
  have o_law_done_again := ok_law_done_again (P := P) (w := w) (mg := mg) (base := base) T FD_law_done_again G_Plain___init__ G_Plain_call G_World___init__ G_law_alike
  have o_law_needed := ok_law_needed (P := P) (w := w) (mg := mg) (base := base) T FD_law_needed
  have o_law_tray := ok_law_tray (P := P) (w := w) (mg := mg) (base := base) T FD_law_tray
  have o_law_sizes := ok_law_sizes (P := P) (w := w) (mg := mg) (base := base) T FD_law_sizes G_law_draw
  have o_law_ref := ok_law_ref (P := P) (w := w) (mg := mg) (base := base) T FD_law_ref G_law_draw
  have G_law_ref : Fn P w K mg base "_law_ref" 4 ["tray", "sizes"] [] (fs_law_ref) := ⟨⟨_, _, [], [], o_law_ref, He.glo_ok X G (c.fact 42), FD_law_ref.kp, .nil, fun _ => rels_nil.mpr rfl, (FunD.bindsN FD_law_ref fun _ _ _ _ _ _ us hl => match us, hl with | [_, _], _ => rfl)⟩⟩
  have o_law_thing := ok_law_thing (P := P) (w := w) (mg := mg) (base := base) T FD_law_thing G_law_any G_law_draw G_law_ref
  have G_law_sizes : Fn P w K mg base "_law_sizes" 4 ["tray"] [] (fs_law_sizes) := ⟨⟨_, _, [], [], o_law_sizes, He.glo_ok X G (c.fact 43), FD_law_sizes.kp, .nil, fun _ => rels_nil.mpr rfl, (FunD.bindsN FD_law_sizes fun _ _ _ _ _ _ us hl => match us, hl with | [_], _ => rfl)⟩⟩
  have G_law_thing : Fn P w K mg base "_law_thing" 5 ["tray", "sizes"] [] (fs_law_thing) := ⟨⟨_, _, [], [], o_law_thing, He.glo_ok X G (c.fact 44), FD_law_thing.kp, .nil, fun _ => rels_nil.mpr rfl, (FunD.bindsN FD_law_thing fun _ _ _ _ _ _ us hl => match us, hl with | [_, _], _ => rfl)⟩⟩
  have o_law_world := ok_law_world (P := P) (w := w) (mg := mg) (base := base) T FD_law_world G_law_sizes G_law_thing
  have G_law_calls : Fn P w K mg base "_law_calls" 6 ["tray", "plain", "houses", "many"] [] (fs_law_calls (cl K)) := ⟨⟨_, _, [], [], o_law_calls, He.glo_ok X G (c.fact 45), FD_law_calls.kp, .nil, fun _ => rels_nil.mpr rfl, (FunD.bindsN FD_law_calls fun _ _ _ _ _ _ us hl => match us, hl with | [_, _, _, _], _ => rfl)⟩⟩
  have G_law_done_again : Fn P w K mg base "_law_done_again" 9 ["houses", "calls"] [] (fs_law_done_again (cl K)) := ⟨⟨_, _, [], [], o_law_done_again, He.glo_ok X G (c.fact 46), FD_law_done_again.kp, .nil, fun _ => rels_nil.mpr rfl, (FunD.bindsN FD_law_done_again fun _ _ _ _ _ _ us hl => match us, hl with | [_, _], _ => rfl)⟩⟩
  have G_law_needed : Fn P w K mg base "_law_needed" 3 ["calls", "end"] [] (fs_law_needed) := ⟨⟨_, _, [], [], o_law_needed, He.glo_ok X G (c.fact 47), FD_law_needed.kp, .nil, fun _ => rels_nil.mpr rfl, (FunD.bindsN FD_law_needed fun _ _ _ _ _ _ us hl => match us, hl with | [_, _], _ => rfl)⟩⟩
  have G_law_tray : Fn P w K mg base "_law_tray" 3 ["script"] [] (fs_law_tray) := ⟨⟨_, _, [], [], o_law_tray, He.glo_ok X G (c.fact 48), FD_law_tray.kp, .nil, fun _ => rels_nil.mpr rfl, (FunD.bindsN FD_law_tray fun _ _ _ _ _ _ us hl => match us, hl with | [_], _ => rfl)⟩⟩
  have G_law_world : Fn P w K mg base "_law_world" 6 ["tray"] [] (fs_law_world_v1) := ⟨⟨_, _, [], [], o_law_world, He.glo_ok X G (c.fact 49), FD_law_world.kp, .nil, fun _ => rels_nil.mpr rfl, (FunD.bindsN FD_law_world fun _ _ _ _ _ _ us hl => match us, hl with | [_], _ => rfl)⟩⟩
  exact ok_law T FD_law G_Plain___init__ G_Plain_thing G_World___init__ G_law_alike G_law_calls G_law_done_again G_law_needed G_law_tray G_law_world
end K10
end Z
theorem PySem.Challenge.cw_sentahead_k10_whole_each_by_its_own_call_holds : PySem.Challenge.rw_sentahead_k10_whole_each_by_its_own_call.Holds := by
  exact Z.K10.pre (by intro _ w hww K h mg f X G hfa ce; exact Z.K10.facts hww X G hfa ce)

