import PyProof.Rows.All
import HandS.ForMost
import HandS.ForExc
import HandS.ExcOwn
import HandS.IsInst
import HandS.Wide
import HandS.SortInts
import HandS.Flow
import HandS.StrMore
import HandS.TryOnly
import HandS.WordsExc
import HandS.EndBits
import HandS.Codes
import Wide.All
import OpenK.AllK
import Wide.FinOn
import PySem.Challenge.RW_beatsbounded_k86_words_and_ranges
set_option Elab.async false
set_option linter.all false
set_option maxRecDepth 100000
/-! DS1: pure data trees with ownership flags; how they lie in the abstract heap. -/
namespace DS
open PySem PySem.Spec PyProof.Rows L2

/-- built-in classes as values -/
inductive Ty | int | bool | str | list | tuple | dict
  deriving DecidableEq
def Ty.name : Ty → String
  | .int => "int" | .bool => "bool" | .str => "str" | .list => "list" | .tuple => "tuple" | .dict => "dict"
/-- a tree of data; o: the node is owned (may be changed in place) -/
inductive D where
  | non | bl (b : Bool) | int (i : Int) | str (x : Str) | ty (n : Ty) | ref (a : Addr)
  | lst (o : Bool) (ds : List D)
  | tup (o : Bool) (ds : List D)
  | dct (o : Bool) (ks : List Key) (ds : List D)
  | ins (o : Bool) (C : Addr) (ns : List Str) (ds : List D)

def rootFz : D → Bool
  | .lst o _ => !o
  | .tup o _ => !o
  | .dct o _ _ => !o
  | .ins o _ _ _ => !o
  | _ => true
/-- atoms: nothing in the heap -/
def atom : D → Bool
  | .lst _ _ => false
  | .tup _ _ => false
  | .dct _ _ _ => false
  | .ins _ _ _ _ => false
  | _ => true

mutual
def frz : D → D
  | .lst _ ds => .lst false (frzL ds)
  | .tup _ ds => .tup false (frzL ds)
  | .dct _ ks ds => .dct false ks (frzL ds)
  | .ins _ C ns ds => .ins false C ns (frzL ds)
  | .non => .non
  | .bl b => .bl b
  | .int i => .int i
  | .str x => .str x
  | .ty n => .ty n
  | .ref a => .ref a
def frzL : List D → List D
  | [] => []
  | d :: ds => frz d :: frzL ds
end

/-- a dict at a: tracked, locked -/
def DcR (H : Hp) (a : Addr) (kvs : List (Key × V)) : Prop := Rd H a (.dK kvs)

mutual
/-- v is the frozen tree d, in the heap F -/
def Rep (K : PySem.W.Frag) (F : Hp) : V → D → Prop
  | v, .non => v = .non
  | v, .bl b => v = .bl b
  | v, .int i => v = .int i
  | v, .str x => v = .str x
  | v, .ty n => v = .ty n.name
  | v, .ref a => v = .ref a
  | v, .lst o ds => o = false ∧ ∃ a vs, v = .ref a ∧ SqL K F a vs ∧ RepL K F vs ds
  | v, .tup o ds => o = false ∧ ∃ a vs, v = .ref a ∧ SqT K F a vs ∧ RepL K F vs ds
  | v, .dct o ks ds => o = false ∧ ∃ a vs, v = .ref a ∧ DcR F a (ks.zip vs) ∧ ks.length = vs.length ∧ RepL K F vs ds
  | v, .ins o C ns ds => o = false ∧ ∃ a dx vs, v = .ref a ∧ F a = some (.ins C dx (ns.zip vs)) ∧ ns.length = vs.length ∧ RepL K F vs ds
def RepL (K : PySem.W.Frag) (F : Hp) : List V → List D → Prop
  | vs, [] => vs = []
  | vs, d :: ds => ∃ v r, vs = v :: r ∧ Rep K F v d ∧ RepL K F r ds
end

mutual
/-- v is the tree d in the heap H, whose owned objects stand at B; what is frozen of it stands in F -/
def Own (K : PySem.W.Frag) (F H : Hp) : V → D → List Addr → Prop
  | v, .lst true ds, B => ∃ a vs B', v = .ref a ∧ B = a :: B' ∧ H a = some (.lst vs) ∧ OwnL K F H vs ds B'
  | v, .tup true ds, B => ∃ a vs B', v = .ref a ∧ B = a :: B' ∧ H a = some (.tup vs) ∧ OwnL K F H vs ds B'
  | v, .dct true ks ds, B => ∃ a vs B', v = .ref a ∧ B = a :: B' ∧ H a = some (.dK (ks.zip vs)) ∧ ks.length = vs.length ∧ OwnL K F H vs ds B'
  | v, .ins true C ns ds, B => ∃ a dx vs B', v = .ref a ∧ B = a :: dx :: B' ∧ H a = some (.ins C dx (ns.zip vs)) ∧ H dx = some (.own a) ∧ ns.length = vs.length ∧ OwnL K F H vs ds B'
  | v, .lst false ds, B => B = [] ∧ Rep K F v (.lst false ds)
  | v, .tup false ds, B => B = [] ∧ Rep K F v (.tup false ds)
  | v, .dct false ks ds, B => B = [] ∧ Rep K F v (.dct false ks ds)
  | v, .ins false C ns ds, B => B = [] ∧ Rep K F v (.ins false C ns ds)
  | v, .non, B => B = [] ∧ v = .non
  | v, .bl b, B => B = [] ∧ v = .bl b
  | v, .int i, B => B = [] ∧ v = .int i
  | v, .str x, B => B = [] ∧ v = .str x
  | v, .ty n, B => B = [] ∧ v = .ty n.name
  | v, .ref a, B => B = [] ∧ v = .ref a
def OwnL (K : PySem.W.Frag) (F H : Hp) : List V → List D → List Addr → Prop
  | vs, [], B => vs = [] ∧ B = []
  | vs, d :: ds, B => ∃ v r B1 B2, vs = v :: r ∧ B = B1 ++ B2 ∧ Own K F H v d B1 ∧ OwnL K F H r ds B2
end

section
variable {K : PySem.W.Frag} {F F' H H' : Hp} {v : V} {d : D} {B : List Addr}

theorem sqL_same {a : Addr} {xs : List V} (h : SqL K F a xs) (e : Same F F') : SqL K F' a xs := e.seq h
theorem sqT_same {a : Addr} {xs : List V} (h : SqT K F a xs) (e : Same F F') : SqT K F' a xs := by
  rcases h with (h | ⟨o, h⟩) | h
  · exact .inl (.inl (e _ _ h))
  · exact .inl (.inr ⟨o, e _ _ h⟩)
  · exact .inr h
theorem rd_same {a : Addr} {u : HO} (h : Rd F a u) (e : Same F F') : Rd F' a u := by
  rcases h with h | ⟨o, h⟩
  · exact .inl (e _ _ h)
  · exact .inr ⟨o, e _ _ h⟩
theorem dcR_same {a : Addr} {kvs} (h : DcR F a kvs) (e : Same F F') : DcR F' a kvs := by
  rcases h with h | ⟨o, h⟩
  · exact .inl (e _ _ h)
  · exact .inr ⟨o, e _ _ h⟩

mutual
theorem Rep.same (e : Same F F') : ∀ (d : D) (v : V), Rep K F v d → Rep K F' v d
  | .non, v, h => h
  | .bl _, v, h => h
  | .int _, v, h => h
  | .str _, v, h => h
  | .ty _, v, h => h
  | .ref _, v, h => h
  | .lst o ds, v, h => by
    unfold Rep at h ⊢
    obtain ⟨ho, a, vs, hv, hs, hr⟩ := h
    exact ⟨ho, a, vs, hv, sqL_same hs e, RepL.same e ds vs hr⟩
  | .tup o ds, v, h => by
    unfold Rep at h ⊢
    obtain ⟨ho, a, vs, hv, hs, hr⟩ := h
    exact ⟨ho, a, vs, hv, sqT_same hs e, RepL.same e ds vs hr⟩
  | .dct o ks ds, v, h => by
    unfold Rep at h ⊢
    obtain ⟨ho, a, vs, hv, hs, hl, hr⟩ := h
    exact ⟨ho, a, vs, hv, dcR_same hs e, hl, RepL.same e ds vs hr⟩
  | .ins o C ns ds, v, h => by
    unfold Rep at h ⊢
    obtain ⟨ho, a, dx, vs, hv, hs, hl, hr⟩ := h
    exact ⟨ho, a, dx, vs, hv, e _ _ hs, hl, RepL.same e ds vs hr⟩
theorem RepL.same (e : Same F F') : ∀ (ds : List D) (vs : List V), RepL K F vs ds → RepL K F' vs ds
  | [], vs, h => h
  | d :: ds, vs, h => by
    unfold RepL at h ⊢
    obtain ⟨v, r, hv, h1, h2⟩ := h
    exact ⟨v, r, hv, Rep.same e d v h1, RepL.same e ds r h2⟩
end

mutual
/-- owned trees stay, where F grows and what is owned is not touched -/
theorem Own.mono (e : Same F F') : ∀ (d : D) (v : V) (B : List Addr), (∀ b ∈ B, ∀ o, H b = some o → H' b = some o) → Own K F H v d B → Own K F' H' v d B
  | .lst true ds, v, B, k, h => by
    unfold Own at h ⊢
    obtain ⟨a, vs, B', hv, hB, hs, hr⟩ := h
    subst hB
    exact ⟨a, vs, B', hv, rfl, k a List.mem_cons_self _ hs, OwnL.mono e ds vs B' (fun b hb => k b (List.mem_cons_of_mem _ hb)) hr⟩
  | .tup true ds, v, B, k, h => by
    unfold Own at h ⊢
    obtain ⟨a, vs, B', hv, hB, hs, hr⟩ := h
    subst hB
    exact ⟨a, vs, B', hv, rfl, k a List.mem_cons_self _ hs, OwnL.mono e ds vs B' (fun b hb => k b (List.mem_cons_of_mem _ hb)) hr⟩
  | .dct true ks ds, v, B, k, h => by
    unfold Own at h ⊢
    obtain ⟨a, vs, B', hv, hB, hs, hl, hr⟩ := h
    subst hB
    exact ⟨a, vs, B', hv, rfl, k a List.mem_cons_self _ hs, hl, OwnL.mono e ds vs B' (fun b hb => k b (List.mem_cons_of_mem _ hb)) hr⟩
  | .ins true C ns ds, v, B, k, h => by
    unfold Own at h ⊢
    obtain ⟨a, dx, vs, B', hv, hB, hs, hx, hl, hr⟩ := h
    subst hB
    exact ⟨a, dx, vs, B', hv, rfl, k a List.mem_cons_self _ hs, k dx (List.mem_cons_of_mem _ List.mem_cons_self) _ hx, hl,
      OwnL.mono e ds vs B' (fun b hb => k b (List.mem_cons_of_mem _ (List.mem_cons_of_mem _ hb))) hr⟩
  | .lst false ds, v, B, k, h => by
    unfold Own at h ⊢
    exact ⟨h.1, Rep.same e _ _ h.2⟩
  | .tup false ds, v, B, k, h => by
    unfold Own at h ⊢
    exact ⟨h.1, Rep.same e _ _ h.2⟩
  | .dct false ks ds, v, B, k, h => by
    unfold Own at h ⊢
    exact ⟨h.1, Rep.same e _ _ h.2⟩
  | .ins false C ns ds, v, B, k, h => by
    unfold Own at h ⊢
    exact ⟨h.1, Rep.same e _ _ h.2⟩
  | .non, v, B, k, h => h
  | .bl _, v, B, k, h => h
  | .int _, v, B, k, h => h
  | .str _, v, B, k, h => h
  | .ty _, v, B, k, h => h
  | .ref _, v, B, k, h => h
theorem OwnL.mono (e : Same F F') : ∀ (ds : List D) (vs : List V) (B : List Addr), (∀ b ∈ B, ∀ o, H b = some o → H' b = some o) → OwnL K F H vs ds B → OwnL K F' H' vs ds B
  | [], vs, B, k, h => h
  | d :: ds, vs, B, k, h => by
    unfold OwnL at h ⊢
    obtain ⟨v, r, B1, B2, hv, hB, h1, h2⟩ := h
    subst hB
    exact ⟨v, r, B1, B2, hv, rfl, Own.mono e d v B1 (fun b hb => k b (List.mem_append_left _ hb)) h1, OwnL.mono e ds r B2 (fun b hb => k b (List.mem_append_right _ hb)) h2⟩
end

mutual
/-- everything owned is tracked -/
theorem Own.dom : ∀ (d : D) (v : V) (B : List Addr), Own K F H v d B → ∀ b ∈ B, H b ≠ none
  | .lst true ds, v, B, h => by
    unfold Own at h
    obtain ⟨a, vs, B', hv, hB, hs, hr⟩ := h
    subst hB
    intro b hb
    rcases List.mem_cons.mp hb with rfl | hb
    · rw [hs]; exact fun z => nomatch z
    · exact OwnL.dom ds vs B' hr b hb
  | .tup true ds, v, B, h => by
    unfold Own at h
    obtain ⟨a, vs, B', hv, hB, hs, hr⟩ := h
    subst hB
    intro b hb
    rcases List.mem_cons.mp hb with rfl | hb
    · rw [hs]; exact fun z => nomatch z
    · exact OwnL.dom ds vs B' hr b hb
  | .dct true ks ds, v, B, h => by
    unfold Own at h
    obtain ⟨a, vs, B', hv, hB, hs, hl, hr⟩ := h
    subst hB
    intro b hb
    rcases List.mem_cons.mp hb with rfl | hb
    · rw [hs]; exact fun z => nomatch z
    · exact OwnL.dom ds vs B' hr b hb
  | .ins true C ns ds, v, B, h => by
    unfold Own at h
    obtain ⟨a, dx, vs, B', hv, hB, hs, hx, hl, hr⟩ := h
    subst hB
    intro b hb
    rcases List.mem_cons.mp hb with rfl | hb
    · rw [hs]; exact fun z => nomatch z
    · rcases List.mem_cons.mp hb with rfl | hb
      · rw [hx]; exact fun z => nomatch z
      · exact OwnL.dom ds vs B' hr b hb
  | .lst false ds, v, B, h => by unfold Own at h; rw [h.1]; exact fun b hb => nomatch hb
  | .tup false ds, v, B, h => by unfold Own at h; rw [h.1]; exact fun b hb => nomatch hb
  | .dct false ks ds, v, B, h => by unfold Own at h; rw [h.1]; exact fun b hb => nomatch hb
  | .ins false C ns ds, v, B, h => by unfold Own at h; rw [h.1]; exact fun b hb => nomatch hb
  | .non, v, B, h => by unfold Own at h; rw [h.1]; exact fun b hb => nomatch hb
  | .bl _, v, B, h => by unfold Own at h; rw [h.1]; exact fun b hb => nomatch hb
  | .int _, v, B, h => by unfold Own at h; rw [h.1]; exact fun b hb => nomatch hb
  | .str _, v, B, h => by unfold Own at h; rw [h.1]; exact fun b hb => nomatch hb
  | .ty _, v, B, h => by unfold Own at h; rw [h.1]; exact fun b hb => nomatch hb
  | .ref _, v, B, h => by unfold Own at h; rw [h.1]; exact fun b hb => nomatch hb
theorem OwnL.dom : ∀ (ds : List D) (vs : List V) (B : List Addr), OwnL K F H vs ds B → ∀ b ∈ B, H b ≠ none
  | [], vs, B, h => by unfold OwnL at h; rw [h.2]; exact fun b hb => nomatch hb
  | d :: ds, vs, B, h => by
    unfold OwnL at h
    obtain ⟨v, r, B1, B2, hv, hB, h1, h2⟩ := h
    subst hB
    intro b hb
    rcases List.mem_append.mp hb with hb | hb
    · exact Own.dom d v B1 h1 b hb
    · exact OwnL.dom ds r B2 h2 b hb
end

mutual
/-- an owned tree, frozen over a heap that holds both -/
theorem Own.frz {G : Hp} (e : Same F G) : ∀ (d : D) (v : V) (B : List Addr), (∀ b ∈ B, ∀ o, H b = some o → G b = some o) → Own K F H v d B → Rep K G v (frz d)
  | .lst true ds, v, B, k, h => by
    unfold Own at h
    unfold DS.frz Rep
    obtain ⟨a, vs, B', hv, hB, hs, hr⟩ := h
    subst hB
    exact ⟨rfl, a, vs, hv, .of (k a List.mem_cons_self _ hs), OwnL.frz e ds vs B' (fun b hb => k b (List.mem_cons_of_mem _ hb)) hr⟩
  | .tup true ds, v, B, k, h => by
    unfold Own at h
    unfold DS.frz Rep
    obtain ⟨a, vs, B', hv, hB, hs, hr⟩ := h
    subst hB
    exact ⟨rfl, a, vs, hv, .of (k a List.mem_cons_self _ hs), OwnL.frz e ds vs B' (fun b hb => k b (List.mem_cons_of_mem _ hb)) hr⟩
  | .dct true ks ds, v, B, k, h => by
    unfold Own at h
    unfold DS.frz Rep
    obtain ⟨a, vs, B', hv, hB, hs, hl, hr⟩ := h
    subst hB
    exact ⟨rfl, a, vs, hv, .inl (k a List.mem_cons_self _ hs), hl, OwnL.frz e ds vs B' (fun b hb => k b (List.mem_cons_of_mem _ hb)) hr⟩
  | .ins true C ns ds, v, B, k, h => by
    unfold Own at h
    unfold DS.frz Rep
    obtain ⟨a, dx, vs, B', hv, hB, hs, hx, hl, hr⟩ := h
    subst hB
    exact ⟨rfl, a, dx, vs, hv, k a List.mem_cons_self _ hs, hl, OwnL.frz e ds vs B' (fun b hb => k b (List.mem_cons_of_mem _ (List.mem_cons_of_mem _ hb))) hr⟩
  | .lst false ds, v, B, k, h => by
    unfold Own at h
    exact Rep.frz e _ _ h.2
  | .tup false ds, v, B, k, h => by
    unfold Own at h
    exact Rep.frz e _ _ h.2
  | .dct false ks ds, v, B, k, h => by
    unfold Own at h
    exact Rep.frz e _ _ h.2
  | .ins false C ns ds, v, B, k, h => by
    unfold Own at h
    exact Rep.frz e _ _ h.2
  | .non, v, B, k, h => by unfold Own at h; unfold DS.frz Rep; exact h.2
  | .bl _, v, B, k, h => by unfold Own at h; unfold DS.frz Rep; exact h.2
  | .int _, v, B, k, h => by unfold Own at h; unfold DS.frz Rep; exact h.2
  | .str _, v, B, k, h => by unfold Own at h; unfold DS.frz Rep; exact h.2
  | .ty _, v, B, k, h => by unfold Own at h; unfold DS.frz Rep; exact h.2
  | .ref _, v, B, k, h => by unfold Own at h; unfold DS.frz Rep; exact h.2
theorem OwnL.frz {G : Hp} (e : Same F G) : ∀ (ds : List D) (vs : List V) (B : List Addr), (∀ b ∈ B, ∀ o, H b = some o → G b = some o) → OwnL K F H vs ds B → RepL K G vs (frzL ds)
  | [], vs, B, k, h => by
    unfold OwnL at h
    unfold DS.frzL RepL
    exact h.1
  | d :: ds, vs, B, k, h => by
    unfold OwnL at h
    unfold DS.frzL RepL
    obtain ⟨v, r, B1, B2, hv, hB, h1, h2⟩ := h
    subst hB
    exact ⟨v, r, hv, Own.frz e d v B1 (fun b hb => k b (List.mem_append_left _ hb)) h1, OwnL.frz e ds r B2 (fun b hb => k b (List.mem_append_right _ hb)) h2⟩
theorem Rep.frz {G : Hp} (e : Same F G) : ∀ (d : D) (v : V), Rep K F v d → Rep K G v (frz d)
  | .non, v, h => h
  | .bl _, v, h => h
  | .int _, v, h => h
  | .str _, v, h => h
  | .ty _, v, h => h
  | .ref _, v, h => h
  | .lst o ds, v, h => by
    unfold Rep at h
    unfold DS.frz Rep
    obtain ⟨ho, a, vs, hv, hs, hr⟩ := h
    exact ⟨rfl, a, vs, hv, sqL_same hs e, RepL.frz e ds vs hr⟩
  | .tup o ds, v, h => by
    unfold Rep at h
    unfold DS.frz Rep
    obtain ⟨ho, a, vs, hv, hs, hr⟩ := h
    exact ⟨rfl, a, vs, hv, sqT_same hs e, RepL.frz e ds vs hr⟩
  | .dct o ks ds, v, h => by
    unfold Rep at h
    unfold DS.frz Rep
    obtain ⟨ho, a, vs, hv, hs, hl, hr⟩ := h
    exact ⟨rfl, a, vs, hv, dcR_same hs e, hl, RepL.frz e ds vs hr⟩
  | .ins o C ns ds, v, h => by
    unfold Rep at h
    unfold DS.frz Rep
    obtain ⟨ho, a, dx, vs, hv, hs, hl, hr⟩ := h
    exact ⟨rfl, a, dx, vs, hv, e _ _ hs, hl, RepL.frz e ds vs hr⟩
theorem RepL.frz {G : Hp} (e : Same F G) : ∀ (ds : List D) (vs : List V), RepL K F vs ds → RepL K G vs (frzL ds)
  | [], vs, h => by
    unfold RepL at h
    unfold DS.frzL RepL
    exact h
  | d :: ds, vs, h => by
    unfold RepL at h
    unfold DS.frzL RepL
    obtain ⟨v, r, hv, h1, h2⟩ := h
    exact ⟨v, r, hv, Rep.frz e d v h1, RepL.frz e ds r h2⟩
end

/-- a frozen tree owns nothing -/
theorem Own.of_rep : ∀ (d : D) (v : V), Rep K F v d → Own K F H v d [] 
  | .non, v, h => ⟨rfl, h⟩
  | .bl _, v, h => ⟨rfl, h⟩
  | .int _, v, h => ⟨rfl, h⟩
  | .str _, v, h => ⟨rfl, h⟩
  | .ty _, v, h => ⟨rfl, h⟩
  | .ref _, v, h => ⟨rfl, h⟩
  | .lst o ds, v, h => by
    cases o with
    | false => unfold Own; exact ⟨rfl, h⟩
    | true => unfold Rep at h; exact nomatch h.1
  | .tup o ds, v, h => by
    cases o with
    | false => unfold Own; exact ⟨rfl, h⟩
    | true => unfold Rep at h; exact nomatch h.1
  | .dct o ks ds, v, h => by
    cases o with
    | false => unfold Own; exact ⟨rfl, h⟩
    | true => unfold Rep at h; exact nomatch h.1
  | .ins o C ns ds, v, h => by
    cases o with
    | false => unfold Own; exact ⟨rfl, h⟩
    | true => unfold Rep at h; exact nomatch h.1
theorem Own.to_rep : ∀ {d : D} {v : V} {B : List Addr}, rootFz d = true → Own K F H v d B → B = [] ∧ Rep K F v d
  | .non, v, B, _, h => h
  | .bl _, v, B, _, h => h
  | .int _, v, B, _, h => h
  | .str _, v, B, _, h => h
  | .ty _, v, B, _, h => h
  | .ref _, v, B, _, h => h
  | .lst o ds, v, B, e, h => by
    cases o with
    | false => unfold Own at h; exact h
    | true => exact nomatch e
  | .tup o ds, v, B, e, h => by
    cases o with
    | false => unfold Own at h; exact h
    | true => exact nomatch e
  | .dct o ks ds, v, B, e, h => by
    cases o with
    | false => unfold Own at h; exact h
    | true => exact nomatch e
  | .ins o C ns ds, v, B, e, h => by
    cases o with
    | false => unfold Own at h; exact h
    | true => exact nomatch e
theorem RepL.to_own : ∀ {ds : List D} {vs : List V}, RepL K F vs ds → OwnL K F H vs ds []
  | [], vs, h => by unfold RepL at h; unfold OwnL; exact ⟨h, rfl⟩
  | d :: ds, vs, h => by
    unfold RepL at h
    unfold OwnL
    obtain ⟨v, r, hv, h1, h2⟩ := h
    exact ⟨v, r, [], [], hv, rfl, Own.of_rep d v h1, RepL.to_own h2⟩
theorem OwnL.to_rep : ∀ {ds : List D} {vs : List V} {B : List Addr}, ds.all rootFz = true → OwnL K F H vs ds B → B = [] ∧ RepL K F vs ds
  | [], vs, B, _, h => by unfold OwnL at h; unfold RepL; exact ⟨h.2, h.1⟩
  | d :: ds, vs, B, e, h => by
    unfold OwnL at h
    unfold RepL
    rw [List.all_cons, Bool.and_eq_true] at e
    obtain ⟨v, r, B1, B2, hv, hB, h1, h2⟩ := h
    obtain ⟨e1, k1⟩ := Own.to_rep e.1 h1
    obtain ⟨e2, k2⟩ := OwnL.to_rep e.2 h2
    subst e1 e2
    exact ⟨hB, v, r, hv, k1, k2⟩
theorem OwnL.length : ∀ {ds : List D} {vs : List V} {B : List Addr}, OwnL K F H vs ds B → vs.length = ds.length
  | [], vs, B, h => by unfold OwnL at h; rw [h.1]; rfl
  | d :: ds, vs, B, h => by
    unfold OwnL at h
    obtain ⟨v, r, B1, B2, hv, hB, h1, h2⟩ := h
    rw [hv, List.length_cons, List.length_cons, OwnL.length h2]
theorem RepL.length {ds : List D} {vs : List V} (h : RepL K F vs ds) : vs.length = ds.length := OwnL.length (H := F) h.to_own
theorem frzL_map : ∀ ds : List D, frzL ds = ds.map frz
  | [] => by unfold frzL; rfl
  | d :: ds => by unfold frzL; rw [frzL_map ds]; rfl
mutual
theorem frz_frz : ∀ d : D, frz (frz d) = frz d
  | .non | .bl _ | .int _ | .str _ | .ty _ | .ref _ => by simp [frz]
  | .lst o ds => by simp only [frz]; rw [frzL_frzL ds]
  | .tup o ds => by simp only [frz]; rw [frzL_frzL ds]
  | .dct o ks ds => by simp only [frz]; rw [frzL_frzL ds]
  | .ins o C ns ds => by simp only [frz]; rw [frzL_frzL ds]
theorem frzL_frzL : ∀ ds : List D, frzL (frzL ds) = frzL ds
  | [] => by simp [frzL]
  | d :: ds => by simp only [frzL]; rw [frz_frz d, frzL_frzL ds]
end
mutual
/-- what is frozen is frozen -/
theorem Rep.frz_eq : ∀ (d : D) (v : V), Rep K F v d → frz d = d
  | .non, v, h => by simp [DS.frz]
  | .bl _, v, h => by simp [DS.frz]
  | .int _, v, h => by simp [DS.frz]
  | .str _, v, h => by simp [DS.frz]
  | .ty _, v, h => by simp [DS.frz]
  | .ref _, v, h => by simp [DS.frz]
  | .lst o ds, v, h => by
    unfold Rep at h
    obtain ⟨rfl, a, vs, hv, hs, hr⟩ := h
    simp only [DS.frz]; rw [RepL.frz_eq ds vs hr]
  | .tup o ds, v, h => by
    unfold Rep at h
    obtain ⟨rfl, a, vs, hv, hs, hr⟩ := h
    simp only [DS.frz]; rw [RepL.frz_eq ds vs hr]
  | .dct o ks ds, v, h => by
    unfold Rep at h
    obtain ⟨rfl, a, vs, hv, hs, hl, hr⟩ := h
    simp only [DS.frz]; rw [RepL.frz_eq ds vs hr]
  | .ins o C ns ds, v, h => by
    unfold Rep at h
    obtain ⟨rfl, a, dx, vs, hv, hs, hl, hr⟩ := h
    simp only [DS.frz]; rw [RepL.frz_eq ds vs hr]
theorem RepL.frz_eq : ∀ (ds : List D) (vs : List V), RepL K F vs ds → frzL ds = ds
  | [], vs, h => by simp [DS.frzL]
  | d :: ds, vs, h => by
    unfold RepL at h
    obtain ⟨v, r, hv, h1, h2⟩ := h
    simp only [DS.frzL]
    rw [Rep.frz_eq d v h1, RepL.frz_eq ds r h2]
end
end
end DS

set_option Elab.async false
set_option linter.all false
set_option maxRecDepth 100000
/-! DS2: environments, the relation between them and the machine's slots and heap; extension. -/
namespace DS
open PySem PySem.Spec PyProof.Rows L2
abbrev DSt := L2.St

abbrev Env := List (Option D)

/-- slots and their trees; A: the owned addresses in order -/
def OwnE (K : PySem.W.Frag) (F H : Hp) : Env → DSt → List Addr → Prop
  | [], [], A => A = []
  | none :: ρ, _ :: σ, A => OwnE K F H ρ σ A
  | some d :: ρ, v? :: σ, A => ∃ v A1 A2, v? = some v ∧ A = A1 ++ A2 ∧ Own K F H v d A1 ∧ OwnE K F H ρ σ A2
  | _, _, _ => False

structure SR (K : PySem.W.Frag) (σ : DSt) (ρ : Env) (F H : Hp) (A : List Addr) : Prop where
  same : Same F H
  nd : A.Nodup
  free : ∀ a ∈ A, F a = none
  own : OwnE K F H ρ σ A

/-- from (F, H) with the owned A to (F', H') with the owned A' (of the slots and of the result); kp: nothing is changed in place -/
structure Ext (kp : Bool) (F H : Hp) (A : List Addr) (F' H' : Hp) (A' : List Addr) : Prop where
  fs : Same F F'
  fr : ∀ b o, H b = some o → (kp = true ∨ b ∉ A) → H' b = some o
  nf : ∀ b, F' b ≠ none → F b ≠ none ∨ b ∈ A ∨ H b = none
  na : ∀ b, b ∈ A' → b ∈ A ∨ H b = none

section
variable {K : PySem.W.Frag} {σ : DSt} {ρ ρ' : Env} {F F' F'' H H' H'' : Hp} {A A' A'' : List Addr} {kp kq : Bool}

theorem Ext.refl (kp : Bool) (F H : Hp) (A : List Addr) : Ext kp F H A F H A := ⟨Same.refl F, fun _ _ h _ => h, fun _ h => .inl h, fun _ h => .inl h⟩
theorem Ext.trans (e : Ext kp F H A F' H' A') (f : Ext kq F' H' A' F'' H'' A'') : Ext (kp && kq) F H A F'' H'' A'' := by
  refine ⟨e.fs.trans f.fs, fun b o h k => ?_, fun b h => ?_, fun b h => ?_⟩
  · have k1 : kp = true ∨ b ∉ A := by
      rcases k with k | k
      · rw [Bool.and_eq_true] at k; exact .inl k.1
      · exact .inr k
    have h1 := e.fr b o h k1
    refine f.fr b o h1 ?_
    rcases k with k | k
    · rw [Bool.and_eq_true] at k; exact .inl k.2
    · refine .inr fun z => ?_
      rcases e.na b z with q | q
      · exact k q
      · rw [h] at q; cases q
  · rcases f.nf b h with q | q | q
    · exact e.nf b q
    · rcases e.na b q with z | z
      · exact .inr (.inl z)
      · exact .inr (.inr z)
    · by_cases hb : b ∈ A
      · exact .inr (.inl hb)
      · cases hh : H b with
        | none => exact .inr (.inr rfl)
        | some o =>
          have := e.fr b o hh (.inr hb)
          rw [q] at this; cases this
  · rcases f.na b h with q | q
    · exact e.na b q
    · by_cases hb : b ∈ A
      · exact .inl hb
      · cases hh : H b with
        | none => exact .inr rfl
        | some o =>
          have := e.fr b o hh (.inr hb)
          rw [q] at this; cases this
theorem Ext.weak (e : Ext kp F H A F' H' A') (h : kq = true → kp = true) : Ext kq F H A F' H' A' :=
  ⟨e.fs, fun b o x k => e.fr b o x (k.elim (fun z => .inl (h z)) .inr), e.nf, e.na⟩
theorem Ext.sub (e : Ext kp F H A F' H' A') (h : ∀ b, b ∈ A'' → b ∈ A' ∨ H' b = none) : Ext kp F H A F' H' A'' :=
  ⟨e.fs, e.fr, e.nf, fun b hb => by
    rcases h b hb with q | q
    · exact e.na b q
    · by_cases hb : b ∈ A
      · exact .inl hb
      · cases hh : H b with
        | none => exact .inr rfl
        | some o =>
          have := e.fr b o hh (.inr hb)
          rw [q] at this; cases this⟩
/-- with more owned ahead -/
theorem Ext.wide (e : Ext kp F H A F' H' A') (h : ∀ b ∈ A, b ∈ A'') (h2 : kp = true ∨ True) : Ext kp F H A'' F' H' A' :=
  ⟨e.fs, fun b o x k => e.fr b o x (k.elim .inl fun z => .inr fun y => z (h b y)), fun b hb => (e.nf b hb).imp id (Or.imp (h b) id), fun b hb => (e.na b hb).imp (h b) id⟩
theorem Ext.same (e : Ext true F H A F' H' A') : Same H H' := fun b o h => e.fr b o h (.inl rfl)

theorem OwnE.length : ∀ {ρ : Env} {σ : DSt} {A : List Addr}, OwnE K F H ρ σ A → σ.length = ρ.length
  | [], [], _, _ => rfl
  | [], _ :: _, _, h => h.elim
  | none :: ρ, _ :: σ, A, h => by
    unfold OwnE at h
    rw [List.length_cons, List.length_cons, OwnE.length h]
  | some d :: ρ, v? :: σ, A, h => by
    unfold OwnE at h
    obtain ⟨v, A1, A2, _, _, _, h⟩ := h
    rw [List.length_cons, List.length_cons, OwnE.length h]
  | none :: ρ, [], _, h => h.elim
  | some _ :: ρ, [], _, h => h.elim
theorem OwnE.mono (e : Same F F') : ∀ {ρ : Env} {σ : DSt} {A : List Addr}, (∀ b ∈ A, ∀ o, H b = some o → H' b = some o) → OwnE K F H ρ σ A → OwnE K F' H' ρ σ A
  | [], [], _, _, h => h
  | [], _ :: _, _, _, h => h
  | none :: ρ, _ :: σ, A, k, h => by
    unfold OwnE at h ⊢
    exact OwnE.mono e k h
  | some d :: ρ, v? :: σ, A, k, h => by
    unfold OwnE at h ⊢
    obtain ⟨v, A1, A2, hv, hA, h1, h2⟩ := h
    subst hA
    exact ⟨v, A1, A2, hv, rfl, Own.mono e d v A1 (fun b hb => k b (List.mem_append_left _ hb)) h1, OwnE.mono e (fun b hb => k b (List.mem_append_right _ hb)) h2⟩
  | none :: ρ, [], _, _, h => h.elim
  | some _ :: ρ, [], _, _, h => h.elim
theorem OwnE.dom : ∀ {ρ : Env} {σ : DSt} {A : List Addr}, OwnE K F H ρ σ A → ∀ b ∈ A, H b ≠ none
  | [], [], _, h => by unfold OwnE at h; rw [h]; exact fun b hb => nomatch hb
  | [], _ :: _, _, h => h.elim
  | none :: ρ, _ :: σ, A, h => by
    unfold OwnE at h
    exact OwnE.dom h
  | some d :: ρ, v? :: σ, A, h => by
    unfold OwnE at h
    obtain ⟨v, A1, A2, hv, hA, h1, h2⟩ := h
    subst hA
    intro b hb
    rcases List.mem_append.mp hb with hb | hb
    · exact Own.dom d v A1 h1 b hb
    · exact OwnE.dom h2 b hb
  | none :: ρ, [], _, h => h.elim
  | some _ :: ρ, [], _, h => h.elim
theorem SR.dom (S : SR K σ ρ F H A) : ∀ b ∈ A, H b ≠ none := S.own.dom
theorem SR.len (S : SR K σ ρ F H A) : σ.length = ρ.length := S.own.length
theorem SR.mono (S : SR K σ ρ F H A) (e : Same F F') (k : ∀ b ∈ A, ∀ o, H b = some o → H' b = some o) (s : Same F' H') (f : ∀ b ∈ A, F' b = none) : SR K σ ρ F' H' A :=
  ⟨s, S.nd, f, S.own.mono e k⟩

/-- a slot's tree -/
theorem OwnE.get : ∀ {ρ : Env} {σ : DSt} {A : List Addr} {i : Nat} {d : D}, OwnE K F H ρ σ A → ρ[i]? = some (some d) → ∃ v B, σ[i]? = some (some v) ∧ Own K F H v d B ∧ (∀ b ∈ B, b ∈ A) ∧ B.Sublist A
  | [], _, _, i, d, _, e => by simp at e
  | none :: ρ, _ :: σ, A, 0, d, h, e => by simp at e
  | none :: ρ, _ :: σ, A, i + 1, d, h, e => by
    unfold OwnE at h
    obtain ⟨v, B, e1, e2, e3, e4⟩ := OwnE.get (i := i) h (by simpa using e)
    exact ⟨v, B, by simpa using e1, e2, e3, e4⟩
  | some d :: ρ, v? :: σ, A, 0, d', h, e => by
    unfold OwnE at h
    obtain ⟨v, A1, A2, hv, hA, h1, h2⟩ := h
    have e' : d = d' := by simpa using e
    subst e' hA hv
    exact ⟨v, A1, rfl, h1, fun b hb => List.mem_append_left _ hb, List.sublist_append_left _ _⟩
  | some d :: ρ, v? :: σ, A, i + 1, d', h, e => by
    unfold OwnE at h
    obtain ⟨v, A1, A2, hv, hA, h1, h2⟩ := h
    subst hA
    obtain ⟨v', B, e1, e2, e3, e4⟩ := OwnE.get (i := i) h2 (by simpa using e)
    exact ⟨v', B, by simpa using e1, e2, fun b hb => List.mem_append_right _ (e3 b hb), e4.trans (List.sublist_append_right _ _)⟩
  | none :: ρ, [], _, _, _, h, _ => h.elim
  | some _ :: ρ, [], _, _, _, h, _ => h.elim

/-- a slot taken: its tree with its addresses apart -/
theorem OwnE.take : ∀ {ρ : Env} {σ : DSt} {A : List Addr} {i : Nat} {d : D}, OwnE K F H ρ σ A → ρ[i]? = some (some d) →
    ∃ v B A', σ[i]? = some (some v) ∧ Own K F H v d B ∧ OwnE K F H (ρ.set i none) σ A' ∧ A.Perm (A' ++ B)
  | [], _, _, i, d, _, e => by simp at e
  | none :: ρ, _ :: σ, A, 0, d, h, e => by simp at e
  | none :: ρ, _ :: σ, A, i + 1, d, h, e => by
    unfold OwnE at h
    obtain ⟨v, B, A', e1, e2, e3, e4⟩ := OwnE.take (i := i) h (by simpa using e)
    exact ⟨v, B, A', by simpa using e1, e2, by rw [List.set_cons_succ]; unfold OwnE; exact e3, e4⟩
  | some d :: ρ, v? :: σ, A, 0, d', h, e => by
    unfold OwnE at h
    obtain ⟨v, A1, A2, hv, hA, h1, h2⟩ := h
    have e' : d = d' := by simpa using e
    subst e' hA hv
    exact ⟨v, A1, A2, rfl, h1, by rw [List.set_cons_zero]; unfold OwnE; exact h2, List.perm_append_comm⟩
  | some d :: ρ, v? :: σ, A, i + 1, d', h, e => by
    unfold OwnE at h
    obtain ⟨v, A1, A2, hv, hA, h1, h2⟩ := h
    subst hA
    obtain ⟨v', B, A', e1, e2, e3, e4⟩ := OwnE.take (i := i) h2 (by simpa using e)
    refine ⟨v', B, A1 ++ A', by simpa using e1, e2, by rw [List.set_cons_succ]; unfold OwnE; exact ⟨v, A1, A', hv, rfl, h1, e3⟩, ?_⟩
    rw [List.append_assoc]
    exact List.Perm.append_left A1 e4
  | none :: ρ, [], _, _, _, h, _ => h.elim
  | some _ :: ρ, [], _, _, _, h, _ => h.elim
/-- a slot given a tree (what stood there is forgotten) -/
theorem OwnE.put : ∀ {ρ : Env} {σ : DSt} {A : List Addr} {i : Nat} {d : D} {v : V} {B : List Addr}, OwnE K F H ρ σ A → i < ρ.length → Own K F H v d B →
    ∃ A', OwnE K F H (ρ.set i (some d)) (σ.set i (some v)) A' ∧ ∃ A0, A0.Sublist A ∧ A'.Perm (A0 ++ B)
  | [], _, _, i, d, v, B, _, e, _ => by simp at e
  | none :: ρ, _ :: σ, A, 0, d, v, B, h, e, o => by
    unfold OwnE at h
    exact ⟨B ++ A, by rw [List.set_cons_zero, List.set_cons_zero]; unfold OwnE; exact ⟨v, B, A, rfl, rfl, o, h⟩, A, List.Sublist.refl _, List.perm_append_comm⟩
  | none :: ρ, _ :: σ, A, i + 1, d, v, B, h, e, o => by
    unfold OwnE at h
    obtain ⟨A', e1, A0, e2, e3⟩ := OwnE.put (i := i) h (by simpa using e) o
    exact ⟨A', by rw [List.set_cons_succ, List.set_cons_succ]; unfold OwnE; exact e1, A0, e2, e3⟩
  | some d :: ρ, v? :: σ, A, 0, d', v', B, h, e, o => by
    unfold OwnE at h
    obtain ⟨v, A1, A2, hv, hA, h1, h2⟩ := h
    subst hA
    exact ⟨B ++ A2, by rw [List.set_cons_zero, List.set_cons_zero]; unfold OwnE; exact ⟨v', B, A2, rfl, rfl, o, h2⟩, A2, List.sublist_append_right _ _, List.perm_append_comm⟩
  | some d :: ρ, v? :: σ, A, i + 1, d', v', B, h, e, o => by
    unfold OwnE at h
    obtain ⟨v, A1, A2, hv, hA, h1, h2⟩ := h
    subst hA
    obtain ⟨A', e1, A0, e2, e3⟩ := OwnE.put (i := i) h2 (by simpa using e) o
    refine ⟨A1 ++ A', by rw [List.set_cons_succ, List.set_cons_succ]; unfold OwnE; exact ⟨v, A1, A', hv, rfl, h1, e1⟩, A1 ++ A0, List.Sublist.append_left e2 A1, ?_⟩
    rw [List.append_assoc]
    exact List.Perm.append_left A1 e3
  | none :: ρ, [], _, _, _, _, _, h, _, _ => h.elim
  | some _ :: ρ, [], _, _, _, _, _, h, _, _ => h.elim
/-- the tree at a slot replaced at the same value -/
theorem OwnE.upd {G : Hp} : ∀ {ρ : Env} {σ : DSt} {A : List Addr} {i : Nat} {d d' : D} {v : V} {B' : List Addr}, OwnE K F H (ρ.set i none) σ A → i < ρ.length → σ[i]? = some (some v) → Own K F H v d' B' →
    ∃ A', OwnE K F H (ρ.set i (some d')) σ A' ∧ A'.Perm (A ++ B')
  | [], _, _, i, d, d', v, B, _, e, _, _ => by simp at e
  | a :: ρ, s :: σ, A, 0, d, d', v, B, h, e, es, o => by
    rw [List.set_cons_zero] at h
    unfold OwnE at h
    have es : s = some v := by simpa using es
    subst es
    exact ⟨B ++ A, by rw [List.set_cons_zero]; unfold OwnE; exact ⟨v, B, A, rfl, rfl, o, h⟩, List.perm_append_comm⟩
  | none :: ρ, s :: σ, A, i + 1, d, d', v, B, h, e, es, o => by
    rw [List.set_cons_succ] at h
    unfold OwnE at h
    obtain ⟨A', e1, e2⟩ := OwnE.upd (G := G) (i := i) (d := d) h (by simpa using e) (by simpa using es) o
    exact ⟨A', by rw [List.set_cons_succ]; unfold OwnE; exact e1, e2⟩
  | some d0 :: ρ, s :: σ, A, i + 1, d, d', v, B, h, e, es, o => by
    rw [List.set_cons_succ] at h
    unfold OwnE at h
    obtain ⟨v0, A1, A2, hv, hA, h1, h2⟩ := h
    subst hA
    obtain ⟨A', e1, e2⟩ := OwnE.upd (G := G) (i := i) (d := d) h2 (by simpa using e) (by simpa using es) o
    refine ⟨A1 ++ A', by rw [List.set_cons_succ]; unfold OwnE; exact ⟨v0, A1, A', hv, rfl, h1, e1⟩, ?_⟩
    rw [List.append_assoc]
    exact List.Perm.append_left A1 e2
  | a :: ρ, [], _, 0, _, _, _, _, h, _, es, _ => by simp at es
  | a :: ρ, [], _, i + 1, _, _, _, _, h, _, es, _ => by simp at es
/-- slots forgotten -/
theorem OwnE.drop : ∀ {ρ : Env} {σ : DSt} {A : List Addr} {i : Nat}, OwnE K F H ρ σ A → ∃ A', OwnE K F H (ρ.set i none) σ A' ∧ A'.Sublist A
  | [], [], _, i, h => ⟨_, by simpa using h, List.Sublist.refl _⟩
  | [], _ :: _, _, _, h => h.elim
  | none :: ρ, _ :: σ, A, 0, h => ⟨A, by rw [List.set_cons_zero]; exact h, List.Sublist.refl _⟩
  | none :: ρ, _ :: σ, A, i + 1, h => by
    unfold OwnE at h
    obtain ⟨A', e1, e2⟩ := OwnE.drop (i := i) h
    exact ⟨A', by rw [List.set_cons_succ]; unfold OwnE; exact e1, e2⟩
  | some d :: ρ, v? :: σ, A, 0, h => by
    unfold OwnE at h
    obtain ⟨v, A1, A2, hv, hA, h1, h2⟩ := h
    subst hA
    exact ⟨A2, by rw [List.set_cons_zero]; unfold OwnE; exact h2, List.sublist_append_right _ _⟩
  | some d :: ρ, v? :: σ, A, i + 1, h => by
    unfold OwnE at h
    obtain ⟨v, A1, A2, hv, hA, h1, h2⟩ := h
    subst hA
    obtain ⟨A', e1, e2⟩ := OwnE.drop (i := i) h2
    exact ⟨A1 ++ A', by rw [List.set_cons_succ]; unfold OwnE; exact ⟨v, A1, A', hv, rfl, h1, e1⟩, List.Sublist.append_left e2 A1⟩
  | none :: ρ, [], _, _, h => h.elim
  | some _ :: ρ, [], _, _, h => h.elim
/-- .. and their slot overwritten by anything -/
theorem OwnE.wipe : ∀ {ρ : Env} {σ : DSt} {A : List Addr} {i : Nat} {z : Option V}, OwnE K F H ρ σ A → ρ[i]? = some none → OwnE K F H ρ (σ.set i z) A
  | [], [], _, i, _, h, e => by simp at e
  | [], _ :: _, _, _, _, h, _ => h.elim
  | none :: ρ, _ :: σ, A, 0, z, h, _ => by
    rw [List.set_cons_zero]; unfold OwnE at h ⊢; exact h
  | none :: ρ, _ :: σ, A, i + 1, z, h, e => by
    rw [List.set_cons_succ]; unfold OwnE at h ⊢
    exact OwnE.wipe h (by simpa using e)
  | some d :: ρ, v? :: σ, A, 0, z, h, e => by simp at e
  | some d :: ρ, v? :: σ, A, i + 1, z, h, e => by
    rw [List.set_cons_succ]; unfold OwnE at h ⊢
    obtain ⟨v, A1, A2, hv, hA, h1, h2⟩ := h
    exact ⟨v, A1, A2, hv, hA, h1, OwnE.wipe h2 (by simpa using e)⟩
  | none :: ρ, [], _, _, _, h, _ => h.elim
  | some _ :: ρ, [], _, _, _, h, _ => h.elim

/-- the frozen heap with what stands at B -/
def fzAt (F H : Hp) (B : List Addr) : Hp := fun b => if b ∈ B then H b else F b
theorem fzAt_same {B : List Addr} (h : ∀ b ∈ B, F b = none) : Same F (fzAt F H B) := fun b o e => by
  unfold fzAt
  rw [if_neg fun z => by rw [h b z] at e; cases e]
  exact e
theorem fzAt_sub {B : List Addr} (h : Same F H) : Same (fzAt F H B) H := fun b o e => by
  unfold fzAt at e
  by_cases z : b ∈ B
  · rw [if_pos z] at e; exact e
  · rw [if_neg z] at e; exact h b o e
theorem fzAt_in {B : List Addr} {b : Addr} (h : b ∈ B) : fzAt F H B b = H b := by unfold fzAt; rw [if_pos h]
theorem fzAt_out {B : List Addr} {b : Addr} (h : b ∉ B) : fzAt F H B b = F b := by unfold fzAt; rw [if_neg h]
theorem Own.freeze {d : D} {v : V} {B : List Addr} (h : Own K F H v d B) (hf : ∀ b ∈ B, F b = none) : Rep K (fzAt F H B) v (DS.frz d) :=
  Own.frz (fzAt_same hf) d v B (fun b hb o e => by rw [fzAt_in hb]; exact e) h
end
end DS

set_option Elab.async false
set_option linter.all false
set_option maxRecDepth 100000
/-! DS3: the core language, its meaning on trees, its match with the syntax. -/
namespace DS
open PySem PySem.Spec PyProof.Rows L2

/-! ### results -/
inductive Out (α : Type) where
  | ok (a : α) (ρ : Env) | exc (x : Nat) (fs : List (Str × D)) (ρ : Env) | stk
inductive Res where
  | ok (d : D) (ms : List D) | exc (x : Nat) (fs : List (Str × D)) | stk
inductive SOut where
  | nx (ρ : Env) | rt (d : D) (ρ : Env) | bk (ρ : Env) | ct (ρ : Env) | exc (x : Nat) (fs : List (Str × D)) (ρ : Env) | stk

def Out.bind {α β : Type} (o : Out α) (f : α → Env → Out β) : Out β := match o with
  | .ok a ρ => f a ρ
  | .exc x fs ρ => .exc x fs ρ
  | .stk => .stk
def Out.sb {α : Type} (o : Out α) (f : α → Env → SOut) : SOut := match o with
  | .ok a ρ => f a ρ
  | .exc x fs ρ => .exc x fs ρ
  | .stk => .stk
def Out.lift {α : Type} (o : Option α) (ρ : Env) : Out α := match o with
  | some a => .ok a ρ
  | none => .stk
@[simp] theorem Out.bind_ok {α β : Type} (a : α) (ρ : Env) (f : α → Env → Out β) : (Out.ok a ρ).bind f = f a ρ := rfl
@[simp] theorem Out.bind_exc {α β : Type} (x fs) (ρ : Env) (f : α → Env → Out β) : (Out.exc x fs ρ).bind f = .exc x fs ρ := rfl
@[simp] theorem Out.bind_stk {α β : Type} (f : α → Env → Out β) : (Out.stk).bind f = .stk := rfl
@[simp] theorem Out.sb_ok {α : Type} (a : α) (ρ : Env) (f : α → Env → SOut) : (Out.ok a ρ).sb f = f a ρ := rfl
@[simp] theorem Out.sb_exc {α : Type} (x fs) (ρ : Env) (f : α → Env → SOut) : (Out.exc x fs ρ).sb f = .exc x fs ρ := rfl
@[simp] theorem Out.sb_stk {α : Type} (f : α → Env → SOut) : (Out.stk).sb f = .stk := rfl
@[simp] theorem Out.lift_some {α : Type} (a : α) (ρ : Env) : Out.lift (some a) ρ = .ok a ρ := rfl
@[simp] theorem Out.lift_none {α : Type} (ρ : Env) : Out.lift (none : Option α) ρ = .stk := rfl

/-! ### syntax -/
inductive BOp | add | sub | mul | fdiv | mod | pow
  deriving DecidableEq
inductive COp | eq | ne | lt | le | gt | ge | is | isnot | isin | notin
  deriving DecidableEq
inductive BI | len | int | abs | max | min | list | tuple | sorted | sum | isinst | str | bool | all | any | ord | chr | reversed
  deriving DecidableEq
inductive ME | index | split | join | get | count | startswith
  deriving DecidableEq
inductive Mu | append | extend | pop | reverse | clear | insert | popAt | sort
  deriving DecidableEq

mutual
inductive Tm
  | kk (d : D) | gc (i : Nat) | mv (i : Nat) | tk (i : Nat) | fld (p : Pl)
  | bin (o : BOp) (a b : Ar) | neg (a : Ar) | cmp (o : COp) (a b : Ar) | chn (o1 o2 : COp) (a b c : Ar)
  | sub (a i : Ar) | slc (a : Ar) (l h : OAr) | bi (f : BI) (as : Ars) | me (m : ME) (a : Ar) (as : Ars)
  | tup (ts : Tms) | lst (ts : Tms) | dct (ks vs : Tms)
  | call (f : Nat) (as : Cas)
  | ite (c : Ts) (a b : Tm) | tst (c : Ts)
  | lc (i : Nat) (it : It) (c : OTs) (e : Tm) | lc2 (i : Nat) (it : It) (j : Nat) (it2 : It) (e : Tm)
  | mu (m : Mu) (i : Nat) (as : Tms)
/-- an operand: a place that is looked at, or a value -/
inductive Ar | pk (p : Pl) | vl (t : Tm)
inductive OAr | none | some (a : Ar)
inductive Pl | sl (i : Nat) | fl (p : Pl) (f : Str)
inductive Ars | nil | cons (a : Ar) (as : Ars)
inductive Tms | nil | cons (t : Tm) (ts : Tms)
/-- an argument of a call: a slot that is lent, a slot that is changed, a value -/
inductive Ca | bor (i : Nat) | mt (i : Nat) | vl (t : Tm)
inductive Cas | nil | cons (c : Ca) (cs : Cas)
/-- a test -/
inductive Ts | vl (t : Tm) | tr (a : Ar) | and (a b : Ts) | or (a b : Ts) | not (a : Ts)
inductive OTs | none | some (c : Ts)
inductive It | seq (a : Ar) | rng1 (a : Ar) | rng2 (a b : Ar) | rng3 (a b c : Ar) | enum (a : Ar) | zip (a b : Ar) | revd (a : Ar)
end

/-! ### meaning: values -/
/-- the names of a program: of the def's slots, of functions with the parameters that they change, of constants, of built-ins -/
structure Nm where
  N : List Str
  fn : List (Str × List Bool)
  cn : List Str
  bl : List Str
structure Sg where
  fn : Nat → List D → Res
  cd : Nat → D

def okMul (i j : Int) : Prop := (i.natAbs < 2 ^ 64 ∨ j.natAbs < 2 ^ 64) ∨ i.natAbs.log2 + j.natAbs.log2 < 1000000
instance (i j : Int) : Decidable (okMul i j) := by unfold okMul; infer_instance
def okDiv (j : Int) : Prop := 0 < j ∧ j.natAbs.log2 < 9000
instance (j : Int) : Decidable (okDiv j) := by unfold okDiv; infer_instance
def okSz (n : Nat) : Prop := n ≤ sizeLine
instance (n : Nat) : Decidable (okSz n) := by unfold okSz; infer_instance
def okPow (i j : Int) : Prop := 0 ≤ j ∧ j ≤ 1000000 ∧ i.natAbs < 2 ^ 64
instance (i j : Int) : Decidable (okPow i j) := by unfold okPow; infer_instance

def binD : BOp → D → D → Option D
  | .add, .int i, .int j => some (.int (i + j))
  | .add, .str x, .str y => if okSz (x.length + y.length) then some (.str (x ++ y)) else none
  | .add, .lst _ xs, .lst _ ys => if xs.all rootFz && ys.all rootFz && decide (okSz (xs.length + ys.length)) then some (.lst true (xs ++ ys)) else none
  | .add, .tup o xs, .tup p ys => if (!o && !p) && (xs.all rootFz && ys.all rootFz) && decide (okSz (xs.length + ys.length)) then some (.tup false (xs ++ ys)) else none
  | .sub, .int i, .int j => some (.int (i - j))
  | .mul, .int i, .int j => if okMul i j then some (.int (i * j)) else none
  | .mul, .lst o xs, .int k => if o && xs.all rootFz && decide (k.natAbs < 2 ^ 62) && decide (okSz (xs.length * k.toNat)) then some (.lst true (List.replicate k.toNat xs).flatten) else none
  | .fdiv, .int i, .int j => if okDiv j then some (.int (i / j)) else none
  | .mod, .int i, .int j => if 0 < j then some (.int (i % j)) else none
  | .pow, .int i, .int j => if okPow i j then some (.int (i ^ j.toNat)) else none
  | _, _, _ => none
def negD : D → Option D
  | .int i => some (.int (-i))
  | _ => none

mutual
def pyD : D → PyData
  | .non => .none
  | .bl b => .bool b
  | .int i => .int i
  | .str x => .str x
  | .lst _ ds => .list (pyL ds)
  | .tup _ ds => .tuple (pyL ds)
  | _ => .dict []
def pyL : List D → List PyData
  | [] => []
  | d :: ds => pyD d :: pyL ds
end
mutual
/-- None, bools, ints, texts, lists and tuples of such -/
def dat : D → Bool
  | .non | .bl _ | .int _ | .str _ => true
  | .lst _ ds | .tup _ ds => datL ds
  | _ => false
def datL : List D → Bool
  | [] => true
  | d :: ds => dat d && datL ds
end
def flatD : D → Bool
  | .non | .bl _ | .int _ | .str _ => true
  | _ => false
def vOf : D → V
  | .non => .non
  | .bl b => .bl b
  | .int i => .int i
  | .str x => .str x
  | .ty n => .ty n.name
  | .ref a => .ref a
  | _ => .non
/-- == -/
def eqD (a b : D) : Option Bool :=
  if scal (vOf a) (vOf b) && flatD a && flatD b then some (decide (vOf a = vOf b))
  else if dat a && dat b && SeqAt.shaped (pyD a) && SeqAt.shaped (pyD b) then some (PyData.eqv (pyD a) (pyD b)) else none
def isNon : D → Bool
  | .non => true
  | _ => false
def cmpD : COp → D → D → Option Bool
  | .eq, a, b => eqD a b
  | .ne, a, b => (eqD a b).map (!·)
  | .lt, .int i, .int j => some (decide (i < j))
  | .le, .int i, .int j => some (decide (i ≤ j))
  | .gt, .int i, .int j => some (decide (j < i))
  | .ge, .int i, .int j => some (decide (j ≤ i))
  | .is, a, .non => some (isNon a)
  | .isnot, a, .non => some (!isNon a)
  | .isin, a, .lst _ ds => if flatD a && ds.all flatD then some (inV (vOf a) (ds.map vOf)) else none
  | .isin, a, .tup _ ds => if flatD a && ds.all flatD then some (inV (vOf a) (ds.map vOf)) else none
  | .isin, .str x, .str y => some (!(Builtin.Str.occurrences y x 0 y.length 1).isEmpty)
  | .notin, a, .lst _ ds => if flatD a && ds.all flatD then some (!inV (vOf a) (ds.map vOf)) else none
  | .notin, a, .tup _ ds => if flatD a && ds.all flatD then some (!inV (vOf a) (ds.map vOf)) else none
  | .notin, .str x, .str y => some ((Builtin.Str.occurrences y x 0 y.length 1).isEmpty)
  | _, _, _ => none
/-- an item that is frozen -/
def fzItem (d : D) : Option D := if rootFz d then some d else none
def subD : D → D → Option D
  | .lst _ ds, .int i => (atI ds i).bind fzItem
  | .tup _ ds, .int i => (atI ds i).bind fzItem
  | .str z, .int i => if okSz z.length then (atI z.cps.toList i).map fun c => .str ⟨#[c]⟩ else none
  | _, _ => none
def cutD (ds : List D) (lo hi : Option Int) : List D := (ds.drop (HT.sIx ds.length 0 lo)).take (HT.sIx ds.length ds.length hi - HT.sIx ds.length 0 lo)
def slcD (a : D) (lo hi : Option Int) : Option D :=
  match a with
    | .lst _ ds => if ds.all rootFz then some (.lst true (cutD ds lo hi)) else none
    | .tup o ds => if !o && ds.all rootFz then some (.tup false (cutD ds lo hi)) else none
    | .str z => if okSz z.length then some (.str (cutS z lo hi)) else none
    | _ => none
/-- isinstance against a built-in class -/
def isiD : D → D → Option Bool
  | .bl _, .ty t => some (t == .bool || t == .int)
  | .int _, .ty t => some (t == .int)
  | .str _, .ty t => some (t == .str)
  | .lst _ _, .ty t => some (t == .list)
  | .tup _ _, .ty t => some (t == .tuple)
  | .dct _ _ _, .ty t => some (t == .dict)
  | .non, .ty _ => some false
  | _, _ => none
def insI (k : Int) : List Int → List Int
  | [] => [k]
  | x :: xs => if k ≤ x then k :: x :: xs else x :: insI k xs
def sortI : List Int → List Int
  | [] => []
  | x :: xs => insI x (sortI xs)
def intsD : List D → Option (List Int)
  | [] => some []
  | .int i :: ds => (intsD ds).map (i :: ·)
  | _ => none
def maxL : Int → List Int → Int
  | m, [] => m
  | m, x :: xs => maxL (if x > m then x else m) xs
def minL : Int → List Int → Int
  | m, [] => m
  | m, x :: xs => minL (if x < m then x else m) xs
def biD : BI → List D → Option D
  | .len, [.str x] => if okSz x.length then some (.int x.length) else none
  | .len, [.lst _ ds] => some (.int ds.length)
  | .len, [.tup _ ds] => some (.int ds.length)
  | .int, [.int i] => some (.int i)
  | .int, [.bl b] => some (.int (if b then 1 else 0))
  | .int, [.str x] => match PySem.intText? x with | some n => if x.length ≤ 640 then some (.int n) else none | none => none
  | .bool, [.int i] => some (.bl (i != 0))
  | .bool, [.bl b] => some (.bl b)
  | .abs, [.int i] => some (.int (if i < 0 then -i else i))
  | .max, [.int i, .int j] => some (.int (if j > i then j else i))
  | .min, [.int i, .int j] => some (.int (if j < i then j else i))
  | .max, [.lst _ ds] => match intsD ds with | some (x :: xs) => some (.int (maxL x xs)) | _ => none
  | .min, [.lst _ ds] => match intsD ds with | some (x :: xs) => some (.int (minL x xs)) | _ => none
  | .sum, [.lst _ ds] => (intsD ds).map fun ns => .int ns.sum
  | .sorted, [.lst _ ds] => (intsD ds).map fun ns => .lst true ((sortI ns).map .int)
  | .list, [.lst _ ds] => if ds.all rootFz then some (.lst true ds) else none
  | .list, [.tup _ ds] => if ds.all rootFz then some (.lst true ds) else none
  | .tuple, [.lst _ ds] => if ds.all rootFz then some (.tup false ds) else none
  | .tuple, [.tup o ds] => if !o then some (.tup false ds) else none
  | .isinst, [d, c] => (isiD d c).map .bl
  | .str, [.int i] => if i.natAbs.log2 < 1920 then some (.str (toString i)) else none
  | _, _ => none
/-- the first place of a flat item -/
def findFlat (x : D) : List D → Nat → Option Nat
  | [], _ => none
  | d :: ds, k => if eqV (vOf d) (vOf x) then some k else findFlat x ds (k + 1)
def meD : ME → D → List D → Option D
  | .index, .str z, [.str y] => (Txt.index0 z y).map fun k => .int (k : Nat)
  | .index, .lst _ ds, [x] => if flatD x && ds.all flatD then (findFlat x ds 0).map fun k => .int (k : Nat) else none
  | _, _, _ => none
/-- what the method is asked of -/
def recvOk : ME → D → Bool
  | .index, .str _ => true
  | .index, .lst _ _ => true
  | _, _ => false
/-- truth of a value -/
def truD : D → Option Bool
  | .non => some false
  | .bl b => some b
  | .int i => some (i != 0)
  | .str x => if okSz x.length then some (x.length != 0) else none
  | .lst _ ds => some (!ds.isEmpty)
  | .tup _ ds => some (!ds.isEmpty)
  | _ => none
def blD : D → Option Bool
  | .bl b => some b
  | _ => none
/-- a method that changes its list: (what it hands back, the new list) -/
def muD : Mu → List D → List D → Option (D × List D)
  | .append, ds, [x] => if ds.length < sizeLine then some (.non, ds ++ [x]) else none
  | .pop, ds, [] => if ds.all rootFz then match ds.getLast? with | some x => some (x, ds.dropLast) | none => none else none
  | .reverse, ds, [] => if ds.all rootFz then some (.non, ds.reverse) else none
  | .clear, _, [] => some (.non, [])
  | _, _, _ => none

/-- what a walk yields -/
inductive Walk where
  | items (ds : List D) | range (lo : Int) (n : Nat)
def Walk.list : Walk → List D
  | .items ds => ds
  | .range lo n => (List.range n).map fun i => .int (lo + (i : Nat))

/-! ### keeps: nothing is changed in place -/
mutual
def kTm : Tm → Bool
  | .kk _ | .gc _ | .mv _ | .tk _ | .fld _ => true
  | .bin _ a b => kAr a && kAr b
  | .neg a => kAr a
  | .cmp _ a b => kAr a && kAr b
  | .chn _ _ a b c => kAr a && kAr b && kAr c
  | .sub a i => kAr a && kAr i
  | .slc a l h => kAr a && kOAr l && kOAr h
  | .bi _ as => kArs as
  | .me _ a as => kAr a && kArs as
  | .tup ts => kTms ts
  | .lst ts => kTms ts
  | .dct ks vs => kTms ks && kTms vs
  | .call _ as => kCas as
  | .ite c a b => kTs c && kTm a && kTm b
  | .tst c => kTs c
  | .lc _ it c e => kIt it && (kOTs c && kTm e)
  | .lc2 _ it _ it2 e => kIt it && (kIt it2 && kTm e)
  | .mu _ _ _ => false
def kAr : Ar → Bool
  | .pk _ => true
  | .vl t => kTm t
def kOAr : OAr → Bool
  | .none => true
  | .some a => kAr a
def kArs : Ars → Bool
  | .nil => true
  | .cons a as => kAr a && kArs as
def kTms : Tms → Bool
  | .nil => true
  | .cons a as => kTm a && kTms as
def kCa : Ca → Bool
  | .bor _ => true
  | .mt _ => false
  | .vl t => kTm t
def kCas : Cas → Bool
  | .nil => true
  | .cons c cs => kCa c && kCas cs
def kTs : Ts → Bool
  | .vl t => kTm t
  | .tr a => kAr a
  | .and a b => kTs a && kTs b
  | .or a b => kTs a && kTs b
  | .not a => kTs a
def kOTs : OTs → Bool
  | .none => true
  | .some c => kTs c
def kIt : It → Bool
  | .seq a => kAr a
  | .rng1 a => kAr a
  | .rng2 a b => kAr a && kAr b
  | .rng3 a b c => kAr a && kAr b && kAr c
  | .enum a => kAr a
  | .zip a b => kAr a && kAr b
  | .revd a => kAr a
end

/-! ### meaning: terms -/
def getS (ρ : Env) (i : Nat) : Option D := (ρ[i]?).bind id
def fieldD (f : Str) : List Str → List D → Option D
  | n :: ns, d :: ds => if n = f then some d else fieldD f ns ds
  | _, _ => none
def evPl : Pl → Env → Option D
  | .sl i, ρ => getS ρ i
  | .fl p f, ρ => match evPl p ρ with
    | some (.ins _ _ ns ds) => fieldD f ns ds
    | _ => none
/-- what a call's argument is while the call is made -/
inductive AV | v (d : D) | b (i : Nat) | m (i : Nat)
/-- the slots that are changed, that are lent -/
def mutIx : List AV → List Nat
  | [] => []
  | .m i :: r => i :: mutIx r
  | .v _ :: r => mutIx r
  | .b _ :: r => mutIx r
def borIx : List AV → List Nat
  | [] => []
  | .b i :: r => i :: borIx r
  | .v _ :: r => borIx r
  | .m _ :: r => borIx r
/-- slots taken, one by one -/
def takeL : List Nat → Env → Option (List D × Env)
  | [], ρ => some ([], ρ)
  | i :: is, ρ => match getS ρ i with
    | some d => match takeL is (ρ.set i none) with
      | some (ds, ρ') => some (d :: ds, ρ')
      | none => none
    | none => none
/-- slots frozen, one by one -/
def frzLs : List Nat → Env → Option (List D × Env)
  | [], ρ => some ([], ρ)
  | i :: is, ρ => match getS ρ i with
    | some d => match frzLs is (ρ.set i (some (frz d))) with
      | some (ds, ρ') => some (frz d :: ds, ρ')
      | none => none
    | none => none
/-- trees put into slots that hold nothing -/
def putE : List Nat → List D → Env → Option Env
  | [], [], ρ => some ρ
  | i :: is, d :: ds, ρ => match ρ[i]? with
    | some none => putE is ds (ρ.set i (some d))
    | _ => none
  | _, _, _ => none
/-- the arguments' trees -/
def argsD : List AV → List D → List D → Option (List D)
  | [], [], [] => some []
  | .v d :: r, ms, bs => (argsD r ms bs).map (frz d :: ·)
  | .m _ :: r, m :: ms, bs => (argsD r ms bs).map (m :: ·)
  | .b _ :: r, ms, b :: bs => (argsD r ms bs).map (b :: ·)
  | _, _, _ => none
/-- a root with atoms: nothing else is reached from it -/
def selfc : D → Bool
  | .lst true ds => ds.all atom
  | .dct true _ ds => ds.all atom
  | d => atom d
def Res.out (r : Res) (mi : List Nat) (ρm ρf : Env) : Out D := match r with
  | .ok d ms => match putE mi ms (if atom d && ms.all selfc then ρm else ρf) with
    | some ρ' => .ok d ρ'
    | none => .stk
  | .exc x fs => .exc x fs ρf
  | .stk => .stk
def callD (sem : List D → Res) (vs : List AV) (ρ : Env) : Out D :=
  match takeL (mutIx vs) ρ with
  | some (mds, ρm) => match frzLs (borIx vs) ρm with
    | some (bds, ρf) => match argsD vs mds bds with
      | some ds => (sem ds).out (mutIx vs) ρm ρf
      | none => .stk
    | none => .stk
  | none => .stk
/-- a comprehension's walk -/
def lcL (i : Nat) (c : Env → Out Bool) (e : Env → Out D) : List D → List D → Env → Out D
  | [], acc, ρ => .ok (.lst true acc) (ρ.set i none)
  | x :: xs, acc, ρ => match c (ρ.set i (some x)) with
    | .ok true ρ1 => match e ρ1 with
      | .ok d ρ2 => if acc.length < sizeLine then lcL i c e xs (acc ++ [frz d]) ρ2 else .stk
      | _ => .stk
    | .ok false ρ1 => lcL i c e xs acc ρ1
    | _ => .stk
/-- two fors: the inner one's turns -/
def lcI (j : Nat) (e : Env → Out D) : List D → List D → Env → Out (List D)
  | [], acc, ρ => .ok acc (ρ.set j none)
  | y :: ys, acc, ρ => match e (ρ.set j (some y)) with
    | .ok d ρ2 => if acc.length < sizeLine then lcI j e ys (acc ++ [frz d]) ρ2 else .stk
    | _ => .stk
def lcO2 (i j : Nat) (wi : Env → Out Walk) (e : Env → Out D) : List D → List D → Env → Out D
  | [], acc, ρ => .ok (.lst true acc) (ρ.set i none)
  | x :: xs, acc, ρ => match wi (ρ.set i (some x)) with
    | .ok w ρ1 => match ρ1[j]? with
      | some none => match lcI j e w.list acc ρ1 with
        | .ok acc' ρ2 => lcO2 i j wi e xs acc' ρ2
        | _ => .stk
      | _ => .stk
    | _ => .stk
/-- the root's children frozen: what a walk needs -/
def walkD : D → Option Walk
  | .lst _ ds => some (.items (frzL ds))
  | .tup _ ds => some (.items (frzL ds))
  | .str z => some (.items (z.cps.toList.map fun c => .str ⟨#[c]⟩))
  | _ => none
def small62 (i : Int) : Bool := decide (-(2 ^ 62) ≤ i) && decide (i < 2 ^ 62)
mutual
def ev (S : Sg) : Tm → Env → Out D
  | .kk d, ρ => if atom d then .ok d ρ else .stk
  | .gc i, ρ => .ok (S.cd i) ρ
  | .mv i, ρ => match getS ρ i with | some d => .ok (frz d) (ρ.set i (some (frz d))) | none => .stk
  | .tk i, ρ => match getS ρ i with | some d => .ok d (ρ.set i none) | none => .stk
  | .fld p, ρ => Out.lift ((evPl p ρ).bind fzItem) ρ
  | .bin o a b, ρ => (evA S a ρ).bind fun x ρ1 => (evA S b ρ1).bind fun y ρ2 => if kAr b || atom x then Out.lift (binD o x y) ρ2 else .stk
  | .neg a, ρ => (evA S a ρ).bind fun x ρ1 => Out.lift (negD x) ρ1
  | .cmp o a b, ρ => (evA S a ρ).bind fun x ρ1 => (evA S b ρ1).bind fun y ρ2 => if kAr b || atom x then Out.lift ((cmpD o x y).map .bl) ρ2 else .stk
  | .chn o1 o2 a b c, ρ => (evA S a ρ).bind fun x ρ1 => (evA S b ρ1).bind fun y ρ2 => if kAr b || atom x then match cmpD o1 x y with
      | some true => (evA S c ρ2).bind fun z ρ3 => if kAr c || atom y then Out.lift ((cmpD o2 y z).map .bl) ρ3 else .stk
      | some false => .ok (.bl false) ρ2
      | none => .stk
    else .stk
  | .sub a i, ρ => (evA S a ρ).bind fun x ρ1 => (evA S i ρ1).bind fun y ρ2 => if kAr i || atom x then Out.lift (subD x y) ρ2 else .stk
  | .slc a l h, ρ => (evA S a ρ).bind fun x ρ1 => (evOA S l ρ1).bind fun y ρ2 => (evOA S h ρ2).bind fun z ρ3 => if (kOAr l && kOAr h) || atom x then Out.lift (slcD x y z) ρ3 else .stk
  | .bi f as, ρ => (evAs S as ρ).bind fun xs ρ1 => Out.lift (biD f xs) ρ1
  | .me m a as, ρ => (evA S a ρ).bind fun x ρ1 => if recvOk m x then (evAs S as ρ1).bind fun xs ρ2 => if kArs as || atom x then Out.lift (meD m x xs) ρ2 else .stk else .stk
  | .tup ts, ρ => (evTs S ts ρ).bind fun ds ρ1 => if okSz ds.length then .ok (.tup false (frzL ds)) ρ1 else .stk
  | .lst ts, ρ => (evTs S ts ρ).bind fun ds ρ1 => if okSz ds.length then .ok (.lst true (frzL ds)) ρ1 else .stk
  | .dct ks vs, ρ => .stk
  | .call f as, ρ => (evC S as ρ).bind fun vs ρ1 => callD (S.fn f) vs ρ1
  | .ite c a b, ρ => (evT S c ρ).bind fun t ρ1 => if t then ev S a ρ1 else ev S b ρ1
  | .tst c, ρ => (evT S c ρ).bind fun t ρ1 => .ok (.bl t) ρ1
  | .lc i it c e, ρ => (evI S it ρ).bind fun w ρ1 => match ρ1[i]? with
      | some none => lcL i (evOT S c) (ev S e) w.list [] ρ1
      | _ => .stk
  | .lc2 i it j it2 e, ρ => (evI S it ρ).bind fun w ρ1 => match ρ1[i]?, ρ1[j]? with
      | some none, some none => lcO2 i j (evI S it2) (ev S e) w.list [] ρ1
      | _, _ => .stk
  | .mu m i as, ρ => match getS ρ i with
      | some (.lst true _) => (evTs S as ρ).bind fun xs ρ1 => match getS ρ1 i with
        | some (.lst true ds) => match muD m ds (frzL xs) with
          | some (d, ds') => .ok d (ρ1.set i (some (.lst true ds')))
          | none => .stk
        | _ => .stk
      | _ => .stk
def evA (S : Sg) : Ar → Env → Out D
  | .pk p, ρ => Out.lift (evPl p ρ) ρ
  | .vl t, ρ => ev S t ρ
def evOA (S : Sg) : OAr → Env → Out (Option Int)
  | .none, ρ => .ok none ρ
  | .some a, ρ => (evA S a ρ).bind fun x ρ1 => match x with | .int i => .ok (some i) ρ1 | _ => .stk
def evAs (S : Sg) : Ars → Env → Out (List D)
  | .nil, ρ => .ok [] ρ
  | .cons a as, ρ => (evA S a ρ).bind fun x ρ1 => (evAs S as ρ1).bind fun xs ρ2 => if kArs as || atom x then .ok (x :: xs) ρ2 else .stk
def evTs (S : Sg) : Tms → Env → Out (List D)
  | .nil, ρ => .ok [] ρ
  | .cons a as, ρ => (ev S a ρ).bind fun x ρ1 => (evTs S as ρ1).bind fun xs ρ2 => .ok (x :: xs) ρ2
def evC (S : Sg) : Cas → Env → Out (List AV)
  | .nil, ρ => .ok [] ρ
  | .cons (.bor i) cs, ρ => if (getS ρ i).isSome then (evC S cs ρ).bind fun vs ρ1 => .ok (.b i :: vs) ρ1 else .stk
  | .cons (.mt i) cs, ρ => if (getS ρ i).isSome then (evC S cs ρ).bind fun vs ρ1 => .ok (.m i :: vs) ρ1 else .stk
  | .cons (.vl t) cs, ρ => (ev S t ρ).bind fun d ρ1 => (evC S cs ρ1).bind fun vs ρ2 => .ok (.v d :: vs) ρ2
def evT (S : Sg) : Ts → Env → Out Bool
  | .vl t, ρ => (ev S t ρ).bind fun d ρ1 => Out.lift (blD d) ρ1
  | .tr a, ρ => (evA S a ρ).bind fun d ρ1 => Out.lift (truD d) ρ1
  | .and a b, ρ => (evT S a ρ).bind fun t ρ1 => if t then evT S b ρ1 else .ok false ρ1
  | .or a b, ρ => (evT S a ρ).bind fun t ρ1 => if t then .ok true ρ1 else evT S b ρ1
  | .not a, ρ => (evT S a ρ).bind fun t ρ1 => .ok (!t) ρ1
def evOT (S : Sg) : OTs → Env → Out Bool
  | .none, ρ => .ok true ρ
  | .some c, ρ => evT S c ρ
def evI (S : Sg) : It → Env → Out Walk
  | .seq (.pk (.sl i)), ρ => match getS ρ i with
      | some d => Out.lift (walkD d) (ρ.set i (some (frz d)))
      | none => .stk
  | .seq (.pk (.fl p f)), ρ => Out.lift (((evPl (.fl p f) ρ).bind fzItem).bind walkD) ρ
  | .seq (.vl t), ρ => (ev S t ρ).bind fun d ρ1 => Out.lift (walkD d) ρ1
  | .rng1 a, ρ => (evA S a ρ).bind fun x ρ1 => match x with
      | .int j => if small62 j then .ok (.range 0 j.toNat) ρ1 else .stk
      | _ => .stk
  | .rng2 a b, ρ => (evA S a ρ).bind fun x ρ1 => (evA S b ρ1).bind fun y ρ2 => match x, y with
      | .int i, .int j => if small62 i && small62 j then .ok (.range i (j - i).toNat) ρ2 else .stk
      | _, _ => .stk
  | .rng3 _ _ _, _ => .stk
  | .enum _, _ => .stk
  | .zip _ _, _ => .stk
  | .revd _, _ => .stk
end

end DS

set_option Elab.async false
set_option linter.all false
set_option maxRecDepth 100000
/-! DS4: the machine's words for what follows; the judgements; what is the same for all terms. -/
namespace DS
open PySem PySem.Spec PyProof.Rows L2

/-! ### weakest words -/
def Wp (X : Cx) (e : Expr) : TE := fun σ H Q => ∀ (pins : List (Addr × Obj)) (s : Shared), Inv X pins σ H s → wpAny (model X.prog X.w) X.A (eval e X.env) (EP X pins σ Q) X.xe s
def WpT (X : Cx) (e : Expr) : TT := fun σ H Q => ∀ (pins : List (Addr × Obj)) (s : Shared), Inv X pins σ H s → wpAny (model X.prog X.w) X.A (isTrue e X.env (eval e X.env)) (TP X pins σ Q) X.xe s
def WpW (X : Cx) (e : Expr) : TT := fun σ H Q => ∀ (whole : Sem Value) (pins : List (Addr × Obj)) (s : Shared), Inv X pins σ H s → wpAny (model X.prog X.w) X.A (isTrue e X.env whole) (TP X pins σ Q) X.xe s
def WpA (X : Cx) (es : List Expr) : TA := fun σ H Q => ∀ (pos : Pos) (pins : List (Addr × Obj)) (s : Shared), Inv X pins σ H s → wpAny (model X.prog X.w) X.A (spliced (backTo pos (starEach es X.env))) (AP X pins σ Q) X.xe s
def WpS (X : Cx) (st : Stmt) : TS := fun D σ H => ∀ (pins : List (Addr × Obj)) (s : Shared), Inv X pins σ H s → wpAny (model X.prog X.w) X.A (exec st X.env) (SP X pins D) X.xe s
def WpSs (X : Cx) (st : List Stmt) : TS := fun D σ H => ∀ (pins : List (Addr × Obj)) (s : Shared), Inv X pins σ H s → wpAny (model X.prog X.w) X.A (execs st X.env) (SP X pins D) X.xe s
def WpI (X : Cx) (tg e : Expr) : TI := fun σ H R => ∀ (pins : List (Addr × Obj)) (s : Shared), Inv X pins σ H s →
  wpAny (model X.prog X.w) X.A (eval e X.env) (fun v s1 => wpAny (model X.prog X.w) X.A (pyIter v) (PIE X pins σ tg R) X.xe s1) X.xe s
section
variable {X : Cx} {e : Expr} {es : List Expr} {st : Stmt} {sts : List Stmt}
theorem pe_wp : PE X e (Wp X e) := ⟨fun pins s σ H Q I h => h pins s I⟩
theorem pt_wp : PT X e (WpT X e) := ⟨fun pins s σ H Q I h => h pins s I⟩
theorem pw_wp : PW X e (WpW X e) := ⟨fun wh pins s σ H Q I h => h wh pins s I⟩
theorem pa_wp : PA X es (WpA X es) := ⟨fun pos pins s σ H Q I h => h pos pins s I⟩
theorem ps_wp : PS X st (WpS X st) := ⟨fun pins s σ H D I h => h pins s I⟩
theorem pss_wp : PSs X sts (WpSs X sts) := ⟨fun pins s σ H D I h => h pins s I⟩
theorem pi_wp {tg : Expr} : PI X tg e (WpI X tg e) := ⟨fun pins s σ H R I h => h pins s I⟩
theorem wp_of {t : TE} (h : PE X e t) {σ H Q} (q : t σ H Q) : Wp X e σ H Q := fun pins s I => h.run pins s σ H Q I q
theorem wpT_of {t : TT} (h : PT X e t) {σ H Q} (q : t σ H Q) : WpT X e σ H Q := fun pins s I => h.run pins s σ H Q I q
theorem wpW_of {t : TT} (h : PW X e t) {σ H Q} (q : t σ H Q) : WpW X e σ H Q := fun wh pins s I => h.run wh pins s σ H Q I q
theorem wpA_of {t : TA} (h : PA X es t) {σ H Q} (q : t σ H Q) : WpA X es σ H Q := fun pos pins s I => h.run pos pins s σ H Q I q
theorem wpS_of {t : TS} (h : PS X st t) {D σ H} (q : t D σ H) : WpS X st D σ H := fun pins s I => h.run pins s σ H D I q
theorem wpSs_of {t : TS} (h : PSs X sts t) {D σ H} (q : t D σ H) : WpSs X sts D σ H := fun pins s I => h.run pins s σ H D I q
theorem wpI_of {t : TI} {tg : Expr} (h : PI X tg e t) {σ H R} (q : t σ H R) : WpI X tg e σ H R := fun pins s I => h.run pins s σ H R I q
end

/-! ### a program's context -/
structure Cst where
  K : PySem.W.Frag
  mg : Str → Option Value
  nm : Nm
  sg : Sg
  fa : Nat → Addr
  fd : Nat → FuncData
  fp : Nat → List Str
  ex : Nat → Addr

/-- an exception's own dict -/
def ExR (C : Cst) (cls : Value) (d : Option Addr) (F H : Hp) (x : Nat) (fs : List (Str × D)) : Prop :=
  cls = .ref (C.ex x) ∧ (fs = [] ∨ ∃ a vs, d = some a ∧ H a = some (.xd ((fs.map (·.1)).zip vs)) ∧ RepL C.K F vs (fs.map (·.2)))

/-- the arguments: what is not changed is frozen -/
def OwnM (K : PySem.W.Frag) (F H : Hp) : List Bool → List V → List D → List Addr → Prop
  | [], [], [], A => A = []
  | false :: ms, v :: vs, d :: ds, A => Rep K F v d ∧ OwnM K F H ms vs ds A
  | true :: ms, v :: vs, d :: ds, A => ∃ A1 A2, A = A1 ++ A2 ∧ Own K F H v d A1 ∧ OwnM K F H ms vs ds A2
  | _, _, _, _ => False
/-- those that are changed -/
def mutOf {α : Type} : List Bool → List α → List α
  | true :: ms, v :: vs => v :: mutOf ms vs
  | false :: ms, _ :: vs => mutOf ms vs
  | _, _ => []

/-- THE PROMISE of a def whose meaning is sem -/
def spD (C : Cst) (muts : List Bool) (sem : List D → Res) : Sp := fun vs H Q E => ∃ ds F A, Same F H ∧ A.Nodup ∧ (∀ a ∈ A, F a = none) ∧ OwnM C.K F H muts vs ds A ∧
  match sem ds with
  | .ok d ms => ∀ v F' H' A' B, Ext false F H A F' H' (A' ++ B) → (A' ++ B).Nodup → (∀ b ∈ A' ++ B, F' b = none) → Same F' H' → OwnL C.K F' H' (mutOf muts vs) ms A' → Own C.K F' H' v d B → Q v H'
  | .exc x fs => ∀ cls d F' H', Ext false F H A F' H' [] → Same F' H' → ExR C cls d F' H' x fs → E cls d H'
  | .stk => False
theorem OwnM.len {K : PySem.W.Frag} {F H : Hp} : ∀ {ms : List Bool} {vs : List V} {ds : List D} {A : List Addr}, OwnM K F H ms vs ds A → vs.length = ms.length ∧ ds.length = ms.length
  | [], [], [], _, _ => ⟨rfl, rfl⟩
  | false :: ms, v :: vs, d :: ds, A, h => by
    unfold OwnM at h
    obtain ⟨_, h⟩ := h
    have := OwnM.len h
    exact ⟨by simp [this.1], by simp [this.2]⟩
  | true :: ms, v :: vs, d :: ds, A, h => by
    unfold OwnM at h
    obtain ⟨_, _, _, _, h⟩ := h
    have := OwnM.len h
    exact ⟨by simp [this.1], by simp [this.2]⟩
  | [], _ :: _, _, _, h => h.elim
  | [], [], _ :: _, _, h => h.elim
  | false :: ms, [], _, _, h => h.elim
  | true :: ms, [], _, _, h => h.elim
  | false :: ms, _ :: _, [], _, h => h.elim
  | true :: ms, _ :: _, [], _, h => h.elim

/-- the level at which the body of X may call -/
structure XOK (C : Cst) (lv : Nat) (sc : Scope) (X : Cx) : Prop where
  K : X.K = C.K
  mg : X.mg = C.mg
  N : X.N = C.nm.N
  nd : X.N.Nodup
  sc : X.env.scope = sc
  calm : X.calm = true
  room : Room lv X.A
  fns : ∀ i x ms, C.nm.fn[i]? = some (x, ms) → X.mg x = some (.ref (C.fa i)) ∧ PySem.W.keepIn X.K (.ref (C.fa i)) = true ∧ Binds X.K (C.fd i) (C.fp i) [] ∧
    FnOk X.prog X.w X.K X.mg X.base (L2.CX X.prog X.w) lv (C.fa i) (C.fd i) (C.fp i) (spD C ms (C.sg.fn i))
  cns : ∀ i x, C.nm.cn[i]? = some x → ∃ u v, X.mg x = some u ∧ RelV v u ∧ ∀ F, Rep C.K F v (C.sg.cd i)
  bls : ∀ x ∈ C.nm.bl, X.mg x = none
  units : X.A.units + 64 < cLine

/-! ### judgements: the meaning's result, and what follows -/
section
variable (C : Cst) (W : WX) (σ : DSt) (kp : Bool) (F H : Hp) (A : List Addr)
def EPost (o : Out D) (Q : VK) : Prop := match o with
  | .ok d ρ' => ∀ v F' H' A' B, SR C.K σ ρ' F' H' A' → Own C.K F' H' v d B → Ext kp F H A F' H' (A' ++ B) → (A' ++ B).Nodup → (∀ b ∈ B, F' b = none) → Q v H'
  | .exc x fs ρ' => ∀ cls d F' H' A', SR C.K σ ρ' F' H' A' → Ext false F H A F' H' A' → ExR C cls d F' H' x fs → W cls d σ H'
  | .stk => False
/-- an operand -/
def APost (o : Out D) (Q : VK) : Prop := match o with
  | .ok d ρ' => ∀ v F' H' A' B, SR C.K σ ρ' F' H' A' → Own C.K F' H' v d B → Ext kp F H A F' H' A' → Q v H'
  | .exc x fs ρ' => ∀ cls d F' H' A', SR C.K σ ρ' F' H' A' → Ext false F H A F' H' A' → ExR C cls d F' H' x fs → W cls d σ H'
  | .stk => False
/-- each by itself -/
def OwnA (K : PySem.W.Frag) (F H : Hp) : List V → List D → Prop
  | [], [] => True
  | v :: vs, d :: ds => (∃ B, Own K F H v d B) ∧ OwnA K F H vs ds
  | _, _ => False
def AsPost (o : Out (List D)) (Q : List V → Hp → Prop) : Prop := match o with
  | .ok ds ρ' => ∀ vs F' H' A', SR C.K σ ρ' F' H' A' → OwnA C.K F' H' vs ds → Ext kp F H A F' H' A' → Q vs H'
  | .exc x fs ρ' => ∀ cls d F' H' A', SR C.K σ ρ' F' H' A' → Ext false F H A F' H' A' → ExR C cls d F' H' x fs → W cls d σ H'
  | .stk => False
def TsPost (o : Out (List D)) (Q : List V → Hp → Prop) : Prop := match o with
  | .ok ds ρ' => ∀ vs F' H' A' B, SR C.K σ ρ' F' H' A' → OwnL C.K F' H' vs ds B → Ext kp F H A F' H' (A' ++ B) → (A' ++ B).Nodup → (∀ b ∈ B, F' b = none) → Q vs H'
  | .exc x fs ρ' => ∀ cls d F' H' A', SR C.K σ ρ' F' H' A' → Ext false F H A F' H' A' → ExR C cls d F' H' x fs → W cls d σ H'
  | .stk => False
def BPost (o : Out Bool) (Q : Bool → Hp → Prop) : Prop := match o with
  | .ok b ρ' => ∀ F' H' A', SR C.K σ ρ' F' H' A' → Ext kp F H A F' H' A' → Q b H'
  | .exc x fs ρ' => ∀ cls d F' H' A', SR C.K σ ρ' F' H' A' → Ext false F H A F' H' A' → ExR C cls d F' H' x fs → W cls d σ H'
  | .stk => False
end
section
variable (C : Cst) (X : Cx) (W : WX)
def DE (kp : Bool) (e : Expr) (f : Env → Out D) : Prop := ∀ σ ρ F H A Q, SR C.K σ ρ F H A → EPost C W σ kp F H A (f ρ) Q → Wp X e σ H Q
def DA (kp : Bool) (e : Expr) (f : Env → Out D) : Prop := ∀ σ ρ F H A Q, SR C.K σ ρ F H A → APost C W σ kp F H A (f ρ) Q → Wp X e σ H Q
def DAs (kp : Bool) (es : List Expr) (f : Env → Out (List D)) : Prop := ∀ σ ρ F H A Q, SR C.K σ ρ F H A → AsPost C W σ kp F H A (f ρ) Q → WpA X es σ H Q
def DTs (kp : Bool) (es : List Expr) (f : Env → Out (List D)) : Prop := ∀ σ ρ F H A Q, SR C.K σ ρ F H A → TsPost C W σ kp F H A (f ρ) Q → WpA X es σ H Q
def DT (kp : Bool) (e : Expr) (f : Env → Out Bool) : Prop := ∀ σ ρ F H A Q, SR C.K σ ρ F H A → BPost C W σ kp F H A (f ρ) Q → WpT X e σ H Q
end

section
variable {C : Cst} {X : Cx} {W : WX} {σ : DSt} {ρ : Env} {kp kq : Bool} {F H F1 H1 : Hp} {A A1 : List Addr}
theorem EPost.step {o : Out D} {Q : VK} (e : Ext kp F H A F1 H1 A1) (p : EPost C W σ (kp && kq) F H A o Q) : EPost C W σ kq F1 H1 A1 o Q := by
  cases o with
  | ok d ρ' => exact fun v F' H' A' B S O x n f => p v F' H' A' B S O (e.trans x) n f
  | exc x fs ρ' => exact fun cls d F' H' A' S x y => p cls d F' H' A' S ((e.trans x).weak (fun z => nomatch z)) y
  | stk => exact p
theorem APost.step {o : Out D} {Q : VK} (e : Ext kp F H A F1 H1 A1) (p : APost C W σ (kp && kq) F H A o Q) : APost C W σ kq F1 H1 A1 o Q := by
  cases o with
  | ok d ρ' => exact fun v F' H' A' B S O x => p v F' H' A' B S O (e.trans x)
  | exc x fs ρ' => exact fun cls d F' H' A' S x y => p cls d F' H' A' S ((e.trans x).weak (fun z => nomatch z)) y
  | stk => exact p
theorem EPost.kp_le {o : Out D} {Q : VK} (h : kq = true → kp = true) (p : EPost C W σ kq F H A o Q) : EPost C W σ kp F H A o Q := by
  cases o with
  | ok d ρ' => exact fun v F' H' A' B S O x n f => p v F' H' A' B S O (x.weak h) n f
  | exc x fs ρ' => exact p
  | stk => exact p
/-- an exception goes on -/
theorem EPost.exc_of {x fs ρ'} {o : Out D} {Q Q' : VK} (p : EPost C W σ kp F H A (.exc x fs ρ') Q) : APost C W σ kq F H A (.exc x fs ρ') Q' := p
/-- a value as an operand -/
theorem DE.da {e : Expr} {f : Env → Out D} (h : DE C X W kp e f) : DA C X W kp e f := by
  intro σ ρ F H A Q S p
  refine h σ ρ F H A Q S ?_
  cases hf : f ρ with
  | ok d ρ' =>
    rw [hf] at p
    exact fun v F' H' A' B S' O x n fr => p v F' H' A' B S' O (x.sub fun b hb => .inl (List.mem_append_left _ hb))
  | exc x fs ρ' => rw [hf] at p; exact p
  | stk => rw [hf] at p; exact p
theorem Own.atom_any {K : PySem.W.Frag} {F F' H H' : Hp} {v : V} {d : D} {B : List Addr} (a : atom d = true) (h : Own K F H v d B) : Own K F' H' v d B := by
  cases d with
  | lst => exact nomatch a
  | tup => exact nomatch a
  | dct => exact nomatch a
  | ins => exact nomatch a
  | _ => exact h
/-- an operand, while the next one is evaluated -/
theorem Own.later {K : PySem.W.Frag} {v : V} {d : D} {B : List Addr} (h : Own K F H v d B) (e : Ext kp F H A F1 H1 A1) (k : kp = true ∨ atom d = true) : Own K F1 H1 v d B := by
  rcases k with k | k
  · exact Own.mono e.fs d v B (fun b hb o ho => e.fr b o ho (.inl k)) h
  · exact h.atom_any k

/-! ### new objects -/
/-- a new object at p, owned with what it holds -/
theorem SR.laid {p : Addr} {o : HO} (S : SR C.K σ ρ F H A) (hp : H p = none) : SR C.K σ ρ F (upd H p o) A := by
  refine S.mono (Same.refl F) (fun b hb u hu => ?_) (fun b u hu => ?_) S.free
  · rw [upd_ne (ne_of_none hu hp)]; exact hu
  · rw [upd_ne (ne_of_none (S.same _ _ hu) hp)]; exact S.same _ _ hu
theorem same_upd {p : Addr} {o : HO} (hp : H p = none) : Same H (upd H p o) := fun b u hu => by rw [upd_ne (ne_of_none hu hp)]; exact hu
/-- .. frozen at once -/
theorem SR.laidF {p : Addr} {o : HO} (S : SR C.K σ ρ F H A) (hp : H p = none) : SR C.K σ ρ (upd F p o) (upd H p o) A := by
  have hF : F p = none := S.same.free hp
  refine S.mono (same_upd hF) (fun b hb u hu => ?_) (fun b u hu => ?_) (fun b hb => ?_)
  · rw [upd_ne (ne_of_none hu hp)]; exact hu
  · by_cases e : b = p
    · subst e; rw [upd_same] at hu ⊢; exact hu
    · rw [upd_ne e] at hu ⊢; exact S.same _ _ hu
  · have : b ≠ p := fun e => by subst e; exact S.dom b hb hp
    rw [upd_ne this]; exact S.free b hb
theorem Ext.laid {p : Addr} {o : HO} {B : List Addr} (S : SR C.K σ ρ F H A) (hp : H p = none) (hB : ∀ b ∈ B, b = p) : Ext true F H A F (upd H p o) (A ++ B) :=
  ⟨Same.refl F, fun b u hu _ => same_upd hp b u hu, fun b h => .inl h, fun b hb => by
    rcases List.mem_append.mp hb with h | h
    · exact .inl h
    · exact .inr (by rw [hB b h]; exact hp)⟩
theorem Ext.laidF {p : Addr} {o : HO} (S : SR C.K σ ρ F H A) (hp : H p = none) : Ext true F H A (upd F p o) (upd H p o) (A ++ []) :=
  ⟨same_upd (S.same.free hp), fun b u hu _ => same_upd hp b u hu, fun b h => by
    by_cases e : b = p
    · subst e; exact .inr (.inr hp)
    · rw [upd_ne e] at h; exact .inl h, fun b hb => by rw [List.append_nil] at hb; exact .inl hb⟩
theorem nodup_new {p : Addr} (S : SR C.K σ ρ F H A) (hp : H p = none) : (A ++ [p]).Nodup := by
  rw [List.nodup_append]
  refine ⟨S.nd, by simp, fun a ha b hb e => ?_⟩
  have : b = p := by simpa using hb
  subst this e
  exact S.dom _ ha hp
/-- the post of a primitive: nothing changed but what is new -/
def Fresh (C : Cst) (σ : DSt) (ρ : Env) (F H : Hp) (A : List Addr) (d : D) (Q : VK) : Prop :=
  ∀ v F' H' B, SR C.K σ ρ F' H' A → Own C.K F' H' v d B → Ext true F H A F' H' (A ++ B) → (A ++ B).Nodup → (∀ b ∈ B, F' b = none) → Q v H'
theorem Fresh.of {d : D} {Q : VK} (S : SR C.K σ ρ F H A) (p : EPost C W σ kp F H A (.ok d ρ) Q) : Fresh C σ ρ F H A d Q :=
  fun v F' H' B S' O x n f => p v F' H' A B S' O (x.weak fun _ => rfl) n f
theorem Fresh.atom {d : D} {v : V} {Q : VK} (S : SR C.K σ ρ F H A) (p : Fresh C σ ρ F H A d Q) (h : Own C.K F H v d []) : Q v H :=
  p v F H [] S h ((Ext.refl true F H A).sub fun b hb => by rw [List.append_nil] at hb; exact .inl hb) (by rw [List.append_nil]; exact S.nd) fun _ hb => nomatch hb
theorem Fresh.lst {ds : List D} {vs : List V} {p : Addr} {Q : VK} (S : SR C.K σ ρ F H A) (q : Fresh C σ ρ F H A (.lst true ds) Q) (r : RepL C.K F vs ds) (hp : H p = none) : Q (.ref p) (upd H p (.lst vs)) := by
  refine q (.ref p) F (upd H p (.lst vs)) [p] (S.laid hp) ?_ (Ext.laid S hp fun b hb => by simpa using hb) (nodup_new S hp) fun b hb => ?_
  · unfold Own
    exact ⟨p, vs, [], rfl, rfl, upd_same, RepL.to_own r⟩
  · have : b = p := by simpa using hb
    subst this
    exact S.same.free hp
theorem Fresh.tup {ds : List D} {vs : List V} {p : Addr} {Q : VK} (S : SR C.K σ ρ F H A) (q : Fresh C σ ρ F H A (.tup false ds) Q) (r : RepL C.K F vs ds) (hp : H p = none) : Q (.ref p) (upd H p (.tup vs)) := by
  refine q (.ref p) (upd F p (.tup vs)) (upd H p (.tup vs)) [] (S.laidF hp) ?_ (Ext.laidF S hp) (by rw [List.append_nil]; exact S.nd) fun b hb => nomatch hb
  unfold Own
  refine ⟨rfl, ?_⟩
  unfold Rep
  exact ⟨rfl, p, vs, rfl, .of upd_same, RepL.same (same_upd (S.same.free hp)) ds vs r⟩
end
end DS

set_option Elab.async false
set_option linter.all false
set_option maxRecDepth 100000
/-! DS5: primitives, by values. -/
namespace DS
open PySem PySem.Spec PyProof.Rows L2

/-! ### whichever rule serves -/
def anyOp (X : Cx) (f : Value → Value → Sem Value) : R2 := fun x y H Q => ∃ r : R2, OpR X f r ∧ r x y H Q
theorem op_any {X : Cx} {f : Value → Value → Sem Value} : OpR X f (anyOp X f) := fun pins s σ H x y v u Q I rx ry ⟨r, h, q⟩ => h pins s σ H x y v u Q I rx ry q
def anyUn (X : Cx) (f : Value → Sem Value) : V → Hp → VK → Prop := fun x H Q => ∃ r : V → Hp → VK → Prop, UnR X f r ∧ r x H Q
theorem un_any {X : Cx} {f : Value → Sem Value} : UnR X f (anyUn X f) := fun pins s σ H x v Q I rx ⟨r, h, q⟩ => h pins s σ H x v Q I rx q
def anyIx (X : Cx) : R2 := fun x y H Q => ∃ r : R2, IxR X r ∧ r x y H Q
theorem ix_any {X : Cx} : IxR X (anyIx X) := fun value slice pins s σ H x y v u Q I rx ry ⟨r, h, q⟩ hs => h value slice pins s σ H x y v u Q I rx ry q hs
def anySl (X : Cx) : V → Option Int → Option Int → Hp → VK → Prop := fun x lo hi H Q => ∃ r : V → Option Int → Option Int → Hp → VK → Prop, SlR X r ∧ r x lo hi H Q
theorem sl_any {X : Cx} : SlR X (anySl X) := fun pins s σ H x v vl vu lo hi sl Q I rx hs pl pu ⟨r, h, q⟩ => h pins s σ H x v vl vu lo hi sl Q I rx hs pl pu q
def anyCall (X : Cx) (f : Value) : List V → Hp → VK → Prop := fun xs H Q => ∃ r : List V → Hp → VK → Prop, CallR X f r ∧ r xs H Q
theorem call_any {X : Cx} {f : Value} : CallR X f (anyCall X f) := fun pins s σ H xs us Q I rs ⟨r, h, q⟩ => h pins s σ H xs us Q I rs q
def anyMt (X : Cx) (id : String) : V → List V → Hp → VK → Prop := fun x xs H Q => ∃ r : V → List V → Hp → VK → Prop, MtR X id r ∧ r x xs H Q
theorem mt_any {X : Cx} {id : String} : MtR X id (anyMt X id) := fun pins s σ H x xs v us Q I rx rs ⟨r, h, q⟩ => h pins s σ H x xs v us Q I rx rs q

section
variable {K : PySem.W.Frag} {F H : Hp} {v : V} {d : D} {B : List Addr}
/-! ### how a tree lies -/
theorem Own.intE {i : Int} (h : Own K F H v (.int i) B) : v = .int i ∧ B = [] := ⟨h.2, h.1⟩
theorem Own.blE {b : Bool} (h : Own K F H v (.bl b) B) : v = .bl b ∧ B = [] := ⟨h.2, h.1⟩
theorem Own.strE {z : Str} (h : Own K F H v (.str z) B) : v = .str z ∧ B = [] := ⟨h.2, h.1⟩
theorem Own.nonE (h : Own K F H v .non B) : v = .non ∧ B = [] := ⟨h.2, h.1⟩
theorem Own.tyE {t : Ty} (h : Own K F H v (.ty t) B) : v = .ty t.name ∧ B = [] := ⟨h.2, h.1⟩
theorem rd_sub {a : Addr} {u : HO} (s : Same F H) (h : Rd F a u) : Rd H a u := rd_same h s
/-- a list: its object, its items -/
theorem Own.lstE (s : Same F H) {o : Bool} {ds : List D} (h : Own K F H v (.lst o ds) B) : ∃ a vs, v = .ref a ∧ SqL K H a vs ∧ (∃ B', OwnL K F H vs ds B' ∧ ∀ b ∈ B', b ∈ B) ∧ vs.length = ds.length := by
  cases o with
  | true =>
    unfold Own at h
    obtain ⟨a, vs, B', e, eB, ha, r⟩ := h
    exact ⟨a, vs, e, .of ha, ⟨B', r, fun b hb => by rw [eB]; exact List.mem_cons_of_mem _ hb⟩, r.length⟩
  | false =>
    unfold Own at h
    obtain ⟨eB, h⟩ := h
    unfold Rep at h
    obtain ⟨_, a, vs, e, ha, r⟩ := h
    exact ⟨a, vs, e, sqL_same ha s, ⟨[], r.to_own, fun b hb => nomatch hb⟩, r.length⟩
theorem Own.tupE (s : Same F H) {o : Bool} {ds : List D} (h : Own K F H v (.tup o ds) B) : ∃ a vs, v = .ref a ∧ SqT K H a vs ∧ (∃ B', OwnL K F H vs ds B' ∧ ∀ b ∈ B', b ∈ B) ∧ vs.length = ds.length := by
  cases o with
  | true =>
    unfold Own at h
    obtain ⟨a, vs, B', e, eB, ha, r⟩ := h
    exact ⟨a, vs, e, .of ha, ⟨B', r, fun b hb => by rw [eB]; exact List.mem_cons_of_mem _ hb⟩, r.length⟩
  | false =>
    unfold Own at h
    obtain ⟨eB, h⟩ := h
    unfold Rep at h
    obtain ⟨_, a, vs, e, ha, r⟩ := h
    exact ⟨a, vs, e, sqT_same ha s, ⟨[], r.to_own, fun b hb => nomatch hb⟩, r.length⟩
theorem OwnL.get : ∀ {ds : List D} {vs : List V} {B : List Addr} {j : Nat} {d : D}, OwnL K F H vs ds B → ds[j]? = some d → ∃ v B', vs[j]? = some v ∧ Own K F H v d B'
  | [], _, _, j, d, _, e => by simp at e
  | d :: ds, vs, B, 0, d', h, e => by
    unfold OwnL at h
    obtain ⟨v, r, B1, B2, hv, hB, h1, h2⟩ := h
    have : d = d' := by simpa using e
    subst this hv
    exact ⟨v, B1, rfl, h1⟩
  | d :: ds, vs, B, j + 1, d', h, e => by
    unfold OwnL at h
    obtain ⟨v, r, B1, B2, hv, hB, h1, h2⟩ := h
    subst hv
    obtain ⟨v', B', e1, e2⟩ := OwnL.get (j := j) h2 (by simpa using e)
    exact ⟨v', B', by simpa using e1, e2⟩
theorem RepL.append : ∀ {ds es : List D} {vs ws : List V}, RepL K F vs ds → RepL K F ws es → RepL K F (vs ++ ws) (ds ++ es)
  | [], es, vs, ws, h, k => by
    unfold RepL at h; subst h; exact k
  | d :: ds, es, vs, ws, h, k => by
    unfold RepL at h
    obtain ⟨v, r, hv, h1, h2⟩ := h
    subst hv
    rw [List.cons_append, List.cons_append]
    unfold RepL
    exact ⟨v, r ++ ws, rfl, h1, RepL.append h2 k⟩
theorem RepL.take : ∀ {ds : List D} {vs : List V} (n : Nat), RepL K F vs ds → RepL K F (vs.take n) (ds.take n)
  | _, _, 0, h => by simp [RepL]
  | [], vs, n + 1, h => by unfold RepL at h; subst h; simp [RepL]
  | d :: ds, vs, n + 1, h => by
    unfold RepL at h
    obtain ⟨v, r, hv, h1, h2⟩ := h
    subst hv
    rw [List.take_succ_cons, List.take_succ_cons]
    unfold RepL
    exact ⟨v, _, rfl, h1, RepL.take n h2⟩
theorem RepL.drop : ∀ {ds : List D} {vs : List V} (n : Nat), RepL K F vs ds → RepL K F (vs.drop n) (ds.drop n)
  | _, _, 0, h => by simpa using h
  | [], vs, n + 1, h => by unfold RepL at h; subst h; simp [RepL]
  | d :: ds, vs, n + 1, h => by
    unfold RepL at h
    obtain ⟨v, r, hv, h1, h2⟩ := h
    subst hv
    rw [List.drop_succ_cons, List.drop_succ_cons]
    exact RepL.drop n h2
theorem RepL.rep {ds : List D} {vs : List V} (h : RepL K F vs ds) : ∀ n : Nat, RepL K F (List.replicate n vs).flatten (List.replicate n ds).flatten
  | 0 => by simp [RepL]
  | n + 1 => by
    rw [List.replicate_succ, List.replicate_succ, List.flatten_cons, List.flatten_cons]
    exact h.append (h.rep n)
theorem RepL.cut {ds : List D} {vs : List V} (h : RepL K F vs ds) (lo hi : Option Int) : RepL K F (cutV vs lo hi) (cutD ds lo hi) := by
  unfold cutV cutD
  rw [h.length]
  exact (h.drop _).take _
theorem RepL.ints : ∀ {ds : List D} {vs : List V} {ns : List Int}, RepL K F vs ds → intsD ds = some ns → vs = ns.map V.int
  | [], vs, ns, h, e => by
    unfold RepL at h
    unfold intsD at e
    cases e
    exact h
  | d :: ds, vs, ns, h, e => by
    unfold RepL at h
    obtain ⟨v, r, hv, h1, h2⟩ := h
    cases d with
    | int i =>
      unfold intsD at e
      cases q : intsD ds with
      | none => rw [q] at e; cases e
      | some ms =>
        rw [q] at e
        cases e
        unfold Rep at h1
        rw [hv, h1, RepL.ints h2 q]
        rfl
    | _ => unfold intsD at e; cases e
theorem OwnL.ints : ∀ {ds : List D} {vs : List V} {ns : List Int} {B : List Addr}, OwnL K F H vs ds B → intsD ds = some ns → vs = ns.map V.int
  | [], vs, ns, B, h, e => by
    unfold OwnL at h
    unfold intsD at e
    cases e
    exact h.1
  | d :: ds, vs, ns, B, h, e => by
    unfold OwnL at h
    obtain ⟨v, r, B1, B2, hv, hB, h1, h2⟩ := h
    cases d with
    | int i =>
      unfold intsD at e
      cases q : intsD ds with
      | none => rw [q] at e; cases e
      | some ms =>
        rw [q] at e
        cases e
        rw [hv, h1.intE.1, OwnL.ints h2 q]
        rfl
    | _ => unfold intsD at e; cases e
theorem intsD_map : ∀ ns : List Int, intsD (ns.map D.int) = some ns
  | [] => rfl
  | n :: ns => by
    rw [List.map_cons]
    unfold intsD
    rw [intsD_map ns]
    rfl
theorem repL_ints (ns : List Int) : RepL K F (ns.map V.int) (ns.map D.int) := by
  induction ns with
  | nil => simp [RepL]
  | cons n ns ih =>
    rw [List.map_cons, List.map_cons]
    unfold RepL
    exact ⟨_, _, rfl, by unfold Rep; rfl, ih⟩
/-- flat items -/
theorem Own.flat (f : flatD d = true) (h : Own K F H v d B) : v = vOf d ∧ flatV v = true ∧ B = [] := by
  cases d with
  | non => exact ⟨h.2, by rw [h.2]; rfl, h.1⟩
  | bl b => exact ⟨h.2, by rw [h.2]; rfl, h.1⟩
  | int i => exact ⟨h.2, by rw [h.2]; rfl, h.1⟩
  | str x => exact ⟨h.2, by rw [h.2]; rfl, h.1⟩
  | _ => exact nomatch f
theorem OwnL.flat : ∀ {ds : List D} {vs : List V} {B : List Addr}, ds.all flatD = true → OwnL K F H vs ds B → vs = ds.map vOf ∧ vs.all flatV = true
  | [], vs, B, _, h => by unfold OwnL at h; rw [h.1]; exact ⟨rfl, rfl⟩
  | d :: ds, vs, B, f, h => by
    unfold OwnL at h
    obtain ⟨v, r, B1, B2, hv, hB, h1, h2⟩ := h
    rw [List.all_cons, Bool.and_eq_true] at f
    obtain ⟨e1, e2, _⟩ := h1.flat f.1
    obtain ⟨e3, e4⟩ := OwnL.flat f.2 h2
    subst hv
    rw [List.map_cons, List.all_cons, e2, e4, e3, e1]
    exact ⟨rfl, rfl⟩
mutual
/-- data, for == -/
theorem Own.dp (s : Same F H) : ∀ (d : D) (v : V) (B : List Addr), dat d = true → Own K F H v d B → Dp K H v (pyD d)
  | .non, v, B, _, h => by rw [h.2]; unfold pyD; exact .non
  | .bl b, v, B, _, h => by rw [h.2]; unfold pyD; exact .bl b
  | .int i, v, B, _, h => by rw [h.2]; unfold pyD; exact .int i
  | .str x, v, B, _, h => by rw [h.2]; unfold pyD; exact .str x
  | .lst true ds, v, B, f, h => by
    unfold Own at h
    obtain ⟨a, vs, B', e, eB, ha, r⟩ := h
    subst e
    unfold pyD
    exact .lst (.of ha) (OwnL.dp s ds vs B' (by unfold dat at f; exact f) r)
  | .tup true ds, v, B, f, h => by
    unfold Own at h
    obtain ⟨a, vs, B', e, eB, ha, r⟩ := h
    subst e
    unfold pyD
    exact .tup (.of ha) (OwnL.dp s ds vs B' (by unfold dat at f; exact f) r)
  | .lst false ds, v, B, f, h => by
    unfold Own at h
    exact Rep.dp s _ v f h.2
  | .tup false ds, v, B, f, h => by
    unfold Own at h
    exact Rep.dp s _ v f h.2
  | .ty _, v, B, f, h => nomatch f
  | .ref _, v, B, f, h => nomatch f
  | .dct _ _ _, v, B, f, h => by simp [dat] at f
  | .ins _ _ _ _, v, B, f, h => by simp [dat] at f
theorem OwnL.dp (s : Same F H) : ∀ (ds : List D) (vs : List V) (B : List Addr), datL ds = true → OwnL K F H vs ds B → DpAll K H vs (pyL ds)
  | [], vs, B, _, h => by unfold OwnL at h; rw [h.1]; unfold pyL; exact .nil
  | d :: ds, vs, B, f, h => by
    unfold OwnL at h
    obtain ⟨v, r, B1, B2, hv, hB, h1, h2⟩ := h
    subst hv
    unfold datL at f
    rw [Bool.and_eq_true] at f
    unfold pyL
    exact .cons (Own.dp s d v B1 f.1 h1) (OwnL.dp s ds r B2 f.2 h2)
theorem Rep.dp (s : Same F H) : ∀ (d : D) (v : V), dat d = true → Rep K F v d → Dp K H v (pyD d)
  | .non, v, _, h => by unfold Rep at h; rw [h]; unfold pyD; exact .non
  | .bl b, v, _, h => by unfold Rep at h; rw [h]; unfold pyD; exact .bl b
  | .int i, v, _, h => by unfold Rep at h; rw [h]; unfold pyD; exact .int i
  | .str x, v, _, h => by unfold Rep at h; rw [h]; unfold pyD; exact .str x
  | .lst o ds, v, f, h => by
    unfold Rep at h
    obtain ⟨_, a, vs, e, ha, r⟩ := h
    subst e
    unfold pyD
    exact .lst (sqL_same ha s) (RepL.dp s ds vs (by unfold dat at f; exact f) r)
  | .tup o ds, v, f, h => by
    unfold Rep at h
    obtain ⟨_, a, vs, e, ha, r⟩ := h
    subst e
    unfold pyD
    exact .tup (sqT_same ha s) (RepL.dp s ds vs (by unfold dat at f; exact f) r)
  | .ty _, v, f, h => nomatch f
  | .ref _, v, f, h => nomatch f
  | .dct _ _ _, v, f, h => by simp [dat] at f
  | .ins _ _ _ _, v, f, h => by simp [dat] at f
theorem RepL.dp (s : Same F H) : ∀ (ds : List D) (vs : List V), datL ds = true → RepL K F vs ds → DpAll K H vs (pyL ds)
  | [], vs, _, h => by unfold RepL at h; rw [h]; unfold pyL; exact .nil
  | d :: ds, vs, f, h => by
    unfold RepL at h
    obtain ⟨v, r, hv, h1, h2⟩ := h
    subst hv
    unfold datL at f
    rw [Bool.and_eq_true] at f
    unfold pyL
    exact .cons (Rep.dp s d v f.1 h1) (RepL.dp s ds r f.2 h2)
end
end

/-- () + t is t -/
def rCatT0 (K : PySem.W.Frag) : R2 := fun x y H Q => ∃ a b ys, x = .ref a ∧ y = .ref b ∧ SqT K H a [] ∧ SqT K H b ys ∧ Q (.ref b) H
open PyProof in
theorem tup_addW0 (l b : Addr) (xs ys : Array Value) (n m : Nat) (dd dd2 : Option Addr) (sl sl2 : Array (Option Value)) (hc : xs.isEmpty = true) :
    Meets (Builtin.«tuple.__add__» ⟨[.ref l, .ref b], []⟩)
      (fun _ R s => s.heap.get? l = some ⟨.type "tuple", dd, .seq xs n, sl⟩ ∧ s.heap.get? b = some ⟨.type "tuple", dd2, .seq ys m, sl2⟩ ∧ R (.ok (.ret (.ref b))) s) := by
  refine .of_wp fun prog w A R s h => ?_
  obtain ⟨hp, g, d, tk, os⟩ := s
  obtain ⟨e1, e2, h⟩ := h
  have g1 := sub_tuple_tuple
  have g2 := AutoSeq1.idx_int
  wp_walk using wpAny_loadPart' e1, wpAny_loadPart' e2
  exact ⟨_, rfl, h⟩
theorem op_catT0 {X : Cx} : OpR X (binaryOp .Add) (rCatT0 X.K) := by
  rintro pins s σ H x y v u Q I rx ry ⟨a, b, ys, rfl, rfl, ha, hb, q⟩
  cases rx
  cases ry
  obtain ⟨i1, r1, p1, _⟩ := I.tuple ha
  obtain ⟨i2, r2, p2, _⟩ := I.tuple hb
  cases r1
  obtain ⟨⟨c1, dd1, da1, sl1⟩, g1, k1, n1, f1⟩ := p1
  obtain ⟨⟨c2, dd2, da2, sl2⟩, g2, k2, n2, f2⟩ := p2
  simp only at k1 f1 k2 f2
  subst k1 f1 k2 f2
  refine PySem.concat_meets ⟨_, g1, rfl⟩ ⟨_, g2, rfl⟩ noFill_tuple_add seq_tuple_add F.slot_tuple_add F.entry_tuple_add
    (F.args_tuple_add_2 _ _) (tup_addW0 a b _ _ n1 n2 dd1 dd2 sl1 sl2 rfl) ⟨g1, g2, ?_⟩
  exact ⟨.ref b, H, I, rfl, q⟩
/-- the whole of a tuple is the tuple itself -/
def rSlW (K : PySem.W.Frag) : V → Option Int → Option Int → Hp → VK → Prop := fun x lo hi H Q =>
  ∃ a xs, x = .ref a ∧ SqT K H a xs ∧ HT.sIx xs.length 0 lo = 0 ∧ HT.sIx xs.length xs.length hi = xs.length ∧ Q (.ref a) H
open HT in
theorem cut_whole {prog : Program} {w : World} {A : Around} {E : Value → Shared → Prop} {s : Shared} {t sl : Addr} {items : Array Value} {vl vu : Value} {lo hi : Option Int} {Q : Value → Shared → Prop}
    (ht : IsTup s.heap t items) (hs : s.heap.IsSliceOf sl vl vu .none) (pl : IsPart vl lo) (pu : IsPart vu hi)
    (h0 : sIx items.size 0 lo = 0) (h1 : sIx items.size items.size hi = items.size) (h : Q (.ref t) s) :
    wpAny (model prog w) A (getItem (.ref t) (.ref sl)) Q E s := by
  obtain ⟨ob, k1, k2, k3⟩ := id hs
  have ty : s.TypeIs (.ref sl) "slice" := ⟨ob, k1, k2⟩
  unfold getItem
  refine wpAny_holding ?_
  refine wpAny_bind (wpAny_sequenceKey ht.typeIs (by decide) ?_)
  refine wpAny_bind (wpAny_callSpecial?_slot (name := "__getitem__") ht.typeIs PyProof.Rows.slot_tuple_getitem (wpAny_call_entry PyProof.Rows.slot_tuple_getitem ht.typeIs entry_tuple_getitem ?_ (args_tuple_getitem _ _)))
  show wpAny _ _ (Builtin.Tuple.tupleItemsOf (.ref t) >>= _) _ _ s
  refine wpAny_bind (tupleItemsOf_ ht ?_)
  refine wpAny_bind (wpAny_typeOf ty ?_)
  rw [if_pos (by decide)]
  refine wpAny_bind (sliceApplied_gen hs pl pu ?_)
  rw [h0, h1]
  show wpAny (model prog w) A.in1 (if (((0 : Nat) : Int) == 0 && (1 : Int) == 1 && items.size - 0 == items.size) = true then _ else _) _ _ s
  rw [if_pos (by simp)]
  refine wpAny_bind ?_
  unfold Builtin.Tuple.tupleIsExact
  refine wpAny_bind (wpAny_typeOf ht.typeIs (wpAny_pure ?_))
  rw [if_pos (by decide)]
  exact wpAny_bind (wpAny_rule (wpAny_pure ⟨_, rfl, wpAny_pure h⟩))
theorem sl_whole {X : Cx} : SlR X (rSlW X.K) := by
  rintro pins s σ H x v vl vu lo hi sl Q I rx hs pl pu ⟨a, xs, rfl, hx, h0, h1, q⟩
  cases rx
  obtain ⟨its, r, ht, _⟩ := I.tuple hx
  have z : its.toArray.size = xs.length := by simp only [List.size_toArray]; exact r.length.symm
  exact ⟨"tuple", _, PyProof.Rows.slot_tuple_getitem.lookup, ht.typeIs, cut_whole ht hs pl pu (by rw [z]; exact h0) (by rw [z]; exact h1) ⟨.ref a, H, I, rfl, q⟩⟩
/-! ### operators -/
def bopOk : BOp → Operator → Bool
  | .add, .Add | .sub, .Sub | .mul, .Mult | .fdiv, .FloorDiv | .mod, .Mod | .pow, .Pow => true
  | _, _ => false
def copOk : COp → CmpOp → Bool
  | .eq, .Eq | .ne, .NotEq | .lt, .Lt | .le, .LtE | .gt, .Gt | .ge, .GtE | .is, .Is | .isnot, .IsNot | .isin, .In | .notin, .NotIn => true
  | _, _ => false

section
variable {C : Cst} {X : Cx} {σ : DSt} {ρ : Env} {F H : Hp} {A : List Addr} {Q : VK} {v1 v2 : V} {d1 d2 d : D} {B1 B2 : List Addr}

theorem CMulAll.any {X : Cx} {i j : Int} {Q : VK} {H : Hp} (h : okMul i j) (q : Q (.int (i * j)) H) : anyOp X (binaryOp .Mult) (.int i) (.int j) H Q := by
  rcases h with h | h
  · exact ⟨_, op_mul, i, j, rfl, rfl, h.imp (fun z => ⟨by omega, by omega⟩) (fun z => ⟨by omega, by omega⟩), q⟩
  · exact ⟨_, op_mulW, i, j, rfl, rfl, h, q⟩

/-- list + list, whatever they are tracked as -/
def rCatR (K : PySem.W.Frag) : R2 := fun x y H Q => ∃ l b xs zs, x = .ref l ∧ y = .ref b ∧ SqL K H l xs ∧ SqL K H b zs ∧ xs.length + zs.length ≤ sizeLine ∧ ∀ p, H p = none → Q (.ref p) (upd H p (.lst (xs ++ zs)))
theorem op_catR {X : Cx} : OpR X (binaryOp .Add) (rCatR X.K) := by
  rintro pins s σ H x y v u Q I rx ry ⟨l, b, xs, zs, rfl, rfl, hl, hb, hz, q⟩
  cases rx
  cases ry
  obtain ⟨i1, r1, ⟨⟨c1, d1, t1, sl1⟩, n1, e1, k1, _, m1⟩, _⟩ := I.list hl
  obtain ⟨i2, r2, ⟨⟨c2, d2, t2, sl2⟩, n2, e2, k2, _, m2⟩, _⟩ := I.list hb
  simp only at k1 m1 k2 m2
  subst k1 m1 k2 m2
  have z1 := r1.length
  have z2 := r2.length
  refine concat_meets ⟨_, e1, rfl⟩ ⟨_, e2, rfl⟩ noFill_list_add seq_list_add PySem.F.slot_list_add PySem.F.entry_list_add (PySem.F.args_list_add_2 _ _) (list_addW l b i1.toArray i2.toArray n1 n2 d1 d2 sl1 sl2 (by simp only [List.size_toArray]; omega)) ⟨e1, e2, ?_⟩
  have ea : i1.toArray ++ i2.toArray = (i1 ++ i2).toArray := by simp only [List.append_toArray]
  rw [ea]
  refine ⟨.ref s.heap.objs.size, upd H s.heap.objs.size (.lst (xs ++ zs)), ?_, rfl, q _ (I.hok.fresh (Nat.le_refl _))⟩
  refine I.laid (t' := s.toks) (fun c o hc => Heap.get?_push_of_some _ hc) (Nat.le_refl _) ⟨?_, i1 ++ i2, 0, r1.append r2, Heap.get?_push_size _ rfl⟩
  rw [List.length_append]
  omega

theorem bin_prim {o : BOp} {op : Operator} (ho : bopOk o op = true) (S : SR C.K σ ρ F H A) (hK : X.K = C.K) (h1 : Own C.K F H v1 d1 B1) (h2 : Own C.K F H v2 d2 B2) (e : binD o d1 d2 = some d)
    (q : Fresh C σ ρ F H A d Q) : anyOp X (binaryOp op) v1 v2 H Q := by
  cases o with
  | add =>
    cases op <;> first | exact absurd ho (by decide) | skip
    cases d1 with
    | int i =>
      cases d2 with
      | int j =>
        cases e
        obtain ⟨rfl, _⟩ := h1.intE
        obtain ⟨rfl, _⟩ := h2.intE
        exact ⟨_, op_add, i, j, rfl, rfl, q.atom S ⟨rfl, rfl⟩⟩
      | _ => cases e
    | str x =>
      cases d2 with
      | str y =>
        simp only [binD] at e
        split at e
        · rename_i hz
          cases e
          obtain ⟨rfl, _⟩ := h1.strE
          obtain ⟨rfl, _⟩ := h2.strE
          exact ⟨_, op_add_str, x, y, rfl, rfl, hz, q.atom S ⟨rfl, rfl⟩⟩
        · cases e
      | _ => cases e
    | lst o1 xs =>
      cases d2 with
      | lst o2 ys =>
        simp only [binD] at e
        split at e
        · rename_i hz
          cases e
          rw [Bool.and_eq_true, Bool.and_eq_true] at hz
          obtain ⟨⟨f1, f2⟩, hz⟩ := hz
          obtain ⟨a, vs, rfl, ha, ⟨B', r, _⟩, l1⟩ := h1.lstE S.same
          obtain ⟨b, ws, rfl, hb, ⟨B'', r', _⟩, l2⟩ := h2.lstE S.same
          refine ⟨_, op_catR, a, b, vs, ws, rfl, rfl, hK ▸ ha, hK ▸ hb, by rw [l1, l2]; exact of_decide_eq_true hz, fun p hp => ?_⟩
          exact q.lst S ((OwnL.to_rep f1 r).2.append (OwnL.to_rep f2 r').2) hp
        · cases e
      | _ => cases e
    | tup o1 xs =>
      cases d2 with
      | tup o2 ys =>
        simp only [binD] at e
        split at e
        · rename_i hz
          cases e
          simp only [Bool.and_eq_true, Bool.not_eq_true'] at hz
          obtain ⟨⟨⟨g1, g2⟩, f1, f2⟩, hz⟩ := hz
          subst g1 g2
          have hz := of_decide_eq_true hz
          have O1 := h1
          have O2 := h2
          obtain ⟨a, vs, rfl, ha, ⟨B', r, _⟩, l1⟩ := h1.tupE S.same
          obtain ⟨b, ws, rfl, hb, ⟨B'', r', _⟩, l2⟩ := h2.tupE S.same
          have R1 := (OwnL.to_rep f1 r).2
          have R2 := (OwnL.to_rep f2 r').2
          have e0 : B1 = [] := by unfold Own at O1; exact O1.1
          have e1 : B2 = [] := by unfold Own at O2; exact O2.1
          subst e0 e1
          cases xs with
          | nil =>
            have z : vs = [] := List.eq_nil_of_length_eq_zero l1
            subst z
            refine ⟨_, op_catT0, a, b, ws, rfl, rfl, hK ▸ ha, hK ▸ hb, q.atom S ?_⟩
            exact O2
          | cons x xs =>
            have hx : vs ≠ [] := fun z => by rw [z] at l1; exact nomatch l1
            refine ⟨_, op_catT, a, b, vs, ws, rfl, rfl, hK ▸ ha, hK ▸ hb, hx, by rw [l1, l2]; exact hz, fun z => ?_, fun z p hp => q.tup S (R1.append R2) hp⟩
            have hy : ys = [] := List.eq_nil_of_length_eq_zero (by rw [← l2, z]; rfl)
            subst hy
            rw [List.append_nil] at q
            exact q.atom S O1
        · cases e
      | _ => cases e
    | _ => cases e
  | sub =>
    cases op <;> first | exact absurd ho (by decide) | skip
    cases d1 with
    | int i =>
      cases d2 with
      | int j =>
        cases e
        obtain ⟨rfl, _⟩ := h1.intE
        obtain ⟨rfl, _⟩ := h2.intE
        exact ⟨_, op_sub, i, j, rfl, rfl, q.atom S ⟨rfl, rfl⟩⟩
      | _ => cases e
    | _ => cases e
  | mul =>
    cases op <;> first | exact absurd ho (by decide) | skip
    cases d1 with
    | int i =>
      cases d2 with
      | int j =>
        simp only [binD] at e
        split at e
        · rename_i hz
          cases e
          obtain ⟨rfl, _⟩ := h1.intE
          obtain ⟨rfl, _⟩ := h2.intE
          exact CMulAll.any hz (q.atom S ⟨rfl, rfl⟩)
        · cases e
      | _ => cases e
    | lst o xs =>
      cases d2 with
      | int k =>
        simp only [binD] at e
        split at e
        · rename_i hz
          cases e
          simp only [Bool.and_eq_true, decide_eq_true_eq] at hz
          obtain ⟨⟨⟨g, f1⟩, k1⟩, k2⟩ := hz
          subst g
          obtain ⟨rfl, _⟩ := h2.intE
          unfold Own at h1
          obtain ⟨a, vs, B', rfl, _, ha, r⟩ := h1
          have l1 := r.length
          refine ⟨_, op_rep, a, k, vs, rfl, rfl, ha, by omega, by omega, by rw [l1]; exact k2, fun p hp => ?_⟩
          exact q.lst S ((OwnL.to_rep f1 r).2.rep _) hp
        · cases e
      | _ => cases e
    | _ => cases e
  | fdiv =>
    cases op <;> first | exact absurd ho (by decide) | skip
    cases d1 with
    | int i =>
      cases d2 with
      | int j =>
        simp only [binD] at e
        split at e
        · rename_i hz
          cases e
          obtain ⟨rfl, _⟩ := h1.intE
          obtain ⟨rfl, _⟩ := h2.intE
          exact ⟨_, op_fdivW, i, j, rfl, rfl, hz, q.atom S ⟨rfl, rfl⟩⟩
        · cases e
      | _ => cases e
    | _ => cases e
  | mod =>
    cases op <;> first | exact absurd ho (by decide) | skip
    cases d1 with
    | int i =>
      cases d2 with
      | int j =>
        simp only [binD] at e
        split at e
        · rename_i hz
          cases e
          obtain ⟨rfl, _⟩ := h1.intE
          obtain ⟨rfl, _⟩ := h2.intE
          exact ⟨_, op_mod, i, j, rfl, rfl, hz, q.atom S ⟨rfl, rfl⟩⟩
        · cases e
      | _ => cases e
    | _ => cases e
  | pow =>
    cases op <;> first | exact absurd ho (by decide) | skip
    cases d1 with
    | int i =>
      cases d2 with
      | int j =>
        simp only [binD] at e
        split at e
        · rename_i hz
          cases e
          obtain ⟨rfl, _⟩ := h1.intE
          obtain ⟨rfl, _⟩ := h2.intE
          exact ⟨_, op_pow, i, j, rfl, rfl, hz, q.atom S ⟨rfl, rfl⟩⟩
        · cases e
      | _ => cases e
    | _ => cases e
end
end DS

set_option Elab.async false
set_option linter.all false
set_option maxRecDepth 100000
/-! DS6: comparisons, subscripts, built-ins, by values. -/
namespace DS
open PySem PySem.Spec PyProof.Rows L2
section
variable {C : Cst} {X : Cx} {σ : DSt} {ρ : Env} {F H : Hp} {A : List Addr} {Q : VK} {v1 v2 : V} {d1 d2 d : D} {B1 B2 : List Addr}

theorem vOf_scal {a b : D} {v w : V} {B B' : List Addr} (fa : flatD a = true) (fb : flatD b = true) (h1 : Own C.K F H v a B) (h2 : Own C.K F H w b B') : v = vOf a ∧ w = vOf b := ⟨(h1.flat fa).1, (h2.flat fb).1⟩
/-- a == b, by values -/
theorem eq_prim {b : Bool} (S : SR C.K σ ρ F H A) (hK : X.K = C.K) (hu : X.A.units + 64 < cLine) (h1 : Own C.K F H v1 d1 B1) (h2 : Own C.K F H v2 d2 B2) (e : eqD d1 d2 = some b) :
    (Q (.bl b) H → anyOp X (compareOp .Eq) v1 v2 H Q) ∧ (Q (.bl (!b)) H → anyOp X (compareOp .NotEq) v1 v2 H Q) := by
  unfold eqD at e
  split at e
  · rename_i hc
    simp only [Bool.and_eq_true] at hc
    obtain ⟨⟨hs, f1⟩, f2⟩ := hc
    cases e
    obtain ⟨rfl, rfl⟩ := vOf_scal f1 f2 h1 h2
    exact ⟨fun q => ⟨_, op_eq, hs, q⟩, fun q => ⟨_, op_ne, hs, q⟩⟩
  · split at e
    · rename_i hc
      simp only [Bool.and_eq_true] at hc
      obtain ⟨⟨⟨f1, f2⟩, s1⟩, s2⟩ := hc
      cases e
      have p1 := Own.dp S.same d1 v1 B1 f1 h1
      have p2 := Own.dp S.same d2 v2 B2 f2 h2
      rw [← hK] at p1 p2
      exact ⟨fun q => ⟨_, op_eqD hu, _, _, p1, p2, s1, s2, q⟩, fun q => ⟨_, op_neD hu, _, _, p1, p2, s1, s2, q⟩⟩
    · cases e
theorem seq_of (S : SR C.K σ ρ F H A) (hK : X.K = C.K) {ds : List D} (h : (∃ o, d2 = .lst o ds) ∨ (∃ o, d2 = .tup o ds)) (h2 : Own C.K F H v2 d2 B2) :
    ∃ p vs B', v2 = .ref p ∧ (SqL X.K H p vs ∨ SqT X.K H p vs) ∧ OwnL C.K F H vs ds B' := by
  rcases h with ⟨o, rfl⟩ | ⟨o, rfl⟩
  · obtain ⟨a, vs, rfl, ha, ⟨B', r, _⟩, l1⟩ := h2.lstE S.same
    exact ⟨a, vs, B', rfl, .inl (hK ▸ ha), r⟩
  · obtain ⟨a, vs, rfl, ha, ⟨B', r, _⟩, l1⟩ := h2.tupE S.same
    exact ⟨a, vs, B', rfl, .inr (hK ▸ ha), r⟩
theorem in_prim {ds : List D} (S : SR C.K σ ρ F H A) (hK : X.K = C.K) (h : (∃ o, d2 = .lst o ds) ∨ (∃ o, d2 = .tup o ds)) (h1 : Own C.K F H v1 d1 B1) (h2 : Own C.K F H v2 d2 B2) (f1 : flatD d1 = true) (f2 : ds.all flatD = true) :
    (Q (.bl (inV (vOf d1) (ds.map vOf))) H → anyOp X (compareOp .In) v1 v2 H Q) ∧ (Q (.bl (!inV (vOf d1) (ds.map vOf))) H → anyOp X (compareOp .NotIn) v1 v2 H Q) := by
  obtain ⟨p, vs, B', rfl, hs, r⟩ := seq_of (X := X) S hK h h2
  obtain ⟨e1, e2⟩ := OwnL.flat f2 r
  obtain ⟨g1, g2, _⟩ := h1.flat f1
  subst g1
  rw [← e1]
  exact ⟨fun q => ⟨_, op_in_seq, p, vs, rfl, hs, g2, e2, q⟩, fun q => ⟨_, op_notIn_seq, p, vs, rfl, hs, g2, e2, q⟩⟩
theorem notin_str {X : Cx} : OpR X (compareOp .NotIn) (fun x y H Q => ∃ i j, x = .str i ∧ y = .str j ∧ Q (.bl ((Builtin.Str.occurrences j i 0 j.length 1).isEmpty)) H) := by
  rintro pins s σ H x y v u Q I rx ry ⟨i, j, rfl, rfl, q⟩
  refine op_notIn_str pins s σ H _ _ v u Q I rx ry ⟨i, j, rfl, rfl, ?_⟩
  simpa using q
theorem is_none_op {X : Cx} : OpR X (compareOp .Is) (fun x y H Q => y = .non ∧ Q (.bl (decide (x = .non))) H) := by
  rintro pins s σ H x y v u Q I rx ry ⟨rfl, q⟩
  cases ry
  exact is_none_gen ⟨.bl _, H, I, by rw [rx.none_iff]; rfl, q⟩
theorem isnot_none_op {X : Cx} : OpR X (compareOp .IsNot) (fun x y H Q => y = .non ∧ Q (.bl (!decide (x = .non))) H) := by
  rintro pins s σ H x y v u Q I rx ry ⟨rfl, q⟩
  cases ry
  exact isnot_none_gen ⟨.bl _, H, I, by rw [rx.none_iff]; rfl, q⟩
theorem Own.none_iff {v : V} {d : D} {B : List Addr} (h : Own C.K F H v d B) : decide (v = .non) = isNon d := by
  cases d with
  | non => rw [h.2]; rfl
  | bl b => rw [h.2]; rfl
  | int b => rw [h.2]; rfl
  | str b => rw [h.2]; rfl
  | ty b => rw [h.2]; rfl
  | ref b => rw [h.2]; rfl
  | lst o ds =>
    cases o with
    | true => unfold Own at h; obtain ⟨a, _, _, e, _⟩ := h; rw [e]; rfl
    | false => unfold Own at h; obtain ⟨_, h⟩ := h; unfold Rep at h; obtain ⟨_, a, _, e, _⟩ := h; rw [e]; rfl
  | tup o ds =>
    cases o with
    | true => unfold Own at h; obtain ⟨a, _, _, e, _⟩ := h; rw [e]; rfl
    | false => unfold Own at h; obtain ⟨_, h⟩ := h; unfold Rep at h; obtain ⟨_, a, _, e, _⟩ := h; rw [e]; rfl
  | dct o ks ds =>
    cases o with
    | true => unfold Own at h; obtain ⟨a, _, _, e, _⟩ := h; rw [e]; rfl
    | false => unfold Own at h; obtain ⟨_, h⟩ := h; unfold Rep at h; obtain ⟨_, a, _, e, _⟩ := h; rw [e]; rfl
  | ins o c ks ds =>
    cases o with
    | true => unfold Own at h; obtain ⟨a, _, _, _, e, _⟩ := h; rw [e]; rfl
    | false => unfold Own at h; obtain ⟨_, h⟩ := h; unfold Rep at h; obtain ⟨_, a, _, _, e, _⟩ := h; rw [e]; rfl
theorem lt_op {X : Cx} {op : CmpOp} {p : Int → Int → Bool} (rule : ∀ (i j : Int) (t u : Tok) (s : Shared) (Q : Value → Shared → Prop) (E : Value → Shared → Prop), Q (.bool (p i j)) s → wpAny (model X.prog X.w) X.A (compareOp op (.int i t) (.int j u)) Q E s) :
    OpR X (compareOp op) (rI0 fun i j => .bl (p i j)) := opB0 rule
theorem cmp_prim {o : COp} {op : CmpOp} {b : Bool} (ho : copOk o op = true) (S : SR C.K σ ρ F H A) (hK : X.K = C.K) (hu : X.A.units + 64 < cLine) (h1 : Own C.K F H v1 d1 B1) (h2 : Own C.K F H v2 d2 B2)
    (e : cmpD o d1 d2 = some b) (q : Q (.bl b) H) : anyOp X (compareOp op) v1 v2 H Q := by
  cases o with
  | eq =>
    cases op <;> first | exact absurd ho (by decide) | skip
    exact (eq_prim S hK hu h1 h2 e).1 q
  | ne =>
    cases op <;> first | exact absurd ho (by decide) | skip
    simp only [cmpD, Option.map_eq_some_iff] at e
    obtain ⟨c, e1, rfl⟩ := e
    exact (eq_prim S hK hu h1 h2 e1).2 q
  | lt =>
    cases op <;> first | exact absurd ho (by decide) | skip
    cases d1 with
    | int i =>
      cases d2 with
      | int j =>
        cases e
        obtain ⟨rfl, _⟩ := h1.intE
        obtain ⟨rfl, _⟩ := h2.intE
        exact ⟨_, op_lt, _, _, rfl, rfl, q⟩
      | _ => cases e
    | _ => cases e
  | le =>
    cases op <;> first | exact absurd ho (by decide) | skip
    cases d1 with
    | int i =>
      cases d2 with
      | int j =>
        cases e
        obtain ⟨rfl, _⟩ := h1.intE
        obtain ⟨rfl, _⟩ := h2.intE
        exact ⟨_, op_le, _, _, rfl, rfl, q⟩
      | _ => cases e
    | _ => cases e
  | gt =>
    cases op <;> first | exact absurd ho (by decide) | skip
    cases d1 with
    | int i =>
      cases d2 with
      | int j =>
        cases e
        obtain ⟨rfl, _⟩ := h1.intE
        obtain ⟨rfl, _⟩ := h2.intE
        exact ⟨_, op_gt, _, _, rfl, rfl, q⟩
      | _ => cases e
    | _ => cases e
  | ge =>
    cases op <;> first | exact absurd ho (by decide) | skip
    cases d1 with
    | int i =>
      cases d2 with
      | int j =>
        cases e
        obtain ⟨rfl, _⟩ := h1.intE
        obtain ⟨rfl, _⟩ := h2.intE
        exact ⟨_, op_ge, _, _, rfl, rfl, q⟩
      | _ => cases e
    | _ => cases e
  | is =>
    cases op <;> first | exact absurd ho (by decide) | skip
    cases d2 with
    | non =>
      obtain ⟨rfl, _⟩ := h2.nonE
      refine ⟨_, is_none_op, rfl, ?_⟩
      rw [h1.none_iff]
      have e' : isNon d1 = b := Option.some.inj e
      rw [e']; exact q
    | _ => cases e
  | isnot =>
    cases op <;> first | exact absurd ho (by decide) | skip
    cases d2 with
    | non =>
      obtain ⟨rfl, _⟩ := h2.nonE
      refine ⟨_, isnot_none_op, rfl, ?_⟩
      rw [h1.none_iff]
      have e' : (!isNon d1) = b := Option.some.inj e
      rw [e']; exact q
    | _ => cases e
  | isin =>
    cases op <;> first | exact absurd ho (by decide) | skip
    cases d2 with
    | lst o ds =>
      simp only [cmpD] at e
      split at e
      · rename_i hc
        rw [Bool.and_eq_true] at hc
        cases e
        exact (in_prim S hK (.inl ⟨o, rfl⟩) h1 h2 hc.1 hc.2).1 q
      · cases e
    | tup o ds =>
      simp only [cmpD] at e
      split at e
      · rename_i hc
        rw [Bool.and_eq_true] at hc
        cases e
        exact (in_prim S hK (.inr ⟨o, rfl⟩) h1 h2 hc.1 hc.2).1 q
      · cases e
    | str y =>
      cases d1 with
      | str x =>
        cases e
        obtain ⟨rfl, _⟩ := h1.strE
        obtain ⟨rfl, _⟩ := h2.strE
        exact ⟨_, op_in_str, _, _, rfl, rfl, q⟩
      | _ => cases e
    | _ => cases d1 <;> cases e
  | notin =>
    cases op <;> first | exact absurd ho (by decide) | skip
    cases d2 with
    | lst o ds =>
      simp only [cmpD] at e
      split at e
      · rename_i hc
        rw [Bool.and_eq_true] at hc
        cases e
        exact (in_prim S hK (.inl ⟨o, rfl⟩) h1 h2 hc.1 hc.2).2 q
      · cases e
    | tup o ds =>
      simp only [cmpD] at e
      split at e
      · rename_i hc
        rw [Bool.and_eq_true] at hc
        cases e
        exact (in_prim S hK (.inr ⟨o, rfl⟩) h1 h2 hc.1 hc.2).2 q
      · cases e
    | str y =>
      cases d1 with
      | str x =>
        cases e
        obtain ⟨rfl, _⟩ := h1.strE
        obtain ⟨rfl, _⟩ := h2.strE
        exact ⟨_, notin_str, _, _, rfl, rfl, q⟩
      | _ => cases e
    | _ => cases d1 <;> cases e

/-! ### subscripts -/
theorem atI_own {ds : List D} {vs : List V} {i : Int} (r : OwnL C.K F H vs ds B1) (e : atI ds i = some d) : ∃ v B', atI vs i = some v ∧ Own C.K F H v d B' := by
  unfold atI at e ⊢
  rw [r.length]
  cases q : ixN ds.length i with
  | none => rw [q] at e; cases e
  | some j =>
    rw [q] at e
    obtain ⟨v, B', e1, e2⟩ := OwnL.get r (show ds[j]? = some d from e)
    exact ⟨v, B', e1, e2⟩
theorem fzItem_some {x y : D} (h : fzItem x = some y) : x = y ∧ rootFz x = true := by
  unfold fzItem at h
  split at h
  · cases h; exact ⟨rfl, by assumption⟩
  · cases h
theorem sub_prim (S : SR C.K σ ρ F H A) (hK : X.K = C.K) (h1 : Own C.K F H v1 d1 B1) (h2 : Own C.K F H v2 d2 B2) (e : subD d1 d2 = some d) (q : Fresh C σ ρ F H A d Q) : anyIx X v1 v2 H Q := by
  cases d1 with
  | lst o ds =>
    cases d2 <;> first | (cases e; done) | skip
    simp only [subD, Option.bind_eq_some_iff] at e
    obtain ⟨y, e1, e2⟩ := e
    obtain ⟨rfl, fz⟩ := fzItem_some e2
    obtain ⟨rfl, _⟩ := h2.intE
    obtain ⟨a, vs, rfl, ha, ⟨B', r, _⟩, l1⟩ := h1.lstE S.same
    obtain ⟨v, B'', e3, o3⟩ := atI_own r e1
    obtain ⟨rfl, rp⟩ := o3.to_rep fz
    exact ⟨_, ix_list, a, vs, _, v, rfl, rfl, hK ▸ ha, e3, q.atom S (Own.of_rep _ _ rp)⟩
  | tup o ds =>
    cases d2 <;> first | (cases e; done) | skip
    simp only [subD, Option.bind_eq_some_iff] at e
    obtain ⟨y, e1, e2⟩ := e
    obtain ⟨rfl, fz⟩ := fzItem_some e2
    obtain ⟨rfl, _⟩ := h2.intE
    obtain ⟨a, vs, rfl, ha, ⟨B', r, _⟩, l1⟩ := h1.tupE S.same
    obtain ⟨v, B'', e3, o3⟩ := atI_own r e1
    obtain ⟨rfl, rp⟩ := o3.to_rep fz
    exact ⟨_, ix_tup, a, vs, _, v, rfl, rfl, hK ▸ ha, e3, q.atom S (Own.of_rep _ _ rp)⟩
  | str z =>
    cases d2 <;> first | (cases e; done) | skip
    simp only [subD] at e
    split at e
    · rename_i hz
      rw [Option.map_eq_some_iff] at e
      obtain ⟨c, e1, rfl⟩ := e
      obtain ⟨rfl, _⟩ := h1.strE
      obtain ⟨rfl, _⟩ := h2.intE
      exact ⟨_, ix_str, z, _, c, rfl, rfl, hz, e1, q.atom S ⟨rfl, rfl⟩⟩
    · cases e
  | _ => cases e
theorem slc_prim {lo hi : Option Int} (S : SR C.K σ ρ F H A) (hK : X.K = C.K) (h1 : Own C.K F H v1 d1 B1) (e : slcD d1 lo hi = some d) (q : Fresh C σ ρ F H A d Q) :
    anySl X v1 lo hi H Q := by
  unfold slcD at e
  cases d1 with
  | lst o ds =>
    dsimp only at e
    split at e
    · rename_i f1
      cases e
      obtain ⟨a, vs, rfl, ha, ⟨B', r, _⟩, l1⟩ := h1.lstE S.same
      exact ⟨_, sl_list, a, vs, rfl, hK ▸ ha, fun p hp => q.lst S ((OwnL.to_rep f1 r).2.cut lo hi) hp⟩
    · cases e
  | tup o ds =>
    dsimp only at e
    split at e
    · rename_i f1
      cases e
      simp only [Bool.and_eq_true, Bool.not_eq_true'] at f1
      obtain ⟨g, f1⟩ := f1
      subst g
      have O1 := h1
      obtain ⟨a, vs, rfl, ha, ⟨B', r, _⟩, l1⟩ := h1.tupE S.same
      by_cases w : HT.sIx vs.length 0 lo = 0 ∧ HT.sIx vs.length vs.length hi = vs.length
      · refine ⟨_, sl_whole, a, vs, rfl, hK ▸ ha, w.1, w.2, ?_⟩
        have e0 : cutD ds lo hi = ds := by
          unfold cutD
          rw [← l1, w.1, w.2, List.drop_zero, Nat.sub_zero, l1, List.take_length]
        rw [e0] at q
        have eB : B1 = [] := by unfold Own at O1; exact O1.1
        subst eB
        exact q.atom S O1
      · exact ⟨_, sl_tup, a, vs, rfl, hK ▸ ha, w, fun p hp => q.tup S ((OwnL.to_rep f1 r).2.cut lo hi) hp⟩
    · cases e
  | str z =>
    dsimp only at e
    split at e
    · rename_i hz
      cases e
      obtain ⟨rfl, _⟩ := h1.strE
      exact ⟨_, sl_str, z, rfl, hz, q.atom S ⟨rfl, rfl⟩⟩
    · cases e
  | _ => cases e
end
end DS

set_option Elab.async false
set_option linter.all false
set_option maxRecDepth 100000
/-! DS7: calls of built-ins, by values. -/
namespace DS
open PySem PySem.Spec PyProof.Rows L2

def biName : BI → Str
  | .len => "len" | .int => "int" | .abs => "abs" | .max => "max" | .min => "min" | .list => "list" | .tuple => "tuple" | .sorted => "sorted" | .sum => "sum"
  | .isinst => "isinstance" | .str => "str" | .bool => "bool" | .all => "all" | .any => "any" | .ord => "ord" | .chr => "chr" | .reversed => "reversed"
/-- its value: a function, a class -/
def biVal : BI → Value
  | .len => .builtin "len" | .int => .type "int" | .abs => .builtin "abs" | .max => .builtin "max" | .min => .builtin "min" | .list => .type "list" | .tuple => .type "tuple" | .sorted => .builtin "sorted" | .sum => .builtin "sum"
  | .isinst => .builtin "isinstance" | .str => .type "str" | .bool => .type "bool" | .all => .builtin "all" | .any => .builtin "any" | .ord => .builtin "ord" | .chr => .builtin "chr" | .reversed => .type "reversed"
theorem bi_boot : ∀ f : BI, bootBuiltins (biName f) = some (biVal f)
  | .len => by decide +kernel | .int => by decide +kernel | .abs => by decide +kernel | .max => by decide +kernel | .min => by decide +kernel | .list => by decide +kernel | .tuple => by decide +kernel
  | .sorted => by decide +kernel | .sum => by decide +kernel | .isinst => by decide +kernel | .str => by decide +kernel | .bool => by decide +kernel | .all => by decide +kernel | .any => by decide +kernel
  | .ord => by decide +kernel | .chr => by decide +kernel | .reversed => by decide +kernel

theorem insI_perm (k : Int) : ∀ xs : List Int, (insI k xs).Perm (k :: xs)
  | [] => .refl _
  | x :: xs => by
    unfold insI
    split
    · exact .refl _
    · exact ((insI_perm k xs).cons x).trans (.swap k x xs)
theorem sortI_perm : ∀ xs : List Int, (sortI xs).Perm xs
  | [] => .refl _
  | x :: xs => by
    unfold sortI
    exact (insI_perm x _).trans ((sortI_perm xs).cons x)
theorem insI_sorted (k : Int) : ∀ {xs : List Int}, xs.Pairwise (· ≤ ·) → (insI k xs).Pairwise (· ≤ ·)
  | [], _ => by unfold insI; simp
  | x :: xs, h => by
    unfold insI
    rw [List.pairwise_cons] at h
    split
    · rename_i hk
      rw [List.pairwise_cons, List.pairwise_cons]
      exact ⟨fun y hy => by
        rcases List.mem_cons.mp hy with rfl | hy
        · exact hk
        · exact Int.le_trans hk (h.1 y hy), h.1, h.2⟩
    · rename_i hk
      rw [List.pairwise_cons]
      refine ⟨fun y hy => ?_, insI_sorted k h.2⟩
      rcases List.mem_cons.mp ((insI_perm k xs).mem_iff.mp hy) with rfl | hy
      · omega
      · exact h.1 y hy
theorem sortI_sorted : ∀ xs : List Int, (sortI xs).Pairwise (· ≤ ·)
  | [] => by unfold sortI; simp
  | x :: xs => by unfold sortI; exact insI_sorted x (sortI_sorted xs)
theorem sortI_eq {xs ys : List Int} (p : ys.Perm xs) (s : ys.Pairwise (· ≤ ·)) : ys = sortI xs :=
  List.Perm.eq_of_pairwise (fun _ _ _ _ a b => Int.le_antisymm a b) s (sortI_sorted xs) (p.trans (sortI_perm xs).symm)
theorem maxL_ge : ∀ (xs : List Int) (m : Int), m ≤ maxL m xs ∧ (∀ y ∈ xs, y ≤ maxL m xs) ∧ (maxL m xs = m ∨ maxL m xs ∈ xs)
  | [], m => by
    refine ⟨Int.le_refl _, fun y h => ?_, .inl rfl⟩
    cases h
  | x :: xs, m => by
    unfold maxL
    obtain ⟨h1, h2, h3⟩ := maxL_ge xs (if x > m then x else m)
    split at h1 <;> rename_i hc <;> simp only [hc, if_true, if_false] at h2 h3 ⊢
    · refine ⟨by omega, fun y hy => ?_, ?_⟩
      · rcases List.mem_cons.mp hy with rfl | hy
        · exact h1
        · exact h2 y hy
      · rcases h3 with h3 | h3
        · exact .inr (by rw [h3]; exact List.mem_cons_self)
        · exact .inr (List.mem_cons_of_mem _ h3)
    · refine ⟨h1, fun y hy => ?_, ?_⟩
      · rcases List.mem_cons.mp hy with rfl | hy
        · omega
        · exact h2 y hy
      · rcases h3 with h3 | h3
        · exact .inl h3
        · exact .inr (List.mem_cons_of_mem _ h3)
theorem minL_le : ∀ (xs : List Int) (m : Int), minL m xs ≤ m ∧ (∀ y ∈ xs, minL m xs ≤ y) ∧ (minL m xs = m ∨ minL m xs ∈ xs)
  | [], m => by
    refine ⟨Int.le_refl _, fun y h => ?_, .inl rfl⟩
    cases h
  | x :: xs, m => by
    unfold minL
    obtain ⟨h1, h2, h3⟩ := minL_le xs (if x < m then x else m)
    split at h1 <;> rename_i hc <;> simp only [hc, if_true, if_false] at h2 h3 ⊢
    · refine ⟨by omega, fun y hy => ?_, ?_⟩
      · rcases List.mem_cons.mp hy with rfl | hy
        · exact h1
        · exact h2 y hy
      · rcases h3 with h3 | h3
        · exact .inr (by rw [h3]; exact List.mem_cons_self)
        · exact .inr (List.mem_cons_of_mem _ h3)
    · refine ⟨h1, fun y hy => ?_, ?_⟩
      · rcases List.mem_cons.mp hy with rfl | hy
        · omega
        · exact h2 y hy
      · rcases h3 with h3 | h3
        · exact .inl h3
        · exact .inr (List.mem_cons_of_mem _ h3)

section
variable {C : Cst} {X : Cx} {σ : DSt} {ρ : Env} {F H : Hp} {A : List Addr} {Q : VK} {v1 v2 : V} {d1 d2 d : D} {B1 B2 : List Addr} {vs : List V} {ds : List D}
theorem OwnA.nil (h : OwnA C.K F H vs []) : vs = [] := by
  cases vs with
  | nil => rfl
  | cons _ _ => exact h.elim
theorem OwnA.cons (h : OwnA C.K F H vs (d :: ds)) : ∃ v r B, vs = v :: r ∧ Own C.K F H v d B ∧ OwnA C.K F H r ds := by
  cases vs with
  | nil => exact h.elim
  | cons v r => exact ⟨v, r, h.1.choose, rfl, h.1.choose_spec, h.2⟩
theorem OwnA.one (h : OwnA C.K F H vs [d]) : ∃ v B, vs = [v] ∧ Own C.K F H v d B := by
  obtain ⟨v, r, B, e, o, h⟩ := h.cons
  rw [h.nil] at e
  exact ⟨v, B, e, o⟩
theorem OwnA.two (h : OwnA C.K F H vs [d1, d2]) : ∃ v w B B', vs = [v, w] ∧ Own C.K F H v d1 B ∧ Own C.K F H w d2 B' := by
  obtain ⟨v, r, B, e, o, h⟩ := h.cons
  obtain ⟨w, B', e', o'⟩ := h.one
  rw [e'] at e
  exact ⟨v, w, B, B', e, o, o'⟩
/-- the class of a value, for isinstance -/
theorem own_ty (S : SR C.K σ ρ F H A) (hK : X.K = C.K) {t : Ty} {b : Bool} (h : Own C.K F H v1 d1 B1) (e : isiD d1 (.ty t) = some b) : ∃ n : String, TyX X.K H v1 (.type n) ∧ kitB n t.name = some b := by
  cases d1 with
  | non =>
    obtain ⟨rfl, _⟩ := h.nonE
    cases e
    exact ⟨"NoneType", .base .non, by cases t <;> decide +kernel⟩
  | bl x =>
    obtain ⟨rfl, _⟩ := h.blE
    cases e
    exact ⟨"bool", .base (.bl x), by cases t <;> decide +kernel⟩
  | int x =>
    obtain ⟨rfl, _⟩ := h.intE
    cases e
    exact ⟨"int", .base (.int x), by cases t <;> decide +kernel⟩
  | str x =>
    obtain ⟨rfl, _⟩ := h.strE
    cases e
    exact ⟨"str", .base (.str x), by cases t <;> decide +kernel⟩
  | lst o ds =>
    cases e
    obtain ⟨a, vs, rfl, ha, _, _⟩ := h.lstE S.same
    refine ⟨"list", ?_, by cases t <;> decide +kernel⟩
    rcases ha with (ha | ⟨ob, ha⟩) | ⟨ob, its, n, hk, hc, _⟩
    · exact .base (.lst ha)
    · exact .base (.frz ha)
    · exact .kList (hK ▸ hk) hc
  | tup o ds =>
    cases e
    obtain ⟨a, vs, rfl, ha, _, _⟩ := h.tupE S.same
    refine ⟨"tuple", ?_, by cases t <;> decide +kernel⟩
    rcases ha with (ha | ⟨ob, ha⟩) | ⟨ob, its, n, hk, hc, _⟩
    · exact .base (.tup ha)
    · exact .fTuple ha
    · exact .kTuple (hK ▸ hk) hc
  | dct o ks ds =>
    cases e
    refine ⟨"dict", ?_, by cases t <;> decide +kernel⟩
    cases o with
    | true =>
      unfold Own at h
      obtain ⟨a, _, _, rfl, _, ha, _⟩ := h
      exact .base (.dK ha)
    | false =>
      unfold Own at h
      obtain ⟨_, h⟩ := h
      unfold Rep at h
      obtain ⟨_, a, _, rfl, ha, _⟩ := h
      rcases ha with ha | ⟨ob, ha⟩
      · exact .base (.dK (S.same _ _ ha))
      · exact .fDict (S.same _ _ ha)
  | ty _ => cases e
  | ref _ => cases e
  | ins _ _ _ _ => cases e
theorem bi_prim {f : BI} (S : SR C.K σ ρ F H A) (hK : X.K = C.K) (hc : X.calm = true) (h : OwnA C.K F H vs ds) (e : biD f ds = some d) (q : Fresh C σ ρ F H A d Q) : anyCall X (biVal f) vs H Q := by
  cases f with
  | len =>
    match ds, e with
    | [.str x], e =>
      simp only [biD] at e
      split at e
      · rename_i hz
        cases e
        obtain ⟨v, B, rfl, o⟩ := h.one
        obtain ⟨rfl, _⟩ := o.strE
        exact ⟨_, call_len, _, _, rfl, ⟨hz, rfl⟩, q.atom S ⟨rfl, rfl⟩⟩
      · cases e
    | [.lst o xs], e =>
      cases e
      obtain ⟨v, B, rfl, o⟩ := h.one
      obtain ⟨a, vs, rfl, ha, _, l⟩ := o.lstE S.same
      exact ⟨_, call_len, _, _, rfl, .inl ⟨vs, hK ▸ ha, l.symm⟩, q.atom S ⟨rfl, rfl⟩⟩
    | [.tup o xs], e =>
      cases e
      obtain ⟨v, B, rfl, o⟩ := h.one
      obtain ⟨a, vs, rfl, ha, _, l⟩ := o.tupE S.same
      exact ⟨_, call_len, _, _, rfl, .inr ⟨vs, hK ▸ ha, l.symm⟩, q.atom S ⟨rfl, rfl⟩⟩
  | int =>
    match ds, e with
    | [.int i], e =>
      cases e
      obtain ⟨v, B, rfl, o⟩ := h.one
      obtain ⟨rfl, _⟩ := o.intE
      exact ⟨_, call_int1, .inl ⟨i, rfl, q.atom S ⟨rfl, rfl⟩⟩⟩
    | [.bl b], e =>
      cases e
      obtain ⟨v, B, rfl, o⟩ := h.one
      obtain ⟨rfl, _⟩ := o.blE
      exact ⟨_, call_int1, .inr ⟨b, rfl, q.atom S ⟨rfl, rfl⟩⟩⟩
    | [.str x], e =>
      simp only [biD] at e
      split at e
      · rename_i n hn
        split at e
        · rename_i hl
          cases e
          obtain ⟨v, B, rfl, o⟩ := h.one
          obtain ⟨rfl, _⟩ := o.strE
          exact ⟨_, call_int_str, x, n, rfl, hn, hl, q.atom S ⟨rfl, rfl⟩⟩
        · cases e
      · cases e
  | bool =>
    match ds, e with
    | [.int i], e =>
      cases e
      obtain ⟨v, B, rfl, o⟩ := h.one
      obtain ⟨rfl, _⟩ := o.intE
      exact ⟨_, call_bool1, .inl ⟨i, rfl, q.atom S ⟨rfl, rfl⟩⟩⟩
    | [.bl b], e =>
      cases e
      obtain ⟨v, B, rfl, o⟩ := h.one
      obtain ⟨rfl, _⟩ := o.blE
      exact ⟨_, call_bool1, .inr ⟨b, rfl, q.atom S ⟨rfl, rfl⟩⟩⟩
  | abs =>
    match ds, e with
    | [.int i], e =>
      cases e
      obtain ⟨v, B, rfl, o⟩ := h.one
      obtain ⟨rfl, _⟩ := o.intE
      exact ⟨_, call_abs, i, rfl, q.atom S ⟨rfl, rfl⟩⟩
  | max =>
    match ds, e with
    | [.int i, .int j], e =>
      cases e
      obtain ⟨v, w, B, B', rfl, o, o'⟩ := h.two
      obtain ⟨rfl, _⟩ := o.intE
      obtain ⟨rfl, _⟩ := o'.intE
      exact ⟨_, call_max2 hc, i, j, rfl, q.atom S ⟨rfl, rfl⟩⟩
    | [.lst o xs], e =>
      simp only [biD] at e
      split at e
      · rename_i x r hi
        cases e
        obtain ⟨v, B, rfl, o⟩ := h.one
        obtain ⟨a, vs, rfl, ha, ⟨B', ow, _⟩, l⟩ := o.lstE S.same
        have ev := ow.ints hi
        subst ev
        refine ⟨_, cr_max hc, a, x :: r, rfl, hK ▸ ha, by simp, fun m hm hy => ?_⟩
        obtain ⟨g1, g2, g3⟩ := maxL_ge r x
        have : m = maxL x r := by
          refine Int.le_antisymm ?_ ?_
          · rcases List.mem_cons.mp hm with rfl | hm
            · exact g1
            · exact g2 m hm
          · rcases g3 with g3 | g3
            · rw [g3]; exact hy _ List.mem_cons_self
            · exact hy _ (List.mem_cons_of_mem _ g3)
        rw [this]
        exact q.atom S ⟨rfl, rfl⟩
      · cases e
  | min =>
    match ds, e with
    | [.int i, .int j], e =>
      cases e
      obtain ⟨v, w, B, B', rfl, o, o'⟩ := h.two
      obtain ⟨rfl, _⟩ := o.intE
      obtain ⟨rfl, _⟩ := o'.intE
      exact ⟨_, call_min2 hc, i, j, rfl, q.atom S ⟨rfl, rfl⟩⟩
    | [.lst o xs], e =>
      simp only [biD] at e
      split at e
      · rename_i x r hi
        cases e
        obtain ⟨v, B, rfl, o⟩ := h.one
        obtain ⟨a, vs, rfl, ha, ⟨B', ow, _⟩, l⟩ := o.lstE S.same
        have ev := ow.ints hi
        subst ev
        refine ⟨_, cr_min hc, a, x :: r, rfl, hK ▸ ha, by simp, fun m hm hy => ?_⟩
        obtain ⟨g1, g2, g3⟩ := minL_le r x
        have : m = minL x r := by
          refine Int.le_antisymm ?_ ?_
          · rcases g3 with g3 | g3
            · rw [g3]; exact hy _ List.mem_cons_self
            · exact hy _ (List.mem_cons_of_mem _ g3)
          · rcases List.mem_cons.mp hm with rfl | hm
            · exact g1
            · exact g2 m hm
        rw [this]
        exact q.atom S ⟨rfl, rfl⟩
      · cases e
  | sum =>
    match ds, e with
    | [.lst o xs], e =>
      simp only [biD, Option.map_eq_some_iff] at e
      obtain ⟨ns, hi, rfl⟩ := e
      obtain ⟨v, B, rfl, o⟩ := h.one
      obtain ⟨a, vs, rfl, ha, ⟨B', ow, _⟩, l⟩ := o.lstE S.same
      have ev := ow.ints hi
      subst ev
      exact ⟨_, cr_sum hc, a, ns, rfl, hK ▸ ha, q.atom S ⟨rfl, rfl⟩⟩
  | sorted =>
    match ds, e with
    | [.lst o xs], e =>
      simp only [biD, Option.map_eq_some_iff] at e
      obtain ⟨ns, hi, rfl⟩ := e
      obtain ⟨v, B, rfl, o⟩ := h.one
      obtain ⟨a, vs, rfl, ha, ⟨B', ow, _⟩, l⟩ := o.lstE S.same
      have ev := ow.ints hi
      subst ev
      refine ⟨_, cr_sortedI, a, ns, rfl, hK ▸ ha, fun ns' p pm st hp => ?_⟩
      rw [sortI_eq pm st]
      exact q.lst S (repL_ints _) hp
  | list =>
    match ds, e with
    | [.lst o xs], e =>
      simp only [biD] at e
      split at e
      · rename_i f1
        cases e
        obtain ⟨v, B, rfl, o⟩ := h.one
        obtain ⟨a, vs, rfl, ha, ⟨B', ow, _⟩, l⟩ := o.lstE S.same
        exact ⟨_, call_list_of, a, vs, rfl, .inl (hK ▸ ha), fun p hp => q.lst S (OwnL.to_rep f1 ow).2 hp⟩
      · cases e
    | [.tup o xs], e =>
      simp only [biD] at e
      split at e
      · rename_i f1
        cases e
        obtain ⟨v, B, rfl, o⟩ := h.one
        obtain ⟨a, vs, rfl, ha, ⟨B', ow, _⟩, l⟩ := o.tupE S.same
        exact ⟨_, call_list_of, a, vs, rfl, .inr (hK ▸ ha), fun p hp => q.lst S (OwnL.to_rep f1 ow).2 hp⟩
      · cases e
  | tuple =>
    match ds, e with
    | [.lst o xs], e =>
      simp only [biD] at e
      split at e
      · rename_i f1
        cases e
        obtain ⟨v, B, rfl, o⟩ := h.one
        obtain ⟨a, vs, rfl, ha, ⟨B', ow, _⟩, l⟩ := o.lstE S.same
        exact ⟨_, call_tuple_of, a, vs, rfl, .inl ⟨hK ▸ ha, fun p hp => q.tup S (OwnL.to_rep f1 ow).2 hp⟩⟩
      · cases e
    | [.tup o xs], e =>
      simp only [biD] at e
      split at e
      · rename_i f1
        cases e
        obtain ⟨v, B, rfl, ow⟩ := h.one
        have g : o = false := by simpa using f1
        subst g
        have O1 := ow
        obtain ⟨a, vs, rfl, ha, _, l⟩ := ow.tupE S.same
        have eB : B = [] := by unfold Own at O1; exact O1.1
        subst eB
        exact ⟨_, call_tupleT, a, vs, rfl, hK ▸ ha, q.atom S O1⟩
      · cases e
  | isinst =>
    match ds, e with
    | [x, .ty t], e =>
      simp only [biD, Option.map_eq_some_iff] at e
      obtain ⟨b, hi, rfl⟩ := e
      obtain ⟨v, w, B, B', rfl, o, o'⟩ := h.two
      obtain ⟨rfl, _⟩ := o'.tyE
      obtain ⟨n, ht, hk⟩ := own_ty (X := X) S hK o hi
      exact ⟨_, call_isi, v, _, _, _, b, rfl, .ty _, ht, kit_ty hk, q.atom S ⟨rfl, rfl⟩⟩
    | [x, .non], e => cases x <;> cases e
    | [x, .bl _], e => cases x <;> cases e
    | [x, .int _], e => cases x <;> cases e
    | [x, .str _], e => cases x <;> cases e
    | [x, .ref _], e => cases x <;> cases e
    | [x, .lst _ _], e => cases x <;> cases e
    | [x, .tup _ _], e => cases x <;> cases e
    | [x, .dct _ _ _], e => cases x <;> cases e
    | [x, .ins _ _ _ _], e => cases x <;> cases e
  | str =>
    match ds, e with
    | [.int i], e =>
      simp only [biD] at e
      split at e
      · rename_i hz
        cases e
        obtain ⟨v, B, rfl, o⟩ := h.one
        obtain ⟨rfl, _⟩ := o.intE
        exact ⟨_, call_str_int, i, rfl, hz, q.atom S ⟨rfl, rfl⟩⟩
      · cases e
  | all => cases e
  | any => cases e
  | ord => cases e
  | chr => cases e
  | reversed => cases e
end
end DS

set_option Elab.async false
set_option linter.all false
set_option maxRecDepth 100000
/-! DS8: the match of terms with the syntax. -/
namespace DS
open PySem PySem.Spec PyProof.Rows L2

def plainN (x : Str) : Bool := !(x == ("__debug__" : Str)) && !(x == ("__classdict__" : Str)) && !(x == ("__name__" : Str))
def visB (sc : Scope) (x : Str) : Bool := match sc.names.lookup x with
  | some .local => true
  | some .cell => true
  | some .free => true
  | _ => false
def locB (sc : Scope) (x : Str) : Bool := match sc.names.lookup x with
  | some .local => true
  | some .cell => true
  | _ => false
def glB (sc : Scope) (x : Str) : Bool := match sc.names.lookup x with
  | some .globalImplicit => true
  | _ => false
/-- a name that is the i-th slot -/
def cSl (M : Nm) (sc : Scope) (i : Nat) (x : Str) : Bool := decide (M.N[i]? = some x) && visB sc x && plainN x
/-- a built-in's name -/
def cBl (M : Nm) (sc : Scope) (x y : Str) : Bool := decide (x = y) && glB sc x && M.bl.contains x && plainN x
/-- not a star, not a comprehension, not a set: what most rules ask -/
def plainE : Expr → Bool
  | .Starred _ _ => false
  | .ListComp _ _ _ _ => false
  | .SetComp _ _ _ _ => false
  | .DictComp _ _ _ _ _ => false
  | .Set _ _ _ => false
  | .Slice _ _ _ _ => false
  | _ => true
/-- no star -/
def noStar : Expr → Bool
  | .Starred _ _ => false
  | _ => true
/-- a receiver of a method: a name, an attribute of one, a constant -/
def plainO : Expr → Bool
  | .Name _ _ => true
  | .Attribute _ _ _ => true
  | .Constant _ _ _ => true
  | .Subscript _ _ _ => true
  | .Call (.Name x _) _ _ _ => !decide (x = ("super" : Str))
  | _ => false
def meName : ME → Str
  | .index => "index" | .split => "split" | .join => "join" | .get => "get" | .count => "count" | .startswith => "startswith"
def muName : Mu → Str
  | .append => "append" | .extend => "extend" | .pop => "pop" | .reverse => "reverse" | .clear => "clear" | .insert => "insert" | .popAt => "pop" | .sort => "sort"
def muOk : Mu → Bool
  | .append | .pop | .reverse | .clear => true
  | _ => false
def meOk : ME → Bool
  | .index => true
  | _ => false
/-- its truth is asked of its value -/
def isTr : Expr → Bool
  | .UnaryOp .Not _ _ => false
  | .BoolOp _ _ _ => false
  | .IfExp _ _ _ _ => false
  | .Compare _ _ _ _ => false
  | _ => true
def isVl : Expr → Bool
  | .UnaryOp .Not _ _ => false
  | .BoolOp _ _ _ => false
  | .IfExp _ _ _ _ => false
  | _ => true
def casM : Cas → List Bool
  | .nil => []
  | .cons (.mt _) cs => true :: casM cs
  | .cons _ cs => false :: casM cs

def notTst : Tm → Bool
  | .tst _ => false
  | _ => true

mutual
def cTm (M : Nm) (sc : Scope) : Tm → Expr → Bool
  | .kk (.int i), .Constant (.int j) _ _ => decide (i = j)
  | .kk (.bl i), .Constant (.bool j) _ _ => decide (i = j)
  | .kk (.str i), .Constant (.str j) _ _ => decide (i = j)
  | .kk .non, .Constant .none _ _ => true
  | .kk (.ty t), .Name x _ => match t with
      | .int => cBl M sc x "int" | .bool => cBl M sc x "bool" | .str => cBl M sc x "str" | .list => cBl M sc x "list" | .tuple => cBl M sc x "tuple" | .dict => cBl M sc x "dict"
  | .gc i, .Name x _ => decide (M.cn[i]? = some x) && glB sc x && plainN x
  | .mv i, .Name x _ => cSl M sc i x
  | .tk i, .Name x _ => cSl M sc i x
  | .fld _, _ => false
  | .bin o a b, .BinOp l op r _ => bopOk o op && cAr M sc a l && cAr M sc b r
  | .neg a, .UnaryOp .USub e _ => cAr M sc a e
  | .cmp o a b, .Compare l [op] [r] _ => copOk o op && cAr M sc a l && cAr M sc b r && plainE r
  | .chn o1 o2 a b c, .Compare l [p1, p2] [r, t] _ => copOk o1 p1 && copOk o2 p2 && cAr M sc a l && cAr M sc b r && cAr M sc c t && plainE r && plainE t
  | .sub a i, .Subscript e k _ => cAr M sc a e && cAr M sc i k && plainE k
  | .slc a l h, .Subscript e (.Slice lo hi none _) _ => cAr M sc a e && cOAr M sc l lo && cOAr M sc h hi
  | .bi f (.cons a as), .Call (.Name x _) (e :: es) [] _ => cBl M sc x (biName f) && cAr M sc a e && cArs M sc as es && (e :: es).all noStar
  | .me m a (.cons b bs), .Call (.Attribute o x ap) (e :: es) [] cp => meOk m && decide (x = meName m) && cAr M sc a o && plainO o && cAr M sc b e && cArs M sc bs es && (e :: es).all noStar && decide (es.length < 20) && (ap.endLine == cp.line)
  | .tup ts, .Tuple es _ _ => cTms M sc ts es && es.all noStar
  | .lst ts, .List es _ => cTms M sc ts es && es.all noStar
  | .call f as, .Call (.Name x _) (e :: es) [] _ => (match M.fn[f]? with | some (y, ms) => decide (x = y) && decide (ms = casM as) | none => false) && glB sc x && plainN x && cCas M sc as (e :: es) && (e :: es).all noStar
  | .lc i it c e, .ListComp elt [⟨.Name x _, iter, ifs, z⟩] scope _ => decide (z = 0) && decide (M.N[i]? = some x) && blkC M.N sc scope [(x, i)] && locB (relS scope sc) x &&
      (decide ((relS scope sc).names.lookup x = some .local) || decide (scope.names.lookup x = some .cell)) && plainE iter && cIt M sc it iter &&
      cOTs M (relS scope sc) c ifs && cTm M (relS scope sc) e elt
  | .lc2 i it j it2 e, .ListComp elt [⟨.Name x _, iter, [], z⟩, ⟨.Name y _, iter1, [], z1⟩] scope _ => decide (z = 0) && decide (z1 = 0) && decide (i ≠ j) && decide (M.N[i]? = some x) && decide (M.N[j]? = some y) && blkC M.N sc scope [(x, i), (y, j)] && locB (relS scope sc) x && locB (relS scope sc) y &&
      (decide ((relS scope sc).names.lookup x = some .local) || decide (scope.names.lookup x = some .cell)) && (decide ((relS scope sc).names.lookup y = some .local) || decide (scope.names.lookup y = some .cell)) && plainE iter && plainE iter1 && cIt M sc it iter &&
      cIt M (relS scope sc) it2 iter1 && cTm M (relS scope sc) e elt
  | .ite c a b, .IfExp t x y _ => cTs M sc c t && cTm M sc a x && cTm M sc b y
  | .tst c, e => cTv M sc c e
  | .mu m i as, .Call (.Attribute (.Name x _) y ap) es [] cp => muOk m && cSl M sc i x && decide (y = muName m) && cTms M sc as es && es.all noStar && decide (es.length < 20) && (ap.endLine == cp.line)
  | _, _ => false
def cAr (M : Nm) (sc : Scope) : Ar → Expr → Bool
  | .pk (.sl i), .Name x _ => cSl M sc i x
  | .vl t, e => cTm M sc t e
  | _, _ => false
def cOAr (M : Nm) (sc : Scope) : OAr → Option Expr → Bool
  | .none, none => true
  | .some a, some e => cAr M sc a e
  | _, _ => false
def cArs (M : Nm) (sc : Scope) : Ars → List Expr → Bool
  | .nil, [] => true
  | .cons a as, e :: es => cAr M sc a e && cArs M sc as es
  | _, _ => false
def cTms (M : Nm) (sc : Scope) : Tms → List Expr → Bool
  | .nil, [] => true
  | .cons a as, e :: es => cTm M sc a e && cTms M sc as es
  | _, _ => false
def cCa (M : Nm) (sc : Scope) : Ca → Expr → Bool
  | .bor i, .Name x _ => cSl M sc i x
  | .mt i, .Name x _ => cSl M sc i x
  | .vl t, e => cTm M sc t e
  | _, _ => false
def cCas (M : Nm) (sc : Scope) : Cas → List Expr → Bool
  | .nil, [] => true
  | .cons a as, e :: es => cCa M sc a e && cCas M sc as es
  | _, _ => false
def cTs (M : Nm) (sc : Scope) : Ts → Expr → Bool
  | .and a b, .BoolOp .And (x :: y :: r) _ => cTs M sc a x && (match r with | [] => cTs M sc b y | _ :: _ => cTsL M sc .And b y r)
  | .or a b, .BoolOp .Or (x :: y :: r) _ => cTs M sc a x && (match r with | [] => cTs M sc b y | _ :: _ => cTsL M sc .Or b y r)
  | .not a, .UnaryOp .Not e _ => cTs M sc a e
  | .vl (.cmp o a b), .Compare l [op] [r] _ => copOk o op && cAr M sc a l && cAr M sc b r && plainE r
  | .vl (.chn o1 o2 a b c), .Compare l [p1, p2] [r, t] _ => copOk o1 p1 && copOk o2 p2 && cAr M sc a l && cAr M sc b r && cAr M sc c t && plainE r && plainE t
  | .vl t, e => cTm M sc t e && isTr e
  | .tr a, e => cAr M sc a e && isTr e
  | _, _ => false
/-- the rest of an and, an or -/
def cTsL (M : Nm) (sc : Scope) : BoolOp → Ts → Expr → List Expr → Bool
  | .And, .and a b, y, z :: r => cTs M sc a y && (match r with | [] => cTs M sc b z | _ :: _ => cTsL M sc .And b z r)
  | .Or, .or a b, y, z :: r => cTs M sc a y && (match r with | [] => cTs M sc b z | _ :: _ => cTsL M sc .Or b z r)
  | _, _, _, _ => false
/-- a test as a value -/
def cTv (M : Nm) (sc : Scope) : Ts → Expr → Bool
  | .and a b, .BoolOp .And (x :: y :: r) _ => cTv M sc a x && (match r with | [] => cTv M sc b y | _ :: _ => cTvL M sc .And b y r)
  | .or a b, .BoolOp .Or (x :: y :: r) _ => cTv M sc a x && (match r with | [] => cTv M sc b y | _ :: _ => cTvL M sc .Or b y r)
  | .not a, .UnaryOp .Not e _ => cTv M sc a e
  | .vl t, e => cTm M sc t e
  | _, _ => false
def cTvL (M : Nm) (sc : Scope) : BoolOp → Ts → Expr → List Expr → Bool
  | .And, .and a b, y, z :: r => cTv M sc a y && (match r with | [] => cTv M sc b z | _ :: _ => cTvL M sc .And b z r)
  | .Or, .or a b, y, z :: r => cTv M sc a y && (match r with | [] => cTv M sc b z | _ :: _ => cTvL M sc .Or b z r)
  | _, _, _, _ => false
def cOTs (M : Nm) (sc : Scope) : OTs → List Expr → Bool
  | .none, [] => true
  | .some t, [b] => cTs M sc t b
  | _, _ => false
def cIt (M : Nm) (sc : Scope) : It → Expr → Bool
  | .seq (.pk (.sl i)), .Name x _ => cSl M sc i x
  | .seq (.vl t), e => cTm M sc t e
  | .rng1 a, .Call (.Name x _) [e] [] _ => cBl M sc x "range" && cAr M sc a e && noStar e
  | .rng2 a b, .Call (.Name x _) [e, f] [] _ => cBl M sc x "range" && cAr M sc a e && cAr M sc b f && noStar e && noStar f
  | _, _ => false
end
end DS

set_option Elab.async false
set_option linter.all false
set_option maxRecDepth 100000
/-! DS9: rules for terms, one by one. -/
namespace DS
open PySem PySem.Spec PyProof.Rows L2
section
variable {C : Cst} {X : Cx} {W : WX} {lv : Nat} {sc : Scope} {σ : DSt} {ρ : Env} {ka kb kc : Bool} {ea eb ec : Expr} {fa fb fc : Env → Out D} {F H : Hp} {A : List Addr}

theorem visB_ok {x : Str} (h : visB sc x = true) : Vis sc x := by
  unfold visB at h
  unfold Vis
  split at h
  · rename_i e; exact .inl e
  · rename_i e; exact .inr (.inl e)
  · rename_i e; exact .inr (.inr e)
  · cases h
theorem locB_ok {x : Str} (h : locB sc x = true) : L2.Loc sc x := by
  unfold locB at h
  unfold L2.Loc
  split at h
  · rename_i e; exact .inl e
  · rename_i e; exact .inr e
  · cases h
theorem glB_ok {x : Str} (h : glB sc x = true) : sc.names.lookup x = some .globalImplicit := by
  unfold glB at h
  split at h
  · assumption
  · cases h
theorem plainN_ok {x : Str} (h : plainN x = true) : (x == ("__debug__" : Str)) = false ∧ (x == ("__classdict__" : Str)) = false ∧ x ≠ ("__name__" : Str) := by
  unfold plainN at h
  simp only [Bool.and_eq_true, Bool.not_eq_true'] at h
  exact ⟨h.1.1, h.1.2, fun z => by rw [z] at h; simp at h⟩
theorem name_pe {i : Nat} {x : Str} {p : Pos} (O : XOK C lv sc X) (h : cSl C.nm sc i x = true) : PE X (.Name x p) (tVar i) := by
  unfold cSl at h
  simp only [Bool.and_eq_true, decide_eq_true_eq] at h
  obtain ⟨⟨h1, h2⟩, h3⟩ := h
  obtain ⟨n1, n2, _⟩ := plainN_ok h3
  exact pe_var (by rw [O.N]; exact h1) (by rw [O.sc]; exact visB_ok h2) n1 n2
theorem gl_of {x : Str} (O : XOK C lv sc X) (h : glB sc x = true) : Gl X x := by
  show X.env.scope.names.lookup x = _
  rw [O.sc]; exact glB_ok h

/-- a slot that is looked at -/
theorem da_pk {i : Nat} {x : Str} {p : Pos} (O : XOK C lv sc X) (h : cSl C.nm sc i x = true) : DA C X W true (.Name x p) (fun ρ => Out.lift (getS ρ i) ρ) := by
  intro σ ρ F H A Q S q
  refine wp_of (name_pe O h) ?_
  cases e : getS ρ i with
  | none => simp only [e] at q; exact q.elim
  | some d =>
    simp only [e] at q
    unfold getS at e
    cases e2 : ρ[i]? with
    | none => rw [e2] at e; cases e
    | some o =>
      rw [e2] at e
      have e3 : o = some d := e
      subst e3
      obtain ⟨v, B, s1, o1, _, _⟩ := S.own.get e2
      exact ⟨v, s1, q v F H A B S o1 (Ext.refl _ _ _ _)⟩
theorem getS_get {i : Nat} {d : D} (e : getS ρ i = some d) : ρ[i]? = some (some d) := by
  unfold getS at e
  cases e2 : ρ[i]? with
  | none => rw [e2] at e; cases e
  | some o =>
    rw [e2] at e
    have e3 : o = some d := e
    rw [e3]
/-- two operands -/
theorem two (ha : DA C X W ka ea fa) (hb : DA C X W kb eb fb) (S : SR C.K σ ρ F H A) {G : D → D → Env → Out D} {Q : VK} {R : V → V → Hp → Prop} {kg : Bool}
    (p : EPost C W σ ((ka && kb) && kg) F H A ((fa ρ).bind fun x ρ1 => (fb ρ1).bind fun y ρ2 => if kb || atom x then G x y ρ2 else .stk) Q)
    (g : ∀ x y ρ2 v1 v2 F2 H2 A2 B1 B2, SR C.K σ ρ2 F2 H2 A2 → Own C.K F2 H2 v1 x B1 → Own C.K F2 H2 v2 y B2 → EPost C W σ kg F2 H2 A2 (G x y ρ2) Q → R v1 v2 H2) :
    Wp X ea σ H fun v1 H1 => Wp X eb σ H1 fun v2 H2 => R v1 v2 H2 := by
  refine ha σ ρ F H A _ S ?_
  cases h1 : fa ρ with
  | stk => rw [h1] at p; exact p
  | exc x fs ρ1 => rw [h1] at p; exact p
  | ok x ρ1 =>
    rw [h1] at p
    intro v1 F1 H1 A1 B1 S1 O1 E1
    refine hb σ ρ1 F1 H1 A1 _ S1 ?_
    simp only [Out.bind_ok] at p
    cases h2 : fb ρ1 with
    | stk => rw [h2] at p; exact p
    | exc z fs ρ2 =>
      rw [h2] at p
      exact fun cls d F' H' A' S' E' r => p cls d F' H' A' S' ((E1.trans E').weak fun z => nomatch z) r
    | ok y ρ2 =>
      rw [h2] at p
      simp only [Out.bind_ok] at p
      intro v2 F2 H2 A2 B2 S2 O2 E2
      split at p
      · rename_i hk
        have k : kb = true ∨ atom x = true := by simpa using hk
        exact g x y ρ2 v1 v2 F2 H2 A2 B1 B2 S2 (O1.later E2 k) O2 (EPost.step (E1.trans E2) p)
      · exact p.elim
theorem one (ha : DA C X W ka ea fa) (S : SR C.K σ ρ F H A) {G : D → Env → Out D} {Q : VK} {R : V → Hp → Prop} {kg : Bool}
    (p : EPost C W σ (ka && kg) F H A ((fa ρ).bind fun x ρ1 => G x ρ1) Q)
    (g : ∀ x ρ2 v1 F2 H2 A2 B1, SR C.K σ ρ2 F2 H2 A2 → Own C.K F2 H2 v1 x B1 → EPost C W σ kg F2 H2 A2 (G x ρ2) Q → R v1 H2) :
    Wp X ea σ H fun v1 H1 => R v1 H1 := by
  refine ha σ ρ F H A _ S ?_
  cases h1 : fa ρ with
  | stk => rw [h1] at p; exact p
  | exc x fs ρ1 => rw [h1] at p; exact p
  | ok x ρ1 =>
    rw [h1] at p
    intro v1 F1 H1 A1 B1 S1 O1 E1
    exact g x ρ1 v1 F1 H1 A1 B1 S1 O1 (EPost.step E1 p)
theorem lift_elim {o : Option D} {ρ2 : Env} {Q : VK} (S : SR C.K σ ρ2 F H A) (p : EPost C W σ ka F H A (Out.lift o ρ2) Q) : ∃ d, o = some d ∧ Fresh C σ ρ2 F H A d Q := by
  cases o with
  | none => exact p.elim
  | some d => exact ⟨d, rfl, Fresh.of S p⟩
theorem de_bin {o : BOp} {op : Operator} {pos : Pos} (O : XOK C lv sc X) (ho : bopOk o op = true) (ha : DA C X W ka ea fa) (hb : DA C X W kb eb fb) :
    DE C X W (ka && kb) (.BinOp ea op eb pos) (fun ρ => (fa ρ).bind fun x ρ1 => (fb ρ1).bind fun y ρ2 => if kb || atom x then Out.lift (binD o x y) ρ2 else .stk) := by
  intro σ ρ F H A Q S p
  refine wp_of (pe_op op_any pe_wp pe_wp) ?_
  refine two (kg := true) ha hb S (by rw [Bool.and_true]; exact p) fun x y ρ2 v1 v2 F2 H2 A2 B1 B2 S2 o1 o2 q => ?_
  obtain ⟨d, e, q⟩ := lift_elim S2 q
  exact bin_prim ho S2 O.K o1 o2 e q
theorem de_cmp {o : COp} {op : CmpOp} {pos : Pos} (O : XOK C lv sc X) (ho : copOk o op = true) (hm : behindInMarks op eb = false) (ha : DA C X W ka ea fa) (hb : DA C X W kb eb fb) :
    DE C X W (ka && kb) (.Compare ea [op] [eb] pos) (fun ρ => (fa ρ).bind fun x ρ1 => (fb ρ1).bind fun y ρ2 => if kb || atom x then Out.lift ((cmpD o x y).map .bl) ρ2 else .stk) := by
  intro σ ρ F H A Q S p
  refine wp_of (pe_cmpR op_any pe_wp pe_wp hm) ?_
  refine two (kg := true) ha hb S (by rw [Bool.and_true]; exact p) fun x y ρ2 v1 v2 F2 H2 A2 B1 B2 S2 o1 o2 q => ?_
  obtain ⟨d, e, q⟩ := lift_elim S2 q
  rw [Option.map_eq_some_iff] at e
  obtain ⟨b, e, rfl⟩ := e
  exact cmp_prim ho S2 O.K O.units o1 o2 e (q.atom S2 ⟨rfl, rfl⟩)
theorem de_sub {pos : Pos} (O : XOK C lv sc X) (hx : PlainIx eb) (ha : DA C X W ka ea fa) (hb : DA C X W kb eb fb) :
    DE C X W (ka && kb) (.Subscript ea eb pos) (fun ρ => (fa ρ).bind fun x ρ1 => (fb ρ1).bind fun y ρ2 => if kb || atom x then Out.lift (subD x y) ρ2 else .stk) := by
  intro σ ρ F H A Q S p
  refine wp_of (pe_ix ix_any pe_wp pe_wp hx) ?_
  refine two (kg := true) ha hb S (by rw [Bool.and_true]; exact p) fun x y ρ2 v1 v2 F2 H2 A2 B1 B2 S2 o1 o2 q => ?_
  obtain ⟨d, e, q⟩ := lift_elim S2 q
  exact sub_prim S2 O.K o1 o2 e q
theorem de_neg {pos : Pos} (O : XOK C lv sc X) (ha : DA C X W ka ea fa) : DE C X W ka (.UnaryOp .USub ea pos) (fun ρ => (fa ρ).bind fun x ρ1 => Out.lift (negD x) ρ1) := by
  intro σ ρ F H A Q S p
  refine wp_of (pe_un un_any pe_wp) ?_
  refine one (kg := true) ha S (by rw [Bool.and_true]; exact p) fun x ρ2 v1 F2 H2 A2 B1 S2 o1 q => ?_
  obtain ⟨d, e, q⟩ := lift_elim S2 q
  cases x with
  | int i =>
    cases e
    obtain ⟨rfl, _⟩ := o1.intE
    exact ⟨_, un_neg, i, rfl, q.atom S2 ⟨rfl, rfl⟩⟩
  | _ => cases e
/-- a value, with what is fresh of it, while the next one is evaluated: see DTs -/
theorem de_kk {d : D} {c : Const} {k : Nat} {pos : Pos} (h : match d, c with | .int i, .int j => i = j | .bl i, .bool j => i = j | .str i, .str j => i = j | .non, .none => True | _, _ => False) :
    DE C X W true (.Constant c k pos) (fun ρ => if atom d then .ok d ρ else .stk) := by
  intro σ ρ F H A Q S p
  have fin : ∀ {v : V}, atom d = true → Own C.K F H v d [] → Q v H := fun {v} a o => by
    have p : EPost C W σ true F H A (if atom d = true then Out.ok d ρ else Out.stk) Q := p
    rw [if_pos a] at p
    exact (Fresh.of S p).atom S o
  cases d with
  | int i =>
    cases c with
    | int j => cases h; exact wp_of pe_int (fin rfl ⟨rfl, rfl⟩)
    | _ => exact h.elim
  | bl i =>
    cases c with
    | bool j => cases h; exact wp_of pe_bl (fin rfl ⟨rfl, rfl⟩)
    | _ => exact h.elim
  | str i =>
    cases c with
    | str j => cases h; exact wp_of pe_str (fin rfl ⟨rfl, rfl⟩)
    | _ => exact h.elim
  | non =>
    cases c with
    | none => exact wp_of pe_non (fin rfl ⟨rfl, rfl⟩)
    | _ => exact h.elim
  | _ => exact h.elim
theorem bl_mem {x : Str} {l : List Str} (h : l.contains x = true) : x ∈ l := by simpa using h
theorem cBl_ok {x y : Str} (O : XOK C lv sc X) (h : cBl C.nm sc x y = true) : x = y ∧ Gl X x ∧ X.mg x = none ∧ (x == ("__debug__" : Str)) = false ∧ x ≠ ("__name__" : Str) := by
  unfold cBl at h
  simp only [Bool.and_eq_true, decide_eq_true_eq] at h
  obtain ⟨⟨⟨h1, h2⟩, h3⟩, h4⟩ := h
  obtain ⟨n1, _, n3⟩ := plainN_ok h4
  exact ⟨h1, gl_of O h2, O.bls x (bl_mem h3), n1, n3⟩
theorem de_ty {t : Ty} {x : Str} {pos : Pos} (O : XOK C lv sc X) (h : cBl C.nm sc x (Str.ofString t.name) = true) : DE C X W true (.Name x pos) (fun ρ => if atom (.ty t) then .ok (.ty t) ρ else .stk) := by
  intro σ ρ F H A Q S p
  obtain ⟨rfl, g, m, n1, n3⟩ := cBl_ok O h
  have b : bootBuiltins (Str.ofString t.name) = some (.type t.name) := by cases t <;> decide +kernel
  refine wp_of (pe_bltn (v := .ty t.name) g m b rfl n3 n1) ?_
  exact (Fresh.of S p).atom S ⟨rfl, rfl⟩
theorem de_gc {i : Nat} {x : Str} {pos : Pos} (O : XOK C lv sc X) (h : (decide (C.nm.cn[i]? = some x) && glB sc x && plainN x) = true) : DE C X W true (.Name x pos) (fun ρ => .ok (C.sg.cd i) ρ) := by
  intro σ ρ F H A Q S p
  simp only [Bool.and_eq_true, decide_eq_true_eq] at h
  obtain ⟨⟨h1, h2⟩, h3⟩ := h
  obtain ⟨n1, _, _⟩ := plainN_ok h3
  obtain ⟨u, v, e1, e2, e3⟩ := O.cns i x h1
  refine wp_of (pe_glob (gl_of O h2) e1 e2 n1) ?_
  exact (Fresh.of S p).atom S (Own.of_rep _ _ (e3 F))

/-- a slot frozen: env and heap -/
theorem SR.freeze {i : Nat} {d : D} (S : SR C.K σ ρ F H A) (e : ρ[i]? = some (some d)) : ∃ v F' A', σ[i]? = some (some v) ∧ SR C.K σ (ρ.set i (some (frz d))) F' H A' ∧ Rep C.K F' v (frz d) ∧ Ext true F H A F' H A' := by
  obtain ⟨v, B, A', e1, e2, e3, pm⟩ := S.own.take e
  have nd := pm.nodup_iff.mp S.nd
  rw [List.nodup_append] at nd
  have inA : ∀ b, b ∈ A ↔ b ∈ A' ++ B := fun b => pm.mem_iff
  have fB : ∀ b ∈ B, F b = none := fun b hb => S.free b ((inA b).mpr (List.mem_append_right _ hb))
  have r := e2.freeze fB
  have si : i < ρ.length := (List.getElem?_eq_some_iff.mp e).1
  have own1 : OwnE C.K (fzAt F H B) H (ρ.set i none) σ A' := e3.mono (fzAt_same fB) fun _ _ _ h => h
  obtain ⟨A2, o2, pm2⟩ := OwnE.upd (G := H) (d := d) own1 si e1 (Own.of_rep _ _ r)
  rw [List.append_nil] at pm2
  refine ⟨v, fzAt F H B, A2, e1, ⟨fzAt_sub S.same, pm2.nodup_iff.mpr nd.1, fun a ha => ?_, o2⟩, r, ⟨fzAt_same fB, fun _ _ h _ => h, fun b hb => ?_, fun b hb => .inl ((inA b).mpr (List.mem_append_left _ (pm2.mem_iff.mp hb)))⟩⟩
  · have ha' := pm2.mem_iff.mp ha
    have : a ∉ B := fun hb => nd.2.2 a ha' a hb rfl
    rw [fzAt_out this]
    exact S.free a ((inA a).mpr (List.mem_append_left _ ha'))
  · by_cases z : b ∈ B
    · exact .inr (.inl ((inA b).mpr (List.mem_append_right _ z)))
    · rw [fzAt_out z] at hb; exact .inl hb
theorem de_mv {i : Nat} {x : Str} {pos : Pos} (O : XOK C lv sc X) (h : cSl C.nm sc i x = true) : DE C X W true (.Name x pos) (fun ρ => match getS ρ i with | some d => .ok (frz d) (ρ.set i (some (frz d))) | none => .stk) := by
  intro σ ρ F H A Q S p
  refine wp_of (name_pe O h) ?_
  cases e : getS ρ i with
  | none => simp only [e] at p; exact p.elim
  | some d =>
    simp only [e] at p
    obtain ⟨v, F', A', s1, S', r, E⟩ := S.freeze (getS_get e)
    exact ⟨v, s1, p v F' H A' [] S' (Own.of_rep _ _ r) (by rw [List.append_nil]; exact E) (by rw [List.append_nil]; exact S'.nd) fun _ hb => nomatch hb⟩
theorem de_tk {i : Nat} {x : Str} {pos : Pos} (O : XOK C lv sc X) (h : cSl C.nm sc i x = true) : DE C X W true (.Name x pos) (fun ρ => match getS ρ i with | some d => .ok d (ρ.set i none) | none => .stk) := by
  intro σ ρ F H A Q S p
  refine wp_of (name_pe O h) ?_
  cases e : getS ρ i with
  | none => simp only [e] at p; exact p.elim
  | some d =>
    simp only [e] at p
    obtain ⟨v, B, A', e1, e2, e3, pm⟩ := S.own.take (getS_get e)
    have nd := pm.nodup_iff.mp S.nd
    have inA : ∀ b, b ∈ A ↔ b ∈ A' ++ B := fun b => pm.mem_iff
    refine ⟨v, e1, p v F H A' B ⟨S.same, (List.nodup_append.mp nd).1, fun a ha => S.free a ((inA a).mpr (List.mem_append_left _ ha)), e3⟩ e2 ?_ nd fun b hb => S.free b ((inA b).mpr (List.mem_append_right _ hb))⟩
    exact ⟨Same.refl F, fun _ _ h _ => h, fun b h => .inl h, fun b hb => .inl ((inA b).mpr hb)⟩
end
end DS

set_option Elab.async false
set_option linter.all false
set_option maxRecDepth 100000
/-! DS10: argument lists, displays, calls. -/
namespace DS
open PySem PySem.Spec PyProof.Rows L2

theorem starEach_ns {e : Expr} {es : List Expr} {env : PySem.Env} (h : noStar e = true) : starEach (e :: es) env = (false, eval e env) :: starEach es env := by
  cases e <;> first | rfl | exact nomatch h
theorem starAny_ns {pos : Pos} {env : PySem.Env} : ∀ {es : List Expr}, es.all noStar = true → (backTo pos (starEach es env)).any (·.1) = false
  | [], _ => rfl
  | e :: es, h => by
    rw [List.all_cons, Bool.and_eq_true] at h
    rw [starEach_ns h.1]
    show (false || (backTo pos (starEach es env)).any (·.1)) = false
    rw [starAny_ns h.2]
    rfl
theorem starAll_ns {pos : Pos} {env : PySem.Env} : ∀ {es : List Expr}, es.all noStar = true → (backTo pos (starEach es env)).all (fun x => !x.1) = true
  | [], _ => rfl
  | e :: es, h => by
    rw [List.all_cons, Bool.and_eq_true] at h
    rw [starEach_ns h.1]
    show (!false && (backTo pos (starEach es env)).all (fun x => !x.1)) = true
    rw [starAll_ns h.2]
    rfl

section
variable {C : Cst} {X : Cx} {W : WX} {lv : Nat} {sc : Scope} {σ : DSt} {ρ : Env} {ka kb kc kp : Bool} {ea eb ec : Expr} {es : List Expr} {F H F1 H1 F2 H2 : Hp} {A A1 A2 B1 : List Addr} {v : V} {d : D} {vs : List V} {ds : List D}

/-- what is held apart, while the rest goes on -/
theorem held (nd : (A1 ++ B1).Nodup) (f : ∀ b ∈ B1, F1 b = none) (dm : ∀ b ∈ B1, H1 b ≠ none) (E : Ext kp F1 H1 A1 F2 H2 A2) :
    (∀ b ∈ B1, b ∉ A2) ∧ (∀ b ∈ B1, F2 b = none) ∧ (∀ b ∈ B1, ∀ o, H1 b = some o → H2 b = some o) := by
  have nA : ∀ b ∈ B1, b ∉ A1 := fun b hb ha => (List.nodup_append.mp nd).2.2 b ha b hb rfl
  refine ⟨fun b hb h2 => ?_, fun b hb => ?_, fun b hb o ho => E.fr b o ho (.inr (nA b hb))⟩
  · rcases E.na b h2 with z | z
    · exact nA b hb z
    · exact dm b hb z
  · cases q : F2 b with
    | none => rfl
    | some o =>
      rcases E.nf b (by rw [q]; exact fun z => nomatch z) with z | z | z
      · exact absurd (f b hb) z
      · exact absurd z (nA b hb)
      · exact absurd z (dm b hb)
theorem nodup_mid {A2 B1 B2 : List Addr} (n1 : B1.Nodup) (n2 : (A2 ++ B2).Nodup) (h : ∀ b ∈ B1, b ∉ A2 ++ B2) : (A2 ++ (B1 ++ B2)).Nodup := by
  rw [List.nodup_append] at n2 ⊢
  refine ⟨n2.1, ?_, fun a ha b hb e => ?_⟩
  · rw [List.nodup_append]
    exact ⟨n1, n2.2.1, fun a ha b hb e => h a ha (by rw [e]; exact List.mem_append_right _ hb)⟩
  · rcases List.mem_append.mp hb with hb | hb
    · exact h b hb (by rw [← e]; exact List.mem_append_left _ ha)
    · exact n2.2.2 a ha b hb e
theorem dts_nil : DTs C X W true [] (fun ρ => .ok [] ρ) := by
  intro σ ρ F H A Q S p
  refine wpA_of pa_nil ?_
  refine p [] F H A [] S (by unfold OwnL; exact ⟨rfl, rfl⟩) (by rw [List.append_nil]; exact Ext.refl _ _ _ _) (by rw [List.append_nil]; exact S.nd) fun _ hb => nomatch hb
theorem dts_cons {f : Env → Out D} {g : Env → Out (List D)} (hs : noStar ea = true) (ha : DE C X W ka ea f) (hb : DTs C X W kb es g) :
    DTs C X W (ka && kb) (ea :: es) (fun ρ => (f ρ).bind fun x ρ1 => (g ρ1).bind fun xs ρ2 => .ok (x :: xs) ρ2) := by
  intro σ ρ F H A Q S p
  refine wpA_of (pa_cons pe_wp pa_wp (starEach_ns hs)) ?_
  refine ha σ ρ F H A _ S ?_
  cases h1 : f ρ with
  | stk => simp only [h1] at p; exact p
  | exc x fs ρ1 => simp only [h1] at p; exact p
  | ok x ρ1 =>
    simp only [h1, Out.bind_ok] at p
    intro v F1 H1 A1 B1 S1 O1 E1 n1 f1
    refine hb σ ρ1 F1 H1 A1 _ S1 ?_
    have E1' : Ext ka F H A F1 H1 A1 := E1.sub fun b hb => .inl (List.mem_append_left _ hb)
    cases h2 : g ρ1 with
    | stk => rw [h2] at p; exact p
    | exc z fs ρ2 =>
      rw [h2] at p
      exact fun cls d F' H' A' S' E' r => p cls d F' H' A' S' ((E1'.trans E').weak fun z => nomatch z) r
    | ok xs ρ2 =>
      rw [h2] at p
      intro vs F2 H2 A2 B2 S2 O2 E2 n2 f2
      obtain ⟨d1, d2, d3⟩ := held n1 f1 (Own.dom _ _ _ O1) E2
      refine p (v :: vs) F2 H2 A2 (B1 ++ B2) S2 ?_ ?_ (nodup_mid (List.nodup_append.mp n1).2.1 n2 d1) fun b hb => ?_
      · unfold OwnL
        exact ⟨v, vs, B1, B2, rfl, rfl, Own.mono E2.fs x v B1 d3 O1, O2⟩
      · have E3 := E1'.trans E2
        refine ⟨E3.fs, E3.fr, E3.nf, fun b hb => ?_⟩
        rcases List.mem_append.mp hb with hb | hb
        · exact E3.na b (List.mem_append_left _ hb)
        · rcases List.mem_append.mp hb with hb | hb
          · exact E1.na b (List.mem_append_right _ hb)
          · exact E3.na b (List.mem_append_right _ hb)
      · rcases List.mem_append.mp hb with hb | hb
        · exact d2 b hb
        · exact f2 b hb
theorem OwnA.later (E : Ext kp F1 H1 A1 F2 H2 A2) (k : kp = true) : ∀ {vs : List V} {ds : List D}, OwnA C.K F1 H1 vs ds → OwnA C.K F2 H2 vs ds
  | [], [], _ => True.intro
  | v :: vs, d :: ds, h => ⟨⟨_, h.1.choose_spec.later E (.inl k)⟩, OwnA.later E k h.2⟩
  | [], _ :: _, h => h.elim
  | _ :: _, [], h => h.elim
theorem das_nil : DAs C X W true [] (fun ρ => .ok [] ρ) := by
  intro σ ρ F H A Q S p
  exact wpA_of pa_nil (p [] F H A S True.intro (Ext.refl _ _ _ _))
theorem das_cons {f : Env → Out D} {g : Env → Out (List D)} (hs : noStar ea = true) (ha : DA C X W ka ea f) (hb : DAs C X W kb es g) :
    DAs C X W (ka && kb) (ea :: es) (fun ρ => (f ρ).bind fun x ρ1 => (g ρ1).bind fun xs ρ2 => if kb || atom x then .ok (x :: xs) ρ2 else .stk) := by
  intro σ ρ F H A Q S p
  refine wpA_of (pa_cons pe_wp pa_wp (starEach_ns hs)) ?_
  refine ha σ ρ F H A _ S ?_
  cases h1 : f ρ with
  | stk => simp only [h1] at p; exact p
  | exc x fs ρ1 => simp only [h1] at p; exact p
  | ok x ρ1 =>
    simp only [h1, Out.bind_ok] at p
    intro v F1 H1 A1 B1 S1 O1 E1
    refine hb σ ρ1 F1 H1 A1 _ S1 ?_
    cases h2 : g ρ1 with
    | stk => rw [h2] at p; exact p
    | exc z fs ρ2 =>
      rw [h2] at p
      exact fun cls d F' H' A' S' E' r => p cls d F' H' A' S' ((E1.trans E').weak fun z => nomatch z) r
    | ok xs ρ2 =>
      rw [h2] at p
      simp only [Out.bind_ok] at p
      intro vs F2 H2 A2 S2 O2 E2
      split at p
      · rename_i hk
        exact p (v :: vs) F2 H2 A2 S2 ⟨⟨B1, O1.later E2 (by simpa using hk)⟩, O2⟩ (E1.trans E2)
      · exact p.elim

/-! ### displays -/
/-- what was made apart is frozen -/
theorem SR.frzT {F H : Hp} {A : List Addr} (S1 : SR C.K σ ρ F1 H1 A1) (n1 : (A1 ++ B1).Nodup) (f1 : ∀ b ∈ B1, F1 b = none) (dm : ∀ b ∈ B1, H1 b ≠ none) (E1 : Ext kp F H A F1 H1 (A1 ++ B1)) :
    SR C.K σ ρ (fzAt F1 H1 B1) H1 A1 ∧ Ext kp F H A (fzAt F1 H1 B1) H1 A1 := by
  have n1' := List.nodup_append.mp n1
  refine ⟨S1.mono (fzAt_same f1) (fun _ _ _ h => h) (fzAt_sub S1.same) fun b hb => ?_, ⟨E1.fs.trans (fzAt_same f1), E1.fr, fun b hb => ?_, fun b hb => E1.na b (List.mem_append_left _ hb)⟩⟩
  · rw [fzAt_out (fun z => n1'.2.2 b hb b z rfl)]
    exact S1.free b hb
  · by_cases z : b ∈ B1
    · rcases E1.na b (List.mem_append_right _ z) with w | w
      · exact .inr (.inl w)
      · exact .inr (.inr w)
    · rw [fzAt_out z] at hb
      exact E1.nf b hb
/-- a value, frozen -/
def FPost (C : Cst) (W : WX) (σ : DSt) (kp : Bool) (F H : Hp) (A : List Addr) (o : Out D) (Q : VK) : Prop := match o with
  | .ok d ρ' => ∀ v F' H' A', SR C.K σ ρ' F' H' A' → Rep C.K F' v (frz d) → Ext kp F H A F' H' A' → Q v H'
  | .exc x fs ρ' => ∀ cls d F' H' A', SR C.K σ ρ' F' H' A' → Ext false F H A F' H' A' → ExR C cls d F' H' x fs → W cls d σ H'
  | .stk => False
theorem DE.frz {f : Env → Out D} (h : DE C X W ka ea f) {F H : Hp} {A : List Addr} {Q : VK} (S : SR C.K σ ρ F H A) (p : FPost C W σ ka F H A (f ρ) Q) : Wp X ea σ H Q := by
  refine h σ ρ F H A Q S ?_
  cases hf : f ρ with
  | ok d ρ' =>
    rw [hf] at p
    intro v F' H' A' B S' O x n fr
    obtain ⟨S2, E2⟩ := SR.frzT S' n fr (Own.dom _ _ _ O) x
    exact p v _ H' A' S2 (O.freeze fr) E2
  | exc x fs ρ' => rw [hf] at p; exact p
  | stk => rw [hf] at p; exact p
/-- values, frozen -/
def FsPost (C : Cst) (W : WX) (σ : DSt) (kp : Bool) (F H : Hp) (A : List Addr) (o : Out (List D)) (Q : List V → Hp → Prop) : Prop := match o with
  | .ok ds ρ' => ∀ vs F' H' A', SR C.K σ ρ' F' H' A' → RepL C.K F' vs (frzL ds) → Ext kp F H A F' H' A' → Q vs H'
  | .exc x fs ρ' => ∀ cls d F' H' A', SR C.K σ ρ' F' H' A' → Ext false F H A F' H' A' → ExR C cls d F' H' x fs → W cls d σ H'
  | .stk => False
theorem DTs.frz {f : Env → Out (List D)} (h : DTs C X W ka es f) {F H : Hp} {A : List Addr} {Q : List V → Hp → Prop} (S : SR C.K σ ρ F H A) (p : FsPost C W σ ka F H A (f ρ) Q) : WpA X es σ H Q := by
  refine h σ ρ F H A Q S ?_
  cases hf : f ρ with
  | ok ds ρ' =>
    rw [hf] at p
    intro vs F' H' A' B S' O x n fr
    obtain ⟨S2, E2⟩ := SR.frzT S' n fr (OwnL.dom _ _ _ O) x
    exact p vs _ H' A' S2 (OwnL.frz (fzAt_same fr) _ _ _ (fun b hb o e => by rw [fzAt_in hb]; exact e) O) E2
  | exc x fs ρ' => rw [hf] at p; exact p
  | stk => rw [hf] at p; exact p
theorem frzL_length : ∀ ds : List D, (frzL ds).length = ds.length
  | [] => by simp [frzL]
  | d :: ds => by simp [frzL, frzL_length ds]
theorem de_lst {g : Env → Out (List D)} {pos : Pos} (ht : DTs C X W ka es g) : DE C X W ka (.List es pos) (fun ρ => (g ρ).bind fun ds ρ1 => if okSz ds.length then .ok (.lst true (DS.frzL ds)) ρ1 else .stk) := by
  intro σ ρ F H A Q S p
  refine wp_of (pe_lst pa_wp) ?_
  refine ht.frz S ?_
  cases h1 : g ρ with
  | stk => simp only [h1] at p; exact p
  | exc x fs ρ1 => simp only [h1] at p; exact p
  | ok ds ρ1 =>
    simp only [h1, Out.bind_ok] at p
    intro vs F1 H1 A1 S1 r E1
    split at p
    · rename_i hz
      have hl : vs.length = ds.length := by rw [r.length, frzL_length]
      refine ⟨by rw [hl]; exact hz, fun q hq => ?_⟩
      exact (Fresh.of S1 (EPost.step (kq := true) E1 (by rw [Bool.and_true]; exact p))).lst S1 r hq
    · exact p.elim
theorem de_tup {g : Env → Out (List D)} {k : Nat} {pos : Pos} (ht : DTs C X W ka es g) : DE C X W ka (.Tuple es k pos) (fun ρ => (g ρ).bind fun ds ρ1 => if okSz ds.length then .ok (.tup false (DS.frzL ds)) ρ1 else .stk) := by
  intro σ ρ F H A Q S p
  refine wp_of (pe_tup pa_wp) ?_
  refine ht.frz S ?_
  cases h1 : g ρ with
  | stk => simp only [h1] at p; exact p
  | exc x fs ρ1 => simp only [h1] at p; exact p
  | ok ds ρ1 =>
    simp only [h1, Out.bind_ok] at p
    intro vs F1 H1 A1 S1 r E1
    split at p
    · rename_i hz
      have hl : vs.length = ds.length := by rw [r.length, frzL_length]
      refine ⟨by rw [hl]; exact hz, fun q hq => ?_⟩
      exact (Fresh.of S1 (EPost.step (kq := true) E1 (by rw [Bool.and_true]; exact p))).tup S1 r hq
    · exact p.elim

/-! ### built-ins -/
theorem de_bi {f : BI} {x : Str} {q pos : Pos} {g : Env → Out (List D)} (O : XOK C lv sc X) (hx : cBl C.nm sc x (biName f) = true) (hs : (ea :: es).all noStar = true) (ht : DAs C X W ka (ea :: es) g) :
    DE C X W ka (.Call (.Name x q) (ea :: es) [] pos) (fun ρ => (g ρ).bind fun xs ρ1 => Out.lift (biD f xs) ρ1) := by
  intro σ ρ F H A Q S p
  obtain ⟨rfl, hg, hm, n1, n3⟩ := cBl_ok O hx
  have hs' := hs
  rw [List.all_cons, Bool.and_eq_true] at hs
  have run : WpA X (ea :: es) σ H (fun vs H1 => anyCall X (biVal f) vs H1 Q) := by
    refine ht σ ρ F H A _ S ?_
    cases h1 : g ρ with
    | stk => simp only [h1] at p; exact p
    | exc x fs ρ1 => simp only [h1] at p; exact p
    | ok ds ρ1 =>
      simp only [h1, Out.bind_ok] at p
      intro vs F1 H1 A1 S1 O1 E1
      obtain ⟨d, e, r⟩ := lift_elim (ka := true) S1 (EPost.step E1 (by rw [Bool.and_true]; exact p))
      exact bi_prim S1 O.K O.calm O1 e r
  have bt := bi_boot f
  cases f <;> first
    | exact wp_of (pe_callB (call_any (f := biVal _)) hg hm bt pa_wp n3 n1 (starEach_ns hs.1) (starAny_ns hs.2)) run
    | exact wp_of (pe_callTy (call_any (f := biVal _)) hg hm bt pa_wp n3 n1 (starEach_ns hs.1) (starAny_ns hs.2)) run
end
end DS

set_option Elab.async false
set_option linter.all false
set_option maxRecDepth 100000
/-! DS11: calls of the program's own defs. -/
namespace DS
open PySem PySem.Spec PyProof.Rows L2
section
variable {C : Cst} {X : Cx} {W : WX} {lv : Nat} {sc : Scope} {σ : DSt} {ρ : Env} {ka kb kc kp : Bool} {ea eb ec : Expr} {es : List Expr} {F H F1 H1 F2 H2 : Hp} {A A1 A2 B1 : List Addr} {v : V} {d : D} {vs : List V} {ds : List D}

/-- the arguments' values: what was made for them stands at B -/
def AVR (K : PySem.W.Frag) (σ : DSt) (F H : Hp) : List V → List AV → List Addr → Prop
  | [], [], B => B = []
  | v :: vs, .v d :: as, B => ∃ B1 B2, B = B1 ++ B2 ∧ Own K F H v d B1 ∧ AVR K σ F H vs as B2
  | v :: vs, .b i :: as, B => σ[i]? = some (some v) ∧ AVR K σ F H vs as B
  | v :: vs, .m i :: as, B => σ[i]? = some (some v) ∧ AVR K σ F H vs as B
  | _, _, _ => False
variable (C W σ kp F H A) in
def CsPost (o : Out (List AV)) (Q : List V → Hp → Prop) : Prop := match o with
  | .ok as ρ' => ∀ vs F' H' A' B, SR C.K σ ρ' F' H' A' → AVR C.K σ F' H' vs as B → Ext kp F H A F' H' (A' ++ B) → (A' ++ B).Nodup → (∀ b ∈ B, F' b = none) → Q vs H'
  | .exc x fs ρ' => ∀ cls d F' H' A', SR C.K σ ρ' F' H' A' → Ext false F H A F' H' A' → ExR C cls d F' H' x fs → W cls d σ H'
  | .stk => False
variable (C X W) in
def DCs (kp : Bool) (es : List Expr) (f : Env → Out (List AV)) : Prop := ∀ σ ρ F H A Q, SR C.K σ ρ F H A → CsPost C W σ kp F H A (f ρ) Q → WpA X es σ H Q

theorem AVR.mono (e : Same F F1) : ∀ {vs : List V} {as : List AV} {B : List Addr}, (∀ b ∈ B, ∀ o, H b = some o → H1 b = some o) → AVR C.K σ F H vs as B → AVR C.K σ F1 H1 vs as B
  | [], [], _, _, h => h
  | v :: vs, .v d :: as, B, k, h => by
    unfold AVR at h ⊢
    obtain ⟨B1, B2, e1, o, r⟩ := h
    subst e1
    exact ⟨B1, B2, rfl, Own.mono e d v B1 (fun b hb => k b (List.mem_append_left _ hb)) o, AVR.mono e (fun b hb => k b (List.mem_append_right _ hb)) r⟩
  | v :: vs, .b i :: as, B, k, h => by
    unfold AVR at h ⊢
    exact ⟨h.1, AVR.mono e k h.2⟩
  | v :: vs, .m i :: as, B, k, h => by
    unfold AVR at h ⊢
    exact ⟨h.1, AVR.mono e k h.2⟩
  | [], _ :: _, _, _, h => h.elim
  | _ :: _, [], _, _, h => h.elim
theorem AVR.dom : ∀ {vs : List V} {as : List AV} {B : List Addr}, AVR C.K σ F H vs as B → ∀ b ∈ B, H b ≠ none
  | [], [], _, h => by unfold AVR at h; rw [h]; exact fun b hb => nomatch hb
  | v :: vs, .v d :: as, B, h => by
    unfold AVR at h
    obtain ⟨B1, B2, e1, o, r⟩ := h
    subst e1
    intro b hb
    rcases List.mem_append.mp hb with hb | hb
    · exact Own.dom _ _ _ o b hb
    · exact AVR.dom r b hb
  | v :: vs, .b i :: as, B, h => by unfold AVR at h; exact AVR.dom h.2
  | v :: vs, .m i :: as, B, h => by unfold AVR at h; exact AVR.dom h.2
  | [], _ :: _, _, h => h.elim
  | _ :: _, [], _, h => h.elim
theorem dcs_nil : DCs C X W true [] (fun ρ => .ok [] ρ) := by
  intro σ ρ F H A Q S p
  refine wpA_of pa_nil ?_
  exact p [] F H A [] S (by unfold AVR; rfl) (by rw [List.append_nil]; exact Ext.refl _ _ _ _) (by rw [List.append_nil]; exact S.nd) fun _ hb => nomatch hb
theorem dcs_val {f : Env → Out D} {g : Env → Out (List AV)} (hs : noStar ea = true) (ha : DE C X W ka ea f) (hb : DCs C X W kb es g) :
    DCs C X W (ka && kb) (ea :: es) (fun ρ => (f ρ).bind fun x ρ1 => (g ρ1).bind fun xs ρ2 => .ok (.v x :: xs) ρ2) := by
  intro σ ρ F H A Q S p
  refine wpA_of (pa_cons pe_wp pa_wp (starEach_ns hs)) ?_
  refine ha σ ρ F H A _ S ?_
  cases h1 : f ρ with
  | stk => simp only [h1] at p; exact p
  | exc x fs ρ1 => simp only [h1] at p; exact p
  | ok x ρ1 =>
    simp only [h1, Out.bind_ok] at p
    intro v F1 H1 A1 B1 S1 O1 E1 n1 f1
    refine hb σ ρ1 F1 H1 A1 _ S1 ?_
    have E1' : Ext ka F H A F1 H1 A1 := E1.sub fun b hb => .inl (List.mem_append_left _ hb)
    cases h2 : g ρ1 with
    | stk => rw [h2] at p; exact p
    | exc z fs ρ2 =>
      rw [h2] at p
      exact fun cls d F' H' A' S' E' r => p cls d F' H' A' S' ((E1'.trans E').weak fun z => nomatch z) r
    | ok xs ρ2 =>
      rw [h2] at p
      intro vs F2 H2 A2 B2 S2 O2 E2 n2 f2
      obtain ⟨d1, d2, d3⟩ := held n1 f1 (Own.dom _ _ _ O1) E2
      refine p (v :: vs) F2 H2 A2 (B1 ++ B2) S2 ?_ ?_ (nodup_mid (List.nodup_append.mp n1).2.1 n2 d1) fun b hb => ?_
      · unfold AVR
        exact ⟨B1, B2, rfl, Own.mono E2.fs x v B1 d3 O1, O2⟩
      · have E3 := E1'.trans E2
        refine ⟨E3.fs, E3.fr, E3.nf, fun b hb => ?_⟩
        rcases List.mem_append.mp hb with hb | hb
        · exact E3.na b (List.mem_append_left _ hb)
        · rcases List.mem_append.mp hb with hb | hb
          · exact E1.na b (List.mem_append_right _ hb)
          · exact E3.na b (List.mem_append_right _ hb)
      · rcases List.mem_append.mp hb with hb | hb
        · exact d2 b hb
        · exact f2 b hb
theorem dcs_slot {i : Nat} {x : Str} {q : Pos} {a : AV} (hav : a = .b i ∨ a = .m i) {g : Env → Out (List AV)} (O : XOK C lv sc X) (hx : cSl C.nm sc i x = true) (hb : DCs C X W kb es g) :
    DCs C X W kb (.Name x q :: es) (fun ρ => if (getS ρ i).isSome then (g ρ).bind fun xs ρ1 => .ok (a :: xs) ρ1 else .stk) := by
  intro σ ρ F H A Q S p
  refine wpA_of (pa_cons (name_pe O hx) pa_wp rfl) ?_
  cases e : getS ρ i with
  | none => simp only [e] at p; exact p.elim
  | some d =>
    simp only [e, Option.isSome_some, if_true] at p
    obtain ⟨v, B, s1, o1, _, _⟩ := S.own.get (getS_get e)
    refine ⟨v, s1, ?_⟩
    refine hb σ ρ F H A _ S ?_
    cases h2 : g ρ with
    | stk => rw [h2] at p; exact p
    | exc z fs ρ2 => rw [h2] at p; exact p
    | ok xs ρ2 =>
      rw [h2] at p
      intro vs F2 H2 A2 B2 S2 O2 E2 n2 f2
      refine p (v :: vs) F2 H2 A2 B2 S2 ?_ E2 n2 f2
      rcases hav with rfl | rfl <;> (unfold AVR; exact ⟨s1, O2⟩)

def SlotsV (σ : DSt) : List Nat → List V → Prop
  | [], [] => True
  | i :: is, v :: vs => σ[i]? = some (some v) ∧ SlotsV σ is vs
  | _, _ => False
theorem takeL_ok {K : PySem.W.Frag} : ∀ {is : List Nat} {ρ ρ' : Env} {A : List Addr} {ds : List D}, OwnE K F H ρ σ A → takeL is ρ = some (ds, ρ') →
    ∃ vs A' B, SlotsV σ is vs ∧ OwnL K F H vs ds B ∧ OwnE K F H ρ' σ A' ∧ A.Perm (A' ++ B)
  | [], ρ, ρ', A, ds, h, e => by
    unfold takeL at e
    cases e
    exact ⟨[], A, [], True.intro, by unfold OwnL; exact ⟨rfl, rfl⟩, h, by rw [List.append_nil]⟩
  | i :: is, ρ, ρ', A, ds, h, e => by
    unfold takeL at e
    split at e
    · rename_i d e1
      split at e
      · rename_i ds' ρ'' e2
        cases e
        obtain ⟨v, B, A1, s1, o1, o2, pm⟩ := h.take (getS_get e1)
        obtain ⟨vs, A', B', s2, o3, o4, pm2⟩ := takeL_ok o2 e2
        refine ⟨v :: vs, A', B ++ B', ⟨s1, s2⟩, by unfold OwnL; exact ⟨v, vs, B, B', rfl, rfl, o1, o3⟩, o4, ?_⟩
        refine pm.trans ((List.Perm.append_right B pm2).trans ?_)
        rw [List.append_assoc]
        exact List.Perm.append_left A' List.perm_append_comm
      · cases e
    · cases e
theorem frzLs_ok : ∀ {is : List Nat} {ρ ρ' : Env} {F : Hp} {A : List Addr} {ds : List D}, SR C.K σ ρ F H A → frzLs is ρ = some (ds, ρ') →
    ∃ vs F' A', SlotsV σ is vs ∧ RepL C.K F' vs ds ∧ SR C.K σ ρ' F' H A' ∧ Ext true F H A F' H A'
  | [], ρ, ρ', F, A, ds, h, e => by
    unfold frzLs at e
    cases e
    exact ⟨[], F, A, True.intro, by unfold RepL; rfl, h, Ext.refl _ _ _ _⟩
  | i :: is, ρ, ρ', F, A, ds, h, e => by
    unfold frzLs at e
    split at e
    · rename_i d e1
      split at e
      · rename_i ds' ρ'' e2
        cases e
        obtain ⟨v, F1, A1, s1, S1, r1, E1⟩ := h.freeze (getS_get e1)
        obtain ⟨vs, F2, A2, s2, r2, S2, E2⟩ := frzLs_ok S1 e2
        refine ⟨v :: vs, F2, A2, ⟨s1, s2⟩, ?_, S2, E1.trans E2⟩
        unfold RepL
        exact ⟨v, vs, rfl, Rep.same E2.fs _ _ r1, r2⟩
      · cases e
    · cases e
theorem putE_ok {K : PySem.W.Frag} : ∀ {is : List Nat} {ρ ρ' : Env} {A B : List Addr} {ds : List D} {vs : List V}, OwnE K F H ρ σ A → SlotsV σ is vs → OwnL K F H vs ds B → putE is ds ρ = some ρ' →
    ∃ A', OwnE K F H ρ' σ A' ∧ A'.Perm (A ++ B)
  | [], ρ, ρ', A, B, [], vs, h, s, o, e => by
    unfold putE at e
    cases e
    unfold OwnL at o
    rw [o.2, List.append_nil]
    exact ⟨A, h, .refl _⟩
  | i :: is, ρ, ρ', A, B, d :: ds, vs, h, s, o, e => by
    unfold putE at e
    split at e
    · rename_i e1
      unfold OwnL at o
      obtain ⟨v, r, B1, B2, hv, hB, o1, o2⟩ := o
      subst hv hB
      unfold SlotsV at s
      have si : i < ρ.length := (List.getElem?_eq_some_iff.mp e1).1
      have h' : OwnE K F H (ρ.set i none) σ A := by
        have : ρ.set i none = ρ := by
          refine List.ext_getElem? fun j => ?_
          rw [List.getElem?_set]
          split
          · rename_i ej
            subst ej
            first
              | exact e1.symm
              | (rw [if_pos si]; exact e1.symm)
          · rfl
        rw [this]; exact h
      obtain ⟨A1, o3, pm⟩ := OwnE.upd (G := H) (d := d) h' si s.1 o1
      obtain ⟨A2, o4, pm2⟩ := putE_ok o3 s.2 o2 e
      refine ⟨A2, o4, pm2.trans ?_⟩
      rw [← List.append_assoc]
      exact List.Perm.append_right B2 pm
    · cases e
  | [], _, _, _, _, _ :: _, _, _, _, _, e => by unfold putE at e; cases e
  | _ :: _, _, _, _, _, [], _, _, _, _, e => by unfold putE at e; cases e
/-- the pattern of a call's arguments -/
def avM : List AV → List Bool
  | [] => []
  | .m _ :: r => true :: avM r
  | .v _ :: r => false :: avM r
  | .b _ :: r => false :: avM r
theorem args_ok {K : PySem.W.Frag} {G : Hp} (e1 : Same F G) : ∀ {as : List AV} {vs mvs bvs : List V} {mds bds ds : List D} {B Bm : List Addr}, (∀ b ∈ B, ∀ o, H b = some o → G b = some o) → AVR K σ F H vs as B →
    SlotsV σ (mutIx as) mvs → OwnL K G H mvs mds Bm → SlotsV σ (borIx as) bvs → RepL K G bvs bds → argsD as mds bds = some ds → OwnM K G H (avM as) vs ds Bm ∧ mutOf (avM as) vs = mvs
  | [], [], mvs, bvs, mds, bds, ds, B, Bm, k, h, s1, o1, s2, o2, e => by
    cases mds with
    | cons _ _ => cases bds <;> (unfold argsD at e; cases e)
    | nil =>
      cases bds with
      | cons _ _ => unfold argsD at e; cases e
      | nil =>
        unfold argsD at e
        cases e
        unfold OwnL at o1
        rw [o1.1, o1.2]
        exact ⟨by unfold avM OwnM; rfl, by unfold avM mutOf; rfl⟩
  | .v d :: as, v :: vs, mvs, bvs, mds, bds, ds, B, Bm, k, h, s1, o1, s2, o2, e => by
    unfold AVR at h
    obtain ⟨B1, B2, hB, o, r⟩ := h
    subst hB
    unfold argsD at e
    rw [Option.map_eq_some_iff] at e
    obtain ⟨ds', e, rfl⟩ := e
    obtain ⟨q1, q2⟩ := args_ok e1 (fun b hb => k b (List.mem_append_right _ hb)) r s1 o1 s2 o2 e
    refine ⟨?_, by unfold avM mutOf; exact q2⟩
    unfold avM OwnM
    exact ⟨Own.frz e1 d v B1 (fun b hb => k b (List.mem_append_left _ hb)) o, q1⟩
  | .b i :: as, v :: vs, mvs, bvs, mds, bds, ds, B, Bm, k, h, s1, o1, s2, o2, e => by
    unfold AVR at h
    cases bds with
    | nil => unfold argsD at e; cases e
    | cons b bds =>
      unfold argsD at e
      rw [Option.map_eq_some_iff] at e
      obtain ⟨ds', e, rfl⟩ := e
      unfold RepL at o2
      obtain ⟨w, r, hw, o3, o4⟩ := o2
      subst hw
      unfold borIx SlotsV at s2
      obtain ⟨q1, q2⟩ := args_ok e1 k h.2 s1 o1 s2.2 o4 e
      have : v = w := by
        have z := h.1.symm.trans s2.1
        simpa using z
      subst this
      refine ⟨?_, by unfold avM mutOf; exact q2⟩
      unfold avM OwnM
      exact ⟨o3, q1⟩
  | .m i :: as, v :: vs, mvs, bvs, mds, bds, ds, B, Bm, k, h, s1, o1, s2, o2, e => by
    unfold AVR at h
    cases mds with
    | nil => cases bds <;> (unfold argsD at e; cases e)
    | cons m mds =>
      unfold argsD at e
      rw [Option.map_eq_some_iff] at e
      obtain ⟨ds', e, rfl⟩ := e
      unfold OwnL at o1
      obtain ⟨w, r, Bm1, Bm2, hw, hBm, o3, o4⟩ := o1
      subst hw hBm
      unfold mutIx SlotsV at s1
      obtain ⟨q1, q2⟩ := args_ok e1 k h.2 s1.2 o4 s2 o2 e
      have : v = w := by
        have z := h.1.symm.trans s1.1
        simpa using z
      subst this
      refine ⟨?_, by unfold avM mutOf; rw [q2]⟩
      unfold avM OwnM
      exact ⟨Bm1, Bm2, rfl, o3, q1⟩
  | [], _ :: _, _, _, _, _, _, _, _, _, h, _, _, _, _, _ => h.elim
  | _ :: _, [], _, _, _, _, _, _, _, _, h, _, _, _, _, _ => by cases ‹AV› <;> exact h.elim
end
end DS

set_option Elab.async false
set_option linter.all false
set_option maxRecDepth 100000
/-! DS12: the call itself. -/
namespace DS
open PySem PySem.Spec PyProof.Rows L2
section
variable {C : Cst} {X : Cx} {W : WX} {lv : Nat} {sc : Scope} {σ : DSt} {ρ ρ1 : Env} {ka kb kc kp : Bool} {ea eb ec : Expr} {es : List Expr} {F F' H F1 H1 F2 H2 : Hp} {A A1 A2 B1 : List Addr} {v : V} {d : D} {vs : List V} {ds : List D}

theorem OwnL.atoms {K : PySem.W.Frag} : ∀ {ds : List D} {vs : List V} {B : List Addr}, ds.all atom = true → OwnL K F H vs ds B → OwnL K F' H vs ds B
  | [], vs, B, _, h => by unfold OwnL at h ⊢; exact h
  | d :: ds, vs, B, a, h => by
    unfold OwnL at h ⊢
    rw [List.all_cons, Bool.and_eq_true] at a
    obtain ⟨v, r, B1, B2, hv, hB, h1, h2⟩ := h
    exact ⟨v, r, B1, B2, hv, hB, h1.atom_any a.1, OwnL.atoms a.2 h2⟩
theorem Own.selfc_any {K : PySem.W.Frag} {B : List Addr} (s : selfc d = true) (h : Own K F H v d B) : Own K F' H v d B := by
  cases d with
  | lst o ds =>
    cases o with
    | false => exact nomatch s
    | true =>
      unfold Own at h ⊢
      obtain ⟨a, vs, B', e, eB, ha, r⟩ := h
      exact ⟨a, vs, B', e, eB, ha, OwnL.atoms s r⟩
  | dct o ks ds =>
    cases o with
    | false => exact nomatch s
    | true =>
      unfold Own at h ⊢
      obtain ⟨a, vs, B', e, eB, ha, hl, r⟩ := h
      exact ⟨a, vs, B', e, eB, ha, hl, OwnL.atoms s r⟩
  | tup => exact nomatch s
  | ins => exact nomatch s
  | _ => exact h
theorem OwnL.selfc_any {K : PySem.W.Frag} : ∀ {ds : List D} {vs : List V} {B : List Addr}, ds.all selfc = true → OwnL K F H vs ds B → OwnL K F' H vs ds B
  | [], vs, B, _, h => by unfold OwnL at h ⊢; exact h
  | d :: ds, vs, B, a, h => by
    unfold OwnL at h ⊢
    rw [List.all_cons, Bool.and_eq_true] at a
    obtain ⟨v, r, B1, B2, hv, hB, h1, h2⟩ := h
    exact ⟨v, r, B1, B2, hv, hB, h1.selfc_any a.1, OwnL.selfc_any a.2 h2⟩
theorem takeL_nil {ρ : Env} {mds : List D} {ρ' : Env} (h : takeL [] ρ = some (mds, ρ')) : mds = [] := by unfold takeL at h; cases h; rfl
theorem atom_fp {K : PySem.W.Frag} {B : List Addr} (a : atom d = true) (h : Own K F H v d B) : B = [] := by
  cases d with
  | lst => exact nomatch a
  | tup => exact nomatch a
  | dct => exact nomatch a
  | ins => exact nomatch a
  | _ => exact h.1
theorem nd_of_perm {A B D' : List Addr} (p : A.Perm (B ++ D')) (h : A.Nodup) : (B ++ D').Nodup := p.nodup_iff.mp h

theorem spD_of {ms : List Bool} {sem : List D → Res} {as : List AV} {Q : VK} (hm : avM as = ms) (S1 : SR C.K σ ρ1 F1 H1 A1) (r : AVR C.K σ F1 H1 vs as B1) (E1 : Ext kp F H A F1 H1 (A1 ++ B1)) (n1 : (A1 ++ B1).Nodup) (f1 : ∀ b ∈ B1, F1 b = none)
    (hk : kp = true → mutIx as = []) (p : EPost C W σ kp F H A (callD sem as ρ1) Q) : spD C ms sem vs H1 Q (WE W σ) := by
  unfold callD at p
  split at p
  · rename_i mds ρm h1
    split at p
    · rename_i bds ρf h2
      split at p
      · rename_i ds h3
        obtain ⟨mvs, Ar, Bm, sM, oM, oR, pm⟩ := takeL_ok S1.own h1
        have ndA := nd_of_perm pm S1.nd
        have ndA' := List.nodup_append.mp ndA
        have inA : ∀ b, b ∈ A1 ↔ b ∈ Ar ++ Bm := fun b => pm.mem_iff
        have rA : ∀ b ∈ Ar, b ∈ A1 := fun b hb => (inA b).mpr (List.mem_append_left _ hb)
        have mA : ∀ b ∈ Bm, b ∈ A1 := fun b hb => (inA b).mpr (List.mem_append_right _ hb)
        have Sm : SR C.K σ ρm F1 H1 Ar := ⟨S1.same, ndA'.1, fun a ha => S1.free a (rA a ha), oR⟩
        obtain ⟨bvs, Ff, Af, sB, rB, Sf, Ef⟩ := frzLs_ok Sm h2
        have domM : ∀ b ∈ Bm, H1 b ≠ none := OwnL.dom _ _ _ oM
        have dom1 : ∀ b ∈ B1, H1 b ≠ none := AVR.dom r
        obtain ⟨m1, m2, m3⟩ := held ndA (fun b hb => S1.free b (mA b hb)) domM Ef
        have n1' := List.nodup_append.mp n1
        have b1A : ∀ b ∈ B1, b ∉ A1 := fun b hb ha => n1'.2.2 b ha b hb rfl
        have nd1 : (Ar ++ B1).Nodup := List.nodup_append.mpr ⟨ndA'.1, n1'.2.1, fun a ha b hb e => b1A b hb (rA b (e ▸ ha))⟩
        obtain ⟨b1, b2, b3⟩ := held nd1 f1 dom1 Ef
        have bm : ∀ b ∈ Bm, b ∉ B1 := fun b hb h => b1A b h (mA b hb)
        have sFc : Same Ff (fzAt Ff H1 B1) := fzAt_same b2
        have sF1c : Same F1 (fzAt Ff H1 B1) := Ef.fs.trans sFc
        have sFcH : Same (fzAt Ff H1 B1) H1 := fzAt_sub Sf.same
        obtain ⟨q1, q2⟩ := args_ok (G := fzAt Ff H1 B1) sF1c (fun b hb o ho => by rw [fzAt_in hb]; exact ho) r sM (OwnL.mono sF1c _ _ _ (fun _ _ _ ho => ho) oM) sB (RepL.same sFc _ _ rB) h3
        have Sc : SR C.K σ ρf (fzAt Ff H1 B1) H1 Af := Sf.mono sFc (fun _ _ _ h => h) sFcH fun b hb => by
          rw [fzAt_out (fun z => b1 b z hb)]; exact Sf.free b hb
        have freeM : ∀ b ∈ Bm, fzAt Ff H1 B1 b = none := fun b hb => by rw [fzAt_out (bm b hb)]; exact m2 b hb
        have kM : kp = true → Bm = [] := fun z => by
          rw [hk z] at h1
          have e := takeL_nil h1
          subst e
          unfold OwnL at oM
          exact oM.2
        -- the way from before the call to behind it
        have way : ∀ (F' H' : Hp) (A2 L : List Addr), Ext false (fzAt Ff H1 B1) H1 Bm F' H' L → (∀ b ∈ A2, b ∈ Af ∨ b ∈ L) → Ext kp F1 H1 (A1 ++ B1) F' H' A2 := fun F' H' A2 L Ec hA => by
          refine ⟨sF1c.trans Ec.fs, fun b o ho k => Ec.fr b o ho (.inr fun z => ?_), fun b hb => ?_, fun b hb => ?_⟩
          · rcases k with k | k
            · rw [kM k] at z; exact nomatch z
            · exact k (List.mem_append_left _ (mA b z))
          · rcases Ec.nf b hb with z | z | z
            · by_cases y : b ∈ B1
              · exact .inr (.inl (List.mem_append_right _ y))
              · rw [fzAt_out y] at z
                rcases Ef.nf b z with w | w | w
                · exact .inl w
                · exact .inr (.inl (List.mem_append_left _ (rA b w)))
                · exact .inr (.inr w)
            · exact .inr (.inl (List.mem_append_left _ (mA b z)))
            · exact .inr (.inr z)
          · rcases hA b hb with z | z
            · rcases Ef.na b z with w | w
              · exact .inl (List.mem_append_left _ (rA b w))
              · exact .inr w
            · rcases Ec.na b z with w | w
              · exact .inl (List.mem_append_left _ (mA b w))
              · exact .inr w
        have up : ∀ {F' H' : Hp} {A2 : List Addr}, Ext kp F1 H1 (A1 ++ B1) F' H' A2 → Ext kp F H A F' H' A2 := fun {F' H' A2} e => (E1.trans e).weak fun z => by rw [z]; rfl
        have apart : ∀ (F' H' : Hp) (L : List Addr), Ext false (fzAt Ff H1 B1) H1 Bm F' H' L → (∀ b ∈ Af, b ∉ L ∧ F' b = none ∧ ∀ o, H1 b = some o → H' b = some o) := fun F' H' L Ec => by
          have ndf : (Bm ++ Af).Nodup := List.nodup_append.mpr ⟨ndA'.2.1, Sf.nd, fun a ha b hb e => m1 a ha (e ▸ hb)⟩
          obtain ⟨x1, x2, x3⟩ := held ndf (fun b hb => Sc.free b hb) (fun b hb => Sf.dom b hb) Ec
          exact fun b hb => ⟨x1 b hb, x2 b hb, x3 b hb⟩
        subst hm
        refine ⟨ds, fzAt Ff H1 B1, Bm, sFcH, ndA'.2.1, freeM, q1, ?_⟩
        cases hr : sem ds with
        | stk => rw [hr] at p; exact p
        | exc x fs =>
          rw [hr] at p
          intro cls d F' H' Ec sc er
          have ap := apart F' H' [] Ec
          exact p cls d F' H' Af (Sf.mono (sFc.trans Ec.fs) (fun b hb o ho => (ap b hb).2.2 o ho) sc fun b hb => (ap b hb).2.1)
            ((up (way F' H' Af [] Ec fun b hb => .inl hb)).weak fun z => nomatch z) er
        | ok d ms' =>
          rw [hr] at p
          intro v F' H' A' B' Ec nc fc sc oms od
          unfold Res.out at p
          dsimp only at p
          rw [q2] at oms
          have ap := apart F' H' (A' ++ B') Ec
          have nc' := List.nodup_append.mp nc
          split at p
          · rename_i ρ' h4
            cases hs : (atom d && ms'.all selfc) with
            | true =>
              rw [hs] at h4
              rw [Bool.and_eq_true] at hs
              -- what was lent is its owner's again
              have k0 : ∀ b ∈ Ar, ∀ o, H1 b = some o → H' b = some o := fun b hb o ho => Ec.fr b o ho (.inr fun z => ndA'.2.2 b hb b z rfl)
              have oR' : OwnE C.K F1 H' ρm σ Ar := oR.mono (Same.refl F1) k0
              obtain ⟨A3, o3, pm3⟩ := putE_ok oR' sM (OwnL.selfc_any hs.2 oms) h4
              have nA3 : ∀ b ∈ Ar, b ∉ A' := fun b hb h => by
                rcases Ec.na b (List.mem_append_left _ h) with z | z
                · exact ndA'.2.2 b hb b z rfl
                · exact S1.dom b (rA b hb) z
              have nd3 : (Ar ++ A').Nodup := List.nodup_append.mpr ⟨ndA'.1, nc'.1, fun a ha b hb e => nA3 a ha (e ▸ hb)⟩
              have fr3 : ∀ b ∈ A3, F1 b = none := fun b hb => by
                rcases List.mem_append.mp (pm3.mem_iff.mp hb) with z | z
                · exact S1.free b (rA b z)
                · cases q : F1 b with
                  | none => rfl
                  | some o =>
                    have := (sF1c.trans Ec.fs) b o q
                    rw [fc b (List.mem_append_left _ z)] at this; cases this
              refine p v F1 H' A3 [] ⟨(sF1c.trans Ec.fs).trans sc, pm3.nodup_iff.mpr nd3, fr3, o3⟩ ?_ ?_ (by rw [List.append_nil]; exact pm3.nodup_iff.mpr nd3) fun b hb => nomatch hb
              · have := atom_fp hs.1 od
                subst this
                exact od.atom_any hs.1
              · rw [List.append_nil]
                refine up ⟨Same.refl F1, fun b o ho k => Ec.fr b o ho (.inr fun z => ?_), fun b hb => .inl hb, fun b hb => ?_⟩
                · rcases k with k | k
                  · rw [kM k] at z; exact nomatch z
                  · exact k (List.mem_append_left _ (mA b z))
                · rcases List.mem_append.mp (pm3.mem_iff.mp hb) with z | z
                  · exact .inl (List.mem_append_left _ (rA b z))
                  · rcases Ec.na b (List.mem_append_left _ z) with w | w
                    · exact .inl (List.mem_append_left _ (mA b w))
                    · exact .inr w
            | false =>
              rw [hs] at h4
              have oR' : OwnE C.K F' H' ρf σ Af := Sf.own.mono (sFc.trans Ec.fs) fun b hb o ho => (ap b hb).2.2 o ho
              obtain ⟨A3, o3, pm3⟩ := putE_ok oR' sM oms h4
              have nd3 : (Af ++ A').Nodup := List.nodup_append.mpr ⟨Sf.nd, nc'.1, fun a ha b hb e => (ap a ha).1 (by rw [e]; exact List.mem_append_left _ hb)⟩
              have nd3' := pm3.nodup_iff.mpr nd3
              refine p v F' H' A3 B' ⟨sc, nd3', fun b hb => ?_, o3⟩ od ?_ ?_ fun b hb => fc b (List.mem_append_right _ hb)
              · rcases List.mem_append.mp (pm3.mem_iff.mp hb) with z | z
                · exact (ap b z).2.1
                · exact fc b (List.mem_append_left _ z)
              · refine up (way F' H' (A3 ++ B') (A' ++ B') Ec fun b hb => ?_)
                rcases List.mem_append.mp hb with z | z
                · rcases List.mem_append.mp (pm3.mem_iff.mp z) with w | w
                  · exact .inl w
                  · exact .inr (List.mem_append_left _ w)
                · exact .inr (List.mem_append_right _ z)
              · refine List.nodup_append.mpr ⟨nd3', nc'.2.1, fun a ha b hb e => ?_⟩
                rcases List.mem_append.mp (pm3.mem_iff.mp ha) with w | w
                · exact (ap a w).1 (by rw [e]; exact List.mem_append_right _ hb)
                · exact nc'.2.2 a w b hb e
          · exact p.elim
      · exact p.elim
    · exact p.elim
  · exact p.elim
theorem de_call {f : Nat} {x : Str} {q pos : Pos} {ms : List Bool} {g : Env → Out (List AV)} (O : XOK C lv sc X) (tk : Takes X W) (hf : C.nm.fn[f]? = some (x, ms)) (hx : glB sc x = true) (hp : plainN x = true) (hs : (ea :: es).all noStar = true)
    (hpat : ∀ ρ as ρ', g ρ = .ok as ρ' → avM as = ms) (hk : ka = true → ∀ ρ as ρ', g ρ = .ok as ρ' → mutIx as = []) (ht : DCs C X W ka (ea :: es) g) :
    DE C X W ka (.Call (.Name x q) (ea :: es) [] pos) (fun ρ => (g ρ).bind fun vs ρ1 => callD (C.sg.fn f) vs ρ1) := by
  intro σ ρ F H A Q S p
  obtain ⟨e1, e2, e3, e4⟩ := O.fns f x ms hf
  obtain ⟨n1, _, _⟩ := plainN_ok hp
  have hs' := hs
  rw [List.all_cons, Bool.and_eq_true] at hs
  refine wp_of (pe_callS e4 O.room (gl_of O hx) e1 e2 e3 (fun σ => passAt tk σ) pa_wp n1 (starEach_ns hs.1) (starAny_ns hs.2)) ?_
  refine ht σ ρ F H A _ S ?_
  cases h1 : g ρ with
  | stk => simp only [h1] at p; exact p
  | exc x fs ρ1 => simp only [h1] at p; exact p
  | ok as ρ1 =>
    simp only [h1, Out.bind_ok] at p
    intro vs F1 H1 A1 B1 S1 r E1 nn ff
    exact spD_of (hpat ρ as ρ1 h1) S1 r E1 nn ff (fun z => hk z ρ as ρ1 h1) p
end
end DS

set_option Elab.async false
set_option linter.all false
set_option maxRecDepth 100000
/-! DS13: slices, conditions, methods of lists. -/
namespace DS
open PySem PySem.Spec PyProof.Rows L2

def WpO (X : Cx) (e : Option Expr) : TO := fun σ H Q => ∀ (pins : List (Addr × Obj)) (s : Shared), Inv X pins σ H s →
  wpAny (model X.prog X.w) X.A (evalPart e X.env) (fun u s' => ∃ o H', Inv X pins σ H' s' ∧ IsPart u o ∧ Q o H') X.xe s
theorem po_wp {X : Cx} {e : Option Expr} : PO X e (WpO X e) := ⟨fun pins s σ H Q I h => h pins s I⟩
theorem wpO_of {X : Cx} {e : Option Expr} {t : TO} (h : PO X e t) {σ H Q} (q : t σ H Q) : WpO X e σ H Q := fun pins s I => h.run pins s σ H Q I q

section
variable {C : Cst} {X : Cx} {W : WX} {lv : Nat} {sc : Scope} {σ : DSt} {ρ ρ1 : Env} {ka kb kc kp : Bool} {ea eb ec : Expr} {es : List Expr} {F F' H F1 H1 F2 H2 : Hp} {A A1 A2 B1 : List Addr} {v : V} {d : D} {vs : List V} {ds : List D}

def OPost (C : Cst) (W : WX) (σ : DSt) (kp : Bool) (F H : Hp) (A : List Addr) (o : Out (Option Int)) (Q : Option Int → Hp → Prop) : Prop := match o with
  | .ok i ρ' => ∀ F' H' A', SR C.K σ ρ' F' H' A' → Ext kp F H A F' H' A' → Q i H'
  | .exc x fs ρ' => ∀ cls d F' H' A', SR C.K σ ρ' F' H' A' → Ext false F H A F' H' A' → ExR C cls d F' H' x fs → W cls d σ H'
  | .stk => False
def DO (C : Cst) (X : Cx) (W : WX) (kp : Bool) (e : Option Expr) (f : Env → Out (Option Int)) : Prop := ∀ σ ρ F H A Q, SR C.K σ ρ F H A → OPost C W σ kp F H A (f ρ) Q → WpO X e σ H Q
theorem do_none : DO C X W true none (fun ρ => .ok none ρ) := fun σ ρ F H A Q S p => wpO_of po_none (p F H A S (Ext.refl _ _ _ _))
theorem do_some {f : Env → Out D} (ha : DA C X W ka ea f) : DO C X W ka (some ea) (fun ρ => (f ρ).bind fun x ρ1 => match x with | .int i => .ok (some i) ρ1 | _ => .stk) := by
  intro σ ρ F H A Q S p
  refine wpO_of (po_some pe_wp) ?_
  refine ha σ ρ F H A _ S ?_
  cases h1 : f ρ with
  | stk => simp only [h1] at p; exact p
  | exc x fs ρ1 => simp only [h1] at p; exact p
  | ok x ρ1 =>
    simp only [h1, Out.bind_ok] at p
    intro v F1 H1 A1 B1 S1 O1 E1
    cases x with
    | int i =>
      obtain ⟨rfl, _⟩ := O1.intE
      exact ⟨i, rfl, p F1 H1 A1 S1 E1⟩
    | _ => exact p.elim
theorem de_slc {lo hi : Option Expr} {p2 pos : Pos} {f : Env → Out D} {g h : Env → Out (Option Int)} (O : XOK C lv sc X) (ha : DA C X W ka ea f) (hl : DO C X W kb lo g) (hh : DO C X W kc hi h) :
    DE C X W (ka && kb && kc) (.Subscript ea (.Slice lo hi none p2) pos) (fun ρ => (f ρ).bind fun x ρ1 => (g ρ1).bind fun y ρ2 => (h ρ2).bind fun z ρ3 => if (kb && kc) || atom x then Out.lift (slcD x y z) ρ3 else .stk) := by
  intro σ ρ F H A Q S p
  refine wp_of (pe_slice sl_any pe_wp po_wp po_wp) ?_
  refine ha σ ρ F H A _ S ?_
  cases h1 : f ρ with
  | stk => simp only [h1] at p; exact p
  | exc x fs ρ1 => simp only [h1] at p; exact p
  | ok x ρ1 =>
    simp only [h1, Out.bind_ok] at p
    intro v F1 H1 A1 B1 S1 O1 E1
    refine hl σ ρ1 F1 H1 A1 _ S1 ?_
    cases h2 : g ρ1 with
    | stk => rw [h2] at p; exact p
    | exc z fs ρ2 =>
      rw [h2] at p
      exact fun cls d F' H' A' S' E' r => p cls d F' H' A' S' ((E1.trans E').weak fun z => nomatch z) r
    | ok y ρ2 =>
      rw [h2] at p
      simp only [Out.bind_ok] at p
      intro F2 H2 A2 S2 E2
      refine hh σ ρ2 F2 H2 A2 _ S2 ?_
      cases h3 : h ρ2 with
      | stk => rw [h3] at p; exact p
      | exc z fs ρ3 =>
        rw [h3] at p
        exact fun cls d F' H' A' S' E' r => p cls d F' H' A' S' (((E1.trans E2).trans E').weak fun z => nomatch z) r
      | ok z ρ3 =>
        rw [h3] at p
        simp only [Out.bind_ok] at p
        intro F3 H3 A3 S3 E3
        split at p
        · rename_i hk
          have E4 := E2.trans E3
          have k : (kb && kc) = true ∨ atom x = true := by simpa using hk
          have p' : EPost C W σ true F3 H3 A3 (Out.lift (slcD x y z) ρ3) Q := EPost.step ((E1.trans E2).trans E3) (by rw [Bool.and_true]; exact p)
          obtain ⟨d, e, q⟩ := lift_elim S3 p'
          exact slc_prim S3 O.K (O1.later E4 k) e q
        · exact p.elim
theorem DE.test {f : Env → Out D} (h : DE C X W ka ea f) {F H : Hp} {A : List Addr} {Q : Bool → Hp → Prop} (S : SR C.K σ ρ F H A) (p : BPost C W σ ka F H A ((f ρ).bind fun d ρ1 => Out.lift (blD d) ρ1) Q) :
    Wp X ea σ H fun x H1 => ∃ c, x = .bl c ∧ Q c H1 := by
  refine h.da σ ρ F H A _ S ?_
  cases h1 : f ρ with
  | stk => simp only [h1] at p; exact p
  | exc x fs ρ1 => simp only [h1] at p; exact p
  | ok x ρ1 =>
    simp only [h1, Out.bind_ok] at p
    intro v F1 H1 A1 B1 S1 O1 E1
    cases x with
    | bl b =>
      obtain ⟨rfl, _⟩ := O1.blE
      exact ⟨b, rfl, p F1 H1 A1 S1 E1⟩
    | _ => exact p.elim
theorem isTr_ok (h : isTr ea = true) : ∀ whole, isTrue ea X.env whole = (do let v ← whole; standAt ea.pos; holding [v] (truthy v)) := by
  intro whole
  cases ea with
  | UnaryOp op x p =>
    cases op with
    | Not => exact nomatch h
    | _ => rfl
  | BoolOp => exact nomatch h
  | IfExp => exact nomatch h
  | Compare => exact nomatch h
  | _ => rfl
theorem dt_vl {f : Env → Out D} (h : DE C X W ka ea f) (ht : isTr ea = true) : DT C X W ka ea (fun ρ => (f ρ).bind fun d ρ1 => Out.lift (blD d) ρ1) :=
  fun σ ρ F H A Q S p => wpT_of (pt_val pe_wp (isTr_ok ht)) (h.test S p)
theorem dt_tr {f : Env → Out D} (O : XOK C lv sc X) (h : DA C X W ka ea f) (ht : isTr ea = true) : DT C X W ka ea (fun ρ => (f ρ).bind fun d ρ1 => Out.lift (truD d) ρ1) := by
  intro σ ρ F H A Q S p
  refine wpT_of (pt_truth pe_wp (isTr_ok ht)) ?_
  refine h σ ρ F H A _ S ?_
  cases h1 : f ρ with
  | stk => simp only [h1] at p; exact p
  | exc x fs ρ1 => simp only [h1] at p; exact p
  | ok x ρ1 =>
    simp only [h1, Out.bind_ok] at p
    intro v F1 H1 A1 B1 S1 O1 E1
    cases x with
    | non => obtain ⟨rfl, _⟩ := O1.nonE; exact ⟨_, rfl, p F1 H1 A1 S1 E1⟩
    | bl b => obtain ⟨rfl, _⟩ := O1.blE; exact ⟨_, rfl, p F1 H1 A1 S1 E1⟩
    | int i => obtain ⟨rfl, _⟩ := O1.intE; exact ⟨_, rfl, p F1 H1 A1 S1 E1⟩
    | str z =>
      obtain ⟨rfl, _⟩ := O1.strE
      simp only [truD] at p
      split at p
      · rename_i hz
        refine ⟨_, ⟨hz, rfl⟩, ?_⟩
        have e : ((z.length : Int) != 0) = (z.length != 0) := by
          rw [Bool.eq_iff_iff]; simp
        rw [e]
        exact p F1 H1 A1 S1 E1
      · exact p.elim
    | lst o ds =>
      obtain ⟨a, vs, rfl, ha, _, l⟩ := O1.lstE S1.same
      refine ⟨_, .inl ⟨vs, O.K ▸ ha, rfl⟩, ?_⟩
      have e : vs.isEmpty = ds.isEmpty := by
        cases vs <;> cases ds <;> first | rfl | exact nomatch l
      rw [e]
      exact p F1 H1 A1 S1 E1
    | tup o ds =>
      obtain ⟨a, vs, rfl, ha, _, l⟩ := O1.tupE S1.same
      refine ⟨_, .inr (.inl ⟨vs, O.K ▸ ha, rfl⟩), ?_⟩
      have e : vs.isEmpty = ds.isEmpty := by
        cases vs <;> cases ds <;> first | rfl | exact nomatch l
      rw [e]
      exact p F1 H1 A1 S1 E1
    | _ => exact p.elim
theorem bl_post {o' : Out D} {Q : Bool → Hp → Prop} (p : BPost C W σ kp F H A (o'.bind fun d ρ1 => Out.lift (blD d) ρ1) Q) : EPost C W σ kp F H A o' (fun v H' => ∃ c, v = .bl c ∧ Q c H') := by
  cases o' with
  | stk => exact p
  | exc x fs ρ' => exact p
  | ok d ρ' =>
    intro v F' H' A' B S' O' x n f
    cases d with
    | bl b =>
      obtain ⟨rfl, _⟩ := O'.blE
      exact ⟨b, rfl, p F' H' A' S' (x.sub fun b hb => .inl (List.mem_append_left _ hb))⟩
    | _ => exact p.elim
/-- a comparison as a test -/
theorem dt_cmp {o : COp} {op : CmpOp} {pos : Pos} {fa fb : Env → Out D} (O : XOK C lv sc X) (ho : copOk o op = true) (hm : behindInMarks op eb = false) (ha : DA C X W ka ea fa) (hb : DA C X W kb eb fb) :
    DT C X W (ka && kb) (.Compare ea [op] [eb] pos) (fun ρ => ((fa ρ).bind fun x ρ1 => (fb ρ1).bind fun y ρ2 => if kb || atom x then Out.lift ((cmpD o x y).map .bl) ρ2 else .stk).bind fun d ρ1 => Out.lift (blD d) ρ1) := by
  intro σ ρ F H A Q S p
  refine wpT_of (pt_cmpR op_any pe_wp pe_wp hm) ?_
  have E := bl_post p
  exact two (kg := true) ha hb S (by rw [Bool.and_true]; exact E) fun x y ρ2 v1 v2 F2 H2 A2 B1 B2 S2 o1 o2 q => by
    obtain ⟨d, e, q⟩ := lift_elim S2 q
    rw [Option.map_eq_some_iff] at e
    obtain ⟨b, e, rfl⟩ := e
    exact cmp_prim ho S2 O.K O.units o1 o2 e (q.atom S2 ⟨rfl, rfl⟩)
/-- chains -/
theorem chain_rd {o1 o2 : COp} {p1 p2 : CmpOp} {fa fb fc : Env → Out D} {Q : VK} (O : XOK C lv sc X) (h1 : copOk o1 p1 = true) (h2 : copOk o2 p2 = true) (ha : DA C X W ka ea fa) (hb : DA C X W kb eb fb) (hc : DA C X W kc ec fc)
    (S : SR C.K σ ρ F H A) (p : EPost C W σ (ka && kb && kc) F H A ((fa ρ).bind fun x ρ1 => (fb ρ1).bind fun y ρ2 => if kb || atom x then match cmpD o1 x y with
      | some true => (fc ρ2).bind fun z ρ3 => if kc || atom y then Out.lift ((cmpD o2 y z).map .bl) ρ3 else .stk
      | some false => .ok (.bl false) ρ2
      | none => .stk
    else .stk) Q) : tChain (anyOp X (compareOp p1)) (anyOp X (compareOp p2)) (Wp X ea) (Wp X eb) (Wp X ec) σ H Q := by
  unfold tChain
  refine two (kg := kc) (G := fun x y ρ2 => match cmpD o1 x y with
      | some true => (fc ρ2).bind fun z ρ3 => if kc || atom y then Out.lift ((cmpD o2 y z).map .bl) ρ3 else .stk
      | some false => .ok (.bl false) ρ2
      | none => .stk) ha hb S p fun x y ρ2 v1 v2 F2 H2 A2 B1 B2 S2 q1 q2 q => ?_
  cases e : cmpD o1 x y with
  | none => rw [e] at q; exact q.elim
  | some b =>
    rw [e] at q
    refine cmp_prim h1 S2 O.K O.units q1 q2 e ⟨b, rfl, ?_⟩
    cases b with
    | false =>
      rw [if_neg Bool.false_ne_true]
      exact (Fresh.of S2 q).atom S2 ⟨rfl, rfl⟩
    | true =>
      rw [if_pos rfl]
      dsimp only at q
      refine hc σ ρ2 F2 H2 A2 _ S2 ?_
      cases h3 : fc ρ2 with
      | stk => rw [h3] at q; exact q
      | exc z fs ρ3 => rw [h3] at q; exact q
      | ok z ρ3 =>
        rw [h3] at q
        simp only [Out.bind_ok] at q
        intro v3 F3 H3 A3 B3 S3 O3 E3
        split at q
        · rename_i hk
          have q' : EPost C W σ true F3 H3 A3 (Out.lift ((cmpD o2 y z).map .bl) ρ3) Q := EPost.step E3 (by rw [Bool.and_true]; exact q)
          obtain ⟨d, e', q''⟩ := lift_elim S3 q'
          rw [Option.map_eq_some_iff] at e'
          obtain ⟨b', e', rfl⟩ := e'
          exact cmp_prim h2 S3 O.K O.units (q2.later E3 (by simpa using hk)) O3 e' (q''.atom S3 ⟨rfl, rfl⟩)
        · exact q.elim
theorem lastMarks_ok {p1 p2 : CmpOp} (hc : behindInMarks p2 ec = false) : lastMarks [p1, p2] [eb, ec] = false := hc
theorem de_chn {o1 o2 : COp} {p1 p2 : CmpOp} {pos : Pos} {fa fb fc : Env → Out D} (O : XOK C lv sc X) (h1 : copOk o1 p1 = true) (h2 : copOk o2 p2 = true) (hm : behindInMarks p2 ec = false) (ha : DA C X W ka ea fa) (hb : DA C X W kb eb fb) (hc : DA C X W kc ec fc) :
    DE C X W (ka && kb && kc) (.Compare ea [p1, p2] [eb, ec] pos) (fun ρ => (fa ρ).bind fun x ρ1 => (fb ρ1).bind fun y ρ2 => if kb || atom x then match cmpD o1 x y with
      | some true => (fc ρ2).bind fun z ρ3 => if kc || atom y then Out.lift ((cmpD o2 y z).map .bl) ρ3 else .stk
      | some false => .ok (.bl false) ρ2
      | none => .stk
    else .stk) := fun σ ρ F H A Q S p => wp_of (pe_chain op_any op_any pe_wp pe_wp pe_wp (lastMarks_ok hm)) (chain_rd O h1 h2 ha hb hc S p)
theorem dt_chn {o1 o2 : COp} {p1 p2 : CmpOp} {pos : Pos} {fa fb fc : Env → Out D} (O : XOK C lv sc X) (h1 : copOk o1 p1 = true) (h2 : copOk o2 p2 = true) (hm : behindInMarks p2 ec = false) (ha : DA C X W ka ea fa) (hb : DA C X W kb eb fb) (hc : DA C X W kc ec fc) :
    DT C X W (ka && kb && kc) (.Compare ea [p1, p2] [eb, ec] pos) (fun ρ => ((fa ρ).bind fun x ρ1 => (fb ρ1).bind fun y ρ2 => if kb || atom x then match cmpD o1 x y with
      | some true => (fc ρ2).bind fun z ρ3 => if kc || atom y then Out.lift ((cmpD o2 y z).map .bl) ρ3 else .stk
      | some false => .ok (.bl false) ρ2
      | none => .stk
    else .stk).bind fun d ρ1 => Out.lift (blD d) ρ1) := by
  intro σ ρ F H A Q S p
  refine wpT_of (pt_chain op_any op_any pe_wp pe_wp pe_wp (lastMarks_ok hm)) ?_
  exact chain_rd (Q := fun v H' => ∃ c, v = .bl c ∧ Q c H') O h1 h2 ha hb hc S (bl_post p)

/-! ### and, or, not -/
theorem BPost.step {o : Out Bool} {Q : Bool → Hp → Prop} {kq : Bool} (e : Ext kp F H A F1 H1 A1) (h : kq = true → True) (kk : kc = true → (kp && kq) = true) (p : BPost C W σ kc F H A o Q) : BPost C W σ kq F1 H1 A1 o Q := by
  cases o with
  | ok b ρ' => exact fun F' H' A' S x => p F' H' A' S ((e.trans x).weak kk)
  | exc x fs ρ' => exact fun cls d F' H' A' S x y => p cls d F' H' A' S ((e.trans x).weak (fun z => nomatch z)) y
  | stk => exact p
def DW (C : Cst) (X : Cx) (W : WX) (kp : Bool) (e : Expr) (f : Env → Out Bool) : Prop := ∀ σ ρ F H A Q, SR C.K σ ρ F H A → BPost C W σ kp F H A (f ρ) Q → WpW X e σ H Q
theorem DW.dt {f : Env → Out Bool} (h : DW C X W ka ea f) : DT C X W ka ea f := fun σ ρ F H A Q S p pins s I => h σ ρ F H A Q S p _ pins s I
theorem and_rd {fa fb : Env → Out Bool} {ta tb : TT} {Q : Bool → Hp → Prop} (S : SR C.K σ ρ F H A)
    (ha : ∀ Q, BPost C W σ ka F H A (fa ρ) Q → ta σ H Q) (hb : ∀ ρ1 F1 H1 A1 Q, SR C.K σ ρ1 F1 H1 A1 → BPost C W σ kb F1 H1 A1 (fb ρ1) Q → tb σ H1 Q)
    (p : BPost C W σ (ka && kb) F H A ((fa ρ).bind fun t ρ1 => if t then fb ρ1 else .ok false ρ1) Q) : tAnd ta tb σ H Q := by
  refine ha _ ?_
  cases h1 : fa ρ with
  | stk => rw [h1] at p; exact p
  | exc x fs ρ1 => rw [h1] at p; exact p
  | ok b ρ1 =>
    rw [h1] at p
    simp only [Out.bind_ok] at p
    intro F1 H1 A1 S1 E1
    cases b with
    | true =>
      rw [if_pos rfl] at p ⊢
      exact hb ρ1 F1 H1 A1 Q S1 (p.step E1 (fun _ => True.intro) fun z => z)
    | false =>
      rw [if_neg Bool.false_ne_true] at p ⊢
      exact p F1 H1 A1 S1 (E1.weak fun z => (Bool.and_eq_true_iff.mp z).1)
theorem or_rd {fa fb : Env → Out Bool} {ta tb : TT} {Q : Bool → Hp → Prop} (S : SR C.K σ ρ F H A)
    (ha : ∀ Q, BPost C W σ ka F H A (fa ρ) Q → ta σ H Q) (hb : ∀ ρ1 F1 H1 A1 Q, SR C.K σ ρ1 F1 H1 A1 → BPost C W σ kb F1 H1 A1 (fb ρ1) Q → tb σ H1 Q)
    (p : BPost C W σ (ka && kb) F H A ((fa ρ).bind fun t ρ1 => if t then .ok true ρ1 else fb ρ1) Q) : tOr ta tb σ H Q := by
  refine ha _ ?_
  cases h1 : fa ρ with
  | stk => rw [h1] at p; exact p
  | exc x fs ρ1 => rw [h1] at p; exact p
  | ok b ρ1 =>
    rw [h1] at p
    simp only [Out.bind_ok] at p
    intro F1 H1 A1 S1 E1
    cases b with
    | false =>
      rw [if_neg Bool.false_ne_true] at p ⊢
      exact hb ρ1 F1 H1 A1 Q S1 (p.step E1 (fun _ => True.intro) fun z => z)
    | true =>
      rw [if_pos rfl] at p ⊢
      exact p F1 H1 A1 S1 (E1.weak fun z => (Bool.and_eq_true_iff.mp z).1)
theorem dw_and {x y : Expr} {r : List Expr} {pos : Pos} {fa fb : Env → Out Bool} (ha : DT C X W ka x fa) (hb : DW C X W kb (.BoolOp .And (y :: r) pos) fb) :
    DW C X W (ka && kb) (.BoolOp .And (x :: y :: r) pos) (fun ρ => (fa ρ).bind fun t ρ1 => if t then fb ρ1 else .ok false ρ1) :=
  fun σ ρ F H A Q S p => wpW_of (pw_and pt_wp pw_wp) (and_rd S (fun Q q => ha σ ρ F H A Q S q) (fun ρ1 F1 H1 A1 Q S1 q => hb σ ρ1 F1 H1 A1 Q S1 q) p)
theorem dw_or {x y : Expr} {r : List Expr} {pos : Pos} {fa fb : Env → Out Bool} (ha : DT C X W ka x fa) (hb : DW C X W kb (.BoolOp .Or (y :: r) pos) fb) :
    DW C X W (ka && kb) (.BoolOp .Or (x :: y :: r) pos) (fun ρ => (fa ρ).bind fun t ρ1 => if t then .ok true ρ1 else fb ρ1) :=
  fun σ ρ F H A Q S p => wpW_of (pw_or pt_wp pw_wp) (or_rd S (fun Q q => ha σ ρ F H A Q S q) (fun ρ1 F1 H1 A1 Q S1 q => hb σ ρ1 F1 H1 A1 Q S1 q) p)
theorem dw_and1 {x : Expr} {pos : Pos} {fa : Env → Out Bool} (ha : DT C X W ka x fa) : DW C X W ka (.BoolOp .And [x] pos) fa := fun σ ρ F H A Q S p => wpW_of (pw_and1 pt_wp) (ha σ ρ F H A Q S p)
theorem dw_or1 {x : Expr} {pos : Pos} {fa : Env → Out Bool} (ha : DT C X W ka x fa) : DW C X W ka (.BoolOp .Or [x] pos) fa := fun σ ρ F H A Q S p => wpW_of (pw_or1 pt_wp) (ha σ ρ F H A Q S p)
theorem dt_not {pos : Pos} {fa : Env → Out Bool} (ha : DT C X W ka ea fa) : DT C X W ka (.UnaryOp .Not ea pos) (fun ρ => (fa ρ).bind fun t ρ1 => .ok (!t) ρ1) := by
  intro σ ρ F H A Q S p
  refine wpT_of (pt_not pt_wp) ?_
  refine ha σ ρ F H A _ S ?_
  cases h1 : fa ρ with
  | stk => simp only [h1] at p; exact p
  | exc x fs ρ1 => simp only [h1] at p; exact p
  | ok b ρ1 => simp only [h1, Out.bind_ok] at p; exact p

/-! ### .. as values -/
def DV (C : Cst) (X : Cx) (W : WX) (kp : Bool) (e : Expr) (f : Env → Out Bool) : Prop := ∀ σ ρ F H A Q, SR C.K σ ρ F H A → BPost C W σ kp F H A (f ρ) Q → Wp X e σ H fun x H1 => ∃ c, x = .bl c ∧ Q c H1
theorem dv_vl {f : Env → Out D} (h : DE C X W ka ea f) : DV C X W ka ea (fun ρ => (f ρ).bind fun d ρ1 => Out.lift (blD d) ρ1) := fun σ ρ F H A Q S p => h.test S p
theorem dv_one {x : Expr} {op : BoolOp} {pos : Pos} {f : Env → Out Bool} (h : DV C X W ka x f) : DV C X W ka (.BoolOp op [x] pos) f := fun σ ρ F H A Q S p => wp_of (pe_one pe_wp) (h σ ρ F H A Q S p)
theorem dv_and {x y : Expr} {r : List Expr} {pos : Pos} {fa fb : Env → Out Bool} (ha : DV C X W ka x fa) (hb : DV C X W kb (.BoolOp .And (y :: r) pos) fb) :
    DV C X W (ka && kb) (.BoolOp .And (x :: y :: r) pos) (fun ρ => (fa ρ).bind fun t ρ1 => if t then fb ρ1 else .ok false ρ1) := by
  intro σ ρ F H A Q S p
  refine wp_of (pe_and pe_wp pe_wp) ?_
  refine ha σ ρ F H A (fun c H1 => if c = true then Wp X (.BoolOp .And (y :: r) pos) σ H1 (fun x H1 => ∃ c, x = .bl c ∧ Q c H1) else ∃ c', V.bl false = .bl c' ∧ Q c' H1) S ?_
  cases h1 : fa ρ with
  | stk => simp only [h1] at p; exact p
  | exc x fs ρ1 => simp only [h1] at p; exact p
  | ok b ρ1 =>
    simp only [h1, Out.bind_ok] at p
    intro F1 H1 A1 S1 E1
    cases b with
    | true =>
      rw [if_pos rfl] at p ⊢
      exact hb σ ρ1 F1 H1 A1 Q S1 (p.step E1 (fun _ => True.intro) fun z => z)
    | false =>
      rw [if_neg Bool.false_ne_true] at p ⊢
      exact ⟨false, rfl, p F1 H1 A1 S1 (E1.weak fun z => (Bool.and_eq_true_iff.mp z).1)⟩
theorem dv_or {x y : Expr} {r : List Expr} {pos : Pos} {fa fb : Env → Out Bool} (ha : DV C X W ka x fa) (hb : DV C X W kb (.BoolOp .Or (y :: r) pos) fb) :
    DV C X W (ka && kb) (.BoolOp .Or (x :: y :: r) pos) (fun ρ => (fa ρ).bind fun t ρ1 => if t then .ok true ρ1 else fb ρ1) := by
  intro σ ρ F H A Q S p
  refine wp_of (pe_or pe_wp pe_wp) ?_
  refine ha σ ρ F H A (fun c H1 => if c = true then ∃ c', V.bl true = .bl c' ∧ Q c' H1 else Wp X (.BoolOp .Or (y :: r) pos) σ H1 (fun x H1 => ∃ c, x = .bl c ∧ Q c H1)) S ?_
  cases h1 : fa ρ with
  | stk => simp only [h1] at p; exact p
  | exc x fs ρ1 => simp only [h1] at p; exact p
  | ok b ρ1 =>
    simp only [h1, Out.bind_ok] at p
    intro F1 H1 A1 S1 E1
    cases b with
    | false =>
      rw [if_neg Bool.false_ne_true] at p ⊢
      exact hb σ ρ1 F1 H1 A1 Q S1 (p.step E1 (fun _ => True.intro) fun z => z)
    | true =>
      rw [if_pos rfl] at p ⊢
      exact ⟨true, rfl, p F1 H1 A1 S1 (E1.weak fun z => (Bool.and_eq_true_iff.mp z).1)⟩
theorem dv_not {pos : Pos} {fa : Env → Out Bool} (ha : DV C X W ka ea fa) : DV C X W ka (.UnaryOp .Not ea pos) (fun ρ => (fa ρ).bind fun t ρ1 => .ok (!t) ρ1) := by
  intro σ ρ F H A Q S p
  refine wp_of (pe_not pe_wp) ?_
  refine ha σ ρ F H A (fun c H1 => ∃ c', V.bl (!c) = .bl c' ∧ Q c' H1) S ?_
  cases h1 : fa ρ with
  | stk => simp only [h1] at p; exact p
  | exc x fs ρ1 => simp only [h1] at p; exact p
  | ok b ρ1 => simp only [h1, Out.bind_ok] at p; exact fun F' H' A' S' x => ⟨_, rfl, p F' H' A' S' x⟩
theorem de_tst {f : Env → Out Bool} (h : DV C X W ka ea f) : DE C X W ka ea (fun ρ => (f ρ).bind fun t ρ1 => .ok (.bl t) ρ1) := by
  intro σ ρ F H A Q S p pins s I
  have q := h σ ρ F H A (fun c H1 => Q (.bl c) H1) S (by
    cases h1 : f ρ with
    | stk => simp only [h1] at p; exact p
    | exc x fs ρ1 => simp only [h1] at p; exact p
    | ok b ρ1 =>
      simp only [h1, Out.bind_ok] at p
      exact fun F' H' A' S' x => p (.bl b) F' H' A' [] S' ⟨rfl, rfl⟩ (by rw [List.append_nil]; exact x) (by rw [List.append_nil]; exact S'.nd) fun _ hb => nomatch hb) pins s I
  exact thn q fun u s' ⟨v, H', I', r, c, e, q'⟩ => ⟨v, H', I', r, by rw [e]; exact q'⟩
theorem de_ite {pos : Pos} {f : Env → Out Bool} {fa fb : Env → Out D} (hc : DT C X W kc ec f) (ha : DE C X W ka ea fa) (hb : DE C X W kb eb fb) :
    DE C X W (kc && ka && kb) (.IfExp ec ea eb pos) (fun ρ => (f ρ).bind fun t ρ1 => if t then fa ρ1 else fb ρ1) := by
  intro σ ρ F H A Q S p
  refine wp_of (pe_ifExp pt_wp pe_wp pe_wp) ?_
  refine hc σ ρ F H A _ S ?_
  cases h1 : f ρ with
  | stk => simp only [h1] at p; exact p
  | exc x fs ρ1 => simp only [h1] at p; exact p
  | ok b ρ1 =>
    simp only [h1, Out.bind_ok] at p
    intro F1 H1 A1 S1 E1
    cases b with
    | true =>
      rw [if_pos rfl] at p ⊢
      exact ha σ ρ1 F1 H1 A1 Q S1 (EPost.step E1 (EPost.kp_le (fun z => (Bool.and_eq_true_iff.mp z).1) p))
    | false =>
      rw [if_neg Bool.false_ne_true] at p ⊢
      refine hb σ ρ1 F1 H1 A1 Q S1 (EPost.step E1 (EPost.kp_le (fun z => ?_) p))
      simp only [Bool.and_eq_true] at z ⊢
      exact ⟨z.1.1, z.2⟩
end
end DS

set_option Elab.async false
set_option linter.all false
set_option maxRecDepth 100000
/-! DS14: methods that change a list; walks; comprehensions. -/
namespace DS
open PySem PySem.Spec PyProof.Rows L2
section
variable {C : Cst} {X : Cx} {W : WX} {lv : Nat} {sc : Scope} {σ : DSt} {ρ ρ1 : Env} {ka kb kc kp : Bool} {ea eb ec : Expr} {es : List Expr} {F F' H F1 H1 F2 H2 : Hp} {A A1 A2 B1 : List Addr} {v : V} {d : D} {vs : List V} {ds : List D}

/-! ### a list in place -/
/-- the list at a slot, changed: the new items are the old ones' and frozen ones -/
theorem SR.change {i : Nat} {l : Addr} {vs' : List V} {ds' : List D} (S : SR C.K σ ρ F H A) (e : ρ[i]? = some (some (.lst true ds)))
    (hs : σ[i]? = some (some (.ref l)))
    (new : ∀ vs B, H l = some (.lst vs) → OwnL C.K F H vs ds B → ∃ B', OwnL C.K F H vs' ds' B' ∧ B'.Sublist B) :
    ∃ A', SR C.K σ (ρ.set i (some (.lst true ds'))) F (upd H l (.lst vs')) A' ∧ Ext false F H A F (upd H l (.lst vs')) A' := by
  obtain ⟨v, B, Ar, s1, o1, oR, pm⟩ := S.own.take e
  have ev : v = .ref l := by
    have z := s1.symm.trans hs
    exact Option.some.inj (Option.some.inj z)
  subst ev
  unfold Own at o1
  obtain ⟨a, vs, B0, ea, eB, ha, r⟩ := o1
  cases ea
  subst eB
  obtain ⟨B', r', sub⟩ := new vs B0 ha r
  have nd := pm.nodup_iff.mp S.nd
  have nd' := List.nodup_append.mp nd
  have ndB := List.nodup_cons.mp nd'.2.1
  have inA : ∀ b, b ∈ A ↔ b ∈ Ar ++ l :: B0 := fun b => pm.mem_iff
  have lB' : l ∉ B' := fun z => ndB.1 (sub.subset z)
  have si : i < ρ.length := (List.getElem?_eq_some_iff.mp e).1
  have k1 : ∀ b ∈ Ar, ∀ o, H b = some o → upd H l (.lst vs') b = some o := fun b hb o ho => by
    have : b ≠ l := fun z => nd'.2.2 b hb l List.mem_cons_self z
    rw [upd_ne this]; exact ho
  have k2 : ∀ b ∈ B', ∀ o, H b = some o → upd H l (.lst vs') b = some o := fun b hb o ho => by
    have : b ≠ l := fun z => lB' (z ▸ hb)
    rw [upd_ne this]; exact ho
  have o2 : Own C.K F (upd H l (.lst vs')) (.ref l) (.lst true ds') (l :: B') := by
    unfold Own
    exact ⟨l, vs', B', rfl, rfl, upd_same, OwnL.mono (Same.refl F) _ _ _ k2 r'⟩
  obtain ⟨A2, o3, pm2⟩ := OwnE.upd (G := H) (d := D.non) (oR.mono (Same.refl F) k1) si s1 o2
  have nd2 : (Ar ++ l :: B').Nodup := List.Sublist.nodup (List.Sublist.append_left (sub.cons_cons l) Ar) nd
  have inA2 : ∀ b ∈ A2, b ∈ A := fun b hb => by
    refine (inA b).mpr ?_
    rcases List.mem_append.mp (pm2.mem_iff.mp hb) with z | z
    · exact List.mem_append_left _ z
    · rcases List.mem_cons.mp z with rfl | z
      · exact List.mem_append_right _ List.mem_cons_self
      · exact List.mem_append_right _ (List.mem_cons_of_mem _ (sub.subset z))
  have lA : l ∈ A := (inA l).mpr (List.mem_append_right _ List.mem_cons_self)
  refine ⟨A2, ⟨fun b o ho => ?_, pm2.nodup_iff.mpr nd2, fun b hb => S.free b (inA2 b hb), o3⟩, ⟨Same.refl F, fun b o ho k => ?_, fun b h => .inl h, fun b hb => .inl (inA2 b hb)⟩⟩
  · have : b ≠ l := fun z => by rw [z, S.free l lA] at ho; cases ho
    rw [upd_ne this]; exact S.same b o ho
  · have : b ≠ l := fun z => by
      rcases k with k | k
      · cases k
      · exact k (z ▸ lA)
    rw [upd_ne this]; exact ho
theorem OwnL.snoc {K : PySem.W.Frag} {x : V} {y : D} : ∀ {ds : List D} {vs : List V} {B : List Addr}, OwnL K F H vs ds B → Rep K F x y → OwnL K F H (vs ++ [x]) (ds ++ [y]) B
  | [], vs, B, h, r => by
    unfold OwnL at h
    rw [h.1, h.2]
    show OwnL K F H [x] [y] []
    unfold OwnL
    refine ⟨x, [], [], [], rfl, rfl, Own.of_rep _ _ r, ?_⟩
    unfold OwnL; exact ⟨rfl, rfl⟩
  | d :: ds, vs, B, h, r => by
    unfold OwnL at h
    obtain ⟨v, rr, B1, B2, hv, hB, h1, h2⟩ := h
    subst hv hB
    rw [List.cons_append, List.cons_append]
    unfold OwnL
    exact ⟨v, _, B1, B2, rfl, rfl, h1, OwnL.snoc h2 r⟩
theorem RepL.rev {K : PySem.W.Frag} : ∀ {ds : List D} {vs : List V}, RepL K F vs ds → RepL K F vs.reverse ds.reverse
  | [], vs, h => by unfold RepL at h; subst h; exact (by unfold RepL; rfl)
  | d :: ds, vs, h => by
    unfold RepL at h
    obtain ⟨v, r, hv, h1, h2⟩ := h
    subst hv
    rw [List.reverse_cons, List.reverse_cons]
    refine (RepL.rev h2).append ?_
    unfold RepL
    exact ⟨v, [], rfl, h1, by unfold RepL; rfl⟩
theorem RepL.set {K : PySem.W.Frag} {x : V} {y : D} (q : Rep K F x y) : ∀ {ds : List D} {vs : List V} (j : Nat), RepL K F vs ds → RepL K F (vs.set j x) (ds.set j y)
  | [], vs, j, h => by unfold RepL at h; subst h; exact (by unfold RepL; rfl)
  | d :: ds, vs, 0, h => by
    unfold RepL at h
    obtain ⟨v, r, hv, h1, h2⟩ := h
    subst hv
    rw [List.set_cons_zero, List.set_cons_zero]
    unfold RepL
    exact ⟨x, r, rfl, q, h2⟩
  | d :: ds, vs, j + 1, h => by
    unfold RepL at h
    obtain ⟨v, r, hv, h1, h2⟩ := h
    subst hv
    rw [List.set_cons_succ, List.set_cons_succ]
    unfold RepL
    exact ⟨v, _, rfl, h1, RepL.set q j h2⟩
theorem RepL.get {K : PySem.W.Frag} : ∀ {ds : List D} {vs : List V} {j : Nat} {y : D}, RepL K F vs ds → ds[j]? = some y → ∃ x, vs[j]? = some x ∧ Rep K F x y
  | [], vs, j, y, h, e => by simp at e
  | d :: ds, vs, 0, y, h, e => by
    unfold RepL at h
    obtain ⟨v, r, hv, h1, h2⟩ := h
    have z : d = y := by simpa using e
    subst hv z
    exact ⟨v, rfl, h1⟩
  | d :: ds, vs, j + 1, y, h, e => by
    unfold RepL at h
    obtain ⟨v, r, hv, h1, h2⟩ := h
    subst hv
    obtain ⟨x, e1, e2⟩ := RepL.get (j := j) h2 (by simpa using e)
    exact ⟨x, by simpa using e1, e2⟩
theorem RepL.last {K : PySem.W.Frag} {y : D} {ds : List D} {vs : List V} (h : RepL K F vs ds) (e : ds.getLast? = some y) : ∃ x, vs[vs.length - 1]? = some x ∧ Rep K F x y ∧ RepL K F vs.dropLast ds.dropLast := by
  have e2 : ds[ds.length - 1]? = some y := by rw [← List.getLast?_eq_getElem?]; exact e
  obtain ⟨x, e3, r⟩ := RepL.get h e2
  refine ⟨x, by rw [h.length]; exact e3, r, ?_⟩
  rw [List.dropLast_eq_take, List.dropLast_eq_take, h.length]
  exact h.take _

/-! ### o.m(..) on a slot's list -/
def muId : Mu → String
  | .append => "list.append" | .extend => "list.extend" | .pop => "list.pop" | .reverse => "list.reverse" | .clear => "list.clear" | .insert => "list.insert" | .popAt => "list.pop" | .sort => "list.sort"
theorem mu_slot : ∀ {m : Mu}, muOk m = true → Slot "list" (muName m) (muId m)
  | .append, _ => PySem.F.slot_list_append
  | .pop, _ => PySem.F.slot_list_pop
  | .reverse, _ => PySem.F.slot_list_reverse
  | .clear, _ => PySem.F.slot_list_clear
  | .extend, h => nomatch h
  | .insert, h => nomatch h
  | .popAt, h => nomatch h
  | .sort, h => nomatch h
theorem mu_type : ∀ {m : Mu}, muOk m = true → typeOf (.builtin (muId m)) = pure (.type "method_descriptor")
  | .append, _ => PySem.F.type_list_append
  | .pop, _ => PySem.F.type_list_pop
  | .reverse, _ => PySem.F.type_list_reverse
  | .clear, _ => PySem.F.type_list_clear
  | .extend, h => nomatch h
  | .insert, h => nomatch h
  | .popAt, h => nomatch h
  | .sort, h => nomatch h
theorem lst_at {i : Nat} (S : SR C.K σ ρ F H A) (e : ρ[i]? = some (some (.lst true ds))) : ∃ l vs B, σ[i]? = some (some (.ref l)) ∧ H l = some (.lst vs) ∧ OwnL C.K F H vs ds B ∧ l ∈ A := by
  obtain ⟨v, B, s1, o1, sub, _⟩ := S.own.get e
  unfold Own at o1
  obtain ⟨a, vs, B', e1, e2, e3, r⟩ := o1
  subst e1 e2
  exact ⟨a, vs, B', s1, e3, r, sub a List.mem_cons_self⟩
/-- by values: what the method does at the slot -/
theorem mu_prim {m : Mu} {i : Nat} {l : Addr} {xs : List V} {as ds' : List D} {Q : VK} (hm : muOk m = true) (S : SR C.K σ ρ F H A) (e : ρ[i]? = some (some (.lst true ds))) (hs : σ[i]? = some (some (.ref l)))
    (ra : RepL C.K F xs as) (hd : muD m ds as = some (d, ds')) (hc : X.calm = true)
    (q : EPost C W σ false F H A (.ok d (ρ.set i (some (.lst true ds')))) Q) : anyMt X (muId m) (.ref l) xs H Q := by
  obtain ⟨l', vs, B, s1, hl, r, _⟩ := lst_at S e
  have ev : l' = l := by
    have z := s1.symm.trans hs
    simpa using z
  subst ev
  have fin : ∀ {vs' : List V} {y : V}, (∀ vs0 B0, H l' = some (.lst vs0) → OwnL C.K F H vs0 ds B0 → ∃ B', OwnL C.K F H vs' ds' B' ∧ B'.Sublist B0) → Rep C.K F y d → Q y (upd H l' (.lst vs')) := fun {vs' y} new ry => by
    obtain ⟨A', S', E'⟩ := S.change e hs new
    exact q y F _ A' [] S' (Own.of_rep _ _ ry) (by rw [List.append_nil]; exact E') (by rw [List.append_nil]; exact S'.nd) fun _ hb => nomatch hb
  have inj : ∀ {vs0 : List V}, H l' = some (.lst vs0) → vs0 = vs := fun h => by
    rw [hl] at h; cases h; rfl
  cases m with
  | append =>
    match as, hd with
    | [x], hd =>
      simp only [muD] at hd
      split at hd
      · rename_i hz
        cases hd
        unfold RepL at ra
        obtain ⟨y, rr, e1, r1, r2⟩ := ra
        unfold RepL at r2
        subst r2 e1
        refine ⟨_, mt_append, l', vs, y, rfl, rfl, hl, by rw [r.length]; exact hz, ?_⟩
        refine fin (fun vs0 B0 h0 r0 => ⟨B0, ?_, .refl _⟩) (by unfold Rep; rfl)
        rw [inj h0] at r0
        exact r0.snoc r1
      · cases hd
  | pop =>
    match as, hd with
    | [], hd =>
      simp only [muD] at hd
      split at hd
      · rename_i hf
        split at hd
        · rename_i y hy
          cases hd
          unfold RepL at ra
          subst ra
          obtain ⟨_, rp⟩ := OwnL.to_rep hf r
          obtain ⟨x, e1, r1, r2⟩ := rp.last hy
          refine ⟨_, mt_pop, l', vs, x, rfl, rfl, hl, e1, ?_⟩
          exact fin (fun vs0 B0 h0 r0 => ⟨[], r2.to_own, List.nil_sublist _⟩) r1
        · cases hd
      · cases hd
  | reverse =>
    match as, hd with
    | [], hd =>
      simp only [muD] at hd
      split at hd
      · rename_i hf
        cases hd
        unfold RepL at ra
        subst ra
        obtain ⟨_, rp⟩ := OwnL.to_rep hf r
        refine ⟨_, mt_reverse, l', vs, rfl, rfl, hl, ?_⟩
        exact fin (fun vs0 B0 h0 r0 => ⟨[], rp.rev.to_own, List.nil_sublist _⟩) (by unfold Rep; rfl)
      · cases hd
  | clear =>
    match as, hd with
    | [], hd =>
      cases hd
      unfold RepL at ra
      subst ra
      refine ⟨_, mt_clear, l', vs, rfl, rfl, hl, ?_⟩
      exact fin (fun vs0 B0 h0 r0 => ⟨[], by unfold OwnL; exact ⟨rfl, rfl⟩, List.nil_sublist _⟩) (by unfold Rep; rfl)
  | _ => exact nomatch hm
theorem few_ok {pos : Pos} {env : PySem.Env} (hs : (ea :: es).all noStar = true) (hl : es.length < 20) :
    ((backTo pos (starEach (ea :: es) env)).all (fun x => !x.1) && (backToKw pos (keywordEach [] env)).all (fun x => x.1.isSome)
      && decide ((ea :: es).length + ([] : List Keyword).length + (if ([] : List Keyword).isEmpty then 0 else 1) < 30)) = true := by
  rw [starAll_ns hs]
  have h1 : (backToKw pos (keywordEach [] env)).all (fun x => x.1.isSome) = true := rfl
  rw [h1]
  have h2 : (ea :: es).length + ([] : List Keyword).length + (if ([] : List Keyword).isEmpty then 0 else 1) < 30 := by
    simp only [List.length_cons, List.length_nil, List.isEmpty_nil, if_true]
    omega
  exact decide_eq_true h2
theorem de_mu {m : Mu} {i : Nat} {x y : Str} {q ap cp : Pos} {g : Env → Out (List D)} (O : XOK C lv sc X) (hm : muOk m = true) (hx : cSl C.nm sc i x = true) (hy : y = muName m) (hs : (ea :: es).all noStar = true) (hl : es.length < 20) (hline : (ap.endLine == cp.line) = true)
    (ht : DTs C X W ka (ea :: es) g) : DE C X W false (.Call (.Attribute (.Name x q) y ap) (ea :: es) [] cp) (fun ρ => match getS ρ i with
      | some (.lst true _) => (g ρ).bind fun xs ρ1 => match getS ρ1 i with
        | some (.lst true ds) => match muD m ds (DS.frzL xs) with
          | some (d, ds') => .ok d (ρ1.set i (some (.lst true ds')))
          | none => .stk
        | _ => .stk
      | _ => .stk) := by
  subst hy
  intro σ ρ F H A Q S p
  cases e0 : getS ρ i with
  | none => simp only [e0] at p; exact p.elim
  | some d0 =>
    simp only [e0] at p
    split at p
    · rename_i ds0 ed0
      have ed0 : d0 = .lst true ds0 := Option.some.inj ed0
      subst ed0
      obtain ⟨l, vs0, B0, s0, hl0, r0, _⟩ := lst_at S (getS_get e0)
      have run : WpA X (ea :: es) σ H (fun xs H1 => anyMt X (muId m) (.ref l) xs H1 Q) := by
        refine ht.frz S ?_
        cases h1 : g ρ with
        | stk => rw [h1] at p; exact p
        | exc x fs ρ1 => rw [h1] at p; exact p
        | ok ys ρ1 =>
          rw [h1] at p
          simp only [Out.bind_ok] at p
          intro xs F1 H1 A1 S1 r1 E1
          split at p
          · rename_i ds1 e1
            split at p
            · rename_i d1 ds' e2
              have p' : EPost C W σ (ka && false) F H A (.ok d1 (ρ1.set i (some (.lst true ds')))) Q := by rw [Bool.and_false]; exact p
              exact mu_prim hm S1 (getS_get e1) s0 r1 e2 O.calm (EPost.step (kq := false) E1 p')
            · exact p.elim
          · exact p.elim
      have ty : tyV X.K "list" (.ref l) H := .inl ⟨rfl, vs0, .inl (.inl hl0)⟩
      have hs' := hs
      rw [List.all_cons, Bool.and_eq_true] at hs
      refine wp_of (pe_bm PySem.F.plainAttrs_list (mu_slot hm) (mu_type hm) mt_any (name_pe O hx) pa_wp rfl (few_ok hs' hl) hline (starEach_ns hs.1) (starAny_ns hs.2)) ?_
      exact ⟨.ref l, s0, ty, run⟩
    · exact p.elim
theorem de_mu0 {m : Mu} {i : Nat} {x y : Str} {q ap cp : Pos} (O : XOK C lv sc X) (hm : muOk m = true) (hx : cSl C.nm sc i x = true) (hy : y = muName m) (hline : (ap.endLine == cp.line) = true) :
    DE C X W false (.Call (.Attribute (.Name x q) y ap) [] [] cp) (fun ρ => match getS ρ i with
      | some (.lst true _) => (Out.ok ([] : List D) ρ).bind fun xs ρ1 => match getS ρ1 i with
        | some (.lst true ds) => match muD m ds (DS.frzL xs) with
          | some (d, ds') => .ok d (ρ1.set i (some (.lst true ds')))
          | none => .stk
        | _ => .stk
      | _ => .stk) := by
  subst hy
  intro σ ρ F H A Q S p
  cases e0 : getS ρ i with
  | none => simp only [e0] at p; exact p.elim
  | some d0 =>
    simp only [e0] at p
    split at p
    · rename_i ds0 ed0
      have ed0 : d0 = .lst true ds0 := Option.some.inj ed0
      subst ed0
      obtain ⟨l, vs0, B0, s0, hl0, r0, _⟩ := lst_at S (getS_get e0)
      have ty : tyV X.K "list" (.ref l) H := .inl ⟨rfl, vs0, .inl (.inl hl0)⟩
      refine wp_of (pe_bm0 PySem.F.plainAttrs_list (mu_slot hm) (mu_type hm) mt_any (name_pe O hx) rfl hline) ?_
      refine ⟨.ref l, s0, ty, ?_⟩
      simp only [Out.bind_ok, e0] at p
      split at p
      · rename_i d1 ds' e2
        exact mu_prim hm S (getS_get e0) s0 (by unfold DS.frzL RepL; rfl) e2 O.calm p
      · exact p.elim
    · exact p.elim
end
end DS

set_option Elab.async false
set_option linter.all false
set_option maxRecDepth 100000
/-! DS15: walks, comprehensions. -/
namespace DS
open PySem PySem.Spec PyProof.Rows L2
section
variable {C : Cst} {X : Cx} {W : WX} {lv : Nat} {sc : Scope} {σ : DSt} {ρ ρ1 : Env} {ka kb kc kp : Bool} {tg ea eb ec : Expr} {es : List Expr} {F F' H F1 H1 F2 H2 : Hp} {A A1 A2 B1 : List Addr} {v : V} {d : D} {vs : List V} {ds : List D}

/-- the walk J yields the trees ds, wherever F stands -/
def WalkAt (K : PySem.W.Frag) (F : Hp) (J : L2.It) (ds : List D) : Prop := ∀ i H, Same F H →
  (i < ds.length → J.go i H ∧ ∀ x H', J.yld i H x H' → H' = H ∧ ∃ d, ds[i]? = some d ∧ Rep K F x d) ∧ (ds.length ≤ i → J.stop i H)
theorem walk_lst {K : PySem.W.Frag} {a : Addr} (h : SqL K F a vs) (r : RepL K F vs ds) : WalkAt K F (Itl K a) ds := by
  intro i H s
  have hl : SqL K H a vs := sqL_same h s
  refine ⟨fun hi => ?_, fun hi => ⟨vs, hl, by rw [r.length]; exact hi⟩⟩
  obtain ⟨x, e, q⟩ := RepL.get r (List.getElem?_eq_getElem hi)
  refine ⟨⟨vs, x, hl, e⟩, fun y H' hy => ⟨hy.1, _, List.getElem?_eq_getElem hi, ?_⟩⟩
  have := hy.2 vs hl
  rw [e] at this
  cases this
  exact q
theorem walk_tup {K : PySem.W.Frag} {a : Addr} (h : SqT K F a vs) (r : RepL K F vs ds) : WalkAt K F (Itt K a) ds := by
  intro i H s
  have hl : SqT K H a vs := sqT_same h s
  refine ⟨fun hi => ?_, fun hi => ⟨vs, hl, by rw [r.length]; exact hi⟩⟩
  obtain ⟨x, e, q⟩ := RepL.get r (List.getElem?_eq_getElem hi)
  refine ⟨⟨vs, x, hl, e⟩, fun y H' hy => ⟨hy.1, _, List.getElem?_eq_getElem hi, ?_⟩⟩
  have := hy.2 vs hl
  rw [e] at this
  cases this
  exact q
theorem walk_rng {K : PySem.W.Frag} (lo : Int) (n : Nat) : WalkAt K F (Itr lo n) (Walk.list (.range lo n)) := by
  intro i H s
  have hlen : (Walk.list (.range lo n)).length = n := by simp [Walk.list]
  rw [hlen]
  refine ⟨fun hi => ⟨hi, fun x H' hy => ⟨hy.1, .int (lo + i), ?_, ?_⟩⟩, fun hi => hi⟩
  · simp [Walk.list, hi]
  · unfold Rep; exact hy.2
theorem walk_str {K : PySem.W.Frag} (z : Str) : WalkAt K F (Its z) (z.cps.toList.map fun c => .str ⟨#[c]⟩) := by
  intro i H s
  have hlen : (z.cps.toList.map fun c => D.str ⟨#[c]⟩).length = z.cps.size := by simp
  rw [hlen]
  refine ⟨fun hi => ⟨hi, fun x H' hy => ?_⟩, fun hi => hi⟩
  obtain ⟨e, c, e1, e2⟩ := hy
  refine ⟨e, .str ⟨#[c]⟩, ?_, ?_⟩
  · rw [List.getElem?_map, Array.getElem?_toList, e1]; rfl
  · unfold Rep; exact e2

variable (C X W) in
def IPost (σ : DSt) (kp : Bool) (F H : Hp) (A : List Addr) (o : Out Walk) (R : L2.It → Hp → Prop) : Prop := match o with
  | .ok w ρ' => ∀ J F' H' A', SR C.K σ ρ' F' H' A' → WalkAt C.K F' J w.list → Ext kp F H A F' H' A' → R J H'
  | .exc x fs ρ' => ∀ cls d F' H' A', SR C.K σ ρ' F' H' A' → Ext false F H A F' H' A' → ExR C cls d F' H' x fs → W cls d σ H'
  | .stk => False
variable (C X W) in
def DI (kp : Bool) (tg e : Expr) (f : Env → Out Walk) : Prop := ∀ σ ρ F H A R, SR C.K σ ρ F H A → IPost C W σ kp F H A (f ρ) R → WpI X tg e σ H R

/-- an iterable, by its value -/
def SeqV (K : PySem.W.Frag) (x : V) (H : Hp) (R : L2.It → Hp → Prop) : Prop :=
  (∃ a, x = .ref a ∧ (∃ xs, SqL K H a xs) ∧ R (Itl K a) H) ∨ (∃ a, x = .ref a ∧ (∃ xs, SqT K H a xs) ∧ R (Itt K a) H) ∨ ∃ z, x = .str z ∧ R (Its z) H
theorem pi_seq {e : Expr} : PI X tg e (fun σ H R => Wp X e σ H fun x H1 => SeqV X.K x H1 R) := by
  refine ⟨fun pins s σ H R I h => ?_⟩
  refine thn (h pins s I) fun v s1 hh => ?_
  obtain ⟨x, H1, I1, r1, q1⟩ := hh
  have young : ∀ b ∈ [s1.heap.objs.size], FpOk X pins H1 b := fun b hb => by
    rw [List.mem_singleton.mp hb]
    exact I1.fpOk (Nat.le_refl _) (I1.hok.fresh (Nat.le_refl _))
  rcases q1 with ⟨a, rfl, ⟨xs, hq⟩, q⟩ | ⟨a, rfl, ⟨xs, hq⟩, q⟩ | ⟨z, rfl, q⟩
  · cases r1
    obtain ⟨its, rv, p, _⟩ := I1.list hq
    refine wpAny_pyIter_list p.isList ⟨_, _, _, _, H1, rfl, I1.kept (t' := s1.toks) (fun b o hb => Heap.get?_push_of_some _ hb), turn_list a _, ?_, young, q⟩
    exact ⟨_, Heap.get?_push_size _ rfl, rfl, rfl⟩
  · cases r1
    obtain ⟨its, rv, p, _⟩ := I1.tuple hq
    refine wpAny_pyIter_tuple (show s1.heap.IsTuple a its.toArray from p) ⟨_, _, _, _, H1, rfl, I1.kept (t' := s1.toks) (fun b o hb => Heap.get?_push_of_some _ hb), turn_tuple a _, ?_, young, q⟩
    exact ⟨_, Heap.get?_push_size _ rfl, rfl, rfl⟩
  · obtain ⟨t, rfl⟩ := r1
    cases ha : z.cps.all (· < 128) with
    | false => exact wpAny_pyIter_wide ha (pi_one (tk := s1.toks) I1 _ (turn_str _ z t _ (.inr rfl)) ⟨_, Heap.get?_push_size _ rfl, rfl, rfl⟩ q)
    | true => exact wpAny_pyIter_ascii ha (pi_one (tk := s1.toks) I1 _ (turn_str _ z t _ (.inl rfl)) ⟨_, Heap.get?_push_size _ rfl, rfl, rfl⟩ q)
theorem seqV_of {w : Walk} {R : L2.It → Hp → Prop} (hK : X.K = C.K) (s : Same F H) (r : Rep C.K F v (frz d)) (e : walkD d = some w) (q : ∀ J, WalkAt C.K F J w.list → R J H) : SeqV X.K v H R := by
  rw [hK]
  cases d with
  | lst o ds =>
    cases e
    unfold frz Rep at r
    obtain ⟨_, a, vs, rfl, ha, rr⟩ := r
    exact .inl ⟨a, rfl, ⟨vs, sqL_same ha s⟩, q _ (walk_lst ha rr)⟩
  | tup o ds =>
    cases e
    unfold frz Rep at r
    obtain ⟨_, a, vs, rfl, ha, rr⟩ := r
    exact .inr (.inl ⟨a, rfl, ⟨vs, sqT_same ha s⟩, q _ (walk_tup ha rr)⟩)
  | str z =>
    cases e
    unfold frz Rep at r
    exact .inr (.inr ⟨z, r, q _ (walk_str z)⟩)
  | _ => cases e
theorem di_val {f : Env → Out D} (O : XOK C lv sc X) (h : DE C X W ka ea f) : DI C X W ka tg ea (fun ρ => (f ρ).bind fun d ρ1 => Out.lift (walkD d) ρ1) := by
  intro σ ρ F H A R S p
  refine wpI_of pi_seq ?_
  refine h.frz S ?_
  cases h1 : f ρ with
  | stk => simp only [h1] at p; exact p
  | exc x fs ρ1 => simp only [h1] at p; exact p
  | ok d ρ1 =>
    simp only [h1, Out.bind_ok] at p
    intro v F1 H1 A1 S1 r1 E1
    cases e : walkD d with
    | none => rw [e] at p; exact p.elim
    | some w =>
      rw [e] at p
      exact seqV_of O.K S1.same r1 e fun J hJ => p J F1 H1 A1 S1 hJ E1
theorem di_slot {i : Nat} {x : Str} {q : Pos} (O : XOK C lv sc X) (hx : cSl C.nm sc i x = true) : DI C X W true tg (.Name x q) (fun ρ => match getS ρ i with
      | some d => Out.lift (walkD d) (ρ.set i (some (frz d)))
      | none => .stk) := by
  intro σ ρ F H A R S p
  refine wpI_of pi_seq ?_
  refine wp_of (name_pe O hx) ?_
  cases e : getS ρ i with
  | none => simp only [e] at p; exact p.elim
  | some d =>
    simp only [e] at p
    obtain ⟨v, F', A', s1, S', r, E⟩ := S.freeze (getS_get e)
    refine ⟨v, s1, ?_⟩
    cases e2 : walkD d with
    | none => rw [e2] at p; exact p.elim
    | some w =>
      rw [e2] at p
      exact seqV_of O.K S'.same r e2 fun J hJ => p J F' H A' S' hJ E
theorem small_ok {i : Int} (h : small62 i = true) : -(2 ^ 62) ≤ i ∧ i < 2 ^ 62 := by
  unfold small62 at h
  simp only [Bool.and_eq_true, decide_eq_true_eq] at h
  exact h
theorem di_rng1 {x : Str} {q pos : Pos} {f : Env → Out D} (O : XOK C lv sc X) (hx : cBl C.nm sc x "range" = true) (hs : noStar ea = true) (h : DA C X W ka ea f) :
    DI C X W ka tg (.Call (.Name x q) [ea] [] pos) (fun ρ => (f ρ).bind fun x ρ1 => match x with
      | .int j => if small62 j then .ok (.range 0 j.toNat) ρ1 else .stk
      | _ => .stk) := by
  intro σ ρ F H A R S p
  obtain ⟨rfl, hg, hm, _, _⟩ := cBl_ok O hx
  refine wpI_of (pi_range1 hg hm (pa_cons pe_wp pa_nil (starEach_ns hs)) (starEach_ns hs)) ?_
  refine h σ ρ F H A _ S ?_
  cases h1 : f ρ with
  | stk => simp only [h1] at p; exact p
  | exc x fs ρ1 => simp only [h1] at p; exact p
  | ok d ρ1 =>
    simp only [h1, Out.bind_ok] at p
    intro v F1 H1 A1 B1 S1 O1 E1
    cases d with
    | int j =>
      obtain ⟨rfl, _⟩ := O1.intE
      dsimp only at p
      split at p
      · rename_i hz
        obtain ⟨z1, z2⟩ := small_ok hz
        exact ⟨j, rfl, z1, z2, p _ F1 H1 A1 S1 (walk_rng 0 j.toNat) E1⟩
      · exact p.elim
    | _ => exact p.elim
theorem di_rng2 {x : Str} {q pos : Pos} {f g : Env → Out D} (O : XOK C lv sc X) (hx : cBl C.nm sc x "range" = true) (hs : noStar ea = true) (hs2 : noStar eb = true) (ha : DA C X W ka ea f) (hb : DA C X W kb eb g) :
    DI C X W (ka && kb) tg (.Call (.Name x q) [ea, eb] [] pos) (fun ρ => (f ρ).bind fun x ρ1 => (g ρ1).bind fun y ρ2 => match x, y with
      | .int i, .int j => if small62 i && small62 j then .ok (.range i (j - i).toNat) ρ2 else .stk
      | _, _ => .stk) := by
  intro σ ρ F H A R S p
  obtain ⟨rfl, hg, hm, _, _⟩ := cBl_ok O hx
  refine wpI_of (pi_range2 hg hm (pa_cons pe_wp (pa_cons pe_wp pa_nil (starEach_ns hs2)) (starEach_ns hs)) (by rw [starEach_ns hs, starEach_ns hs2]; rfl) (starEach_ns hs2)) ?_
  refine ha σ ρ F H A _ S ?_
  cases h1 : f ρ with
  | stk => simp only [h1] at p; exact p
  | exc x fs ρ1 => simp only [h1] at p; exact p
  | ok d ρ1 =>
    simp only [h1, Out.bind_ok] at p
    intro v F1 H1 A1 B1 S1 O1 E1
    refine hb σ ρ1 F1 H1 A1 _ S1 ?_
    cases h2 : g ρ1 with
    | stk => simp only [h2] at p; exact p
    | exc x fs ρ2 =>
      simp only [h2] at p
      exact fun cls d F' H' A' S' E' r => p cls d F' H' A' S' ((E1.trans E').weak fun z => nomatch z) r
    | ok d2 ρ2 =>
      simp only [h2, Out.bind_ok] at p
      intro v2 F2 H2 A2 B2 S2 O2 E2
      cases d with
      | int i =>
        cases d2 with
        | int j =>
          obtain ⟨rfl, _⟩ := O1.intE
          obtain ⟨rfl, _⟩ := O2.intE
          dsimp only at p
          split at p
          · rename_i hz
            rw [Bool.and_eq_true] at hz
            obtain ⟨z1, z2⟩ := small_ok hz.1
            obtain ⟨z3, z4⟩ := small_ok hz.2
            exact ⟨i, j, rfl, ⟨z1, z2, z3, z4⟩, p _ F2 H2 A2 S2 (walk_rng i (j - i).toNat) (E1.trans E2)⟩
          · exact p.elim
        | _ => exact p.elim
      | _ => exact p.elim
end
end DS

set_option Elab.async false
set_option linter.all false
set_option maxRecDepth 100000
/-! DS16: comprehensions. -/
namespace DS
open PySem PySem.Spec PyProof.Rows L2
section
variable {C : Cst} {X : Cx} {W : WX} {lv : Nat} {sc : Scope} {σ : DSt} {ρ ρ1 : Env} {ka kb kc kp : Bool} {tg ea eb ec : Expr} {es : List Expr} {F F' H F1 H1 F2 H2 : Hp} {A A1 A2 B1 : List Addr} {v : V} {d : D} {vs : List V} {ds : List D}

def W0 : WX := fun _ _ _ _ => False
/-- the contexts of a comprehension's block -/
theorem XOK.blk (O : XOK C lv sc X) (scope : Scope) (s : Shared) (H : Hp) (cl : List (Str × Addr)) (L : Addr) (fp : List Addr) : XOK C lv (relS scope sc) (X.blk s H scope (compEnvC scope cl L X.env) fp) where
  K := O.K
  mg := O.mg
  N := O.N
  nd := O.nd
  sc := by
    show relabel scope X.env = _
    have : relabel scope X.env = relS scope X.env.scope := rfl
    rw [this, O.sc]
  calm := O.calm
  room := O.room
  fns := O.fns
  cns := O.cns
  bls := O.bls
  units := O.units
/-- in every block -/
def WpB (X : Cx) (scope : Scope) (e : Expr) : TE := fun σ H Q => ∀ (s : Shared) (H0 : Hp) (L : Addr) (cl : List (Str × Addr)) (fp : List Addr), Wp (X.blk s H0 scope (compEnvC scope cl L X.env) fp) e σ H Q
def WpTB (X : Cx) (scope : Scope) (e : Expr) : TT := fun σ H Q => ∀ (s : Shared) (H0 : Hp) (L : Addr) (cl : List (Str × Addr)) (fp : List Addr), WpT (X.blk s H0 scope (compEnvC scope cl L X.env) fp) e σ H Q
theorem lcL_set (i : Nat) (c : Env → Out Bool) (e : Env → Out D) (xs acc : List D) (ρ : Env) : lcL i c e xs acc (ρ.set i none) = lcL i c e xs acc ρ := by
  cases xs with
  | nil => unfold lcL; rw [List.set_set]
  | cons x xs => unfold lcL; rw [List.set_set]
theorem set_back {α : Type} {l : List α} {i : Nat} {x : α} (h : l[i]? = some x) : l.set i x = l := by
  refine List.ext_getElem? fun j => ?_
  rw [List.getElem?_set]
  split
  · rename_i e
    subst e
    have := (List.getElem?_eq_some_iff.mp h).1
    rw [if_pos this]; exact h.symm
  · rfl
theorem SR.wipe {i : Nat} {z : Option V} (S : SR C.K σ ρ F H A) (h : ρ[i]? = some none) : SR C.K (σ.set i z) ρ F H A := ⟨S.same, S.nd, S.free, S.own.wipe h⟩
theorem SR.unwipe {i : Nat} {z : Option V} (S : SR C.K (σ.set i z) ρ F H A) (h : ρ[i]? = some none) : SR C.K σ ρ F H A := by
  have hi : i < σ.length := by
    have l := S.len
    rw [List.length_set] at l
    rw [l]; exact (List.getElem?_eq_some_iff.mp h).1
  have S' := S.wipe (z := σ[i]) h
  rw [List.set_set, set_back (List.getElem?_eq_getElem hi)] at S'
  exact S'
/-- a slot forgotten -/
theorem SR.drop {i : Nat} (S : SR C.K σ ρ F H A) : ∃ A', SR C.K σ (ρ.set i none) F H A' ∧ A'.Sublist A := by
  obtain ⟨A', o, sub⟩ := S.own.drop (i := i)
  exact ⟨A', ⟨S.same, sub.nodup S.nd, fun a ha => S.free a (sub.subset ha), o⟩, sub⟩
/-- a slot given a frozen tree -/
theorem SR.putF {i : Nat} (S : SR C.K σ ρ F H A) (hi : i < ρ.length) (r : Rep C.K F v d) : ∃ A', SR C.K (σ.set i (some v)) (ρ.set i (some d)) F H A' ∧ ∀ b ∈ A', b ∈ A := by
  obtain ⟨A', o, A0, sub, pm⟩ := S.own.put hi (Own.of_rep (H := H) _ _ r)
  rw [List.append_nil] at pm
  have inA : ∀ b ∈ A', b ∈ A := fun b hb => sub.subset (pm.mem_iff.mp hb)
  exact ⟨A', ⟨S.same, pm.nodup_iff.mpr (sub.nodup S.nd), fun a ha => S.free a (inA a ha), o⟩, inA⟩
/-- the loop's state ahead of turn k -/
def LcInv (C : Cst) (W : WX) (σ : DSt) (i : Nat) (c : Env → Out Bool) (e : Env → Out D) (ds : List D) (k0 kl : Bool) (F H : Hp) (A : List Addr) (F1 H1 : Hp) (A1 : List Addr) (L : Addr) (Q : VK) (k : Nat) (Hk : Hp) : Prop :=
  ∃ ρk Fk Ak acc da, SR C.K (σ.set i none) ρk Fk Hk Ak ∧ ρk[i]? = some none ∧ Hk L = some (.lst acc) ∧ RepL C.K Fk acc da ∧ L ∉ Ak ∧ Fk L = none ∧ Ext kl F1 H1 A1 Fk Hk Ak ∧
    EPost C W σ (k0 && kl) F H A (lcL i c e (ds.drop k) da ρk) Q
theorem lc_rd {i : Nat} {x : Str} {q : Pos} {scope : Scope} {iter elt : Expr} {ki : Bool} {fi : Env → Out Walk} {c : Env → Out Bool} {e : Env → Out D} {tt : TT}
    (hi : DI C X W ki (.Name x q) iter fi)
    (hc : ∀ σ ρ F H A Q, SR C.K σ ρ F H A → BPost C W0 σ kc F H A (c ρ) Q → tt σ H Q)
    (he : ∀ (s : Shared) (H : Hp) (L : Addr) (cl : List (Str × Addr)) (fp : List Addr), DE C (X.blk s H scope (compEnvC scope cl L X.env) fp) W0 ka elt e)
    {F H : Hp} {A : List Addr} {Q : VK} (S : SR C.K σ ρ F H A) (p : EPost C W σ (ki && (kc && ka)) F H A ((fi ρ).bind fun w ρ1 => match ρ1[i]? with
      | some none => lcL i c e w.list [] ρ1
      | _ => .stk) Q) : tLc (WpI X (.Name x q) iter) (gName i) tt (WpB X scope elt) ([(x, i)].map (·.2)) σ H Q := by
  unfold tLc
  show WpI X (.Name x q) iter σ H _
  refine hi σ ρ F H A _ S ?_
  cases h1 : fi ρ with
  | stk => simp only [h1] at p; exact p
  | exc y fs ρ1 => simp only [h1] at p; exact p
  | ok w ρ1 =>
    simp only [h1, Out.bind_ok] at p
    intro J F1 H1 A1 S1 hJ E1 L hL
    split at p
    · rename_i hρ
      generalize hds : w.list = ds at p hJ
      have hL1 : L ∉ A1 := fun z => S1.dom L z hL
      refine ⟨fun k m Hk => m = ds.length - k ∧ k ≤ ds.length ∧ LcInv C W σ i c e ds ki (kc && ka) F H A F1 H1 A1 L Q k Hk, ⟨ds.length, by simp, Nat.zero_le _, ?_⟩, ?_⟩
      · refine ⟨ρ1, F1, A1, [], [], (S1.laid hL).wipe hρ, hρ, upd_same, by unfold RepL; rfl, hL1, S1.same.free hL, ?_, by rw [List.drop_zero]; exact p⟩
        exact ((Ext.laid (B := []) S1 hL fun b hb => nomatch hb).weak fun _ => rfl).sub fun b hb => .inl (List.mem_append_left _ hb)
      · rintro k m Hk ⟨rfl, hk, ρk, Fk, Ak, acc, da, Sk, ek, eL, ra, nL, fL, Ek, pk⟩
        obtain ⟨w1, w2⟩ := hJ k Hk (Ek.fs.trans Sk.same)
        by_cases hlt : k < ds.length
        · refine .inr ⟨(w1 hlt).1, fun H' => k + 1 ≤ ds.length ∧ LcInv C W σ i c e ds ki (kc && ka) F H A F1 H1 A1 L Q (k + 1) H', fun H' h => ⟨ds.length - (k + 1), by omega, rfl, h.1, h.2⟩, fun y H' hy => ?_⟩
          obtain ⟨e0, d0, ed, ry⟩ := (w1 hlt).2 y H' hy
          subst e0
          have hdrop : ds.drop k = d0 :: ds.drop (k + 1) := by
            rw [List.drop_eq_getElem_cons hlt]
            have z : ds[k]? = some ds[k] := List.getElem?_eq_getElem hlt
            rw [ed] at z
            cases z; rfl
          rw [hdrop] at pk
          have hik : i < ρk.length := (List.getElem?_eq_some_iff.mp ek).1
          have ry' : Rep C.K Fk y d0 := Rep.same Ek.fs _ _ ry
          obtain ⟨Am, Sm, inM⟩ := Sk.putF (v := y) (d := d0) hik ry'
          show wipe ((wipe σ [i]).set i (some y)) [i] = wipe σ [i] ∧ _
          refine ⟨by show ((σ.set i none).set i (some y)).set i none = σ.set i none; rw [List.set_set, List.set_set], ?_⟩
          have nLm : L ∉ Am := fun z => nL (inM L z)
          have Em : Ext (kc && ka) F1 H1 A1 Fk H' Am := Ek.sub fun b hb => .inl (inM b hb)
          unfold lcL at pk
          refine hc ((σ.set i none).set i (some y)) _ Fk H' Am _ Sm ?_
          -- what a turn's end leaves
          have fin : ∀ {ρ3 F3 H3 A3 acc3 da3}, SR C.K ((σ.set i none).set i (some y)) ρ3 F3 H3 A3 → H3 L = some (.lst acc3) → RepL C.K F3 acc3 da3 → L ∉ A3 → F3 L = none → Ext (kc && ka) F1 H1 A1 F3 H3 A3 →
              EPost C W σ (ki && (kc && ka)) F H A (lcL i c e (ds.drop (k + 1)) da3 ρ3) Q → k + 1 ≤ ds.length ∧ LcInv C W σ i c e ds ki (kc && ka) F H A F1 H1 A1 L Q (k + 1) H3 := fun {ρ3 F3 H3 A3 acc3 da3} S3 e3 r3 n3 f3 E3 p3 => by
            obtain ⟨A4, S4, sub⟩ := S3.drop (i := i)
            have hi3 : i < ρ3.length := by
              rw [← S3.len, List.length_set, List.length_set]
              have := Sk.len
              rw [List.length_set] at this
              omega
            have e4 : (ρ3.set i none)[i]? = some none := by rw [List.getElem?_set_self hi3]
            have S5 := S4.wipe (z := none) e4
            rw [List.set_set, List.set_set] at S5
            exact ⟨hlt, ρ3.set i none, F3, A4, acc3, da3, S5, e4, e3, r3, fun z => n3 (sub.subset z), f3, E3.sub fun b hb => .inl (sub.subset hb), by rw [lcL_set]; exact p3⟩
          have keepL : ∀ {kk : Bool} {F3 H3 A3}, Ext kk Fk H' Am F3 H3 A3 → H3 L = some (.lst acc) ∧ L ∉ A3 ∧ F3 L = none := fun {kk F3 H3 A3} E3 => by
            refine ⟨E3.fr L _ eL (.inr nLm), fun z => ?_, ?_⟩
            · rcases E3.na L z with w | w
              · exact nLm w
              · rw [eL] at w; cases w
            · cases q : F3 L with
              | none => rfl
              | some o =>
                rcases E3.nf L (by rw [q]; exact fun z => nomatch z) with w | w | w
                · exact absurd fL w
                · exact absurd w nLm
                · rw [eL] at w; cases w
          cases h2 : c (ρk.set i (some d0)) with
          | stk => rw [h2] at pk; exact pk
          | exc y fs ρ2 => rw [h2] at pk; exact pk.elim
          | ok b ρ2 =>
            rw [h2] at pk
            intro F2 H2 A2 S2 E2
            obtain ⟨k1, k2, k3⟩ := keepL E2
            have E2' : Ext (kc && ka) F1 H1 A1 F2 H2 A2 := (Em.trans E2).weak fun z => by
              rw [z, Bool.true_and]
              exact (Bool.and_eq_true_iff.mp z).1
            cases b with
            | false =>
              rw [if_neg Bool.false_ne_true]
              dsimp only at pk
              exact fin S2 k1 (RepL.same E2.fs _ _ ra) k2 k3 E2' pk
            | true =>
              rw [if_pos rfl]
              dsimp only at pk
              intro s0 H0 L0 cl0 fp0
              refine (he s0 H0 L0 cl0 fp0).frz S2 ?_
              cases h3 : e ρ2 with
              | stk => rw [h3] at pk; exact pk
              | exc y fs ρ3 => rw [h3] at pk; exact pk.elim
              | ok d3 ρ3 =>
                rw [h3] at pk
                dsimp only at pk
                intro z3 F3 H3 A3 S3 r3 E3
                have E23 : Ext (kc && ka) Fk H' Am F3 H3 A3 := E2.trans E3
                obtain ⟨j1, j2, j3⟩ := keepL E23
                split at pk
                · rename_i hz
                  have la : acc.length = da.length := ra.length
                  refine ⟨acc, j1, by rw [la]; exact hz, ?_⟩
                  have S4 : SR C.K ((σ.set i none).set i (some y)) ρ3 F3 (upd H3 L (.lst (acc ++ [z3]))) A3 := by
                    refine S3.mono (Same.refl F3) (fun b hb o ho => ?_) (fun b o ho => ?_) S3.free
                    · have nb : b ≠ L := fun q => j2 (by rw [← q]; exact hb)
                      rw [upd_ne nb]; exact ho
                    · have nb : b ≠ L := fun q => by rw [q, j3] at ho; cases ho
                      rw [upd_ne nb]; exact S3.same _ _ ho
                  have r4 : RepL C.K F3 (acc ++ [z3]) (da ++ [frz d3]) := (RepL.same E23.fs _ _ ra).append (by unfold RepL; exact ⟨z3, [], rfl, r3, by unfold RepL; rfl⟩)
                  refine fin S4 upd_same r4 j2 j3 ?_ pk
                  have E5 : Ext (kc && ka) F1 H1 A1 F3 H3 A3 := (Em.trans E23).weak fun z => by rw [z]; rfl
                  refine ⟨E5.fs, fun b o ho kk => ?_, E5.nf, E5.na⟩
                  have nb : b ≠ L := fun q => by rw [q, hL] at ho; cases ho
                  rw [upd_ne nb]
                  exact E5.fr b o ho kk
                · exact pk.elim
        · have ek2 : k = ds.length := by omega
          subst ek2
          refine .inl ⟨w2 (Nat.le_refl _), ?_⟩
          rw [List.drop_length] at pk
          unfold lcL at pk
          rw [set_back ek] at pk
          have S5 := Sk.unwipe ek
          have E5 : Ext (ki && (kc && ka)) F H A Fk Hk Ak := E1.trans Ek
          have nLA : (Ak ++ [L]).Nodup := List.nodup_append.mpr ⟨Sk.nd, by simp, fun a ha b hb q => nL (by rw [List.mem_singleton.mp hb] at q; exact q ▸ ha)⟩
          refine pk (.ref L) Fk Hk Ak [L] S5 ?_ ⟨E5.fs, E5.fr, E5.nf, fun b hb => ?_⟩ nLA fun b hb => by rw [List.mem_singleton.mp hb]; exact fL
          · unfold Own
            exact ⟨L, acc, [], rfl, rfl, eL, RepL.to_own ra⟩
          · rcases List.mem_append.mp hb with z | z
            · exact E5.na b z
            · have z := List.mem_singleton.mp z
              subst z
              by_cases hA : b ∈ A
              · exact .inl hA
              · cases q : H b with
                | none => exact .inr rfl
                | some o =>
                  have := E1.fr b o q (.inr hA)
                  rw [hL] at this; cases this
    · exact p.elim
theorem lc_pg {i : Nat} {x : Str} {q : Pos} {scope : Scope} (O : XOK C lv sc X) (hN : C.nm.N[i]? = some x) (hl : locB (relS scope sc) x = true) (hll : (relS scope sc).names.lookup x = some .local ∨ scope.names.lookup x = some .cell)
    (s : Shared) (H : Hp) (L : Addr) (cl : List (Str × Addr)) (fp : List Addr) : PG (X.blk s H scope (compEnvC scope cl L X.env) fp) (.Name x q) (gName i) := by
  have OB := O.blk scope s H cl L fp
  refine pg_name OB.nd (by rw [OB.N]; exact hN) (by rw [OB.sc]; exact locB_ok hl) ?_
  rcases hll with z | z
  · exact .inr (by rw [OB.sc]; exact z)
  · refine .inl ?_
    show (scope.names.lookup x == some .cell) = true
    rw [z]; rfl
theorem de_lc {i : Nat} {x : Str} {q pos : Pos} {scope : Scope} {iter elt : Expr} {ifs : List Expr} {ki : Bool} {fi : Env → Out Walk} {c : Env → Out Bool} {e : Env → Out D} {tt : TT}
    (O : XOK C lv sc X) (hi : DI C X W ki (.Name x q) iter fi) (hN : C.nm.N[i]? = some x) (hblk : blkC C.nm.N sc scope [(x, i)] = true) (hl : locB (relS scope sc) x = true) (hll : (relS scope sc).names.lookup x = some .local ∨ scope.names.lookup x = some .cell)
    (hf : ∀ z, foldedSetIterable iter X.env z = pure z)
    (ht : ∀ (s : Shared) (H : Hp) (L : Addr) (cl : List (Str × Addr)) (fp : List Addr), PTs (X.blk s H scope (compEnvC scope cl L X.env) fp) ifs tt)
    (hc : ∀ σ ρ F H A Q, SR C.K σ ρ F H A → BPost C W0 σ kc F H A (c ρ) Q → tt σ H Q)
    (he : ∀ (s : Shared) (H : Hp) (L : Addr) (cl : List (Str × Addr)) (fp : List Addr), DE C (X.blk s H scope (compEnvC scope cl L X.env) fp) W0 ka elt e) :
    DE C X W (ki && (kc && ka)) (.ListComp elt [⟨.Name x q, iter, ifs, 0⟩] scope pos) (fun ρ => (fi ρ).bind fun w ρ1 => match ρ1[i]? with
      | some none => lcL i c e w.list [] ρ1
      | _ => .stk) := by
  intro σ ρ F H A Q S p
  exact wp_of (pe_lc (own := [(x, i)]) O.calm O.nd pi_wp (blkOk_by (by rw [O.N, O.sc]; exact hblk)) (lc_pg O hN hl hll) ht (te := WpB X scope elt) (fun s H L cl fp => ⟨fun pins s' σ H' Q I h => h s H L cl fp pins s' I⟩) hf) (lc_rd hi hc he S p)
/-! ### two fors -/
def WpIB (X : Cx) (scope : Scope) (tg e : Expr) : TI := fun σ H R => ∀ (s : Shared) (H0 : Hp) (L : Addr) (cl : List (Str × Addr)) (fp : List Addr), WpI (X.blk s H0 scope (compEnvC scope cl L X.env) fp) tg e σ H R
theorem lcO2_set (i j : Nat) (wi : Env → Out Walk) (e : Env → Out D) (xs acc : List D) (ρ : Env) : lcO2 i j wi e xs acc (ρ.set i none) = lcO2 i j wi e xs acc ρ := by
  cases xs with
  | nil => unfold lcO2; rw [List.set_set]
  | cons x xs => unfold lcO2; rw [List.set_set]
def Lc2Inv (C : Cst) (W : WX) (σ τ : DSt) (i j : Nat) (wi : Env → Out Walk) (e : Env → Out D) (ds : List D) (k0 kl : Bool) (F H : Hp) (A : List Addr) (F1 H1 : Hp) (A1 : List Addr) (L : Addr) (Q : VK) (k : Nat) (Hk : Hp) : Prop :=
  ∃ ρk Fk Ak acc da, SR C.K τ ρk Fk Hk Ak ∧ ρk[i]? = some none ∧ ρk[j]? = some none ∧ Hk L = some (.lst acc) ∧ RepL C.K Fk acc da ∧ L ∉ Ak ∧ Fk L = none ∧ Ext kl F1 H1 A1 Fk Hk Ak ∧
    EPost C W σ (k0 && kl) F H A (lcO2 i j wi e (ds.drop k) da ρk) Q
def contO (i j : Nat) (wi : Env → Out Walk) (e : Env → Out D) (xs : List D) (o : Out (List D)) : Out D := match o with
  | .ok acc ρ => lcO2 i j wi e xs acc ρ
  | _ => .stk
def Lc2In (C : Cst) (W : WX) (σ τ : DSt) (i j : Nat) (wi : Env → Out Walk) (e : Env → Out D) (ds xs : List D) (k0 kl : Bool) (F H : Hp) (A : List Addr) (F1 H1 : Hp) (A1 : List Addr) (L : Addr) (F2 : Hp) (Q : VK) (k : Nat) (Hk : Hp) : Prop :=
  ∃ ρk Fk Ak acc da, Same F2 Fk ∧ SR C.K τ ρk Fk Hk Ak ∧ ρk[j]? = some none ∧ Hk L = some (.lst acc) ∧ RepL C.K Fk acc da ∧ L ∉ Ak ∧ Fk L = none ∧ Ext kl F1 H1 A1 Fk Hk Ak ∧
    EPost C W σ (k0 && kl) F H A (contO i j wi e xs (lcI j e (ds.drop k) da ρk)) Q
theorem lcI_set (j : Nat) (e : Env → Out D) (xs acc : List D) (ρ : Env) : lcI j e xs acc (ρ.set j none) = lcI j e xs acc ρ := by
  cases xs with
  | nil => unfold lcI; rw [List.set_set]
  | cons x xs => unfold lcI; rw [List.set_set]
theorem keep_at {kk : Bool} {F1 F2 H1 H2 : Hp} {A1 A2 : List Addr} {L : Addr} {acc : List V} (E : Ext kk F1 H1 A1 F2 H2 A2) (eL : H1 L = some (.lst acc)) (nL : L ∉ A1) (fL : F1 L = none) : H2 L = some (.lst acc) ∧ L ∉ A2 ∧ F2 L = none := by
  refine ⟨E.fr L _ eL (.inr nL), fun z => ?_, ?_⟩
  · rcases E.na L z with w | w
    · exact nL w
    · rw [eL] at w; cases w
  · cases q : F2 L with
    | none => rfl
    | some o =>
      rcases E.nf L (by rw [q]; exact fun z => nomatch z) with w | w | w
      · exact absurd fL w
      · exact absurd w nL
      · rw [eL] at w; cases w
theorem lc2_rd {i j : Nat} {x y : Str} {q q1 : Pos} {scope : Scope} {iter iter1 elt : Expr} {ki kw : Bool} {fi fw : Env → Out Walk} {e : Env → Out D} (hij : i ≠ j)
    (hi : DI C X W ki (.Name x q) iter fi)
    (hi1 : ∀ (s : Shared) (H : Hp) (L : Addr) (cl : List (Str × Addr)) (fp : List Addr), DI C (X.blk s H scope (compEnvC scope cl L X.env) fp) W0 kw (.Name y q1) iter1 fw)
    (he : ∀ (s : Shared) (H : Hp) (L : Addr) (cl : List (Str × Addr)) (fp : List Addr), DE C (X.blk s H scope (compEnvC scope cl L X.env) fp) W0 ka elt e)
    {F H : Hp} {A : List Addr} {Q : VK} (S : SR C.K σ ρ F H A) (p : EPost C W σ (ki && (kw && ka)) F H A ((fi ρ).bind fun w ρ1 => match ρ1[i]?, ρ1[j]? with
      | some none, some none => lcO2 i j fw e w.list [] ρ1
      | _, _ => .stk) Q) : tLc2 (WpI X (.Name x q) iter) (gName i) tYes (WpIB X scope (.Name y q1) iter1) (gName j) tYes (WpB X scope elt) ([(x, i), (y, j)].map (·.2)) [j] σ H Q := by
  unfold tLc2
  show WpI X (.Name x q) iter σ H _
  refine hi σ ρ F H A _ S ?_
  cases h1 : fi ρ with
  | stk => simp only [h1] at p; exact p
  | exc y fs ρ1 => simp only [h1] at p; exact p
  | ok w ρ1 =>
    simp only [h1, Out.bind_ok] at p
    intro J F1 H1 A1 S1 hJ E1 L hL
    have hp : ρ1[i]? = some none ∧ ρ1[j]? = some none ∧ EPost C W σ (ki && (kw && ka)) F H A (lcO2 i j fw e w.list [] ρ1) Q := by
      split at p
      · exact ⟨by assumption, by assumption, p⟩
      · exact p.elim
    clear p
    obtain ⟨hρi, hρj, p⟩ := hp
    generalize hds : w.list = ds at p hJ
    have hL1 : L ∉ A1 := fun z => S1.dom L z hL
    have ew : wipe σ ([(x, i), (y, j)].map (·.2)) = (σ.set j none).set i none := rfl
    rw [ew]
    generalize hτ : (σ.set j none).set i none = τ
    refine ⟨fun k m Hk => m = ds.length - k ∧ k ≤ ds.length ∧ Lc2Inv C W σ τ i j fw e ds ki (kw && ka) F H A F1 H1 A1 L Q k Hk, ⟨ds.length, by simp, Nat.zero_le _, ?_⟩, ?_⟩
    · refine ⟨ρ1, F1, A1, [], [], ?_, hρi, hρj, upd_same, by unfold RepL; rfl, hL1, S1.same.free hL, ?_, by rw [List.drop_zero]; exact p⟩
      · rw [← hτ]
        exact ((S1.laid hL).wipe hρj).wipe hρi
      · exact ((Ext.laid (B := []) S1 hL fun b hb => nomatch hb).weak fun _ => rfl).sub fun b hb => .inl (List.mem_append_left _ hb)
    · rintro k m Hk ⟨rfl, hk, ρk, Fk, Ak, acc, da, Sk, ek, ekj, eL, ra, nL, fL, Ek, pk⟩
      obtain ⟨w1, w2⟩ := hJ k Hk (Ek.fs.trans Sk.same)
      by_cases hlt : k < ds.length
      · refine .inr ⟨(w1 hlt).1, fun H' => k + 1 ≤ ds.length ∧ Lc2Inv C W σ τ i j fw e ds ki (kw && ka) F H A F1 H1 A1 L Q (k + 1) H', fun H' h => ⟨ds.length - (k + 1), by omega, rfl, h.1, h.2⟩, fun y0 H' hy => ?_⟩
        obtain ⟨e0, d0, ed, ry⟩ := (w1 hlt).2 y0 H' hy
        subst e0
        have hdrop : ds.drop k = d0 :: ds.drop (k + 1) := by
          rw [List.drop_eq_getElem_cons hlt]
          have z : ds[k]? = some ds[k] := List.getElem?_eq_getElem hlt
          rw [ed] at z
          cases z; rfl
        rw [hdrop] at pk
        have hik : i < ρk.length := (List.getElem?_eq_some_iff.mp ek).1
        have ry' : Rep C.K Fk y0 d0 := Rep.same Ek.fs _ _ ry
        obtain ⟨Am, Sm, inM⟩ := Sk.putF (v := y0) (d := d0) hik ry'
        have wτ : ∀ z : Option V, ((τ.set i z).set j none).set i none = τ := fun z => by
          rw [← hτ, List.set_set, List.set_comm _ _ hij, List.set_set, List.set_set]
        show _ ∧ _
        refine ⟨wτ _, ?_⟩
        unfold tYes
        dsimp only
        rw [if_pos rfl]
        have nLm : L ∉ Am := fun z => nL (inM L z)
        have Em : Ext (kw && ka) F1 H1 A1 Fk H' Am := Ek.sub fun b hb => .inl (inM b hb)
        unfold lcO2 at pk
        intro s0 H0 L0 cl0 fp0
        refine hi1 s0 H0 L0 cl0 fp0 (τ.set i (some y0)) _ Fk H' Am _ Sm ?_
        cases h2 : fw (ρk.set i (some d0)) with
        | stk => rw [h2] at pk; exact pk
        | exc y fs ρ2 => rw [h2] at pk; exact pk.elim
        | ok wv ρ2 =>
          rw [h2] at pk
          dsimp only at pk
          intro J1 F2 H2 A2 S2 hJ1 E2
          generalize hds1 : wv.list = ds1 at pk hJ1
          have hp2 : ρ2[j]? = some none ∧ EPost C W σ (ki && (kw && ka)) F H A (contO i j fw e (ds.drop (k + 1)) (lcI j e ds1 da ρ2)) Q := by
            split at pk
            · refine ⟨by assumption, ?_⟩
              unfold contO
              cases hh : lcI j e ds1 da ρ2 with
              | stk => rw [hh] at pk; exact pk
              | exc => rw [hh] at pk; exact pk
              | ok => rw [hh] at pk; exact pk
            · exact pk.elim
          clear pk
          obtain ⟨hρ2, pk⟩ := hp2
          obtain ⟨k1, k2, k3⟩ := keep_at E2 eL nLm fL
          have E2' : Ext (kw && ka) F1 H1 A1 F2 H2 A2 := (Em.trans E2).weak fun z => by
            rw [z, Bool.true_and]
            exact (Bool.and_eq_true_iff.mp z).1
          refine ⟨fun n m Hn => m = ds1.length - n ∧ n ≤ ds1.length ∧ Lc2In C W σ ((τ.set i (some y0)).set j none) i j fw e ds1 (ds.drop (k + 1)) ki (kw && ka) F H A F1 H1 A1 L F2 Q n Hn,
            ⟨ds1.length, by simp, Nat.zero_le _, ρ2, F2, A2, acc, da, Same.refl F2, S2.wipe hρ2, hρ2, k1, RepL.same E2.fs _ _ ra, k2, k3, E2', by rw [List.drop_zero]; exact pk⟩, ?_⟩
          rintro n m Hn ⟨rfl, hn, ρn, Fn, An, accn, dn, sn, Sn, en, eLn, rn, nLn, fLn, En, pn⟩
          obtain ⟨v1, v2⟩ := hJ1 n Hn (sn.trans Sn.same)
          by_cases hlt1 : n < ds1.length
          · refine .inr ⟨(v1 hlt1).1, fun H' => n + 1 ≤ ds1.length ∧ Lc2In C W σ ((τ.set i (some y0)).set j none) i j fw e ds1 (ds.drop (k + 1)) ki (kw && ka) F H A F1 H1 A1 L F2 Q (n + 1) H', fun H' h => ⟨ds1.length - (n + 1), by omega, rfl, h.1, h.2⟩, fun z1 H' hz => ?_⟩
            obtain ⟨e1, d1, ed1, rz⟩ := (v1 hlt1).2 z1 H' hz
            subst e1
            have hdrop1 : ds1.drop n = d1 :: ds1.drop (n + 1) := by
              rw [List.drop_eq_getElem_cons hlt1]
              have z : ds1[n]? = some ds1[n] := List.getElem?_eq_getElem hlt1
              rw [ed1] at z
              cases z; rfl
            rw [hdrop1] at pn
            have hjn : j < ρn.length := (List.getElem?_eq_some_iff.mp en).1
            have rz' : Rep C.K Fn z1 d1 := Rep.same sn _ _ rz
            obtain ⟨Bm, Sm1, inM1⟩ := Sn.putF (v := z1) (d := d1) hjn rz'
            show _ ∧ _
            refine ⟨show (((τ.set i (some y0)).set j none).set j (some z1)).set j none = (τ.set i (some y0)).set j none by rw [List.set_set, List.set_set], ?_⟩
            rw [if_pos rfl]
            have nLb : L ∉ Bm := fun z => nLn (inM1 L z)
            have Eb : Ext (kw && ka) F1 H1 A1 Fn H' Bm := En.sub fun b hb => .inl (inM1 b hb)
            intro s1 H3 L1 cl1 fp1
            refine (he s1 H3 L1 cl1 fp1).frz Sm1 ?_
            unfold lcI at pn
            cases h3 : e (ρn.set j (some d1)) with
            | stk => rw [h3] at pn; exact pn
            | exc y fs ρ3 => rw [h3] at pn; exact pn.elim
            | ok d3 ρ3 =>
              rw [h3] at pn
              dsimp only at pn
              intro z3 F3 H3 A3 S3 r3 E3
              obtain ⟨j1, j2, j3⟩ := keep_at E3 eLn nLb fLn
              have hlen : accn.length < sizeLine ∧ EPost C W σ (ki && (kw && ka)) F H A (contO i j fw e (ds.drop (k + 1)) (lcI j e (ds1.drop (n + 1)) (dn ++ [frz d3]) ρ3)) Q := by
                have la : accn.length = dn.length := rn.length
                split at pn
                · rename_i hz; exact ⟨by rw [la]; exact hz, pn⟩
                · exact pn.elim
              refine ⟨accn, j1, hlen.1, hlt1, ?_⟩
              have S4 : SR C.K (((τ.set i (some y0)).set j none).set j (some z1)) ρ3 F3 (upd H3 L (.lst (accn ++ [z3]))) A3 := by
                refine S3.mono (Same.refl F3) (fun b hb o ho => ?_) (fun b o ho => ?_) S3.free
                · have nb : b ≠ L := fun q => j2 (by rw [← q]; exact hb)
                  rw [upd_ne nb]; exact ho
                · have nb : b ≠ L := fun q => by rw [q, j3] at ho; cases ho
                  rw [upd_ne nb]; exact S3.same _ _ ho
              have r4 : RepL C.K F3 (accn ++ [z3]) (dn ++ [frz d3]) := (RepL.same E3.fs _ _ rn).append (by unfold RepL; exact ⟨z3, [], rfl, r3, by unfold RepL; rfl⟩)
              obtain ⟨A4, S5, sub⟩ := S4.drop (i := j)
              have hj3 : j < ρ3.length := by
                rw [← S4.len, List.length_set, ← Sn.len] at *
                have := Sn.len
                omega
              have e4 : (ρ3.set j none)[j]? = some none := by rw [List.getElem?_set_self hj3]
              have S6 := S5.wipe (z := none) e4
              rw [List.set_set, List.set_set] at S6
              refine ⟨ρ3.set j none, F3, A4, accn ++ [z3], dn ++ [frz d3], sn.trans E3.fs, S6, e4, upd_same, r4, fun z => j2 (sub.subset z), j3, ?_, by rw [lcI_set]; exact hlen.2⟩
              have E5 : Ext (kw && ka) F1 H1 A1 F3 H3 A3 := (Eb.trans E3).weak fun z => by
                rw [z, Bool.true_and]
                exact (Bool.and_eq_true_iff.mp z).2
              refine Ext.sub (A' := A3) ⟨E5.fs, fun b o ho kk => ?_, E5.nf, E5.na⟩ fun b hb => .inl (sub.subset hb)
              have nb : b ≠ L := fun q => by rw [q, hL] at ho; cases ho
              rw [upd_ne nb]
              exact E5.fr b o ho kk
          · have en2 : n = ds1.length := by omega
            subst en2
            refine .inl ⟨v2 (Nat.le_refl _), hlt, ?_⟩
            rw [List.drop_length] at pn
            unfold lcI at pn
            rw [set_back en] at pn
            have pn : EPost C W σ (ki && (kw && ka)) F H A (lcO2 i j fw e (ds.drop (k + 1)) dn ρn) Q := pn
            obtain ⟨A4, S4, sub⟩ := Sn.drop (i := i)
            have hi3 : i < ρn.length := by
              rw [← Sn.len, List.length_set, List.length_set, Sk.len]
              exact hik
            have e4 : (ρn.set i none)[i]? = some none := by rw [List.getElem?_set_self hi3]
            have S5 := S4.wipe (z := none) e4
            rw [wτ] at S5
            exact ⟨ρn.set i none, Fn, A4, accn, dn, S5, e4, by rw [List.getElem?_set_ne hij]; exact en, eLn, rn, fun z => nLn (sub.subset z), fLn, En.sub fun b hb => .inl (sub.subset hb), by rw [lcO2_set]; exact pn⟩
      · have ek2 : k = ds.length := by omega
        subst ek2
        refine .inl ⟨w2 (Nat.le_refl _), ?_⟩
        rw [List.drop_length] at pk
        unfold lcO2 at pk
        rw [set_back ek] at pk
        have S5 : SR C.K σ ρk Fk Hk Ak := by
          rw [← hτ] at Sk
          exact (Sk.unwipe ek).unwipe ekj
        have E5 : Ext (ki && (kw && ka)) F H A Fk Hk Ak := E1.trans Ek
        have nLA : (Ak ++ [L]).Nodup := List.nodup_append.mpr ⟨Sk.nd, by simp, fun a ha b hb q => nL (by rw [List.mem_singleton.mp hb] at q; exact q ▸ ha)⟩
        refine pk (.ref L) Fk Hk Ak [L] S5 ?_ ⟨E5.fs, E5.fr, E5.nf, fun b hb => ?_⟩ nLA fun b hb => by rw [List.mem_singleton.mp hb]; exact fL
        · unfold Own
          exact ⟨L, acc, [], rfl, rfl, eL, RepL.to_own ra⟩
        · rcases List.mem_append.mp hb with z | z
          · exact E5.na b z
          · have z := List.mem_singleton.mp z
            subst z
            by_cases hA : b ∈ A
            · exact .inl hA
            · cases q : H b with
              | none => exact .inr rfl
              | some o =>
                have := E1.fr b o q (.inr hA)
                rw [hL] at this; cases this
theorem de_lc2 {i j : Nat} {x y : Str} {q q1 pos : Pos} {scope : Scope} {iter iter1 elt : Expr} {ki kw : Bool} {fi fw : Env → Out Walk} {e : Env → Out D}
    (O : XOK C lv sc X) (hij : i ≠ j) (hi : DI C X W ki (.Name x q) iter fi) (hN : C.nm.N[i]? = some x) (hN1 : C.nm.N[j]? = some y) (hblk : blkC C.nm.N sc scope [(x, i), (y, j)] = true) (hl : locB (relS scope sc) x = true) (hl1 : locB (relS scope sc) y = true)
    (hll : (relS scope sc).names.lookup x = some .local ∨ scope.names.lookup x = some .cell) (hll1 : (relS scope sc).names.lookup y = some .local ∨ scope.names.lookup y = some .cell)
    (hf : ∀ z, foldedSetIterable iter X.env z = pure z) (hf1 : ∀ env z, foldedSetIterable iter1 env z = pure z)
    (hi1 : ∀ (s : Shared) (H : Hp) (L : Addr) (cl : List (Str × Addr)) (fp : List Addr), DI C (X.blk s H scope (compEnvC scope cl L X.env) fp) W0 kw (.Name y q1) iter1 fw)
    (he : ∀ (s : Shared) (H : Hp) (L : Addr) (cl : List (Str × Addr)) (fp : List Addr), DE C (X.blk s H scope (compEnvC scope cl L X.env) fp) W0 ka elt e) :
    DE C X W (ki && (kw && ka)) (.ListComp elt [⟨.Name x q, iter, [], 0⟩, ⟨.Name y q1, iter1, [], 0⟩] scope pos) (fun ρ => (fi ρ).bind fun w ρ1 => match ρ1[i]?, ρ1[j]? with
      | some none, some none => lcO2 i j fw e w.list [] ρ1
      | _, _ => .stk) := by
  intro σ ρ F H A Q S p
  exact wp_of (pe_lc2 (own := [(x, i), (y, j)]) (vs1 := [j]) (wi1 := WpIB X scope (.Name y q1) iter1) (te := WpB X scope elt) O.calm O.nd pi_wp (blkOk_by (by rw [O.N, O.sc]; exact hblk)) (fun z hz => by simp at hz; subst hz; simp) (lc_pg O hN hl hll) (fun _ _ _ _ _ => pts_nil)
    (fun s H L cl fp => ⟨fun pins s' σ H' Q I h => h s H L cl fp pins s' I⟩) (lc_pg O hN1 hl1 hll1) (fun _ _ _ _ _ => pts_nil) (fun s H L cl fp => ⟨fun pins s' σ H' Q I h => h s H L cl fp pins s' I⟩) hf hf1) (lc2_rd hij hi hi1 he S p)
end
end DS

set_option Elab.async false
set_option linter.all false
set_option maxRecDepth 100000
/-! DS17: all terms. -/
namespace DS
open PySem PySem.Spec PyProof.Rows L2
section
variable {C : Cst} {X : Cx} {W : WX} {lv : Nat} {sc : Scope} {σ : DSt} {ρ ρ1 : Env} {ka kb kc kp : Bool} {tg ea eb ec : Expr} {es : List Expr} {F F' H F1 H1 F2 H2 : Hp} {A A1 A2 B1 : List Addr} {v : V} {d : D} {vs : List V} {ds : List D}

theorem base_ok {o : Expr} {x : Str} {env : PySem.Env} {w : Sem Value} (h : plainO o = true) : attributeBase o x env w = w := by
  cases o with
  | Name => rfl
  | Attribute => rfl
  | Constant => rfl
  | Subscript => rfl
  | Call f as ks p =>
    cases f with
    | Name id q =>
      unfold plainO at h
      have hne : (id != ("super" : Str)) = true := by
        simp only [Bool.not_eq_true', decide_eq_false_iff_not] at h
        exact bne_iff_ne.mpr h
      cases as with
      | cons => rfl
      | nil =>
        cases ks with
        | cons => rfl
        | nil =>
          unfold attributeBase
          dsimp only
          rw [if_pos (by rw [hne]; rfl)]
    | _ => exact nomatch h
  | _ => exact nomatch h
theorem plainIx_ok (h : plainE eb = true) : PlainIx eb := by
  intro o i
  cases eb with
  | Slice => exact nomatch h
  | _ => rfl
theorem marks_ok {op : CmpOp} (h : plainE eb = true) : behindInMarks op eb = false := by
  cases eb with
  | Set => exact nomatch h
  | _ => rfl
theorem folded_ok {env : PySem.Env} (h : plainE ea = true) (z : Value) : foldedSetIterable ea env z = pure z := by
  cases ea with
  | Set => exact nomatch h
  | _ => rfl
theorem flat_find {x : D} : ∀ {ds : List D} {k j : Nat}, findFlat x ds k = some j → ∃ n y, j = k + n ∧ ds[n]? = some y ∧ eqV (vOf y) (vOf x) = true ∧ ∀ m z, m < n → ds[m]? = some z → eqV (vOf z) (vOf x) = false
  | [], k, j, h => by simp [findFlat] at h
  | d :: ds, k, j, h => by
    unfold findFlat at h
    split at h
    · rename_i he
      cases h
      exact ⟨0, d, rfl, rfl, he, fun m z hm => absurd hm (Nat.not_lt_zero _)⟩
    · rename_i he
      obtain ⟨n, y, e1, e2, e3, e4⟩ := flat_find h
      refine ⟨n + 1, y, by omega, by simpa using e2, e3, fun m z hm hz => ?_⟩
      cases m with
      | zero =>
        have : d = z := by simpa using hz
        subst this
        simpa using he
      | succ m => exact e4 m z (by omega) (by simpa using hz)
/-- s.index(t), found -/
def rIdxS : V → List V → Hp → VK → Prop := fun x xs H Q => ∃ (a b : Str) (k : Nat), x = .str a ∧ xs = [.str b] ∧ Txt.index0 a b = some k ∧ Q (.int (k : Nat)) H
theorem mt_idxS (hc : X.calm = true) : MtR X "str.index" rIdxS := by
  rintro pins s σ H x xs v us Q I rx rs ⟨a, b, k, rfl, rfl, e, q⟩
  refine mt_indexX hc takes0 pins s σ H _ _ v us Q I rx rs ⟨a, b, rfl, rfl, fun j hj => ?_, fun hn => ?_⟩
  · rw [e] at hj; cases hj; exact q
  · rw [e] at hn; cases hn
theorem de_me {m : ME} {y : Str} {ap cp : Pos} {f : Env → Out D} {g : Env → Out (List D)} (O : XOK C lv sc X) (hm : meOk m = true) (hy : y = meName m) (ho : plainO ea = true) (hs : (eb :: es).all noStar = true) (hl : es.length < 20) (hline : (ap.endLine == cp.line) = true)
    (ha : DA C X W ka ea f) (ht : DAs C X W kb (eb :: es) g) :
    DE C X W (ka && kb) (.Call (.Attribute ea y ap) (eb :: es) [] cp) (fun ρ => (f ρ).bind fun x ρ1 => if recvOk m x then (g ρ1).bind fun xs ρ2 => if kb || atom x then Out.lift (meD m x xs) ρ2 else .stk else .stk) := by
  cases m with
  | index =>
    subst hy
    intro σ ρ F H A Q S p
    have hs' := hs
    rw [List.all_cons, Bool.and_eq_true] at hs
    -- the receiver's value is known ahead
    have go : ∀ {T id : String} (slot : Slot T "index" id) (pa : PlainAttrs T) (ty : typeOf (.builtin id) = pure (.type "method_descriptor"))
        (fin : ∀ x ρ1, f ρ = .ok x ρ1 → ∀ v F1 H1 A1 B1, SR C.K σ ρ1 F1 H1 A1 → Own C.K F1 H1 v x B1 → tyV X.K T v H1 ∧ ∀ xs ρ2 F2 H2 A2 vs B2, SR C.K σ ρ2 F2 H2 A2 → Own C.K F2 H2 v x B2 → OwnA C.K F2 H2 vs xs → ∀ d, meD .index x xs = some d → Fresh C σ ρ2 F2 H2 A2 d Q → anyMt X id v vs H2 Q),
        Wp X (.Call (.Attribute ea "index" ap) (eb :: es) [] cp) σ H Q := fun {T id} slot pa ty fin => by
      refine wp_of (pe_bm pa slot ty mt_any pe_wp pa_wp (base_ok ho) (few_ok hs' hl) hline (starEach_ns hs.1) (starAny_ns hs.2)) ?_
      refine ha σ ρ F H A _ S ?_
      cases h1 : f ρ with
      | stk => simp only [h1] at p; exact p
      | exc x fs ρ1 => simp only [h1] at p; exact p
      | ok x ρ1 =>
        simp only [h1, Out.bind_ok] at p
        intro v F1 H1 A1 B1 S1 O1 E1
        obtain ⟨t1, t2⟩ := fin x ρ1 h1 v F1 H1 A1 B1 S1 O1
        refine ⟨t1, ?_⟩
        refine ht σ ρ1 F1 H1 A1 _ S1 ?_
        split at p
        case isFalse => exact p.elim
        cases h2 : g ρ1 with
        | stk => rw [h2] at p; exact p
        | exc z fs ρ2 =>
          rw [h2] at p
          exact fun cls d F' H' A' S' E' r => p cls d F' H' A' S' ((E1.trans E').weak fun z => nomatch z) r
        | ok xs ρ2 =>
          rw [h2] at p
          simp only [Out.bind_ok] at p
          intro vs F2 H2 A2 S2 O2 E2
          split at p
          · rename_i hk
            obtain ⟨d, e, q⟩ := lift_elim (ka := true) S2 (EPost.step (E1.trans E2) (by rw [Bool.and_true]; exact p))
            exact t2 xs ρ2 F2 H2 A2 vs B1 S2 (O1.later E2 (by simpa using hk)) O2 d e q
          · exact p.elim
    have lst : (∀ x ρ1, f ρ = .ok x ρ1 → ∃ o ds, x = .lst o ds) → Wp X (.Call (.Attribute ea "index" ap) (eb :: es) [] cp) σ H Q := fun hx => by
      refine go PySem.F.slot_list_index PySem.F.plainAttrs_list PySem.F.type_list_index fun x ρ1 h1 v F1 H1 A1 B1 S1 O1 => ?_
      obtain ⟨o, ds, rfl⟩ := hx x ρ1 h1
      obtain ⟨a, vs0, rfl, ha0, _, _⟩ := O1.lstE S1.same
      refine ⟨.inl ⟨rfl, vs0, O.K ▸ ha0⟩, fun xs ρ2 F2 H2 A2 vs B2 S2 O2 oa d e q => ?_⟩
      match xs, e with
      | [y], e =>
        have e9 : (if flatD y && ds.all flatD then (findFlat y ds 0).map fun k => D.int (k : Nat) else none) = some d := e
        clear e
        split at e9
        · rename_i hf
          rw [Bool.and_eq_true] at hf
          rw [Option.map_eq_some_iff] at e9
          obtain ⟨j, e9, rfl⟩ := e9
          obtain ⟨n, z, rfl, g1, g2, g3⟩ := flat_find e9
          obtain ⟨w, Bw, rfl, ow⟩ := oa.one
          obtain ⟨a', vs', ea', ha', ⟨B', r', _⟩, _⟩ := O2.lstE S2.same
          cases ea'
          obtain ⟨e1, e2⟩ := OwnL.flat hf.2 r'
          obtain ⟨w1, w2, _⟩ := ow.flat hf.1
          subst e1 w1
          rw [Nat.zero_add] at q
          refine ⟨_, mt_index, a, _, _, n, vOf z, rfl, rfl, O.K ▸ ha', w2, e2, by rw [List.getElem?_map, g1]; rfl, g2, fun m z' hm hz' => ?_, q.atom S2 ⟨rfl, rfl⟩⟩
          rw [List.getElem?_map, Option.map_eq_some_iff] at hz'
          obtain ⟨z0, hz0, rfl⟩ := hz'
          exact g3 m z0 hm hz0
        · cases e9
    have str : (∀ x ρ1, f ρ = .ok x ρ1 → ∃ z, x = .str z) → Wp X (.Call (.Attribute ea "index" ap) (eb :: es) [] cp) σ H Q := fun hx => by
      refine go PySem.F.slot_str_index PySem.F.plainAttrs_str PySem.F.type_str_index fun x ρ1 h1 v F1 H1 A1 B1 S1 O1 => ?_
      obtain ⟨z, rfl⟩ := hx x ρ1 h1
      obtain ⟨rfl, _⟩ := O1.strE
      refine ⟨rfl, fun xs ρ2 F2 H2 A2 vs B2 S2 O2 oa d e q => ?_⟩
      match xs, e with
      | [.str y], e =>
        have e9 : (Txt.index0 z y).map (fun k => D.int (k : Nat)) = some d := e
        rw [Option.map_eq_some_iff] at e9
        obtain ⟨k, e9, rfl⟩ := e9
        obtain ⟨w, Bw, rfl, ow⟩ := oa.one
        obtain ⟨rfl, _⟩ := ow.strE
        exact ⟨_, mt_idxS O.calm, z, y, k, rfl, rfl, e9, q.atom S2 ⟨rfl, rfl⟩⟩
    cases h1 : f ρ with
    | stk => simp only [h1] at p; exact p.elim
    | exc x fs ρ1 => exact lst fun x ρ1 h => by rw [h1] at h; cases h
    | ok x ρ1 =>
      cases x with
      | lst o ds => exact lst fun x ρ1 h => by rw [h1] at h; cases h; exact ⟨o, ds, rfl⟩
      | str z => exact str fun x ρ1 h => by rw [h1] at h; cases h; exact ⟨z, rfl⟩
      | _ =>
        exfalso
        simp only [h1, Out.bind_ok, recvOk] at p
        exact p
  | _ => exact nomatch hm
end
end DS

set_option Elab.async false
set_option linter.all false
set_option maxRecDepth 100000
set_option maxHeartbeats 8000000
/-! DS18: THE THEOREM for terms. -/
namespace DS
open PySem PySem.Spec PyProof.Rows L2
theorem all_and {p q : Bool} (h : (p && q) = true) : p = true ∧ q = true := Bool.and_eq_true_iff.mp h
section
variable {M : Nm} {sc : Scope} {e : Expr}
theorem inv_lc {i it c el} (h : cTm M sc (.lc i it c el) e = true) : ∃ elt x q iter ifs scope p, e = .ListComp elt [⟨.Name x q, iter, ifs, 0⟩] scope p ∧
   M.N[i]? = some x ∧ blkC M.N sc scope [(x, i)] = true ∧ locB (relS scope sc) x = true ∧ ((relS scope sc).names.lookup x = some .local ∨ scope.names.lookup x = some .cell) ∧ plainE iter = true ∧
   cIt M sc it iter = true ∧ cOTs M (relS scope sc) c ifs = true ∧ cTm M (relS scope sc) el elt = true := by
  cases e with
  | ListComp elt gs scope p =>
    cases gs with
    | nil => exact nomatch h
    | cons g gs =>
      cases gs with
      | cons _ _ =>
        obtain ⟨tg, iter, ifs, z⟩ := g
        cases tg <;> exact nomatch h
      | nil =>
        obtain ⟨tg, iter, ifs, z⟩ := g
        cases tg with
        | Name x q =>
          have h : (decide (z = 0) && decide (M.N[i]? = some x) && blkC M.N sc scope [(x, i)] && locB (relS scope sc) x &&
            (decide ((relS scope sc).names.lookup x = some .local) || decide (scope.names.lookup x = some .cell)) && plainE iter && cIt M sc it iter &&
            cOTs M (relS scope sc) c ifs && cTm M (relS scope sc) el elt) = true := h
          have a8 := all_and h
          have a7 := all_and a8.1
          have a6 := all_and a7.1
          have a5 := all_and a6.1
          have a4 := all_and a5.1
          have a3 := all_and a4.1
          have a2 := all_and a3.1
          have a1 := all_and a2.1
          have z0 := of_decide_eq_true a1.1
          subst z0
          exact ⟨elt, x, q, iter, ifs, scope, p, rfl, of_decide_eq_true a1.2, a2.2, a3.2, (Bool.or_eq_true_iff.mp a4.2).imp of_decide_eq_true of_decide_eq_true, a5.2, a6.2, a7.2, a8.2⟩
        | _ => exact nomatch h
  | _ => exact nomatch h
theorem inv_lc2 {i it j it2 el} (h : cTm M sc (.lc2 i it j it2 el) e = true) : ∃ elt x q iter y q1 iter1 scope p, e = .ListComp elt [⟨.Name x q, iter, [], 0⟩, ⟨.Name y q1, iter1, [], 0⟩] scope p ∧
   i ≠ j ∧ M.N[i]? = some x ∧ M.N[j]? = some y ∧ blkC M.N sc scope [(x, i), (y, j)] = true ∧ locB (relS scope sc) x = true ∧ locB (relS scope sc) y = true ∧ ((relS scope sc).names.lookup x = some .local ∨ scope.names.lookup x = some .cell) ∧ ((relS scope sc).names.lookup y = some .local ∨ scope.names.lookup y = some .cell) ∧ plainE iter = true ∧ plainE iter1 = true ∧
   cIt M sc it iter = true ∧ cIt M (relS scope sc) it2 iter1 = true ∧ cTm M (relS scope sc) el elt = true := by
  cases e with
  | ListComp elt gs scope p =>
    match gs, h with
    | [⟨.Name x q, iter, [], z⟩, ⟨.Name y q1, iter1, [], z1⟩], h =>
      have h : (decide (z = 0) && decide (z1 = 0) && decide (i ≠ j) && decide (M.N[i]? = some x) && decide (M.N[j]? = some y) && blkC M.N sc scope [(x, i), (y, j)] && locB (relS scope sc) x && locB (relS scope sc) y &&
      (decide ((relS scope sc).names.lookup x = some .local) || decide (scope.names.lookup x = some .cell)) && (decide ((relS scope sc).names.lookup y = some .local) || decide (scope.names.lookup y = some .cell)) && plainE iter && plainE iter1 && cIt M sc it iter &&
      cIt M (relS scope sc) it2 iter1 && cTm M (relS scope sc) el elt) = true := h
      simp only [Bool.and_eq_true, Bool.or_eq_true, decide_eq_true_eq] at h
      obtain ⟨⟨⟨⟨⟨⟨⟨⟨⟨⟨⟨⟨⟨⟨a1, a2⟩, a3⟩, a4⟩, a5⟩, a6⟩, a7⟩, a8⟩, a9⟩, a10⟩, a11⟩, a12⟩, a13⟩, a14⟩, a15⟩ := h
      subst a1 a2
      exact ⟨elt, x, q, iter, y, q1, iter1, scope, p, rfl, a3, a4, a5, a6, a7, a8, a9, a10, a11, a12, a13, a14, a15⟩
  | _ => exact nomatch h
end
section
variable {C : Cst} {lv : Nat}

theorem DCs.weak {X : Cx} {W : WX} {k : Bool} {es : List Expr} {f : Env → Out (List AV)} (h : DCs C X W k es f) : DCs C X W false es f := by
  intro σ ρ F H A Q S p
  refine h σ ρ F H A Q S ?_
  cases hf : f ρ with
  | ok vs ρ' =>
    rw [hf] at p
    exact fun vs F' H' A' B S r x n f => p vs F' H' A' B S r (x.weak fun z => nomatch z) n f
  | exc => rw [hf] at p; exact p
  | stk => rw [hf] at p; exact p
theorem evC_pat : ∀ {S : Sg} {cs : Cas} {ρ ρ' : Env} {as : List AV}, evC S cs ρ = .ok as ρ' → avM as = casM cs ∧ (kCas cs = true → mutIx as = [])
  | S, .nil, ρ, ρ', as, h => by
    simp only [evC] at h
    cases h
    exact ⟨rfl, fun _ => rfl⟩
  | S, .cons (.bor i) cs, ρ, ρ', as, h => by
    simp only [evC] at h
    split at h
    · cases h1 : evC S cs ρ with
      | stk => rw [h1] at h; cases h
      | exc => rw [h1] at h; cases h
      | ok vs ρ1 =>
        rw [h1] at h
        cases h
        obtain ⟨p1, p2⟩ := evC_pat h1
        exact ⟨by simp only [avM, casM, p1], fun k => by simp only [mutIx]; exact p2 (all_and (by simpa only [kCas] using k)).2⟩
    · cases h
  | S, .cons (.mt i) cs, ρ, ρ', as, h => by
    simp only [evC] at h
    split at h
    · cases h1 : evC S cs ρ with
      | stk => rw [h1] at h; cases h
      | exc => rw [h1] at h; cases h
      | ok vs ρ1 =>
        rw [h1] at h
        cases h
        obtain ⟨p1, p2⟩ := evC_pat h1
        exact ⟨by simp only [avM, casM, p1], fun k => by simp [kCas, kCa] at k⟩
    · cases h
  | S, .cons (.vl t) cs, ρ, ρ', as, h => by
    simp only [evC] at h
    cases h0 : ev S t ρ with
    | stk => rw [h0] at h; cases h
    | exc => rw [h0] at h; cases h
    | ok d ρ0 =>
      rw [h0] at h
      simp only [Out.bind_ok] at h
      cases h1 : evC S cs ρ0 with
      | stk => rw [h1] at h; cases h
      | exc => rw [h1] at h; cases h
      | ok vs ρ1 =>
        rw [h1] at h
        cases h
        obtain ⟨p1, p2⟩ := evC_pat h1
        exact ⟨by simp only [avM, casM, p1], fun k => by simp only [mutIx]; exact p2 (all_and (by simpa only [kCas] using k)).2⟩

mutual
theorem sTm : ∀ (t : Tm) {sc : Scope} {X : Cx} {W : WX} {e : Expr}, XOK C lv sc X → Takes X W → cTm C.nm sc t e = true → DE C X W (kTm t) e (ev C.sg t)
  | .kk d, sc, X, W, e, O, tk, h => by
    cases d with
    | int i =>
      cases e with
      | Constant c k p =>
        cases c with
        | int j => exact de_kk (of_decide_eq_true h)
        | _ => exact nomatch h
      | _ => exact nomatch h
    | bl i =>
      cases e with
      | Constant c k p =>
        cases c with
        | bool j => exact de_kk (of_decide_eq_true h)
        | _ => exact nomatch h
      | _ => exact nomatch h
    | str i =>
      cases e with
      | Constant c k p =>
        cases c with
        | str j => exact de_kk (of_decide_eq_true h)
        | _ => exact nomatch h
      | _ => exact nomatch h
    | non =>
      cases e with
      | Constant c k p =>
        cases c with
        | none => exact de_kk True.intro
        | _ => exact nomatch h
      | _ => exact nomatch h
    | ty t =>
      cases e with
      | Name x p => cases t <;> exact de_ty O h
      | _ => exact nomatch h
    | _ => cases e <;> exact nomatch h
  | .gc i, sc, X, W, e, O, tk, h => by
    cases e with
    | Name x p => exact de_gc O h
    | _ => exact nomatch h
  | .mv i, sc, X, W, e, O, tk, h => by
    cases e with
    | Name x p => exact de_mv O h
    | _ => exact nomatch h
  | .tk i, sc, X, W, e, O, tk, h => by
    cases e with
    | Name x p => exact de_tk O h
    | _ => exact nomatch h
  | .fld p, sc, X, W, e, O, tk, h => nomatch h
  | .bin o a b, sc, X, W, e, O, tk, h => by
    cases e with
    | BinOp l op r p =>
      obtain ⟨h1, h2⟩ := all_and h
      obtain ⟨h0, h1⟩ := all_and h1
      exact de_bin O h0 (sAr a O tk h1) (sAr b O tk h2)
    | _ => exact nomatch h
  | .neg a, sc, X, W, e, O, tk, h => by
    cases e with
    | UnaryOp op x p =>
      cases op with
      | USub => exact de_neg O (sAr a O tk h)
      | _ => exact nomatch h
    | _ => exact nomatch h
  | .cmp o a b, sc, X, W, e, O, tk, h => by
    cases e with
    | Compare l ops rs p =>
      match ops, rs, h with
      | [op], [r], h =>
        obtain ⟨h1, h3⟩ := all_and h
        obtain ⟨h1, h2⟩ := all_and h1
        obtain ⟨h0, h1⟩ := all_and h1
        exact de_cmp O h0 (marks_ok h3) (sAr a O tk h1) (sAr b O tk h2)
    | _ => exact nomatch h
  | .chn o1 o2 a b c, sc, X, W, e, O, tk, h => by
    cases e with
    | Compare l ops rs p =>
      match ops, rs, h with
      | [p1, p2], [r, t], h =>
        obtain ⟨h1, h6⟩ := all_and h
        obtain ⟨h1, h5⟩ := all_and h1
        obtain ⟨h1, h4⟩ := all_and h1
        obtain ⟨h1, h3⟩ := all_and h1
        obtain ⟨h1, h2⟩ := all_and h1
        obtain ⟨h0, h1⟩ := all_and h1
        exact de_chn O h0 h1 (marks_ok h6) (sAr a O tk h2) (sAr b O tk h3) (sAr c O tk h4)
    | _ => exact nomatch h
  | .sub a i, sc, X, W, e, O, tk, h => by
    cases e with
    | Subscript l r p =>
      obtain ⟨h1, h3⟩ := all_and h
      obtain ⟨h1, h2⟩ := all_and h1
      exact de_sub O (plainIx_ok h3) (sAr a O tk h1) (sAr i O tk h2)
    | _ => exact nomatch h
  | .slc a l u, sc, X, W, e, O, tk, h => by
    cases e with
    | Subscript x r p =>
      match r, h with
      | .Slice lo hi none p2, h =>
        obtain ⟨h1, h3⟩ := all_and h
        obtain ⟨h1, h2⟩ := all_and h1
        exact de_slc O (sAr a O tk h1) (sOAr l O tk h2) (sOAr u O tk h3)
    | _ => exact nomatch h
  | .bi f as, sc, X, W, e, O, tk, h => by
    match as, e, h with
    | .cons a as, .Call (.Name x q) (e :: es) [] p, h =>
      obtain ⟨h1, h4⟩ := all_and h
      obtain ⟨h1, h3⟩ := all_and h1
      obtain ⟨h1, h2⟩ := all_and h1
      exact de_bi O h1 h4 (das_cons (all_and h4).1 (sAr a O tk h2) (sArs as O tk h3 (all_and h4).2))
  | .me m a as, sc, X, W, e, O, tk, h => by
    match as, e, h with
    | .cons b bs, .Call (.Attribute o x ap) (e :: es) [] cp, h =>
      obtain ⟨h1, h9⟩ := all_and h
      obtain ⟨h1, h8⟩ := all_and h1
      obtain ⟨h1, h7⟩ := all_and h1
      obtain ⟨h1, h6⟩ := all_and h1
      obtain ⟨h1, h5⟩ := all_and h1
      obtain ⟨h1, h4⟩ := all_and h1
      obtain ⟨h1, h3⟩ := all_and h1
      obtain ⟨h1, h2⟩ := all_and h1
      exact de_me O h1 (of_decide_eq_true h2) h4 h7 (of_decide_eq_true h8) h9 (sAr a O tk h3) (das_cons (all_and h7).1 (sAr b O tk h5) (sArs bs O tk h6 (all_and h7).2))
  | .tup ts, sc, X, W, e, O, tk, h => by
    cases e with
    | Tuple es k p => exact de_tup (sTms ts O tk (all_and h).1 (all_and h).2)
    | _ => exact nomatch h
  | .lst ts, sc, X, W, e, O, tk, h => by
    cases e with
    | List es p => exact de_lst (sTms ts O tk (all_and h).1 (all_and h).2)
    | _ => exact nomatch h
  | .dct ks vs, sc, X, W, e, O, tk, h => nomatch h
  | .call f as, sc, X, W, e, O, tk, h => by
    match e, h with
    | .Call (.Name x q) (e :: es) [] p, h =>
      obtain ⟨h1, h5⟩ := all_and h
      obtain ⟨h1, h4⟩ := all_and h1
      obtain ⟨h1, h3⟩ := all_and h1
      obtain ⟨h1, h2⟩ := all_and h1
      cases hf : C.nm.fn[f]? with
      | none => rw [hf] at h1; exact nomatch h1
      | some yms =>
        obtain ⟨y, ms⟩ := yms
        rw [hf] at h1
        obtain ⟨g1, g2⟩ := all_and h1
        have g1 := of_decide_eq_true g1
        have g2 := of_decide_eq_true g2
        subst g1 g2
        exact de_call O tk hf h2 h3 h5 (fun ρ as' ρ' hh => (evC_pat hh).1) (fun k ρ as' ρ' hh => (evC_pat hh).2 k) (sCas as O tk h4 h5)
  | .ite c a b, sc, X, W, e, O, tk, h => by
    cases e with
    | IfExp t x y p =>
      obtain ⟨h1, h3⟩ := all_and h
      obtain ⟨h1, h2⟩ := all_and h1
      exact de_ite (sTs c O tk h1) (sTm a O tk h2) (sTm b O tk h3)
    | _ => exact nomatch h
  | .tst c, sc, X, W, e, O, tk, h => by
    refine de_tst (sTv c O tk ?_)
    cases e <;> exact h
  | .lc i it c el, sc, X, W, e, O, tk, h => by
    obtain ⟨elt, x, q, iter, ifs, scope, p, rfl, h1, h2, h3, hll, h5, h6, h7, h8⟩ := inv_lc h
    have he : ∀ (s : Shared) (H : Hp) (L : Addr) (cl : List (Str × Addr)) (fp : List Addr), DE C (X.blk s H scope (compEnvC scope cl L X.env) fp) W0 (kTm el) elt (ev C.sg el) := fun s H L cl fp => sTm el (O.blk scope s H cl L fp) takes0 h8
    obtain ⟨tt, ht, hc⟩ := sOTs c (fun s H cl L fp => O.blk scope s H cl L fp) h7
    exact de_lc O (sIt it O tk h6) h1 h2 h3 hll (folded_ok h5) ht hc he
  | .lc2 i it j it2 el, sc, X, W, e, O, tk, h => by
    obtain ⟨elt, x, q, iter, y, q1, iter1, scope, p, rfl, hij, h1, h1', h2, h3, h3', hll, hll', h5, h5', h6, h7, h8⟩ := inv_lc2 h
    have he : ∀ (s : Shared) (H : Hp) (L : Addr) (cl : List (Str × Addr)) (fp : List Addr), DE C (X.blk s H scope (compEnvC scope cl L X.env) fp) W0 (kTm el) elt (ev C.sg el) := fun s H L cl fp => sTm el (O.blk scope s H cl L fp) takes0 h8
    have hi1 : ∀ (s : Shared) (H : Hp) (L : Addr) (cl : List (Str × Addr)) (fp : List Addr), DI C (X.blk s H scope (compEnvC scope cl L X.env) fp) W0 (kIt it2) (.Name y q1) iter1 (evI C.sg it2) := fun s H L cl fp => sIt it2 (O.blk scope s H cl L fp) takes0 h7
    exact de_lc2 O hij (sIt it O tk h6) h1 h1' h2 h3 h3' hll hll' (folded_ok h5) (fun env => folded_ok h5') hi1 he
  | .mu m i as, sc, X, W, e, O, tk, h => by
    match e, h with
    | .Call (.Attribute (.Name x q) y ap) es [] cp, h =>
      have a7 := all_and h
      have a6 := all_and a7.1
      have a5 := all_and a6.1
      have a4 := all_and a5.1
      have a3 := all_and a4.1
      have a2 := all_and a3.1
      have h7 := a7.2
      have h6 := a6.2
      have h5 := a5.2
      have h4 := a4.2
      have h3 := a3.2
      have h2 := a2.2
      have h1 := a2.1
      clear a2 a3 a4 a5 a6 a7 h
      match as, es, h4, h5, h6 with
      | .nil, [], _, _, _ => exact de_mu0 O h1 h2 (of_decide_eq_true h3) h7
      | .cons a as, e :: es, h4, h5, h6 =>
        exact de_mu O h1 h2 (of_decide_eq_true h3) h5 (Nat.lt_of_succ_lt (of_decide_eq_true h6)) h7 (dts_cons (all_and h5).1 (sTm a O tk (all_and h4).1) (sTms as O tk (all_and h4).2 (all_and h5).2))
termination_by structural t => t
theorem sAr : ∀ (a : Ar) {sc : Scope} {X : Cx} {W : WX} {e : Expr}, XOK C lv sc X → Takes X W → cAr C.nm sc a e = true → DA C X W (kAr a) e (evA C.sg a)
  | .pk (.sl i), sc, X, W, e, O, tk, h => by
    cases e with
    | Name x p => exact da_pk O h
    | _ => exact nomatch h
  | .pk (.fl p f), sc, X, W, e, O, tk, h => nomatch h
  | .vl t, sc, X, W, e, O, tk, h => (sTm t O tk h).da
termination_by structural t => t
theorem sOAr : ∀ (a : OAr) {sc : Scope} {X : Cx} {W : WX} {e : Option Expr}, XOK C lv sc X → Takes X W → cOAr C.nm sc a e = true → DO C X W (kOAr a) e (evOA C.sg a)
  | .none, sc, X, W, none, O, tk, h => do_none
  | .some a, sc, X, W, some e, O, tk, h => do_some (sAr a O tk h)
  | .none, sc, X, W, some _, O, tk, h => nomatch h
  | .some _, sc, X, W, none, O, tk, h => nomatch h
termination_by structural t => t
theorem sArs : ∀ (as : Ars) {sc : Scope} {X : Cx} {W : WX} {es : List Expr}, XOK C lv sc X → Takes X W → cArs C.nm sc as es = true → es.all noStar = true → DAs C X W (kArs as) es (evAs C.sg as)
  | .nil, sc, X, W, [], O, tk, h, _ => das_nil
  | .cons a as, sc, X, W, e :: es, O, tk, h, hs => das_cons (all_and hs).1 (sAr a O tk (all_and h).1) (sArs as O tk (all_and h).2 (all_and hs).2)
  | .nil, sc, X, W, _ :: _, O, tk, h, _ => nomatch h
  | .cons _ _, sc, X, W, [], O, tk, h, _ => nomatch h
termination_by structural t => t
theorem sTms : ∀ (as : Tms) {sc : Scope} {X : Cx} {W : WX} {es : List Expr}, XOK C lv sc X → Takes X W → cTms C.nm sc as es = true → es.all noStar = true → DTs C X W (kTms as) es (evTs C.sg as)
  | .nil, sc, X, W, [], O, tk, h, _ => dts_nil
  | .cons a as, sc, X, W, e :: es, O, tk, h, hs => dts_cons (all_and hs).1 (sTm a O tk (all_and h).1) (sTms as O tk (all_and h).2 (all_and hs).2)
  | .nil, sc, X, W, _ :: _, O, tk, h, _ => nomatch h
  | .cons _ _, sc, X, W, [], O, tk, h, _ => nomatch h
termination_by structural t => t
theorem sCas : ∀ (as : Cas) {sc : Scope} {X : Cx} {W : WX} {es : List Expr}, XOK C lv sc X → Takes X W → cCas C.nm sc as es = true → es.all noStar = true → DCs C X W (kCas as) es (evC C.sg as)
  | .nil, sc, X, W, [], O, tk, h, _ => dcs_nil
  | .cons (.vl t) as, sc, X, W, e :: es, O, tk, h, hs => dcs_val (all_and hs).1 (sTm t O tk (all_and h).1) (sCas as O tk (all_and h).2 (all_and hs).2)
  | .cons (.bor i) as, sc, X, W, e :: es, O, tk, h, hs => by
    obtain ⟨h1, h2⟩ := all_and h
    cases e with
    | Name x p => exact dcs_slot (.inl rfl) O h1 (sCas as O tk h2 (all_and hs).2)
    | _ => exact nomatch h1
  | .cons (.mt i) as, sc, X, W, e :: es, O, tk, h, hs => by
    obtain ⟨h1, h2⟩ := all_and h
    cases e with
    | Name x p =>
      exact DCs.weak (dcs_slot (a := .m i) (.inr rfl) O h1 (sCas as O tk h2 (all_and hs).2))
    | _ => exact nomatch h1
  | .nil, sc, X, W, _ :: _, O, tk, h, _ => nomatch h
  | .cons _ _, sc, X, W, [], O, tk, h, _ => nomatch h
termination_by structural t => t
theorem sTs : ∀ (t : Ts) {sc : Scope} {X : Cx} {W : WX} {e : Expr}, XOK C lv sc X → Takes X W → cTs C.nm sc t e = true → DT C X W (kTs t) e (evT C.sg t)
  | .vl t, sc, X, W, e, O, tk, h => by
    by_cases ht : isTr e = true
    · have h1 : cTm C.nm sc t e = true := by
        cases e with
        | Compare => exact nomatch ht
        | _ => cases t <;> exact (all_and h).1
      exact dt_vl (sTm t O tk h1) ht
    · cases e with
      | Compare l ops rs p =>
        cases t with
        | cmp o a b =>
          match ops, rs, h with
          | [op], [r], h =>
            obtain ⟨h1, h3⟩ := all_and h
            obtain ⟨h1, h2⟩ := all_and h1
            obtain ⟨h0, h1⟩ := all_and h1
            exact dt_cmp O h0 (marks_ok h3) (sAr a O tk h1) (sAr b O tk h2)
          | [], _, h => exact absurd (all_and h).2 ht
          | _ :: _ :: _, _, h => exact absurd (all_and h).2 ht
          | [_], [], h => exact absurd (all_and h).2 ht
          | [_], _ :: _ :: _, h => exact absurd (all_and h).2 ht
        | chn o1 o2 a b c =>
          match ops, rs, h with
          | [p1, p2], [r, t], h =>
            obtain ⟨h1, h6⟩ := all_and h
            obtain ⟨h1, h5⟩ := all_and h1
            obtain ⟨h1, h4⟩ := all_and h1
            obtain ⟨h1, h3⟩ := all_and h1
            obtain ⟨h1, h2⟩ := all_and h1
            obtain ⟨h0, h1⟩ := all_and h1
            exact dt_chn O h0 h1 (marks_ok h6) (sAr a O tk h2) (sAr b O tk h3) (sAr c O tk h4)
          | [], _, h => exact absurd (all_and h).2 ht
          | [_], _, h => exact absurd (all_and h).2 ht
          | _ :: _ :: _ :: _, _, h => exact absurd (all_and h).2 ht
          | [_, _], [], h => exact absurd (all_and h).2 ht
          | [_, _], [_], h => exact absurd (all_and h).2 ht
          | [_, _], _ :: _ :: _ :: _, h => exact absurd (all_and h).2 ht
        | _ => exact absurd (all_and h).2 ht
      | _ => cases t <;> exact absurd (all_and h).2 ht
  | .tr a, sc, X, W, e, O, tk, h => dt_tr O (sAr a O tk (all_and h).1) (all_and h).2
  | .and a b, sc, X, W, e, O, tk, h => by
    match e, h with
    | .BoolOp .And [x, y] p, h => exact (dw_and (sTs a O tk (all_and h).1) (dw_and1 (sTs b O tk (all_and h).2))).dt
    | .BoolOp .And (x :: y :: z :: r) p, h => exact (dw_and (sTs a O tk (all_and h).1) (sTsA b O tk (all_and h).2)).dt
  | .or a b, sc, X, W, e, O, tk, h => by
    match e, h with
    | .BoolOp .Or [x, y] p, h => exact (dw_or (sTs a O tk (all_and h).1) (dw_or1 (sTs b O tk (all_and h).2))).dt
    | .BoolOp .Or (x :: y :: z :: r) p, h => exact (dw_or (sTs a O tk (all_and h).1) (sTsO b O tk (all_and h).2)).dt
  | .not a, sc, X, W, e, O, tk, h => by
    match e, h with
    | .UnaryOp .Not e p, h => exact dt_not (sTs a O tk h)
termination_by structural t => t
theorem sTsA : ∀ (t : Ts) {sc : Scope} {X : Cx} {W : WX} {y : Expr} {r : List Expr} {p : Pos}, XOK C lv sc X → Takes X W → cTsL C.nm sc .And t y r = true → DW C X W (kTs t) (.BoolOp .And (y :: r) p) (evT C.sg t)
  | .and a b, sc, X, W, y, [z], p, O, tk, h => dw_and (sTs a O tk (all_and h).1) (dw_and1 (sTs b O tk (all_and h).2))
  | .and a b, sc, X, W, y, z :: w :: r, p, O, tk, h => dw_and (sTs a O tk (all_and h).1) (sTsA b O tk (all_and h).2)
  | .and _ _, sc, X, W, y, [], p, O, tk, h => nomatch h
  | .or _ _, sc, X, W, y, _, p, O, tk, h => nomatch h
  | .vl _, sc, X, W, y, _, p, O, tk, h => nomatch h
  | .tr _, sc, X, W, y, _, p, O, tk, h => nomatch h
  | .not _, sc, X, W, y, _, p, O, tk, h => nomatch h
termination_by structural t => t
theorem sTsO : ∀ (t : Ts) {sc : Scope} {X : Cx} {W : WX} {y : Expr} {r : List Expr} {p : Pos}, XOK C lv sc X → Takes X W → cTsL C.nm sc .Or t y r = true → DW C X W (kTs t) (.BoolOp .Or (y :: r) p) (evT C.sg t)
  | .or a b, sc, X, W, y, [z], p, O, tk, h => dw_or (sTs a O tk (all_and h).1) (dw_or1 (sTs b O tk (all_and h).2))
  | .or a b, sc, X, W, y, z :: w :: r, p, O, tk, h => dw_or (sTs a O tk (all_and h).1) (sTsO b O tk (all_and h).2)
  | .or _ _, sc, X, W, y, [], p, O, tk, h => nomatch h
  | .and _ _, sc, X, W, y, _, p, O, tk, h => nomatch h
  | .vl _, sc, X, W, y, _, p, O, tk, h => nomatch h
  | .tr _, sc, X, W, y, _, p, O, tk, h => nomatch h
  | .not _, sc, X, W, y, _, p, O, tk, h => nomatch h
termination_by structural t => t
theorem sTv : ∀ (t : Ts) {sc : Scope} {X : Cx} {W : WX} {e : Expr}, XOK C lv sc X → Takes X W → cTv C.nm sc t e = true → DV C X W (kTs t) e (evT C.sg t)
  | .vl t, sc, X, W, e, O, tk, h => dv_vl (sTm t O tk (by cases e <;> exact h))
  | .tr a, sc, X, W, e, O, tk, h => by cases e <;> exact nomatch h
  | .and a b, sc, X, W, e, O, tk, h => by
    match e, h with
    | .BoolOp .And [x, y] p, h => exact dv_and (sTv a O tk (all_and h).1) (dv_one (sTv b O tk (all_and h).2))
    | .BoolOp .And (x :: y :: z :: r) p, h => exact dv_and (sTv a O tk (all_and h).1) (sTvA b O tk (all_and h).2)
  | .or a b, sc, X, W, e, O, tk, h => by
    match e, h with
    | .BoolOp .Or [x, y] p, h => exact dv_or (sTv a O tk (all_and h).1) (dv_one (sTv b O tk (all_and h).2))
    | .BoolOp .Or (x :: y :: z :: r) p, h => exact dv_or (sTv a O tk (all_and h).1) (sTvO b O tk (all_and h).2)
  | .not a, sc, X, W, e, O, tk, h => by
    match e, h with
    | .UnaryOp .Not e p, h => exact dv_not (sTv a O tk h)
termination_by structural t => t
theorem sTvA : ∀ (t : Ts) {sc : Scope} {X : Cx} {W : WX} {y : Expr} {r : List Expr} {p : Pos}, XOK C lv sc X → Takes X W → cTvL C.nm sc .And t y r = true → DV C X W (kTs t) (.BoolOp .And (y :: r) p) (evT C.sg t)
  | .and a b, sc, X, W, y, [z], p, O, tk, h => dv_and (sTv a O tk (all_and h).1) (dv_one (sTv b O tk (all_and h).2))
  | .and a b, sc, X, W, y, z :: w :: r, p, O, tk, h => dv_and (sTv a O tk (all_and h).1) (sTvA b O tk (all_and h).2)
  | .and _ _, sc, X, W, y, [], p, O, tk, h => nomatch h
  | .or _ _, sc, X, W, y, _, p, O, tk, h => nomatch h
  | .vl _, sc, X, W, y, _, p, O, tk, h => nomatch h
  | .tr _, sc, X, W, y, _, p, O, tk, h => nomatch h
  | .not _, sc, X, W, y, _, p, O, tk, h => nomatch h
termination_by structural t => t
theorem sTvO : ∀ (t : Ts) {sc : Scope} {X : Cx} {W : WX} {y : Expr} {r : List Expr} {p : Pos}, XOK C lv sc X → Takes X W → cTvL C.nm sc .Or t y r = true → DV C X W (kTs t) (.BoolOp .Or (y :: r) p) (evT C.sg t)
  | .or a b, sc, X, W, y, [z], p, O, tk, h => dv_or (sTv a O tk (all_and h).1) (dv_one (sTv b O tk (all_and h).2))
  | .or a b, sc, X, W, y, z :: w :: r, p, O, tk, h => dv_or (sTv a O tk (all_and h).1) (sTvO b O tk (all_and h).2)
  | .or _ _, sc, X, W, y, [], p, O, tk, h => nomatch h
  | .and _ _, sc, X, W, y, _, p, O, tk, h => nomatch h
  | .vl _, sc, X, W, y, _, p, O, tk, h => nomatch h
  | .tr _, sc, X, W, y, _, p, O, tk, h => nomatch h
  | .not _, sc, X, W, y, _, p, O, tk, h => nomatch h
termination_by structural t => t
theorem sOTs : ∀ (c : OTs) {sc : Scope} {X : Cx} {scope : Scope} {ifs : List Expr}, (∀ (s : Shared) (H : Hp) (cl : List (Str × Addr)) (L : Addr) (fp : List Addr), XOK C lv (relS scope sc) (X.blk s H scope (compEnvC scope cl L X.env) fp)) → cOTs C.nm (relS scope sc) c ifs = true →
    ∃ tt : TT, (∀ (s : Shared) (H : Hp) (L : Addr) (cl : List (Str × Addr)) (fp : List Addr), PTs (X.blk s H scope (compEnvC scope cl L X.env) fp) ifs tt) ∧ ∀ σ ρ F H A Q, SR C.K σ ρ F H A → BPost C W0 σ (kOTs c) F H A (evOT C.sg c ρ) Q → tt σ H Q
  | .none, sc, X, scope, [], O, h => ⟨_, fun s H L cl fp => pts_nil, fun σ ρ F H A Q S p => p F H A S (Ext.refl _ _ _ _)⟩
  | .some t, sc, X, scope, [b], O, h => ⟨WpTB X scope b, fun s H L cl fp => pts_one ⟨fun pins s' σ H' Q I hh => hh s H L cl fp pins s' I⟩, fun σ ρ F H A Q S p s H0 L cl fp => sTs t (O s H0 cl L fp) takes0 h σ ρ F H A Q S p⟩
  | .none, sc, X, scope, _ :: _, O, h => nomatch h
  | .some _, sc, X, scope, [], O, h => nomatch h
  | .some _, sc, X, scope, _ :: _ :: _, O, h => nomatch h
termination_by structural t => t
theorem sIt : ∀ (it : It) {sc : Scope} {X : Cx} {W : WX} {tg e : Expr}, XOK C lv sc X → Takes X W → cIt C.nm sc it e = true → DI C X W (kIt it) tg e (evI C.sg it)
  | .seq (.pk (.sl i)), sc, X, W, tg, e, O, tk, h => by
    cases e with
    | Name x p => exact di_slot O h
    | _ => exact nomatch h
  | .seq (.pk (.fl p f)), sc, X, W, tg, e, O, tk, h => nomatch h
  | .seq (.vl t), sc, X, W, tg, e, O, tk, h => di_val O (sTm t O tk h)
  | .rng1 a, sc, X, W, tg, e, O, tk, h => by
    match e, h with
    | .Call (.Name x q) [e] [] p, h =>
      obtain ⟨h1, h3⟩ := all_and h
      obtain ⟨h1, h2⟩ := all_and h1
      exact di_rng1 O h1 h3 (sAr a O tk h2)
  | .rng2 a b, sc, X, W, tg, e, O, tk, h => by
    match e, h with
    | .Call (.Name x q) [e, f] [] p, h =>
      obtain ⟨h1, h5⟩ := all_and h
      obtain ⟨h1, h4⟩ := all_and h1
      obtain ⟨h1, h3⟩ := all_and h1
      obtain ⟨h1, h2⟩ := all_and h1
      exact di_rng2 O h1 h4 h5 (sAr a O tk h2) (sAr b O tk h3)
  | .rng3 _ _ _, sc, X, W, tg, e, O, tk, h => nomatch h
  | .enum _, sc, X, W, tg, e, O, tk, h => nomatch h
  | .zip _ _, sc, X, W, tg, e, O, tk, h => nomatch h
  | .revd _, sc, X, W, tg, e, O, tk, h => nomatch h
termination_by structural t => t
end
end
end DS

set_option Elab.async false
set_option linter.all false
set_option maxRecDepth 100000
set_option maxHeartbeats 4000000
/-! DS19: statements, each by itself. -/
namespace DS
open PySem PySem.Spec PyProof.Rows L2

mutual
inductive Sm
  | asg (i : Nat) (t : Tm) | asT (is : List Nat) (a : Tm) | asI (i : Nat) (k : Ar) (t : Tm) | par (i j : Nat) (a b : Tm)
  | augI (i : Nat) (k : Ar) (o : BOp) (a : Ar) | doc | aug (i : Nat) (o : BOp) (a : Ar) | ex (t : Tm) | ite (c : Ts) (a b : Sms)
  | for1 (i : Nat) (it : It) (b : Sms) | forT (is : List Nat) (it : It) (b : Sms) | whl (c : Ts) (b : Sms)
  | ret (t : Tm) | retN | brk | cnt | pas | fgt (is : List Nat) | fzs (i : Nat)
inductive Sms | nil | cons (s : Sm) (ss : Sms)
end

/-! ### meaning: statements -/
def forL (i : Nat) (b : Env → SOut) : List D → Env → SOut
  | [], ρ => .nx ρ
  | x :: xs, ρ => match b (ρ.set i (some x)) with
    | .nx ρ' => forL i b xs ρ'
    | .ct ρ' => forL i b xs ρ'
    | .bk ρ' => .nx ρ'
    | o => o
def putL : List Nat → List D → Env → Env
  | i :: is, d :: ds, ρ => putL is ds (ρ.set i (some d))
  | _, _, ρ => ρ
def kidsD : D → Option (List D)
  | .lst _ ds => some ds
  | .tup _ ds => some ds
  | _ => none
def forTL (is : List Nat) (b : Env → SOut) : List D → Env → SOut
  | [], ρ => .nx ρ
  | x :: xs, ρ => match kidsD x with
    | some ds => if ds.length = is.length then match b (putL is ds ρ) with
        | .nx ρ' => forTL is b xs ρ'
        | .ct ρ' => forTL is b xs ρ'
        | .bk ρ' => .nx ρ'
        | o => o
      else .stk
    | none => .stk
/-- n turns of a while; none: not yet at its end -/
def whN (c : Env → Out Bool) (b : Env → SOut) : Nat → Env → Option SOut
  | 0, _ => none
  | n + 1, ρ => match c ρ with
    | .ok false ρ1 => some (.nx ρ1)
    | .ok true ρ1 => match b ρ1 with
      | .nx ρ' => whN c b n ρ'
      | .ct ρ' => whN c b n ρ'
      | .bk ρ' => some (.nx ρ')
      | o => some o
    | .exc x fs ρ1 => some (.exc x fs ρ1)
    | .stk => some .stk
open Classical in
noncomputable def whL (c : Env → Out Bool) (b : Env → SOut) (ρ : Env) : SOut :=
  if h : ∃ n o, whN c b n ρ = some o then h.choose_spec.choose else .stk
/-- name op= value -/
def augD : BOp → D → D → Option Int
  | .add, .int p, .int q => some (p + q)
  | .sub, .int p, .int q => some (p - q)
  | _, _, _ => none
/-- slots forgotten -/
def wipeE : List Nat → Env → Env
  | [], ρ => ρ
  | i :: is, ρ => wipeE is (ρ.set i none)
/-- of the slots those in l, from the k-th on -/
def keepE (l : List Nat) : Nat → Env → Env
  | _, [] => []
  | k, x :: ρ => (if l.contains k then x else none) :: keepE l (k + 1) ρ
/-- ghosts: no statement of the program -/
def isGh : Sm → Bool
  | .fgt _ => true
  | .fzs _ => true
  | _ => false
mutual
noncomputable def evS (S : Sg) (pn : List Nat) : Sm → Env → SOut
  | .asg i t, ρ => (ev S t ρ).sb fun d ρ1 => if pn.contains i then .stk else .nx (ρ1.set i (some d))
  | .asT is t, ρ => (ev S t ρ).sb fun d ρ1 => if is.any pn.contains then .stk else match kidsD d with
      | some ds => if ds.length = is.length && ds.all rootFz then .nx (putL is ds ρ1) else .stk
      | none => .stk
  | .asI i k t, ρ => (ev S t ρ).sb fun d ρ1 => match getS ρ1 i with
      | some _ => (evA S k ρ1).sb fun x ρ2 => match getS ρ2 i, x with
        | some (.lst true ds), .int z => match ixN ds.length z with
          | some j => if ds.all rootFz then .nx (ρ2.set i (some (.lst true (ds.set j (frz d))))) else .stk
          | none => .stk
        | _, _ => .stk
      | none => .stk
  | .par i j a b, ρ => (ev S a ρ).sb fun d ρ1 => (ev S b ρ1).sb fun e ρ2 => if pn.contains i || pn.contains j then .stk else .nx ((ρ2.set i (some d)).set j (some e))
  | .aug i o a, ρ => match getS ρ i with
      | some d => (evA S a ρ).sb fun x ρ1 => if pn.contains i then .stk else match augD o d x with
        | some z => .nx (ρ1.set i (some (.int z)))
        | none => .stk
      | none => .stk
  | .augI _ _ _ _, _ => .stk
  | .doc, ρ => .nx ρ
  | .ex t, ρ => (ev S t ρ).sb fun _ ρ1 => .nx ρ1
  | .ite c a b, ρ => (evT S c ρ).sb fun t ρ1 => if t then evSs S pn a ρ1 else evSs S pn b ρ1
  | .for1 i it b, ρ => (evI S it ρ).sb fun w ρ1 => if pn.contains i then .stk else forL i (evSs S pn b) w.list ρ1
  | .forT is it b, ρ => (evI S it ρ).sb fun w ρ1 => if is.any pn.contains then .stk else forTL is (evSs S pn b) w.list ρ1
  | .whl c b, ρ => whL (evT S c) (evSs S pn b) ρ
  | .ret t, ρ => (ev S t ρ).sb fun d ρ1 => .rt d (keepE pn 0 ρ1)
  | .retN, ρ => .rt .non (keepE pn 0 ρ)
  | .brk, ρ => .bk ρ
  | .cnt, ρ => .ct ρ
  | .pas, ρ => .nx ρ
  | .fgt is, ρ => .nx (wipeE is ρ)
  | .fzs i, ρ => match getS ρ i with
      | some d => .nx (ρ.set i (some (frz d)))
      | none => .stk
noncomputable def evSs (S : Sg) (pn : List Nat) : Sms → Env → SOut
  | .nil, ρ => .nx ρ
  | .cons s ss, ρ => match evS S pn s ρ with
    | .nx ρ' => evSs S pn ss ρ'
    | o => o
end

/-! ### defs -/
def mutsAt (muts : List Bool) : List Nat := (List.range muts.length).filter fun i => muts.getD i false
def getAll (ρ : Env) : List Nat → Option (List D)
  | [] => some []
  | i :: is => match getS ρ i, getAll ρ is with
    | some d, some ds => some (d :: ds)
    | _, _ => none
/-- a def: the parameters that it changes, the number of its slots, its body -/
noncomputable def evDef (S : Sg) (muts : List Bool) (n : Nat) (b : Sms) (ds : List D) : Res :=
  match evSs S (mutsAt muts) b (ds.map some ++ List.replicate (n - ds.length) none) with
  | .rt d ρ => match getAll ρ (mutsAt muts) with | some ms => .ok d ms | none => .stk
  | .nx ρ => match getAll ρ (mutsAt muts) with | some ms => .ok .non ms | none => .stk
  | .exc x fs _ => .exc x fs
  | _ => .stk

/-- a local name that is the i-th slot -/
def cLo (M : Nm) (sc : Scope) (i : Nat) (x : Str) : Bool := decide (M.N[i]? = some x) && decide (sc.names.lookup x = some .local)
/-- the context of a def's body -/
structure FOK (C : Cst) (lv : Nat) (sc : Scope) (X : Cx) (W : WX) : Prop where
  O : XOK C lv sc X
  tk : Takes X W
  ow : PassesOwn (model X.prog X.w) X.A X.env X.xe
  kd : sc.kind = .function
/-- slots that hold what they held -/
def Pn (pn : List (Nat × V)) (σ : DSt) : Prop := ∀ p ∈ pn, σ[p.1]? = some (some p.2)
section
variable (C : Cst) (W : WX) (pn : List (Nat × V)) (F H : Hp) (A : List Addr)
def NP (ρ' : Env) (q : DSt → Hp → Prop) : Prop := ∀ σ' F' H' A', SR C.K σ' ρ' F' H' A' → Pn pn σ' → Ext false F H A F' H' A' → q σ' H'
def SPost (o : SOut) (D : Ends) : Prop := match o with
  | .nx ρ' => NP C pn F H A ρ' D.nx
  | .bk ρ' => NP C pn F H A ρ' D.bk
  | .ct ρ' => NP C pn F H A ρ' D.ct
  | .rt d ρ' => ∀ v σ' F' H' A' B, SR C.K σ' ρ' F' H' A' → Pn pn σ' → Own C.K F' H' v d B → Ext false F H A F' H' (A' ++ B) → (A' ++ B).Nodup → (∀ b ∈ B, F' b = none) → D.rt v H'
  | .exc x fs ρ' => ∀ cls d σ' F' H' A', SR C.K σ' ρ' F' H' A' → Ext false F H A F' H' A' → ExR C cls d F' H' x fs → W cls d σ' H'
  | .stk => False
end
section
variable (C : Cst) (X : Cx) (W : WX) (pn : List (Nat × V))
def DSt1 (st : Stmt) (f : Env → SOut) : Prop := ∀ σ ρ F H A D, SR C.K σ ρ F H A → Pn pn σ → SPost C W pn F H A (f ρ) D → WpS X st D σ H
def DSts (st : List Stmt) (f : Env → SOut) : Prop := ∀ σ ρ F H A D, SR C.K σ ρ F H A → Pn pn σ → SPost C W pn F H A (f ρ) D → WpSs X st D σ H
end

section
variable {C : Cst} {X : Cx} {W : WX} {lv : Nat} {sc : Scope} {pn : List (Nat × V)} {σ : DSt} {ρ ρ1 : Env} {ka kb kc kp : Bool} {ea eb ec : Expr} {es : List Expr} {F F' H F1 H1 F2 H2 : Hp} {A A1 A2 B B1 : List Addr} {v : V} {d : D} {vs : List V} {ds : List D} {pos px : Pos} {i : Nat} {x : Str}

theorem _root_.DS.Ext.lax (e : Ext kp F H A F1 H1 A1) : Ext false F H A F1 H1 A1 := e.weak (kq := false) fun z => absurd z Bool.false_ne_true
theorem SPost.step {o : SOut} {D : Ends} (e : Ext kp F H A F1 H1 A1) (p : SPost C W pn F H A o D) : SPost C W pn F1 H1 A1 o D := by
  have e := e.lax
  cases o with
  | nx ρ' => exact fun σ' F' H' A' S q x => p σ' F' H' A' S q (e.trans x)
  | bk ρ' => exact fun σ' F' H' A' S q x => p σ' F' H' A' S q (e.trans x)
  | ct ρ' => exact fun σ' F' H' A' S q x => p σ' F' H' A' S q (e.trans x)
  | rt d ρ' => exact fun v σ' F' H' A' B S q O x n f => p v σ' F' H' A' B S q O (e.trans x) n f
  | exc x fs ρ' => exact fun cls d σ' F' H' A' S x y => p cls d σ' F' H' A' S (e.trans x) y
  | stk => exact p

/-- a slot given a tree -/
theorem SR.put (S : SR C.K σ ρ F H A) (o : Own C.K F H v d B) (n : (A ++ B).Nodup) (f : ∀ b ∈ B, F b = none) : ∃ A', SR C.K (σ.set i (some v)) (ρ.set i (some d)) F H A' ∧ ∀ b ∈ A', b ∈ A ++ B := by
  by_cases hi : i < ρ.length
  · obtain ⟨A', o1, A0, sub, pm⟩ := S.own.put hi o
    have nd : (A0 ++ B).Nodup := (List.Sublist.append_right sub B).nodup n
    have inA : ∀ b ∈ A', b ∈ A ++ B := fun b hb => (List.Sublist.append_right sub B).subset (pm.mem_iff.mp hb)
    refine ⟨A', ⟨S.same, pm.nodup_iff.mpr nd, fun b hb => ?_, o1⟩, inA⟩
    rcases List.mem_append.mp (inA b hb) with z | z
    · exact S.free b z
    · exact f b z
  · have h1 : ρ.set i (some d) = ρ := List.set_eq_of_length_le (by omega)
    have h2 : σ.set i (some v) = σ := List.set_eq_of_length_le (by rw [S.len]; omega)
    rw [h1, h2]
    exact ⟨A, S, fun b hb => List.mem_append_left _ hb⟩
theorem SR.put0 (S : SR C.K σ ρ F H A) (r : Rep C.K F v d) : ∃ A', SR C.K (σ.set i (some v)) (ρ.set i (some d)) F H A' ∧ ∀ b ∈ A', b ∈ A := by
  obtain ⟨A', S', q⟩ := S.put (i := i) (Own.of_rep d v r) (by rw [List.append_nil]; exact S.nd) (fun b hb => nomatch hb)
  exact ⟨A', S', fun b hb => by have := q b hb; rwa [List.append_nil] at this⟩
theorem Pn.set {z : Option V} (h : Pn pn σ) (n : (pn.map (·.1)).contains i = false) : Pn pn (σ.set i z) := by
  intro p hp
  have : p.1 ≠ i := fun e => by
    have : (pn.map (·.1)).contains i = true := by
      rw [List.contains_iff_mem]
      exact List.mem_map.mpr ⟨p, hp, e⟩
    rw [n] at this; cases this
  rw [List.getElem?_set_ne (Ne.symm this)]
  exact h p hp
theorem cLo_ok (h : cLo C.nm sc i x = true) : C.nm.N[i]? = some x ∧ sc.names.lookup x = some .local := ⟨of_decide_eq_true (all_and h).1, of_decide_eq_true (all_and h).2⟩
theorem EPost.of_false {o : Out D} {Q : VK} (p : EPost C W σ false F H A o Q) : EPost C W σ kp F H A o Q := EPost.kp_le (kp := kp) (kq := false) (fun z => absurd z Bool.false_ne_true) p

theorem sw_plain {t : Option Expr} {l : Nat} {env : PySem.Env} (h : plainE ea = true) : swapsWith ea t l env = pure false := by
  cases ea with
  | ListComp => exact nomatch h
  | SetComp => exact nomatch h
  | DictComp => exact nomatch h
  | _ => rfl

/-! ### name = value -/
/-- what stands behind the value -/
theorem asg_post {o : Out D} {D : Ends} (hq : Pn pn σ) (p : SPost C W pn F H A (o.sb fun d ρ1 => if (pn.map (·.1)).contains i then .stk else .nx (ρ1.set i (some d))) D) :
    EPost C W σ false F H A o (fun v H1 => D.nx (σ.set i (some v)) H1) := by
  cases o with
  | stk => exact p
  | exc y fs ρ1 => exact fun cls d F' H' A' S e r => p cls d σ F' H' A' S e r
  | ok d ρ1 =>
    intro v F' H' A' B S o e n f
    simp only [Out.sb_ok] at p
    split at p
    · exact p.elim
    · rename_i hc
      obtain ⟨A2, S2, sub⟩ := S.put (i := i) o n f
      exact p _ F' H' A2 S2 (hq.set (by simpa using hc)) (e.sub fun b hb => .inl (sub b hb))
theorem ds_asg {f : Env → Out D} (K : FOK C lv sc X W) (hx : cLo C.nm sc i x = true) (hp : plainE ea = true) (he : DE C X W ka ea f) :
    DSt1 C X W pn (.Assign [.Name x px] ea pos) (fun ρ => (f ρ).sb fun d ρ1 => if (pn.map (·.1)).contains i then .stk else .nx (ρ1.set i (some d))) := by
  intro σ ρ F H A D S hq p
  obtain ⟨h1, h2⟩ := cLo_ok hx
  have hl : X.env.scope.names.lookup x = some .local := by rw [K.O.sc]; exact h2
  exact wpS_of (ps_set K.O.nd (by rw [K.O.N]; exact h1) (.inl hl) pe_wp (sw_plain hp) (.inr hl)) (he σ ρ F H A _ S (asg_post hq p).of_false)

/-! ### name = [.. for ..] -/
theorem sw_lc {elt : Expr} {gs : List Comprehension} {scope : Scope} {py : Pos} {y : Str} {l : Nat} {env : PySem.Env} (hk : env.scope.kind = .function) (hy : env.scope.names.lookup y = some .local) :
    swapsWith (.ListComp elt gs scope pos) (some (.Name y py)) l env = pure (py.line == pos.line && !(scope.names.any fun (n, k) => n == y && (k == .local || k == .cell))) := by
  have ky : env.kindOf y = some .local := hy
  have hb : env.blockKind = .function := by unfold Env.blockKind; rw [hk]; rfl
  unfold swapsWith
  simp only [hb, ky, Expr.pos]
  rfl
theorem ds_asgLc {i j : Nat} {x y : Str} {q : Pos} {scope : Scope} {iter elt : Expr} {ifs : List Expr} {ki : Bool} {fi : Env → Out Walk} {c : Env → Out Bool} {e : Env → Out D} {tt : TT} {lpos : Pos}
    (K : FOK C lv sc X W) (hy : cLo C.nm sc j y = true) (hi : DI C X W ki (.Name x q) iter fi) (hN : C.nm.N[i]? = some x) (hblk : blkC C.nm.N sc scope [(x, i)] = true) (hl : locB (relS scope sc) x = true) (hll : (relS scope sc).names.lookup x = some .local ∨ scope.names.lookup x = some .cell)
    (hf : ∀ z, foldedSetIterable iter X.env z = pure z)
    (ht : ∀ (s : Shared) (H : Hp) (L : Addr) (cl : List (Str × Addr)) (fp : List Addr), PTs (X.blk s H scope (compEnvC scope cl L X.env) fp) ifs tt)
    (hc : ∀ σ ρ F H A Q, SR C.K σ ρ F H A → BPost C W0 σ kc F H A (c ρ) Q → tt σ H Q)
    (he : ∀ (s : Shared) (H : Hp) (L : Addr) (cl : List (Str × Addr)) (fp : List Addr), DE C (X.blk s H scope (compEnvC scope cl L X.env) fp) W0 ka elt e) :
    DSt1 C X W pn (.Assign [.Name y px] (.ListComp elt [⟨.Name x q, iter, ifs, 0⟩] scope lpos) pos) (fun ρ => ((fi ρ).bind fun w ρ1 => match ρ1[i]? with
      | some none => lcL i c e w.list [] ρ1
      | _ => .stk).sb fun d ρ1 => if (pn.map (·.1)).contains j then .stk else .nx (ρ1.set j (some d))) := by
  intro σ ρ F H A D S hq p
  obtain ⟨h1, h2⟩ := cLo_ok hy
  have hyl : X.env.scope.names.lookup y = some .local := by rw [K.O.sc]; exact h2
  have hk : X.env.scope.kind = .function := by rw [K.O.sc]; exact K.kd
  have sw := sw_lc (elt := elt) (gs := [⟨.Name x q, iter, ifs, 0⟩]) (scope := scope) (pos := lpos) (py := px) (l := pos.line) hk hyl
  have O := K.O
  cases hb : (px.line == lpos.line && !(scope.names.any fun (n, k) => n == y && (k == .local || k == .cell))) with
  | true =>
    rw [hb] at sw
    exact wpS_of (ps_setLc (own := [(x, i)]) (te := WpB X scope elt) O.calm O.nd (by rw [O.N]; exact h1) hyl sw pi_wp (blkOk_by (by rw [O.N, O.sc]; exact hblk)) (lc_pg O hN hl hll) ht
      (fun s H L cl fp => ⟨fun pins s' σ H' Q I h => h s H L cl fp pins s' I⟩) hf) (lc_rd hi hc he S (asg_post hq p).of_false)
  | false =>
    rw [hb] at sw
    exact wpS_of (ps_set O.nd (by rw [O.N]; exact h1) (.inl hyl) pe_wp sw (.inr hyl)) (de_lc O hi hN hblk hl hll hf ht hc he σ ρ F H A _ S (asg_post hq p).of_false)

theorem ds_asgLc2 {i j l : Nat} {x y z : Str} {q q1 : Pos} {scope : Scope} {iter iter1 elt : Expr} {ki kw : Bool} {fi fw : Env → Out Walk} {e : Env → Out D} {lpos : Pos}
    (K : FOK C lv sc X W) (hz : cLo C.nm sc l z = true) (hij : i ≠ j) (hi : DI C X W ki (.Name x q) iter fi) (hN : C.nm.N[i]? = some x) (hN1 : C.nm.N[j]? = some y) (hblk : blkC C.nm.N sc scope [(x, i), (y, j)] = true) (hl : locB (relS scope sc) x = true) (hl1 : locB (relS scope sc) y = true)
    (hll : (relS scope sc).names.lookup x = some .local ∨ scope.names.lookup x = some .cell) (hll1 : (relS scope sc).names.lookup y = some .local ∨ scope.names.lookup y = some .cell)
    (hf : ∀ z, foldedSetIterable iter X.env z = pure z) (hf1 : ∀ env z, foldedSetIterable iter1 env z = pure z)
    (hi1 : ∀ (s : Shared) (H : Hp) (L : Addr) (cl : List (Str × Addr)) (fp : List Addr), DI C (X.blk s H scope (compEnvC scope cl L X.env) fp) W0 kw (.Name y q1) iter1 fw)
    (he : ∀ (s : Shared) (H : Hp) (L : Addr) (cl : List (Str × Addr)) (fp : List Addr), DE C (X.blk s H scope (compEnvC scope cl L X.env) fp) W0 ka elt e) :
    DSt1 C X W pn (.Assign [.Name z px] (.ListComp elt [⟨.Name x q, iter, [], 0⟩, ⟨.Name y q1, iter1, [], 0⟩] scope lpos) pos) (fun ρ => ((fi ρ).bind fun w ρ1 => match ρ1[i]?, ρ1[j]? with
      | some none, some none => lcO2 i j fw e w.list [] ρ1
      | _, _ => .stk).sb fun d ρ1 => if (pn.map (·.1)).contains l then .stk else .nx (ρ1.set l (some d))) := by
  intro σ ρ F H A D S hq p
  obtain ⟨h1, h2⟩ := cLo_ok hz
  have hyl : X.env.scope.names.lookup z = some .local := by rw [K.O.sc]; exact h2
  have hk : X.env.scope.kind = .function := by rw [K.O.sc]; exact K.kd
  have sw := sw_lc (elt := elt) (gs := [⟨.Name x q, iter, [], 0⟩, ⟨.Name y q1, iter1, [], 0⟩]) (scope := scope) (pos := lpos) (py := px) (l := pos.line) hk hyl
  have O := K.O
  cases hb : (px.line == lpos.line && !(scope.names.any fun (n, k) => n == z && (k == .local || k == .cell))) with
  | true =>
    rw [hb] at sw
    exact wpS_of (ps_setLc2 (own := [(x, i), (y, j)]) (vs1 := [j]) (wi1 := WpIB X scope (.Name y q1) iter1) (te := WpB X scope elt) O.calm O.nd (by rw [O.N]; exact h1) hyl sw pi_wp (blkOk_by (by rw [O.N, O.sc]; exact hblk)) (fun z hz => by simp at hz; subst hz; simp) (lc_pg O hN hl hll) (fun _ _ _ _ _ => pts_nil)
      (fun s H L cl fp => ⟨fun pins s' σ H' Q I h => h s H L cl fp pins s' I⟩) (lc_pg O hN1 hl1 hll1) (fun _ _ _ _ _ => pts_nil) (fun s H L cl fp => ⟨fun pins s' σ H' Q I h => h s H L cl fp pins s' I⟩) hf hf1) (lc2_rd hij hi hi1 he S (asg_post hq p).of_false)
  | false =>
    rw [hb] at sw
    exact wpS_of (ps_set O.nd (by rw [O.N]; exact h1) (.inl hyl) pe_wp sw (.inr hyl)) (de_lc2 O hij hi hN hN1 hblk hl hl1 hll hll1 hf hf1 hi1 he σ ρ F H A _ S (asg_post hq p).of_false)

/-! ### small ones -/
theorem ds_ex {f : Env → Out D} (K : FOK C lv sc X W) (hp : plainE ea = true) (he : DE C X W ka ea f) : DSt1 C X W pn (.Expr ea pos) (fun ρ => (f ρ).sb fun _ ρ1 => .nx ρ1) := by
  intro σ ρ F H A D S hq p
  dsimp only at p
  refine wpS_of (ps_expr pe_wp (sw_plain hp)) (he σ ρ F H A _ S ?_)
  cases h1 : f ρ with
  | stk => rw [h1] at p; exact p
  | exc y fs ρ1 => rw [h1] at p; exact fun cls d F' H' A' S e r => p cls d σ F' H' A' S e r
  | ok d ρ1 =>
    rw [h1] at p
    exact fun v F' H' A' B S o e n f => p σ F' H' A' S hq (e.lax.sub fun b hb => .inl (List.mem_append_left _ hb))
theorem OwnE.keep {K : PySem.W.Frag} {l : List Nat} : ∀ {ρ : Env} {σ : DSt} {A : List Addr} {k : Nat}, OwnE K F H ρ σ A → ∃ A', OwnE K F H (keepE l k ρ) σ A' ∧ A'.Sublist A
  | [], [], A, k, h => ⟨A, by unfold keepE; exact h, List.Sublist.refl _⟩
  | [], _ :: _, _, _, h => h.elim
  | none :: ρ, _ :: σ, A, k, h => by
    unfold OwnE at h
    obtain ⟨A', o, s⟩ := OwnE.keep (k := k + 1) h
    refine ⟨A', ?_, s⟩
    unfold keepE
    have : (if l.contains k = true then (none : Option D) else none) = none := by split <;> rfl
    rw [this]
    unfold OwnE
    exact o
  | some d :: ρ, v? :: σ, A, k, h => by
    unfold OwnE at h
    obtain ⟨v, A1, A2, hv, hA, h1, h2⟩ := h
    subst hA
    obtain ⟨A', o, s⟩ := OwnE.keep (k := k + 1) h2
    unfold keepE
    by_cases c : l.contains k = true
    · rw [if_pos c]
      unfold OwnE
      exact ⟨A1 ++ A', ⟨v, A1, A', hv, rfl, h1, o⟩, List.Sublist.append_left s A1⟩
    · rw [if_neg c]
      unfold OwnE
      exact ⟨A', o, s.trans (List.sublist_append_right _ _)⟩
  | none :: ρ, [], _, _, h => h.elim
  | some _ :: ρ, [], _, _, h => h.elim
theorem SR.keep {l : List Nat} {k : Nat} (S : SR C.K σ ρ F H A) : ∃ A', SR C.K σ (keepE l k ρ) F H A' ∧ A'.Sublist A := by
  obtain ⟨A', o, sub⟩ := S.own.keep (l := l) (k := k)
  exact ⟨A', ⟨S.same, sub.nodup S.nd, fun a ha => S.free a (sub.subset ha), o⟩, sub⟩
theorem ds_ret {f : Env → Out D} (he : DE C X W ka ea f) : DSt1 C X W pn (.Return (some ea) pos) (fun ρ => (f ρ).sb fun d ρ1 => .rt d (keepE (pn.map (·.1)) 0 ρ1)) := by
  intro σ ρ F H A D S hq p
  dsimp only at p
  refine wpS_of (ps_ret pe_wp) (he σ ρ F H A _ S ?_)
  cases h1 : f ρ with
  | stk => rw [h1] at p; exact p
  | exc y fs ρ1 => rw [h1] at p; exact fun cls d F' H' A' S e r => p cls d σ F' H' A' S e r
  | ok d ρ1 =>
    rw [h1] at p
    intro v F' H' A' B S o e n f
    obtain ⟨A2, S2, sub⟩ := S.keep (l := pn.map (·.1)) (k := 0)
    have sb := List.Sublist.append_right sub B
    exact p v σ F' H' A2 B S2 hq o (e.lax.sub fun b hb => .inl (sb.subset hb)) (sb.nodup n) f
theorem ds_retN : DSt1 C X W pn (.Return none pos) (fun ρ => .rt .non (keepE (pn.map (·.1)) 0 ρ)) := by
  intro σ ρ F H A D S hq p
  dsimp only at p
  obtain ⟨A2, S2, sub⟩ := S.keep (l := pn.map (·.1)) (k := 0)
  exact wpS_of ps_retN (p .non σ F H A2 [] S2 hq (by unfold Own; exact ⟨rfl, rfl⟩) (by rw [List.append_nil]; exact (Ext.refl _ _ _ _).sub fun b hb => .inl (sub.subset hb)) (by rw [List.append_nil]; exact S2.nd) fun b hb => nomatch hb)
theorem ds_brk : DSt1 C X W pn (.Break pos) (fun ρ => .bk ρ) := fun σ ρ F H A D S hq p => wpS_of ps_break (p σ F H A S hq (Ext.refl _ _ _ _))
theorem ds_cnt : DSt1 C X W pn (.Continue pos) (fun ρ => .ct ρ) := fun σ ρ F H A D S hq p => wpS_of ps_continue (p σ F H A S hq (Ext.refl _ _ _ _))
theorem ds_pas : DSt1 C X W pn (.Pass pos) (fun ρ => .nx ρ) := fun σ ρ F H A D S hq p => wpS_of ps_pass (p σ F H A S hq (Ext.refl _ _ _ _))
theorem ds_doc {y : Str} {j k} : DSt1 C X W pn (.Expr (.Constant (.str y) j px) k) (fun ρ => .nx ρ) := fun σ ρ F H A D S hq p => wpS_of ps_doc (p σ F H A S hq (Ext.refl _ _ _ _))
theorem dss_nil : DSts C X W pn [] (fun ρ => .nx ρ) := fun σ ρ F H A D S hq p => wpSs_of pss_nil (p σ F H A S hq (Ext.refl _ _ _ _))
theorem dss_cons {st : Stmt} {rest : List Stmt} {f g : Env → SOut} (h1 : DSt1 C X W pn st f) (h2 : DSts C X W pn rest g) : DSts C X W pn (st :: rest) (fun ρ => match f ρ with | .nx ρ' => g ρ' | o => o) := by
  intro σ ρ F H A D S hq p
  dsimp only at p
  refine wpSs_of (pss_cons ps_wp pss_wp) (h1 σ ρ F H A _ S hq ?_)
  cases h : f ρ with
  | nx ρ' =>
    rw [h] at p
    exact fun σ' F' H' A' S' hq' e => h2 σ' ρ' F' H' A' D S' hq' (p.step e)
  | _ => rw [h] at p; exact p
theorem dss_fgt {rest : List Stmt} {g : Env → SOut} (h2 : DSts C X W pn rest g) : ∀ is : List Nat, DSts C X W pn rest (fun ρ => g (wipeE is ρ))
  | [] => h2
  | i :: is => by
    intro σ ρ F H A D S hq p
    obtain ⟨A', S', sub⟩ := S.drop (i := i)
    exact dss_fgt h2 is σ (ρ.set i none) F H A' D S' hq (p.step (kp := true) ((Ext.refl true F H A).sub fun b hb => .inl (sub.subset hb)))
theorem dss_fzs {rest : List Stmt} {g : Env → SOut} (h2 : DSts C X W pn rest g) (i : Nat) : DSts C X W pn rest (fun ρ => match (match getS ρ i with | some d => SOut.nx (ρ.set i (some (frz d))) | none => SOut.stk) with | .nx ρ' => g ρ' | o => o) := by
  intro σ ρ F H A D S hq p
  dsimp only at p
  cases e : getS ρ i with
  | none => rw [e] at p; exact p.elim
  | some d =>
    rw [e] at p
    obtain ⟨v, F', A', s1, S', r, E⟩ := S.freeze (getS_get e)
    exact h2 σ _ F' H A' D S' hq (p.step E)
theorem ds_if {f : Env → Out Bool} {a b : List Stmt} {g h : Env → SOut} (hc : DT C X W kc ec f) (h1 : DSts C X W pn a g) (h2 : DSts C X W pn b h) : DSt1 C X W pn (.If ec a b pos) (fun ρ => (f ρ).sb fun t ρ1 => if t then g ρ1 else h ρ1) := by
  intro σ ρ F H A D S hq p
  dsimp only at p
  refine wpS_of (ps_if pt_wp pss_wp pss_wp) (hc σ ρ F H A _ S ?_)
  cases hf : f ρ with
  | stk => rw [hf] at p; exact p
  | exc y fs ρ1 => rw [hf] at p; exact fun cls d F' H' A' S e r => p cls d σ F' H' A' S e r
  | ok t ρ1 =>
    rw [hf] at p
    intro F' H' A' S' e
    simp only [Out.sb_ok] at p
    cases t with
    | true => rw [if_pos rfl] at p ⊢; exact h1 σ ρ1 F' H' A' D S' hq (p.step e)
    | false => rw [if_neg Bool.false_ne_true] at p ⊢; exact h2 σ ρ1 F' H' A' D S' hq (p.step e)

/-! ### name op= value -/
theorem ds_aug {o : BOp} {op : Operator} {f : Env → Out D} (K : FOK C lv sc X W) (hx : cLo C.nm sc i x = true) (ho : (o = .add ∧ op = .Add) ∨ (o = .sub ∧ op = .Sub)) (he : DA C X W ka ea f) :
    DSt1 C X W pn (.AugAssign (.Name x px) op ea pos) (fun ρ => match getS ρ i with
      | some d => (f ρ).sb fun y ρ1 => if (pn.map (·.1)).contains i then .stk else match augD o d y with
        | some z => .nx (ρ1.set i (some (.int z)))
        | none => .stk
      | none => .stk) := by
  intro σ ρ F H A E S hq p
  dsimp only at p
  obtain ⟨h1, h2⟩ := cLo_ok hx
  have hl : X.env.scope.names.lookup x = some .local := by rw [K.O.sc]; exact h2
  split at p
  · rename_i d hd
    obtain ⟨v, B, e1, e2, _, _⟩ := S.own.get (getS_get hd)
    have main : ∀ (g : Int → Int → Int), PIp X op (ipI g) → (∀ y z, augD o d y = some z → ∃ a b, d = .int a ∧ y = .int b ∧ z = g a b) → WpS X (.AugAssign (.Name x px) op ea pos) E σ H := by
      intro g hg hE
      refine wpS_of (ps_aug K.O.nd (by rw [K.O.N]; exact h1) (.inl hl) pe_wp hg (.inr hl)) ⟨v, e1, ?_⟩
      refine he σ ρ F H A _ S ?_
      cases hf : f ρ with
      | stk => rw [hf] at p; exact p
      | exc y fs ρ1 => rw [hf] at p; exact fun cls d F' H' A' S e r => p cls d σ F' H' A' S e r
      | ok y ρ1 =>
        rw [hf] at p
        simp only [Out.sb_ok] at p
        intro w F' H' A' B' S' ow e
        split at p
        · exact p.elim
        · rename_i hc
          split at p
          · rename_i z hz
            obtain ⟨a, b, rfl, rfl, rfl⟩ := hE y z hz
            unfold Own at e2 ow
            refine ⟨a, b, e2.2, ow.2, ?_⟩
            obtain ⟨A2, S2, sub⟩ := S'.put0 (i := i) (v := .int (g a b)) (d := .int (g a b)) (by unfold Rep; rfl)
            exact p _ F' H' A2 S2 (hq.set (by simpa using hc)) (e.lax.sub fun b hb => .inl (sub b hb))
          · exact p.elim
    rcases ho with ⟨rfl, rfl⟩ | ⟨rfl, rfl⟩
    · refine main (fun a b => a + b) ip_add fun y z hz => ?_
      unfold augD at hz
      split at hz <;> simp_all
    · refine main (fun a b => a - b) ip_sub fun y z hz => ?_
      unfold augD at hz
      split at hz <;> simp_all
  · exact p.elim
end
end DS

set_option Elab.async false
set_option linter.all false
set_option maxRecDepth 100000
set_option maxHeartbeats 4000000
/-! DS20: loops, stores into lists and tuples of names. -/
namespace DS
open PySem PySem.Spec PyProof.Rows L2
section
variable {C : Cst} {X : Cx} {W : WX} {lv : Nat} {sc : Scope} {pn : List (Nat × V)} {σ : DSt} {ρ ρ1 : Env} {ka kb kc kp : Bool} {ea eb ec : Expr} {es : List Expr} {F F' H F1 H1 F2 H2 : Hp} {A A1 A2 B B1 : List Addr} {v : V} {d : D} {vs : List V} {ds : List D} {pos px : Pos} {i : Nat} {x : Str}

/-- a turn's end -/
def Turned (C : Cst) (W : WX) (pn : List (Nat × V)) (F H : Hp) (A : List Addr) (o : SOut) (N : DSt → Hp → Prop) (D : Ends) (go : Env → SOut) : Prop := match o with
  | .nx ρ' => NP C pn F H A ρ' N
  | .ct ρ' => NP C pn F H A ρ' N
  | .bk ρ' => NP C pn F H A ρ' D.nx
  | o => SPost C W pn F H A o D
/-- a store of one walk's item -/
structure Store (C : Cst) (X : Cx) (pn : List (Nat × V)) (g : TG) (put : D → Env → Option Env) : Prop where
  run : ∀ σ ρ F H A d v (Q : DSt → Hp → Prop), SR C.K σ ρ F H A → Pn pn σ → Rep C.K F v d → (∃ ρ', put d ρ = some ρ' ∧ ∀ σ' A', SR C.K σ' ρ' F H A' → Pn pn σ' → (∀ b ∈ A', b ∈ A) → Q σ' H) → g v σ H Q
/-- the turns of a for -/
def forG (put : D → Env → Option Env) (b : Env → SOut) : List D → Env → SOut
  | [], ρ => .nx ρ
  | x :: xs, ρ => match put x ρ with
    | some ρ0 => match b ρ0 with
      | .nx ρ' => forG put b xs ρ'
      | .ct ρ' => forG put b xs ρ'
      | .bk ρ' => .nx ρ'
      | o => o
    | none => .stk
theorem forL_G (i : Nat) (b : Env → SOut) : ∀ (xs : List D) (ρ : Env), forL i b xs ρ = forG (fun d ρ => some (ρ.set i (some d))) b xs ρ
  | [], ρ => rfl
  | x :: xs, ρ => by
    unfold forL forG
    dsimp only
    cases b (ρ.set i (some x)) <;> first | exact forL_G i b xs _ | rfl
def putT (is : List Nat) (x : D) (ρ : Env) : Option Env := match kidsD x with
  | some ds => if ds.length = is.length then some (putL is ds ρ) else none
  | none => none
theorem forTL_G (is : List Nat) (b : Env → SOut) : ∀ (xs : List D) (ρ : Env), forTL is b xs ρ = forG (putT is) b xs ρ
  | [], ρ => rfl
  | x :: xs, ρ => by
    unfold forTL forG putT
    cases kidsD x with
    | none => rfl
    | some ds =>
      dsimp only
      by_cases h : ds.length = is.length
      · rw [if_pos h, if_pos h]
        dsimp only
        cases b (putL is ds ρ) <;> first | exact forTL_G is b xs _ | rfl
      · rw [if_neg h, if_neg h]
theorem store_name {i : Nat} {x : Str} {q : Pos} (n : (pn.map (·.1)).contains i = false) : Store C X pn (gName i) (fun d ρ => some (ρ.set i (some d))) := by
  refine ⟨fun σ ρ F H A d v Q S hq r h => ?_⟩
  obtain ⟨ρ', e, h⟩ := h
  cases e
  obtain ⟨A', S', sub⟩ := S.put0 (i := i) r
  exact h _ A' S' (hq.set n) sub

theorem for_core {tg : Expr} {body : List Stmt} {f : Env → Out Walk} {put : D → Env → Option Env} {b : Env → SOut} {g : TG} (K : FOK C lv sc X W) (hi : DI C X W ka tg ea f) (hg : PG X tg g) (st : Store C X pn g put) (hb : DSts C X W pn body b)
    (hs : plainE ea = true) (S : SR C.K σ ρ F H A) (hq : Pn pn σ) {E : Ends} (p : SPost C W pn F H A ((f ρ).sb fun w ρ1 => forG put b w.list ρ1) E) : WpS X (.For tg ea body [] pos) E σ H := by
  refine wpS_of (ps_for (wi := WpI X tg ea) (g := g) (tb := WpSs X body) K.ow K.O.calm pi_wp hg pss_wp (folded_ok hs)) ?_
  show WpI X tg ea σ H _
  refine hi σ ρ F H A _ S ?_
  cases h1 : f ρ with
  | stk => rw [h1] at p; exact p
  | exc y fs ρ1 => rw [h1] at p; exact fun cls d F' H' A' S e r => p cls d σ F' H' A' S e r
  | ok w ρ1 =>
    rw [h1] at p
    simp only [Out.sb_ok] at p
    intro J F1 H1 A1 S1 hJ E1
    have p := p.step E1
    generalize hds : w.list = ds at p hJ
    refine ⟨fun k m σk Hk => m = ds.length - k ∧ k ≤ ds.length ∧ ∃ ρk Fk Ak, SR C.K σk ρk Fk Hk Ak ∧ Pn pn σk ∧ Ext false F1 H1 A1 Fk Hk Ak ∧ SPost C W pn F1 H1 A1 (forG put b (ds.drop k) ρk) E,
      ⟨ds.length, by simp, Nat.zero_le _, ρ1, F1, A1, S1, hq, Ext.refl _ _ _ _, by rw [List.drop_zero]; exact p⟩, ?_⟩
    rintro k m σk Hk ⟨rfl, hk, ρk, Fk, Ak, Sk, qk, Ek, pk⟩
    obtain ⟨w1, w2⟩ := hJ k Hk (Ek.fs.trans Sk.same)
    by_cases hlt : k < ds.length
    · refine .inr ⟨(w1 hlt).1, fun σ' H' => k + 1 ≤ ds.length ∧ ∃ ρk Fk Ak, SR C.K σ' ρk Fk H' Ak ∧ Pn pn σ' ∧ Ext false F1 H1 A1 Fk H' Ak ∧ SPost C W pn F1 H1 A1 (forG put b (ds.drop (k + 1)) ρk) E,
        fun σ' H' h => ⟨ds.length - (k + 1), by omega, rfl, h.1, h.2⟩, fun y H' hy => ?_⟩
      obtain ⟨e0, d0, ed, ry⟩ := (w1 hlt).2 y H' hy
      subst e0
      have hdrop : ds.drop k = d0 :: ds.drop (k + 1) := by
        rw [List.drop_eq_getElem_cons hlt]
        have z : ds[k]? = some ds[k] := List.getElem?_eq_getElem hlt
        rw [ed] at z
        cases z; rfl
      rw [hdrop] at pk
      have ry' : Rep C.K Fk y d0 := Rep.same Ek.fs _ _ ry
      unfold forG at pk
      cases hp : put d0 ρk with
      | none => rw [hp] at pk; exact pk.elim
      | some ρ0 =>
        rw [hp] at pk
        dsimp only at pk
        refine st.run σk ρk Fk H' Ak d0 y _ Sk qk ry' ⟨ρ0, hp, fun σ' A' S' q' sub => ?_⟩
        have E0 : Ext false F1 H1 A1 Fk H' A' := Ek.sub fun b hb => .inl (sub b hb)
        refine hb σ' ρ0 Fk H' A' _ S' q' ?_
        cases h2 : b ρ0 with
        | nx ρ' => rw [h2] at pk; exact fun σ2 F2 H2 A2 S2 q2 e2 => ⟨hlt, ρ', F2, A2, S2, q2, E0.trans e2, pk⟩
        | ct ρ' => rw [h2] at pk; exact fun σ2 F2 H2 A2 S2 q2 e2 => ⟨hlt, ρ', F2, A2, S2, q2, E0.trans e2, pk⟩
        | bk ρ' => rw [h2] at pk; exact fun σ2 F2 H2 A2 S2 q2 e2 => pk σ2 F2 H2 A2 S2 q2 (E0.trans e2)
        | rt d ρ' => rw [h2] at pk; exact fun v σ2 F2 H2 A2 B S2 q2 o e2 n f => pk v σ2 F2 H2 A2 B S2 q2 o (E0.trans e2) n f
        | exc y fs ρ' => rw [h2] at pk; exact fun cls d σ2 F2 H2 A2 S2 e2 r => pk cls d σ2 F2 H2 A2 S2 (E0.trans e2) r
        | stk => rw [h2] at pk; exact pk.elim
    · have ek2 : k = ds.length := by omega
      subst ek2
      refine .inl ⟨w2 (Nat.le_refl _), ?_⟩
      rw [List.drop_length] at pk
      unfold forG at pk
      exact pk σk Fk Hk Ak Sk qk Ek
theorem ds_for1 {i : Nat} {x : Str} {q : Pos} {body : List Stmt} {f : Env → Out Walk} {b : Env → SOut} (K : FOK C lv sc X W) (hx : cLo C.nm sc i x = true) (hs : plainE ea = true) (hi : DI C X W ka (.Name x q) ea f) (hb : DSts C X W pn body b) :
    DSt1 C X W pn (.For (.Name x q) ea body [] pos) (fun ρ => (f ρ).sb fun w ρ1 => if (pn.map (·.1)).contains i then .stk else forL i b w.list ρ1) := by
  intro σ ρ F H A E S hq p
  obtain ⟨h1, h2⟩ := cLo_ok hx
  have hl : X.env.scope.names.lookup x = some .local := by rw [K.O.sc]; exact h2
  have pg : PG X (.Name x q) (gName i) := pg_name K.O.nd (by rw [K.O.N]; exact h1) (.inl hl) (.inr hl)
  dsimp only at p
  cases hc : (pn.map (·.1)).contains i with
  | true =>
    -- stuck, whatever the walk
    refine wpS_of (ps_for (wi := WpI X (.Name x q) ea) (g := gName i) (tb := WpSs X body) K.ow K.O.calm pi_wp pg pss_wp (folded_ok hs)) ?_
    show WpI X (.Name x q) ea σ H _
    refine hi σ ρ F H A _ S ?_
    cases h1 : f ρ with
    | stk => rw [h1] at p; exact p
    | exc y fs ρ1 => rw [h1] at p; exact fun cls d F' H' A' S e r => p cls d σ F' H' A' S e r
    | ok w ρ1 => rw [h1, hc] at p; exact p.elim
  | false =>
    refine for_core K hi pg (store_name (q := q) (x := x) hc) hb hs S hq ?_
    cases h1 : f ρ with
    | stk => rw [h1] at p; exact p
    | exc y fs ρ1 => rw [h1] at p; exact p
    | ok w ρ1 =>
      rw [h1, hc] at p
      simp only [Out.sb_ok, Bool.false_eq_true, if_false] at p
      rw [forL_G] at p
      exact p

/-! ### tuples of names -/
def cNs (M : Nm) (sc : Scope) : List Nat → List Expr → Bool
  | [], [] => true
  | i :: is, .Name x _ :: es => cLo M sc i x && cNs M sc is es
  | _, _ => false
def notTp : Expr → Bool
  | .Tuple _ _ _ => false
  | _ => true
def gNms : List Nat → TGs
  | [] => gNil
  | i :: is => gCons (gName i) (gNms is)
def putσ : List Nat → List V → DSt → DSt
  | i :: is, v :: vs, σ => putσ is vs (σ.set i (some v))
  | _, _, σ => σ
theorem gNms_of {Q : DSt → Hp → Prop} : ∀ {is : List Nat} {vs : List V} {σ : DSt}, vs.length = is.length → Q (putσ is vs σ) H → gNms is vs σ H Q
  | [], [], σ, _, q => ⟨rfl, q⟩
  | i :: is, v :: vs, σ, h, q => ⟨v, vs, rfl, gNms_of (is := is) (by simpa using h) q⟩
  | [], _ :: _, _, h, _ => by simp at h
  | _ :: _, [], _, h, _ => by simp at h
theorem pgs_names (K : FOK C lv sc X W) : ∀ {is : List Nat} {es : List Expr}, cNs C.nm sc is es = true → PGs X es (gNms is) ∧ (assignEach es X.env).length = is.length ∧ (assignEach es X.env).findIdx? (·.1) = none
  | [], [], _ => ⟨pgs_nil, by unfold assignEach; rfl, by unfold assignEach; rfl⟩
  | i :: is, e :: es, h => by
    cases e with
    | Name x q =>
      unfold cNs at h
      have h1 := (Bool.and_eq_true_iff.mp h).1
      obtain ⟨z1, z2, z3⟩ := pgs_names K (Bool.and_eq_true_iff.mp h).2
      obtain ⟨a1, a2⟩ := cLo_ok h1
      have hl : X.env.scope.names.lookup x = some .local := by rw [K.O.sc]; exact a2
      refine ⟨pgs_cons (pg_name K.O.nd (by rw [K.O.N]; exact a1) (.inl hl) (.inr hl)) z1, ?_, ?_⟩
      · unfold assignEach
        rw [List.length_cons, z2, List.length_cons]
      · unfold assignEach
        rw [List.findIdx?_cons, z3]
        rfl
    | _ => unfold cNs at h; cases h
  | [], _ :: _, h => by unfold cNs at h; cases h
  | _ :: _, [], h => by unfold cNs at h; cases h
/-- names = a tuple or a list of that length -/
def gSeq (K : PySem.W.Frag) (is : List Nat) : TG := fun v σ H Q => ∃ a xs, v = .ref a ∧ (SqT K H a xs ∨ SqL K H a xs) ∧ xs.length = is.length ∧ Q (putσ is xs σ) H
theorem pg_seq {is : List Nat} {k : Nat} (K : FOK C lv sc X W) (h : cNs C.nm sc is es = true) : PG X (.Tuple es k pos) (gSeq X.K is) := by
  obtain ⟨z1, z2, z3⟩ := pgs_names K h
  refine ⟨fun pins s σ H v u Q I r q => ?_⟩
  obtain ⟨a, xs, rfl, q1, q2, q3⟩ := q
  rcases q1 with q1 | q1
  · exact (pg_tup K.O.calm z1 z2 z3).run pins s σ H _ u Q I r ⟨a, xs, rfl, q1, q2, gNms_of q2 q3⟩
  · exact (pg_lst K.O.calm z1 z2 z3).run pins s σ H _ u Q I r ⟨a, xs, rfl, q1, q2, gNms_of q2 q3⟩
theorem any_false {is : List Nat} {l : List Nat} (h : is.any l.contains = false) : ∀ i ∈ is, l.contains i = false := by
  intro i hi
  cases hc : l.contains i with
  | false => rfl
  | true =>
    have : is.any l.contains = true := List.any_eq_true.mpr ⟨i, hi, hc⟩
    rw [h] at this; cases this
/-- slots given frozen trees -/
theorem SR.putL : ∀ {is : List Nat} {ds : List D} {vs : List V} {σ : DSt} {ρ : Env} {A : List Addr}, SR C.K σ ρ F H A → Pn pn σ → RepL C.K F vs ds → ds.length = is.length → is.any (pn.map (·.1)).contains = false →
    ∃ A', SR C.K (putσ is vs σ) (putL is ds ρ) F H A' ∧ Pn pn (putσ is vs σ) ∧ ∀ b ∈ A', b ∈ A
  | [], [], vs, σ, ρ, A, S, q, r, _, _ => by
    unfold RepL at r
    subst r
    exact ⟨A, S, q, fun _ h => h⟩
  | i :: is, d :: ds, vs, σ, ρ, A, S, q, r, h, n => by
    unfold RepL at r
    obtain ⟨v, r', rfl, r1, r2⟩ := r
    have n1 := any_false n
    obtain ⟨A1, S1, s1⟩ := S.put0 (i := i) r1
    have n2 : is.any (pn.map (·.1)).contains = false := by
      rw [List.any_cons, Bool.or_eq_false_iff] at n; exact n.2
    obtain ⟨A2, S2, q2, s2⟩ := SR.putL (is := is) S1 (q.set (n1 i List.mem_cons_self)) r2 (by simpa using h) n2
    exact ⟨A2, S2, q2, fun b hb => s1 b (s2 b hb)⟩
  | [], _ :: _, _, _, _, _, _, _, _, h, _ => by simp at h
  | _ :: _, [], _, _, _, _, _, _, _, h, _ => by simp at h
theorem RepL.len : ∀ {ds : List D} {vs : List V}, RepL C.K F vs ds → vs.length = ds.length
  | [], vs, h => by unfold RepL at h; rw [h]; rfl
  | d :: ds, vs, h => by
    unfold RepL at h
    obtain ⟨v, r, rfl, _, h2⟩ := h
    rw [List.length_cons, List.length_cons, h2.len]
theorem rep_kids {x : D} {ds : List D} (hk : kidsD x = some ds) (sm : Same F H) (r : Rep C.K F v x) : ∃ a xs, v = .ref a ∧ (SqT C.K H a xs ∨ SqL C.K H a xs) ∧ RepL C.K F xs ds := by
  cases x with
  | lst o ds' =>
    cases hk
    unfold Rep at r
    obtain ⟨_, a, xs, e, s, r⟩ := r
    exact ⟨a, xs, e, .inr (sqL_same s sm), r⟩
  | tup o ds' =>
    cases hk
    unfold Rep at r
    obtain ⟨_, a, xs, e, s, r⟩ := r
    exact ⟨a, xs, e, .inl (sqT_same s sm), r⟩
  | _ => cases hk
theorem store_seq {is : List Nat} (hK : X.K = C.K) (n : is.any (pn.map (·.1)).contains = false) : Store C X pn (gSeq X.K is) (putT is) := by
  refine ⟨fun σ ρ F H A d v Q S hq r h => ?_⟩
  obtain ⟨ρ', e, h⟩ := h
  unfold putT at e
  cases hk : kidsD d with
  | none => rw [hk] at e; cases e
  | some ds =>
    rw [hk] at e
    dsimp only at e
    split at e
    · rename_i hl
      cases e
      obtain ⟨a, xs, rfl, sq, rl⟩ := rep_kids hk S.same r
      obtain ⟨A', S', q', sub⟩ := SR.putL (is := is) S hq rl hl n
      exact ⟨a, xs, rfl, by rw [hK]; exact sq, by rw [rl.len, hl], h _ A' S' q' sub⟩
    · cases e
theorem ds_forT {is : List Nat} {k : Nat} {q : Pos} {body : List Stmt} {f : Env → Out Walk} {b : Env → SOut} (K : FOK C lv sc X W) (hx : cNs C.nm sc is es = true) (hs : plainE ea = true) (hi : DI C X W ka (.Tuple es k q) ea f) (hb : DSts C X W pn body b) :
    DSt1 C X W pn (.For (.Tuple es k q) ea body [] pos) (fun ρ => (f ρ).sb fun w ρ1 => if is.any (pn.map (·.1)).contains then .stk else forTL is b w.list ρ1) := by
  intro σ ρ F H A E S hq p
  have pg : PG X (.Tuple es k q) (gSeq X.K is) := pg_seq K hx
  dsimp only at p
  cases hc : is.any (pn.map (·.1)).contains with
  | true =>
    refine wpS_of (ps_for (wi := WpI X (.Tuple es k q) ea) (g := gSeq X.K is) (tb := WpSs X body) K.ow K.O.calm pi_wp pg pss_wp (folded_ok hs)) ?_
    show WpI X (.Tuple es k q) ea σ H _
    refine hi σ ρ F H A _ S ?_
    cases h1 : f ρ with
    | stk => rw [h1] at p; exact p
    | exc y fs ρ1 => rw [h1] at p; exact fun cls d F' H' A' S e r => p cls d σ F' H' A' S e r
    | ok w ρ1 => rw [h1, hc] at p; exact p.elim
  | false =>
    refine for_core K hi pg (store_seq K.O.K hc) hb hs S hq ?_
    cases h1 : f ρ with
    | stk => rw [h1] at p; exact p
    | exc y fs ρ1 => rw [h1] at p; exact p
    | ok w ρ1 =>
      rw [h1, hc] at p
      simp only [Out.sb_ok, Bool.false_eq_true, if_false] at p
      rw [forTL_G] at p
      exact p
theorem own_kids {x : D} {ds : List D} (hk : kidsD x = some ds) (hr : ds.all rootFz = true) (sm : Same F H) (r : Own C.K F H v x B) : ∃ a xs, v = .ref a ∧ (SqT C.K H a xs ∨ SqL C.K H a xs) ∧ RepL C.K F xs ds := by
  cases x with
  | lst o ds' =>
    cases hk
    obtain ⟨a, xs, e, s, ⟨B', r, _⟩, _⟩ := r.lstE sm
    exact ⟨a, xs, e, .inr s, (OwnL.to_rep hr r).2⟩
  | tup o ds' =>
    cases hk
    obtain ⟨a, xs, e, s, ⟨B', r, _⟩, _⟩ := r.tupE sm
    exact ⟨a, xs, e, .inl s, (OwnL.to_rep hr r).2⟩
  | _ => cases hk
theorem sps_tup {ts : List Expr} {k : Nat} {q : Pos} (h : notTp ea = true) : swappedStores [.Tuple ts k q] ea X.env = pure none := by
  cases ea with
  | Tuple => exact absurd h Bool.false_ne_true
  | _ => rfl
theorem ds_asT {is : List Nat} {k : Nat} {q : Pos} {f : Env → Out D} (K : FOK C lv sc X W) (hx : cNs C.nm sc is es = true) (hp : plainE ea = true) (hn : notTp ea = true) (he : DE C X W ka ea f) :
    DSt1 C X W pn (.Assign [.Tuple es k q] ea pos) (fun ρ => (f ρ).sb fun d ρ1 => if is.any (pn.map (·.1)).contains then .stk else match kidsD d with
      | some ds => if ds.length = is.length && ds.all rootFz then .nx (putL is ds ρ1) else .stk
      | none => .stk) := by
  intro σ ρ F H A D S hq p
  refine wpS_of (ps_asg (tg := .Tuple es k q) (e := ea) (pos := pos) pe_wp (pg_seq (k := k) (pos := q) K hx) (show swapsWith ea (some (.Tuple es k q)) pos.line X.env = pure false from sw_plain hp) (sps_tup hn) (by unfold assignEach; rfl)) (he σ ρ F H A _ S (EPost.of_false ?_))
  dsimp only at p
  cases h1 : f ρ with
  | stk => rw [h1] at p; exact p
  | exc y fs ρ1 => rw [h1] at p; exact fun cls d F' H' A' S e r => p cls d σ F' H' A' S e r
  | ok d ρ1 =>
    rw [h1] at p
    simp only [Out.sb_ok] at p
    intro v F' H' A' B S1 o e n fr
    split at p
    · exact p.elim
    · rename_i hc
      cases hk : kidsD d with
      | none => rw [hk] at p; exact p.elim
      | some ds =>
        rw [hk] at p
        dsimp only at p
        split at p
        · rename_i hh
          rw [Bool.and_eq_true] at hh
          have hl : ds.length = is.length := of_decide_eq_true hh.1
          obtain ⟨a, xs, rfl, sq, rl⟩ := own_kids hk hh.2 S1.same o
          obtain ⟨A2, S2, q2, sub⟩ := SR.putL (is := is) S1 hq rl hl (by simpa using hc)
          exact ⟨a, xs, rfl, by rw [K.O.K]; exact sq, by rw [rl.len, hl], p _ F' H' A2 S2 q2 (e.sub fun b hb => .inl (List.mem_append_left _ (sub b hb)))⟩
        · exact p.elim

/-! ### while -/
theorem whN_succ {c : Env → Out Bool} {b : Env → SOut} : ∀ {n : Nat} {ρ : Env} {o : SOut}, whN c b n ρ = some o → whN c b (n + 1) ρ = some o
  | 0, ρ, o, h => by unfold whN at h; cases h
  | n + 1, ρ, o, h => by
    unfold whN at h ⊢
    cases hc : c ρ with
    | stk => rw [hc] at h; exact h
    | exc => rw [hc] at h; exact h
    | ok t ρ1 =>
      rw [hc] at h
      cases t with
      | false => exact h
      | true =>
        dsimp only at h ⊢
        cases hb : b ρ1 with
        | nx ρ' => rw [hb] at h; exact whN_succ h
        | ct ρ' => rw [hb] at h; exact whN_succ h
        | _ => rw [hb] at h; exact h
theorem whN_le {c : Env → Out Bool} {b : Env → SOut} {n m : Nat} {ρ : Env} {o : SOut} (h : whN c b n ρ = some o) (l : n ≤ m) : whN c b m ρ = some o := by
  obtain ⟨k, rfl⟩ := Nat.le.dest l
  clear l
  induction k with
  | zero => exact h
  | succ k ih => exact whN_succ ih
theorem whL_of {c : Env → Out Bool} {b : Env → SOut} {n : Nat} {ρ : Env} {o : SOut} (h : whN c b n ρ = some o) : whL c b ρ = o := by
  have ex : ∃ n o, whN c b n ρ = some o := ⟨n, o, h⟩
  unfold whL
  rw [dif_pos ex]
  have e := ex.choose_spec.choose_spec
  have e1 := whN_le e (Nat.le_max_left ex.choose n)
  have e2 := whN_le h (Nat.le_max_right ex.choose n)
  rw [e1] at e2
  exact Option.some.inj e2
theorem ds_whl {body : List Stmt} {c : Env → Out Bool} {b : Env → SOut} (K : FOK C lv sc X W) (hc : DT C X W kc ec c) (hb : DSts C X W pn body b) : DSt1 C X W pn (.While ec body [] pos) (fun ρ => whL c b ρ) := by
  intro σ ρ F H A E S hq p
  dsimp only at p
  by_cases ex : ∃ n o, whN c b n ρ = some o
  · obtain ⟨n, o, hn⟩ := ex
    rw [whL_of hn] at p
    refine wpS_of (ps_while (tc := WpT X ec) (tb := WpSs X body) K.ow pt_wp pss_wp) ?_
    refine ⟨fun m σ' H' => ∃ ρ' F' A', SR C.K σ' ρ' F' H' A' ∧ Pn pn σ' ∧ Ext false F H A F' H' A' ∧ whN c b m ρ' = some o, ⟨n, ρ, F, A, S, hq, Ext.refl _ _ _ _, hn⟩, ?_⟩
    rintro m σ' H' ⟨ρ', F', A', S', q', E', hm⟩
    refine hc σ' ρ' F' H' A' _ S' ?_
    cases m with
    | zero => unfold whN at hm; cases hm
    | succ m =>
      unfold whN at hm
      cases h1 : c ρ' with
      | stk => rw [h1] at hm; cases hm; exact p.elim
      | exc y fs ρ1 => rw [h1] at hm; cases hm; exact fun cls d F1 H1 A1 S1 e r => p cls d σ' F1 H1 A1 S1 (E'.trans e) r
      | ok t ρ1 =>
        rw [h1] at hm
        intro F1 H1 A1 S1 e1
        have E1 : Ext false F H A F1 H1 A1 := E'.trans e1
        cases t with
        | false =>
          cases hm
          rw [if_neg Bool.false_ne_true]
          exact p σ' F1 H1 A1 S1 q' E1
        | true =>
          dsimp only at hm
          rw [if_pos rfl]
          refine ⟨fun σ2 H2 => ∃ ρ2 F2 A2, SR C.K σ2 ρ2 F2 H2 A2 ∧ Pn pn σ2 ∧ Ext false F H A F2 H2 A2 ∧ whN c b m ρ2 = some o, fun σ2 H2 h => ⟨m, Nat.lt_succ_self m, h⟩, ?_⟩
          refine hb σ' ρ1 F1 H1 A1 _ S1 q' ?_
          cases h2 : b ρ1 with
          | nx ρ2 => rw [h2] at hm; exact fun σ2 F2 H2 A2 S2 q2 e2 => ⟨ρ2, F2, A2, S2, q2, E1.trans e2, hm⟩
          | ct ρ2 => rw [h2] at hm; exact fun σ2 F2 H2 A2 S2 q2 e2 => ⟨ρ2, F2, A2, S2, q2, E1.trans e2, hm⟩
          | bk ρ2 => rw [h2] at hm; cases hm; exact fun σ2 F2 H2 A2 S2 q2 e2 => p σ2 F2 H2 A2 S2 q2 (E1.trans e2)
          | rt d ρ2 => rw [h2] at hm; cases hm; exact fun v σ2 F2 H2 A2 B S2 q2 o e2 n f => p v σ2 F2 H2 A2 B S2 q2 o (E1.trans e2) n f
          | exc y fs ρ2 => rw [h2] at hm; cases hm; exact fun cls d σ2 F2 H2 A2 S2 e2 r => p cls d σ2 F2 H2 A2 S2 (E1.trans e2) r
          | stk => rw [h2] at hm; cases hm; exact p.elim
  · unfold whL at p
    rw [dif_neg ex] at p
    exact p.elim

/-! ### xs[k] = value -/
theorem ds_asI {i : Nat} {y : Str} {qo qt : Pos} {f g : Env → Out D} (K : FOK C lv sc X W) (hx : cSl C.nm sc i y = true) (hp : plainE ea = true) (hk : plainE eb = true) (he : DE C X W ka ea f) (hi : DA C X W kb eb g) :
    DSt1 C X W pn (.Assign [.Subscript (.Name y qo) eb qt] ea pos) (fun ρ => (f ρ).sb fun d ρ1 => match getS ρ1 i with
      | some _ => (g ρ1).sb fun z ρ2 => match getS ρ2 i, z with
        | some (.lst true ds), .int z => match ixN ds.length z with
          | some j => if ds.all rootFz then .nx (ρ2.set i (some (.lst true (ds.set j (frz d))))) else .stk
          | none => .stk
        | _, _ => .stk
      | none => .stk) := by
  intro σ ρ F H A E S hq p
  dsimp only at p
  have hsw : swapsWithSole [.Subscript (.Name y qo) eb qt] ea pos.line X.env = pure false := by unfold swapsWithSole; exact sw_plain hp
  refine wpS_of (ps_asg (te := Wp X ea) (g := gSub (tVar i) (Wp X eb) rSetL) pe_wp (pg_sub (name_pe K.O hx) pe_wp set_list (by cases eb <;> first | (intro _; rfl) | exact absurd hk Bool.false_ne_true)) hsw (by cases ea <;> rfl) rfl) ?_
  show Wp X ea σ H _
  refine he.frz S ?_
  cases h1 : f ρ with
  | stk => rw [h1] at p; exact p
  | exc y fs ρ1 => rw [h1] at p; exact fun cls d F' H' A' S e r => p cls d σ F' H' A' S e r
  | ok d ρ1 =>
    rw [h1] at p
    simp only [Out.sb_ok] at p
    intro v F1 H1 A1 S1 r1 E1
    have E1 := E1.lax
    show gSub (tVar i) (Wp X eb) rSetL v σ H1 E.nx
    split at p
    · rename_i d0 hd0
      obtain ⟨l, _, hl, _⟩ := S1.own.get (getS_get hd0)
      refine ⟨l, hl, ?_⟩
      refine hi σ ρ1 F1 H1 A1 _ S1 ?_
      cases h2 : g ρ1 with
      | stk => rw [h2] at p; exact p
      | exc y fs ρ2 => rw [h2] at p; exact fun cls d F' H' A' S e r => p cls d σ F' H' A' S (E1.trans e) r
      | ok z ρ2 =>
        rw [h2] at p
        simp only [Out.sb_ok] at p
        intro w F2 H2 A2 B2 S2 o2 E2
        have r2 : Rep C.K F2 v (frz d) := Rep.same E2.fs _ _ r1
        have E2 := E1.trans E2.lax
        split at p
        · rename_i ds z hd
          split at p
          · rename_i j hj
            split at p
            · rename_i hz
              obtain ⟨a, vs, B, e1, e2, e3, e4⟩ := lst_at S2 (getS_get hd)
              rw [hl] at e1
              cases e1
              unfold Own at o2
              have hlen : vs.length = ds.length := e3.length
              refine ⟨a, vs, z, j, rfl, o2.2, e2, by rw [hlen]; exact hj, ?_⟩
              obtain ⟨A3, S3, E3⟩ := S2.change (vs' := vs.set j v) (ds' := ds.set j (frz d)) (getS_get hd) hl (fun vs0 B0 h0 o0 => by
                rw [e2] at h0
                cases h0
                obtain ⟨_, rr⟩ := OwnL.to_rep hz o0
                exact ⟨[], RepL.to_own (RepL.set r2 j rr), List.nil_sublist _⟩)
              exact p σ F2 _ A3 S3 hq (E2.trans E3)
            · exact p.elim
          · exact p.elim
        · exact p.elim
    · exact p.elim
end
end DS

set_option Elab.async false
set_option linter.all false
set_option maxRecDepth 100000
set_option maxHeartbeats 8000000
/-! DS21: the match of statements; THE THEOREM for statements. -/
namespace DS
open PySem PySem.Spec PyProof.Rows L2
def vAsg : Stmt → Option (Str × Pos × Expr × Pos)
  | .Assign [.Name x q] e p => some (x, q, e, p)
  | _ => none
theorem vAsg_ok {st : Stmt} {z} (h : vAsg st = some z) : match z with | (x, q, e, p) => st = .Assign [.Name x q] e p := by
  unfold vAsg at h
  split at h
  · cases h; rfl
  · cases h
def vAsI : Stmt → Option (Str × Pos × Expr × Pos × Expr × Pos)
  | .Assign [.Subscript (.Name x q) k r] e p => some (x, q, k, r, e, p)
  | _ => none
theorem vAsI_ok {st : Stmt} {z} (h : vAsI st = some z) : match z with | (x, q, k, r, e, p) => st = .Assign [.Subscript (.Name x q) k r] e p := by
  unfold vAsI at h
  split at h
  · cases h; rfl
  · cases h
def vAug : Stmt → Option (Str × Pos × Operator × Expr × Pos)
  | .AugAssign (.Name x q) o e p => some (x, q, o, e, p)
  | _ => none
theorem vAug_ok {st : Stmt} {z} (h : vAug st = some z) : match z with | (x, q, o, e, p) => st = .AugAssign (.Name x q) o e p := by
  unfold vAug at h
  split at h
  · cases h; rfl
  · cases h
def vEx : Stmt → Option (Expr × Pos)
  | .Expr e p => some (e, p)
  | _ => none
theorem vEx_ok {st : Stmt} {z} (h : vEx st = some z) : match z with | (e, p) => st = .Expr e p := by
  unfold vEx at h
  split at h
  · cases h; rfl
  · cases h
def vIte : Stmt → Option (Expr × List Stmt × List Stmt × Pos)
  | .If e a b p => some (e, a, b, p)
  | _ => none
theorem vIte_ok {st : Stmt} {z} (h : vIte st = some z) : match z with | (e, a, b, p) => st = .If e a b p := by
  unfold vIte at h
  split at h
  · cases h; rfl
  · cases h
def vFor1 : Stmt → Option (Str × Pos × Expr × List Stmt × Pos)
  | .For (.Name x q) e b [] p => some (x, q, e, b, p)
  | _ => none
theorem vFor1_ok {st : Stmt} {z} (h : vFor1 st = some z) : match z with | (x, q, e, b, p) => st = .For (.Name x q) e b [] p := by
  unfold vFor1 at h
  split at h
  · cases h; rfl
  · cases h
def vWhl : Stmt → Option (Expr × List Stmt × Pos)
  | .While e b [] p => some (e, b, p)
  | _ => none
theorem vWhl_ok {st : Stmt} {z} (h : vWhl st = some z) : match z with | (e, b, p) => st = .While e b [] p := by
  unfold vWhl at h
  split at h
  · cases h; rfl
  · cases h
def vRet : Stmt → Option (Expr × Pos)
  | .Return (some e) p => some (e, p)
  | _ => none
theorem vRet_ok {st : Stmt} {z} (h : vRet st = some z) : match z with | (e, p) => st = .Return (some e) p := by
  unfold vRet at h
  split at h
  · cases h; rfl
  · cases h
def vRetN : Stmt → Option (Pos)
  | .Return none p => some p
  | _ => none
theorem vRetN_ok {st : Stmt} {z} (h : vRetN st = some z) : match z with | p => st = .Return none p := by
  unfold vRetN at h
  split at h
  · cases h; rfl
  · cases h
def vBrk : Stmt → Option (Pos)
  | .Break p => some p
  | _ => none
theorem vBrk_ok {st : Stmt} {z} (h : vBrk st = some z) : match z with | p => st = .Break p := by
  unfold vBrk at h
  split at h
  · cases h; rfl
  · cases h
def vCnt : Stmt → Option (Pos)
  | .Continue p => some p
  | _ => none
theorem vCnt_ok {st : Stmt} {z} (h : vCnt st = some z) : match z with | p => st = .Continue p := by
  unfold vCnt at h
  split at h
  · cases h; rfl
  · cases h
def vPas : Stmt → Option (Pos)
  | .Pass p => some p
  | _ => none
theorem vPas_ok {st : Stmt} {z} (h : vPas st = some z) : match z with | p => st = .Pass p := by
  unfold vPas at h
  split at h
  · cases h; rfl
  · cases h
def vDoc : Stmt → Option (Str × Nat × Pos × Pos)
  | .Expr (.Constant (.str x) j q) p => some (x, j, q, p)
  | _ => none
theorem vDoc_ok {st : Stmt} {z} (h : vDoc st = some z) : match z with | (x, j, q, p) => st = .Expr (.Constant (.str x) j q) p := by
  unfold vDoc at h
  split at h
  · cases h; rfl
  · cases h
def vAsT : Stmt → Option (List Expr × Nat × Pos × Expr × Pos)
  | .Assign [.Tuple es k q] e p => some (es, k, q, e, p)
  | _ => none
theorem vAsT_ok {st : Stmt} {z} (h : vAsT st = some z) : match z with | (es, k, q, e, p) => st = .Assign [.Tuple es k q] e p := by
  unfold vAsT at h
  split at h
  · cases h; rfl
  · cases h
def vForT : Stmt → Option (List Expr × Nat × Pos × Expr × List Stmt × Pos)
  | .For (.Tuple es k q) e b [] p => some (es, k, q, e, b, p)
  | _ => none
theorem vForT_ok {st : Stmt} {z} (h : vForT st = some z) : match z with | (es, k, q, e, b, p) => st = .For (.Tuple es k q) e b [] p := by
  unfold vForT at h
  split at h
  · cases h; rfl
  · cases h
def isLcT : Tm → Bool
  | .lc _ _ _ _ => true
  | .lc2 _ _ _ _ _ => true
  | _ => false
def isAdd : BOp → Operator → Bool
  | .add, .Add => true
  | .sub, .Sub => true
  | _, _ => false
mutual
def cSm (M : Nm) (sc : Scope) : Sm → Stmt → Bool
  | .asg i t, st => match vAsg st with | some (x, _, e, _) => cLo M sc i x && cTm M sc t e && (plainE e || isLcT t) | none => false
  | .asI i k t, st => match vAsI st with | some (x, _, ix, _, e, _) => cSl M sc i x && cAr M sc k ix && cTm M sc t e && plainE e && plainE ix | none => false
  | .aug i o a, st => match vAug st with | some (x, _, op, e, _) => cLo M sc i x && isAdd o op && cAr M sc a e | none => false
  | .ex t, st => match vEx st with | some (e, _) => cTm M sc t e && plainE e | none => false
  | .ite c a b, st => match vIte st with | some (e, x, y, _) => cTs M sc c e && cSms M sc a x && cSms M sc b y | none => false
  | .for1 i it b, st => match vFor1 st with | some (x, _, e, body, _) => cLo M sc i x && cIt M sc it e && plainE e && cSms M sc b body | none => false
  | .whl c b, st => match vWhl st with | some (e, body, _) => cTs M sc c e && cSms M sc b body | none => false
  | .ret t, st => match vRet st with | some (e, _) => cTm M sc t e | none => false
  | .retN, st => (vRetN st).isSome
  | .brk, st => (vBrk st).isSome
  | .cnt, st => (vCnt st).isSome
  | .pas, st => (vPas st).isSome
  | .doc, st => (vDoc st).isSome
  | .asT is t, st => match vAsT st with | some (es, _, _, e, _) => cNs M sc is es && cTm M sc t e && plainE e && notTp e | none => false
  | .par _ _ _ _, _ => false
  | .augI _ _ _ _, _ => false
  | .forT is it b, st => match vForT st with | some (es, _, _, e, body, _) => cNs M sc is es && cIt M sc it e && plainE e && cSms M sc b body | none => false
  | .fgt _, _ => false
  | .fzs _, _ => false
def cSms (M : Nm) (sc : Scope) : Sms → List Stmt → Bool
  | .nil, ts => ts.isEmpty
  | .cons s ss, ts => if isGh s then cSms M sc ss ts else match ts with
    | t :: ts => cSm M sc s t && cSms M sc ss ts
    | [] => false
end
section
variable {C : Cst} {lv : Nat} {pn : List (Nat × V)}
theorem sLc {j it c el} {i : Nat} {sc : Scope} {X : Cx} {W : WX} {y : Str} {px pos : Pos} {e : Expr} (K : FOK C lv sc X W) (hy : cLo C.nm sc i y = true) (h : cTm C.nm sc (.lc j it c el) e = true) :
    DSt1 C X W pn (.Assign [.Name y px] e pos) (evS C.sg (pn.map (·.1)) (.asg i (.lc j it c el))) := by
  have O := K.O
  obtain ⟨elt, x, q, iter, ifs, scope, p, rfl, h1, h2, h3, hll, h5, h6, h7, h8⟩ := inv_lc h
  have he : ∀ (s : Shared) (H : Hp) (L : Addr) (cl : List (Str × Addr)) (fp : List Addr), DE C (X.blk s H scope (compEnvC scope cl L X.env) fp) W0 (kTm el) elt (ev C.sg el) := fun s H L cl fp => sTm el (O.blk scope s H cl L fp) takes0 h8
  obtain ⟨tt, ht, hc⟩ := sOTs c (fun s H cl L fp => O.blk scope s H cl L fp) h7
  exact ds_asgLc K hy (sIt it O K.tk h6) h1 h2 h3 hll (folded_ok h5) ht hc he
theorem sAsg (t : Tm) {i : Nat} {sc : Scope} {X : Cx} {W : WX} {y : Str} {px pos : Pos} {e : Expr} (K : FOK C lv sc X W) (hy : cLo C.nm sc i y = true) (h : cTm C.nm sc t e = true) (hp : (plainE e || isLcT t) = true) (he : DE C X W (kTm t) e (ev C.sg t)) :
    DSt1 C X W pn (.Assign [.Name y px] e pos) (evS C.sg (pn.map (·.1)) (.asg i t)) := by
  cases hb : plainE e with
  | true => exact ds_asg K hy hb he
  | false =>
    rw [hb, Bool.false_or] at hp
    cases t with
    | lc j it c el => exact sLc K hy h
    | lc2 i it j it2 el =>
      obtain ⟨elt, x, q, iter, y, q1, iter1, scope, p, rfl, hij, h1, h1', h2, h3, h3', hll, hll', h5, h5', h6, h7, h8⟩ := inv_lc2 h
      have O := K.O
      have he : ∀ (s : Shared) (H : Hp) (L : Addr) (cl : List (Str × Addr)) (fp : List Addr), DE C (X.blk s H scope (compEnvC scope cl L X.env) fp) W0 (kTm el) elt (ev C.sg el) := fun s H L cl fp => sTm el (O.blk scope s H cl L fp) takes0 h8
      have hi1 : ∀ (s : Shared) (H : Hp) (L : Addr) (cl : List (Str × Addr)) (fp : List Addr), DI C (X.blk s H scope (compEnvC scope cl L X.env) fp) W0 (kIt it2) (.Name y q1) iter1 (evI C.sg it2) := fun s H L cl fp => sIt it2 (O.blk scope s H cl L fp) takes0 h7
      exact ds_asgLc2 K hy hij (sIt it O K.tk h6) h1 h1' h2 h3 h3' hll hll' (folded_ok h5) (fun env => folded_ok h5') hi1 he
    | _ => exact absurd hp Bool.false_ne_true
theorem isAdd_ok {o : BOp} {op : Operator} (h : isAdd o op = true) : (o = .add ∧ op = .Add) ∨ (o = .sub ∧ op = .Sub) := by
  cases o <;> first | exact absurd h Bool.false_ne_true | skip
  · cases op <;> first | exact absurd h Bool.false_ne_true | exact .inl ⟨rfl, rfl⟩
  · cases op <;> first | exact absurd h Bool.false_ne_true | exact .inr ⟨rfl, rfl⟩
mutual
theorem sSm : ∀ (s : Sm) {sc : Scope} {X : Cx} {W : WX} {st : Stmt}, FOK C lv sc X W → cSm C.nm sc s st = true → DSt1 C X W pn st (evS C.sg (pn.map (·.1)) s)
  | .asg i t, sc, X, W, st, K, h => by
    unfold cSm at h
    cases hv : vAsg st with
    | none => rw [hv] at h; cases h
    | some z =>
      obtain ⟨x, q, e, p⟩ := z
      rw [hv] at h
      have e0 := vAsg_ok hv
      dsimp only at e0 h
      subst e0
      obtain ⟨h, h3⟩ := all_and h
      obtain ⟨h1, h2⟩ := all_and h
      exact sAsg t K h1 h2 h3 (sTm t K.O K.tk h2)
  | .asI i k t, sc, X, W, st, K, h => by
    unfold cSm at h
    cases hv : vAsI st with
    | none => rw [hv] at h; cases h
    | some z =>
      obtain ⟨x, q, ix, r, e, p⟩ := z
      rw [hv] at h
      have e0 := vAsI_ok hv
      dsimp only at e0 h
      subst e0
      obtain ⟨h, h5⟩ := all_and h
      obtain ⟨h, h4⟩ := all_and h
      obtain ⟨h, h3⟩ := all_and h
      obtain ⟨h1, h2⟩ := all_and h
      exact ds_asI K h1 h4 h5 (sTm t K.O K.tk h3) (sAr k K.O K.tk h2)
  | .asT is t, sc, X, W, st, K, h => by
    unfold cSm at h
    cases hv : vAsT st with
    | none => rw [hv] at h; cases h
    | some z =>
      obtain ⟨es, k, q, e, p⟩ := z
      rw [hv] at h
      have e0 := vAsT_ok hv
      dsimp only at e0 h
      subst e0
      obtain ⟨h, h4⟩ := all_and h
      obtain ⟨h, h3⟩ := all_and h
      obtain ⟨h1, h2⟩ := all_and h
      exact ds_asT K h1 h3 h4 (sTm t K.O K.tk h2)
  | .par _ _ _ _, sc, X, W, st, K, h => by unfold cSm at h; cases h
  | .augI _ _ _ _, sc, X, W, st, K, h => by unfold cSm at h; cases h
  | .forT is it b, sc, X, W, st, K, h => by
    unfold cSm at h
    cases hv : vForT st with
    | none => rw [hv] at h; cases h
    | some z =>
      obtain ⟨es, k, q, e, body, p⟩ := z
      rw [hv] at h
      have e0 := vForT_ok hv
      dsimp only at e0 h
      subst e0
      obtain ⟨h, h4⟩ := all_and h
      obtain ⟨h, h3⟩ := all_and h
      obtain ⟨h1, h2⟩ := all_and h
      exact ds_forT K h1 h3 (sIt it K.O K.tk h2) (sSms b K h4)
  | .fgt _, sc, X, W, st, K, h => by unfold cSm at h; cases h
  | .fzs _, sc, X, W, st, K, h => by unfold cSm at h; cases h
  | .doc, sc, X, W, st, K, h => by
    unfold cSm at h
    cases hv : vDoc st with
    | none => rw [hv] at h; cases h
    | some z =>
      obtain ⟨x, j, q, p⟩ := z
      have e0 := vDoc_ok hv
      dsimp only at e0
      subst e0
      exact ds_doc
  | .aug i o a, sc, X, W, st, K, h => by
    unfold cSm at h
    cases hv : vAug st with
    | none => rw [hv] at h; cases h
    | some z =>
      obtain ⟨x, q, op, e, p⟩ := z
      rw [hv] at h
      have e0 := vAug_ok hv
      dsimp only at e0 h
      subst e0
      obtain ⟨h, h3⟩ := all_and h
      obtain ⟨h1, h2⟩ := all_and h
      exact ds_aug K h1 (isAdd_ok h2) (sAr a K.O K.tk h3)
  | .ex t, sc, X, W, st, K, h => by
    unfold cSm at h
    cases hv : vEx st with
    | none => rw [hv] at h; cases h
    | some z =>
      obtain ⟨e, p⟩ := z
      rw [hv] at h
      have e0 := vEx_ok hv
      dsimp only at e0 h
      subst e0
      exact ds_ex K (all_and h).2 (sTm t K.O K.tk (all_and h).1)
  | .ite c a b, sc, X, W, st, K, h => by
    unfold cSm at h
    cases hv : vIte st with
    | none => rw [hv] at h; cases h
    | some z =>
      obtain ⟨e, x, y, p⟩ := z
      rw [hv] at h
      have e0 := vIte_ok hv
      dsimp only at e0 h
      subst e0
      obtain ⟨h, h3⟩ := all_and h
      obtain ⟨h1, h2⟩ := all_and h
      exact ds_if (sTs c K.O K.tk h1) (sSms a K h2) (sSms b K h3)
  | .for1 i it b, sc, X, W, st, K, h => by
    unfold cSm at h
    cases hv : vFor1 st with
    | none => rw [hv] at h; cases h
    | some z =>
      obtain ⟨x, q, e, body, p⟩ := z
      rw [hv] at h
      have e0 := vFor1_ok hv
      dsimp only at e0 h
      subst e0
      obtain ⟨h, h4⟩ := all_and h
      obtain ⟨h, h3⟩ := all_and h
      obtain ⟨h1, h2⟩ := all_and h
      exact ds_for1 K h1 h3 (sIt it K.O K.tk h2) (sSms b K h4)
  | .whl c b, sc, X, W, st, K, h => by
    unfold cSm at h
    cases hv : vWhl st with
    | none => rw [hv] at h; cases h
    | some z =>
      obtain ⟨e, body, p⟩ := z
      rw [hv] at h
      have e0 := vWhl_ok hv
      dsimp only at e0 h
      subst e0
      exact ds_whl K (sTs c K.O K.tk (all_and h).1) (sSms b K (all_and h).2)
  | .ret t, sc, X, W, st, K, h => by
    unfold cSm at h
    cases hv : vRet st with
    | none => rw [hv] at h; cases h
    | some z =>
      obtain ⟨e, p⟩ := z
      rw [hv] at h
      have e0 := vRet_ok hv
      dsimp only at e0 h
      subst e0
      exact ds_ret (sTm t K.O K.tk h)
  | .retN, sc, X, W, st, K, h => by
    unfold cSm at h
    cases hv : vRetN st with
    | none => rw [hv] at h; cases h
    | some p =>
      have e0 := vRetN_ok hv
      dsimp only at e0
      subst e0
      exact ds_retN
  | .brk, sc, X, W, st, K, h => by
    unfold cSm at h
    cases hv : vBrk st with
    | none => rw [hv] at h; cases h
    | some p =>
      have e0 := vBrk_ok hv
      dsimp only at e0
      subst e0
      exact ds_brk
  | .cnt, sc, X, W, st, K, h => by
    unfold cSm at h
    cases hv : vCnt st with
    | none => rw [hv] at h; cases h
    | some p =>
      have e0 := vCnt_ok hv
      dsimp only at e0
      subst e0
      exact ds_cnt
  | .pas, sc, X, W, st, K, h => by
    unfold cSm at h
    cases hv : vPas st with
    | none => rw [hv] at h; cases h
    | some p =>
      have e0 := vPas_ok hv
      dsimp only at e0
      subst e0
      exact ds_pas
termination_by structural s => s
theorem sSms : ∀ (ss : Sms) {sc : Scope} {X : Cx} {W : WX} {sts : List Stmt}, FOK C lv sc X W → cSms C.nm sc ss sts = true → DSts C X W pn sts (evSs C.sg (pn.map (·.1)) ss)
  | .nil, sc, X, W, [], K, h => dss_nil
  | .nil, sc, X, W, _ :: _, K, h => by unfold cSms at h; cases h
  | .cons s ss, sc, X, W, ts, K, h => by
    cases hg : isGh s with
    | true =>
      unfold cSms at h
      rw [if_pos hg] at h
      have ih := sSms ss K h
      cases s with
      | fgt is => exact dss_fgt ih is
      | fzs i => exact dss_fzs ih i
      | _ => exact absurd hg Bool.false_ne_true
    | false =>
      unfold cSms at h
      rw [if_neg (by rw [hg]; exact Bool.false_ne_true)] at h
      cases ts with
      | nil => cases h
      | cons t ts => exact dss_cons (sSm s K (all_and h).1) (sSms ss K (all_and h).2)
termination_by structural ss => ss
end
end
end DS

set_option Elab.async false
set_option linter.all false
set_option maxRecDepth 100000
set_option maxHeartbeats 4000000
/-! DS22: defs, and the law's end. -/
namespace DS
open PySem PySem.Spec PyProof.Rows L2
section
variable {C : Cst} {P : Program} {w : World} {mg : Str → Option Value} {base : Heap}

/-- the i-th function of a program, at level lv -/
structure FnIs (C : Cst) (P : Program) (w : World) (mg : Str → Option Value) (base : Heap) (lv : Nat) (i : Nat) (x : Str) (ms : List Bool) : Prop where
  mgf : mg x = some (.ref (C.fa i))
  kp : PySem.W.keepIn C.K (.ref (C.fa i)) = true
  bd : Binds C.K (C.fd i) (C.fp i) []
  ok : FnOk P w C.K mg base (L2.CX P w) lv (C.fa i) (C.fd i) (C.fp i) (spD C ms (C.sg.fn i))
def FnsOk (C : Cst) (P : Program) (w : World) (mg : Str → Option Value) (base : Heap) (lv : Nat) : Nat → List (Str × List Bool) → Prop
  | _, [] => True
  | i, (x, ms) :: r => FnIs C P w mg base lv i x ms ∧ FnsOk C P w mg base lv (i + 1) r
theorem FnsOk.get {lv : Nat} : ∀ {l : List (Str × List Bool)} {k : Nat}, FnsOk C P w mg base lv k l → ∀ i x ms, l[i]? = some (x, ms) → FnIs C P w mg base lv (k + i) x ms
  | [], k, _, i, x, ms, h => by simp at h
  | (y, ns) :: r, k, f, 0, x, ms, h => by
    have z : y = x ∧ ns = ms := by simpa using h
    obtain ⟨rfl, rfl⟩ := z
    exact f.1
  | (y, ns) :: r, k, f, i + 1, x, ms, h => by
    have := FnsOk.get f.2 i x ms (by simpa using h)
    rwa [show k + 1 + i = k + (i + 1) by omega] at this
def CnsOk (C : Cst) (mg : Str → Option Value) : Nat → List Str → Prop
  | _, [] => True
  | i, x :: r => (∃ u v, mg x = some u ∧ RelV v u ∧ ∀ F, Rep C.K F v (C.sg.cd i)) ∧ CnsOk C mg (i + 1) r
theorem CnsOk.get : ∀ {l : List Str} {k : Nat}, CnsOk C mg k l → ∀ i x, l[i]? = some x → ∃ u v, mg x = some u ∧ RelV v u ∧ ∀ F, Rep C.K F v (C.sg.cd (k + i))
  | [], k, _, i, x, h => by simp at h
  | y :: r, k, f, 0, x, h => by
    have z : y = x := by simpa using h
    subst z
    exact f.1
  | y :: r, k, f, i + 1, x, h => by
    have := CnsOk.get f.2 i x (by simpa using h)
    rwa [show k + 1 + i = k + (i + 1) by omega] at this
def BlsOk (mg : Str → Option Value) : List Str → Prop
  | [] => True
  | x :: r => mg x = none ∧ BlsOk mg r
theorem BlsOk.get : ∀ {l : List Str}, BlsOk mg l → ∀ x ∈ l, mg x = none
  | [], _, x, h => nomatch h
  | y :: r, f, x, h => by
    rcases List.mem_cons.mp h with rfl | h
    · exact f.1
    · exact BlsOk.get f.2 x h

/-- what stands at the entry -/
theorem start_own {K : PySem.W.Frag} {F H : Hp} {n : Nat} : ∀ {ms : List Bool} {vs : List V} {ds : List D} {A : List Addr}, OwnM K F H ms vs ds A →
    OwnE K F H (ds.map some ++ List.replicate n none) (vs.map some ++ List.replicate n none) A
  | [], [], [], A, h => by
    unfold OwnM at h
    subst h
    induction n with
    | zero => unfold OwnE; rfl
    | succ n ih =>
      rw [List.replicate_succ, List.replicate_succ]
      simp only [List.map_nil, List.nil_append] at ih ⊢
      unfold OwnE
      exact ih
  | false :: ms, v :: vs, d :: ds, A, h => by
    unfold OwnM at h
    rw [List.map_cons, List.map_cons, List.cons_append, List.cons_append]
    unfold OwnE
    exact ⟨v, [], A, rfl, rfl, Own.of_rep d v h.1, start_own h.2⟩
  | true :: ms, v :: vs, d :: ds, A, h => by
    unfold OwnM at h
    obtain ⟨A1, A2, e, o, r⟩ := h
    rw [List.map_cons, List.map_cons, List.cons_append, List.cons_append]
    unfold OwnE
    exact ⟨v, A1, A2, rfl, e, o, start_own r⟩
  | [], _ :: _, _, _, h => h.elim
  | [], [], _ :: _, _, h => h.elim
  | false :: ms, [], _, _, h => h.elim
  | true :: ms, [], _, _, h => h.elim
  | false :: ms, _ :: _, [], _, h => h.elim
  | true :: ms, _ :: _, [], _, h => h.elim
/-- the slots of those that are changed, with what they hold -/
def pnAt : Nat → List Bool → List V → List (Nat × V)
  | i, true :: ms, v :: vs => (i, v) :: pnAt (i + 1) ms vs
  | i, false :: ms, _ :: vs => pnAt (i + 1) ms vs
  | _, _, _ => []
theorem pnAt_fst : ∀ {ms : List Bool} {vs : List V} {i : Nat}, ms.length = vs.length → (pnAt i ms vs).map (·.1) = ((List.range' i ms.length).filter fun j => ms.getD (j - i) false)
  | [], [], i, _ => rfl
  | true :: ms, v :: vs, i, h => by
    unfold pnAt
    rw [List.map_cons, pnAt_fst (by simpa using h), List.length_cons, List.range'_succ, List.filter_cons]
    have z : ((true :: ms).getD (i - i) false) = true := by simp
    rw [if_pos z]
    refine congrArg _ (List.filter_congr fun j hj => ?_)
    have : i + 1 ≤ j := by simp [List.mem_range'] at hj; omega
    rw [show j - i = (j - (i + 1)) + 1 by omega]
    simp
  | false :: ms, v :: vs, i, h => by
    unfold pnAt
    rw [pnAt_fst (by simpa using h), List.length_cons, List.range'_succ, List.filter_cons]
    have z : ((false :: ms).getD (i - i) false) = false := by simp
    rw [if_neg (by rw [z]; exact Bool.false_ne_true)]
    refine List.filter_congr fun j hj => ?_
    have : i + 1 ≤ j := by simp [List.mem_range'] at hj; omega
    rw [show j - i = (j - (i + 1)) + 1 by omega]
    simp
  | [], _ :: _, i, h => by simp at h
  | true :: _, [], i, h => by simp at h
  | false :: _, [], i, h => by simp at h
theorem mutsAt_eq {ms : List Bool} {vs : List V} (h : ms.length = vs.length) : (pnAt 0 ms vs).map (·.1) = mutsAt ms := by
  rw [pnAt_fst h]
  unfold mutsAt
  rw [List.range_eq_range']
  refine List.filter_congr fun j _ => ?_
  rw [Nat.sub_zero]
theorem pnAt_snd : ∀ {ms : List Bool} {vs : List V} {i : Nat}, ms.length = vs.length → (pnAt i ms vs).map (·.2) = mutOf ms vs
  | [], [], i, _ => rfl
  | true :: ms, v :: vs, i, h => by unfold pnAt mutOf; rw [List.map_cons, pnAt_snd (by simpa using h)]
  | false :: ms, v :: vs, i, h => by unfold pnAt mutOf; rw [pnAt_snd (by simpa using h)]
  | [], _ :: _, i, h => by simp at h
  | true :: _, [], i, h => by simp at h
  | false :: _, [], i, h => by simp at h
theorem pnAt_pn {n : Nat} : ∀ {ms : List Bool} {vs : List V} {pre : List V}, Pn (pnAt pre.length ms vs) ((pre ++ vs).map some ++ List.replicate n none)
  | [], vs, pre => fun p hp => by cases vs <;> exact nomatch hp
  | true :: ms, v :: vs, pre => by
    intro p hp
    unfold pnAt at hp
    rcases List.mem_cons.mp hp with rfl | hp
    · simp
    · have := pnAt_pn (n := n) (ms := ms) (vs := vs) (pre := pre ++ [v]) p (by simpa using hp)
      simpa using this
  | false :: ms, v :: vs, pre => by
    intro p hp
    unfold pnAt at hp
    have := pnAt_pn (n := n) (ms := ms) (vs := vs) (pre := pre ++ [v]) p (by simpa using hp)
    simpa using this
  | true :: _, [], pre => fun p hp => nomatch hp
  | false :: _, [], pre => fun p hp => nomatch hp
/-- what is read at the end -/
theorem getAll_ok {K : PySem.W.Frag} {F H : Hp} {σ : DSt} : ∀ {pn : List (Nat × V)} {ρ : Env} {A : List Addr} {ds : List D}, (pn.map (·.1)).Nodup → OwnE K F H ρ σ A → Pn pn σ → getAll ρ (pn.map (·.1)) = some ds →
    ∃ B Ar, OwnL K F H (pn.map (·.2)) ds B ∧ A.Perm (Ar ++ B)
  | [], ρ, A, ds, _, o, q, h => by
    unfold getAll at h
    cases h
    exact ⟨[], A, by unfold OwnL; exact ⟨rfl, rfl⟩, by simp⟩
  | (i, v) :: pn, ρ, A, ds, nd, o, q, h => by
    rw [List.map_cons] at h
    unfold getAll at h
    split at h
    · rename_i d ds' h1 h2
      cases h
      obtain ⟨v', B, A', s1, o1, oR, pm⟩ := o.take (getS_get h1)
      have s2 := q (i, v) List.mem_cons_self
      have ev : v' = v := by
        have z := s1.symm.trans s2
        exact Option.some.inj (Option.some.inj z)
      subst ev
      rw [List.map_cons] at nd
      have nd' := List.nodup_cons.mp nd
      have keep : ∀ l : List Nat, i ∉ l → getAll (ρ.set i none) l = getAll ρ l := by
        intro l
        induction l with
        | nil => intro _; rfl
        | cons j l ih =>
          intro hn
          have hj : i ≠ j := fun e => hn (by rw [e]; exact List.mem_cons_self)
          unfold getAll
          rw [ih fun z => hn (List.mem_cons_of_mem _ z)]
          have : getS (ρ.set i none) j = getS ρ j := by unfold getS; rw [List.getElem?_set_ne hj]
          rw [this]
      obtain ⟨B2, Ar, oL, pm2⟩ := getAll_ok (pn := pn) (ρ := ρ.set i none) nd'.2 oR (fun p hp => q p (List.mem_cons_of_mem _ hp)) (by rw [keep _ nd'.1]; exact h2)
      refine ⟨B ++ B2, Ar, ?_, ?_⟩
      · rw [List.map_cons]
        unfold OwnL
        exact ⟨v', _, B, B2, rfl, rfl, o1, oL⟩
      · refine pm.trans ?_
        refine (List.Perm.append_right B pm2).trans ?_
        rw [List.append_assoc]
        exact List.Perm.append_left Ar List.perm_append_comm
    · cases h

/-- a def, from the match of its body -/
theorem def_ok {x qual : Str} {st : Stmt} {f : Addr} {fd : FuncData} {ps : List Str} {k : Nat} {ms : List Bool} {b : Sms} (Fu : Fun C.K x qual st f fd) (S : FnScope C.nm.N ps (defScope st)) (hm : ms.length = ps.length)
    (hf : FnsOk C P w mg base k 0 C.nm.fn) (hcn : CnsOk C mg 0 C.nm.cn) (hbl : BlsOk mg C.nm.bl) (hg : C.mg = mg) (hc : cSms C.nm (defScope st) b (defBody st) = true) :
    FnOk P w C.K mg base (L2.CX P w) (k + 1) f fd ps (spD C ms (evDef C.sg ms C.nm.N.length b)) := by
  refine Fu.okX (N := C.nm.N) S (fun vs H Q E h => ?_) fun cdv A outer s H vs Q E hr h => ?_
  · obtain ⟨ds, F, B, _, _, _, o, _⟩ := h
    rw [o.len.1, hm]
  · obtain ⟨ds, F, A0, sm, nd, fr, o, h⟩ := h
    have lv := o.len.1
    have ld := o.len.2
    obtain ⟨X, hX⟩ : ∃ X, X = cxOf (L2.CX P w) P w C.K mg base C.nm.N qual (defScope st) f cdv A outer s H E := ⟨_, rfl⟩
    have O : XOK C k (defScope st) X := by
      subst hX
      exact ⟨rfl, hg.symm, rfl, S.nd, rfl, rfl, hr, fun i y ns e => by
        have := hf.get i y ns e
        rw [Nat.zero_add] at this
        exact ⟨this.mgf, this.kp, this.bd, this.ok⟩, fun i y e => by
        have := hcn.get i y e
        rw [Nat.zero_add] at this
        exact this, fun y hy => hbl.get y hy, hr.units⟩
    have K : FOK C k (defScope st) X (fun cls d _ H' => E cls d H') := by
      subst hX
      exact ⟨O, takes_of rfl rfl rfl rfl, passes_of rfl, S.kind⟩
    rw [← hX]
    refine ⟨WpSs X (defBody st), pss_wp, ?_⟩
    have hlen : ms.length = vs.length := lv.symm
    have hpn := mutsAt_eq hlen
    have S0 : SR C.K (L2.start C.nm.N vs) (ds.map some ++ List.replicate (C.nm.N.length - ds.length) none) F H A0 := by
      refine ⟨sm, nd, fr, ?_⟩
      unfold L2.start
      rw [ld, lv]
      exact start_own o
    have q0 : Pn (pnAt 0 ms vs) (L2.start C.nm.N vs) := by
      have := pnAt_pn (n := C.nm.N.length - vs.length) (ms := ms) (vs := vs) (pre := [])
      simpa [L2.start] using this
    have ndp : ((pnAt 0 ms vs).map (·.1)).Nodup := by
      rw [hpn]
      exact List.filter_sublist.nodup List.nodup_range
    refine sSms b K hc _ _ F H A0 _ S0 q0 ?_
    rw [hpn]
    unfold evDef at h
    -- what a return leaves
    have fin : ∀ {d ms' ρ' v σ' F' H' A' B}, SR C.K σ' ρ' F' H' A' → Pn (pnAt 0 ms vs) σ' → Own C.K F' H' v d B → Ext false F H A0 F' H' (A' ++ B) → (A' ++ B).Nodup → (∀ b ∈ B, F' b = none) → getAll ρ' (mutsAt ms) = some ms' →
        (∀ v F' H' A' B, Ext false F H A0 F' H' (A' ++ B) → (A' ++ B).Nodup → (∀ b ∈ A' ++ B, F' b = none) → Same F' H' → OwnL C.K F' H' (mutOf ms vs) ms' A' → Own C.K F' H' v d B → Q v H') → Q v H' := by
      intro d ms' ρ' v σ' F' H' A' B S' q' ow e n f hg h
      rw [← hpn] at hg
      obtain ⟨Bm, Ar, oL, pm⟩ := getAll_ok ndp S'.own q' hg
      rw [pnAt_snd hlen] at oL
      have inA : ∀ b ∈ Bm, b ∈ A' := fun b hb => pm.mem_iff.mpr (List.mem_append_right _ hb)
      have n' := List.nodup_append.mp n
      have nB : (Ar ++ Bm).Nodup := pm.nodup_iff.mp n'.1
      refine h v F' H' Bm B (e.sub fun b hb => .inl ?_) ?_ ?_ S'.same oL ow
      · rcases List.mem_append.mp hb with z | z
        · exact List.mem_append_left _ (inA b z)
        · exact List.mem_append_right _ z
      · exact List.nodup_append.mpr ⟨(List.nodup_append.mp nB).2.1, n'.2.1, fun a ha b hb => n'.2.2 a (inA a ha) b hb⟩
      · intro b hb
        rcases List.mem_append.mp hb with z | z
        · exact S'.free b (inA b z)
        · exact f b z
    cases hE : evSs C.sg (mutsAt ms) b (ds.map some ++ List.replicate (C.nm.N.length - ds.length) none) with
    | rt d ρ' =>
      rw [hE] at h
      dsimp only at h
      split at h
      · rename_i d1 ms1 e1
        split at e1
        · rename_i ms2 hg2
          cases e1
          exact fun v σ' F' H' A' B S' q' o e n f => fin S' q' o e n f hg2 h
        · cases e1
      · rename_i e1
        split at e1 <;> cases e1
      · exact h.elim
    | nx ρ' =>
      rw [hE] at h
      dsimp only at h
      split at h
      · rename_i d1 ms1 e1
        split at e1
        · rename_i ms2 hg2
          cases e1
          exact fun σ' F' H' A' S' q' e => fin (v := .non) (B := []) S' q' (by unfold Own; exact ⟨rfl, rfl⟩) (by rw [List.append_nil]; exact e) (by rw [List.append_nil]; exact S'.nd) (fun b hb => nomatch hb) hg2 h
        · cases e1
      · rename_i e1
        split at e1 <;> cases e1
      · exact h.elim
    | exc y fs ρ' =>
      rw [hE] at h
      dsimp only at h
      exact fun cls d σ' F' H' A' S' e r => h cls d F' H' (e.sub fun b hb => nomatch hb) S'.same r
    | bk ρ' => rw [hE] at h; exact h.elim
    | ct ρ' => rw [hE] at h; exact h.elim
    | stk => rw [hE] at h; exact h.elim

/-- the law's promise, from its meaning -/
theorem law_sp {C : Cst} {sem : List D → Res} {H : Hp} {a : Addr} {ns : List Int} (hS : SqL C.K H a (ns.map V.int)) (h : sem [.lst false (ns.map .int)] = .ok (.bl true) []) :
    spD C [false] sem [.ref a] H (fun v _ => v = .bl true) fun _ _ _ => False := by
  have rl : ∀ l : List Int, RepL C.K H (l.map V.int) (l.map D.int) := by
    intro l
    induction l with
    | nil => simp only [List.map_nil]; unfold RepL; rfl
    | cons i l ih => rw [List.map_cons, List.map_cons]; unfold RepL; exact ⟨_, _, rfl, by unfold Rep; rfl, ih⟩
  refine ⟨[.lst false (ns.map .int)], H, [], Same.refl H, List.nodup_nil, (fun a h => nomatch h), ?_, ?_⟩
  · unfold OwnM
    refine ⟨?_, by unfold OwnM; rfl⟩
    unfold Rep
    exact ⟨rfl, a, ns.map V.int, rfl, hS, rl ns⟩
  · rw [h]
    intro v F' H' A' B _ _ _ _ _ o
    unfold Own at o
    exact o.2
/-- the law's promise as the end asks it -/
def spLaw (K : PySem.W.Frag) : Sp := fun vs H Q _ => ∃ (a : Addr) (ns : List Int), vs = [.ref a] ∧ SqL K H a (ns.map V.int) ∧ ns.length ≤ 63 ∧ (∀ z ∈ ns, Builtin.Int.intBits z ≤ 1048576) ∧ ∀ H', Q (.bl true) H'
theorem law_imp {C : Cst} {sem : List D → Res} (h : ∀ ns : List Int, ns.length ≤ 63 → (∀ z ∈ ns, Builtin.Int.intBits z ≤ 1048576) → sem [.lst false (ns.map .int)] = .ok (.bl true) []) (vs : List V) (H : Hp) (Q : VK) (E : XK)
    (q : spLaw C.K vs H Q E) : spD C [false] sem vs H Q E := by
  obtain ⟨a, ns, rfl, hS, hl, hb, hQ⟩ := q
  have rl : ∀ l : List Int, RepL C.K H (l.map V.int) (l.map D.int) := by
    intro l
    induction l with
    | nil => simp only [List.map_nil]; unfold RepL; rfl
    | cons i l ih => rw [List.map_cons, List.map_cons]; unfold RepL; exact ⟨_, _, rfl, by unfold Rep; rfl, ih⟩
  refine ⟨[.lst false (ns.map .int)], H, [], Same.refl H, List.nodup_nil, (fun a h => nomatch h), ?_, ?_⟩
  · unfold OwnM
    refine ⟨?_, by unfold OwnM; rfl⟩
    unfold Rep
    exact ⟨rfl, a, ns.map V.int, rfl, hS, rl ns⟩
  · rw [h ns hl hb]
    intro v F' H' A' B _ _ _ _ _ o
    unfold Own at o
    rw [o.2]
    exact hQ H'
theorem law_walk {l : PySem.W.OpenLaw} {k : Nat} {q : Program} {loose : List Str} {XP : (Str → Option Value) → Heap → Prop} {YP : World → Heap → Prop} {d : DefRec} {K : Params → PySem.W.Frag} {x : Str}
    (hn : l.most = some 63) (hdf : d.params.defaults = []) (hr : Room k callerA) (hY : ∀ (w : World) (h : Heap), YP w h → (K w.params).In h)
    (F : ∀ (w : World) (mg : Str → Option Value) (fa : Addr) (h : Heap), (K w.params).In h → h.Ns mainGlobals mg → mg d.name = some (.ref fa) →
      ∃ fd : FuncData, (∀ (s : Shared) (u : Value), BindsTo s fd ⟨[u], []⟩ [(x, u)]) ∧ ∀ base : Heap, (K w.params).In base → base.Ns mainGlobals mg → FnOk l.prog w (K w.params) mg base (L2.CX l.prog w) k fa fd [x] (spLaw (K w.params))) :
    PySem.W.WalkO q loose XP YP l.row.toRowW d [] (fun f vs => PySem.call f vs) :=
  L2.walk_ofB (n := 63) (k := k) (x := x) (CX := fun w => L2.CX l.prog w) (sp := fun w => spLaw (K w.params)) hn (by decide) hdf hr hY F (fun _ _ a ns hl hb _ hS => ⟨a, ns, rfl, hS, hl, hb, fun _ => rfl⟩) fun _ _ _ _ _ z => by
    obtain ⟨_, _, _, _, _, _, _, _, _, _, _, _, z⟩ := z
    exact z.elim
end
end DS

set_option Elab.async false
set_option linter.all false
set_option maxRecDepth 100000
/-! DM1: typed values as trees; the evaluator's equations as rewriting rules. -/
namespace DM
open DS PySem L2

/-! ### typed values -/
class En (α : Type) where
  enc : α → D
  fz : ∀ a, rootFz (enc a) = true
  ff : ∀ a, frz (enc a) = enc a
open En (enc)
abbrev Tx := List Nat
structure Tu (α : Type) where
  l : List α
theorem frzL_map {α : Type} (e : α → D) (h : ∀ a, frz (e a) = e a) : ∀ l : List α, frzL (l.map e) = l.map e
  | [] => by rw [List.map_nil]; unfold frzL; rfl
  | a :: l => by rw [List.map_cons]; unfold frzL; rw [h, frzL_map e h l]
instance : En Int := ⟨.int, fun _ => rfl, fun _ => by unfold frz; rfl⟩
instance : En Bool := ⟨.bl, fun _ => rfl, fun _ => by unfold frz; rfl⟩
instance : En Tx := ⟨fun l => .str (SX.S l), fun _ => rfl, fun _ => by unfold frz; rfl⟩
instance : En Unit := ⟨fun _ => .non, fun _ => rfl, fun _ => by unfold frz; rfl⟩
instance {α : Type} [En α] : En (Option α) := ⟨fun o => match o with | none => .non | some a => enc a, fun o => by cases o with | none => rfl | some a => exact En.fz a, fun o => by cases o with | none => unfold frz; rfl | some a => exact En.ff a⟩
instance {α : Type} [En α] : En (List α) := ⟨fun l => .lst false (l.map enc), fun _ => rfl, fun l => by unfold frz; rw [frzL_map _ En.ff]⟩
instance {α : Type} [En α] : En (Tu α) := ⟨fun t => .tup false (t.l.map enc), fun _ => rfl, fun l => by unfold frz; rw [frzL_map _ En.ff]⟩
structure T2 (α β : Type) where (a0 : α) (a1 : β)
structure T3 (α β γ : Type) where (a0 : α) (a1 : β) (a2 : γ)
structure T4 (α β γ δ : Type) where (a0 : α) (a1 : β) (a2 : γ) (a3 : δ)
structure T5 (α β γ δ ε : Type) where (a0 : α) (a1 : β) (a2 : γ) (a3 : δ) (a4 : ε)
structure H2 (α β : Type) where (a0 : α) (a1 : β)
structure H3 (α β γ : Type) where (a0 : α) (a1 : β) (a2 : γ)
structure H4 (α β γ δ : Type) where (a0 : α) (a1 : β) (a2 : γ) (a3 : δ)
structure H5 (α β γ δ ε : Type) where (a0 : α) (a1 : β) (a2 : γ) (a3 : δ) (a4 : ε)
section
variable {α β γ δ ε : Type} [En α] [En β] [En γ] [En δ] [En ε]
theorem frz_enc (a : α) : frz (enc a) = enc a := En.ff a
theorem rootFz_enc (a : α) : rootFz (enc a) = true := En.fz a
instance : En (T2 α β) := ⟨fun t => .tup false [enc t.a0, enc t.a1], fun _ => rfl, fun t => by simp only [frz, frzL, frz_enc]⟩
instance : En (T3 α β γ) := ⟨fun t => .tup false [enc t.a0, enc t.a1, enc t.a2], fun _ => rfl, fun t => by simp only [frz, frzL, frz_enc]⟩
instance : En (T4 α β γ δ) := ⟨fun t => .tup false [enc t.a0, enc t.a1, enc t.a2, enc t.a3], fun _ => rfl, fun t => by simp only [frz, frzL, frz_enc]⟩
instance : En (T5 α β γ δ ε) := ⟨fun t => .tup false [enc t.a0, enc t.a1, enc t.a2, enc t.a3, enc t.a4], fun _ => rfl, fun t => by simp only [frz, frzL, frz_enc]⟩
instance : En (H2 α β) := ⟨fun t => .lst false [enc t.a0, enc t.a1], fun _ => rfl, fun t => by simp only [frz, frzL, frz_enc]⟩
instance : En (H3 α β γ) := ⟨fun t => .lst false [enc t.a0, enc t.a1, enc t.a2], fun _ => rfl, fun t => by simp only [frz, frzL, frz_enc]⟩
instance : En (H4 α β γ δ) := ⟨fun t => .lst false [enc t.a0, enc t.a1, enc t.a2, enc t.a3], fun _ => rfl, fun t => by simp only [frz, frzL, frz_enc]⟩
instance : En (H5 α β γ δ ε) := ⟨fun t => .lst false [enc t.a0, enc t.a1, enc t.a2, enc t.a3, enc t.a4], fun _ => rfl, fun t => by simp only [frz, frzL, frz_enc]⟩
theorem e_int (i : Int) : enc i = D.int i := id rfl
theorem e_bl (i : Bool) : enc i = D.bl i := id rfl
theorem e_tx (i : Tx) : enc i = D.str (SX.S i) := id rfl
theorem e_un (i : Unit) : enc i = D.non := id rfl
theorem e_non : enc (none : Option α) = D.non := id rfl
theorem e_som (a : α) : enc (some a) = enc a := id rfl
theorem e_lst (l : List α) : enc l = D.lst false (l.map enc) := id rfl
theorem e_tu (l : Tu α) : enc l = D.tup false (l.l.map enc) := id rfl
theorem e_t2 (t : T2 α β) : enc t = D.tup false [enc t.a0, enc t.a1] := id rfl
theorem e_t3 (t : T3 α β γ) : enc t = D.tup false [enc t.a0, enc t.a1, enc t.a2] := id rfl
theorem e_t4 (t : T4 α β γ δ) : enc t = D.tup false [enc t.a0, enc t.a1, enc t.a2, enc t.a3] := id rfl
theorem e_t5 (t : T5 α β γ δ ε) : enc t = D.tup false [enc t.a0, enc t.a1, enc t.a2, enc t.a3, enc t.a4] := id rfl
theorem e_h2 (t : H2 α β) : enc t = D.lst false [enc t.a0, enc t.a1] := id rfl
theorem e_h3 (t : H3 α β γ) : enc t = D.lst false [enc t.a0, enc t.a1, enc t.a2] := id rfl
theorem e_h4 (t : H4 α β γ δ) : enc t = D.lst false [enc t.a0, enc t.a1, enc t.a2, enc t.a3] := id rfl
theorem e_h5 (t : H5 α β γ δ ε) : enc t = D.lst false [enc t.a0, enc t.a1, enc t.a2, enc t.a3, enc t.a4] := id rfl
end
/-- values that are not None -/
class EnN (α : Type) [En α] : Prop where
  nn : ∀ a : α, isNon (enc a) = false
instance : EnN Int := ⟨fun _ => rfl⟩
instance : EnN Bool := ⟨fun _ => rfl⟩
instance : EnN Tx := ⟨fun _ => rfl⟩
instance {α : Type} [En α] : EnN (List α) := ⟨fun _ => rfl⟩
instance {α : Type} [En α] : EnN (Tu α) := ⟨fun _ => rfl⟩
section
variable {α β γ δ ε : Type} [En α] [En β] [En γ] [En δ] [En ε]
instance : EnN (T2 α β) := ⟨fun _ => rfl⟩
instance : EnN (T3 α β γ) := ⟨fun _ => rfl⟩
instance : EnN (T4 α β γ δ) := ⟨fun _ => rfl⟩
instance : EnN (T5 α β γ δ ε) := ⟨fun _ => rfl⟩
instance : EnN (H2 α β) := ⟨fun _ => rfl⟩
instance : EnN (H3 α β γ) := ⟨fun _ => rfl⟩
instance : EnN (H4 α β γ δ) := ⟨fun _ => rfl⟩
instance : EnN (H5 α β γ δ ε) := ⟨fun _ => rfl⟩
end
/-- atoms: never in the heap -/
class EnA (α : Type) [En α] : Prop where
  at0 : ∀ a : α, atom (enc a) = true
instance : EnA Int := ⟨fun _ => rfl⟩
instance : EnA Bool := ⟨fun _ => rfl⟩
instance : EnA Tx := ⟨fun _ => rfl⟩
instance : EnA Unit := ⟨fun _ => rfl⟩
instance {α : Type} [En α] [EnA α] : EnA (Option α) := ⟨fun o => by cases o with | none => rfl | some a => exact EnA.at0 a⟩
theorem atom_enc {α : Type} [En α] [EnA α] (a : α) : atom (enc a) = true := EnA.at0 a
theorem isNon_enc {α : Type} [En α] [EnN α] (a : α) : isNon (enc a) = false := EnN.nn a
theorem isNon_opt {α : Type} [En α] [EnN α] (o : Option α) : isNon (enc o) = o.isNone := by
  cases o with
  | none => rfl
  | some a => exact EnN.nn a
/-- values whose == is equality -/
class EnE (α : Type) [En α] [DecidableEq α] : Prop where
  eqD : ∀ a b : α, DS.eqD (enc a) (enc b) = some (decide (a = b))
theorem eqD_int (a b : Int) : eqD (.int a) (.int b) = some (decide (a = b)) := by
  unfold eqD; simp [vOf, flatD, scal]
theorem eqD_bl (a b : Bool) : eqD (.bl a) (.bl b) = some (decide (a = b)) := by
  unfold eqD; simp [vOf, flatD, scal]
theorem eqD_tx (a b : Tx) : eqD (.str (SX.S a)) (.str (SX.S b)) = some (decide (a = b)) := by
  unfold eqD
  have : (SX.S a = SX.S b) ↔ a = b := ⟨SX.S_inj, fun h => by rw [h]⟩
  simp [vOf, flatD, scal, this]
instance : EnE Int := ⟨eqD_int⟩
instance : EnE Bool := ⟨eqD_bl⟩
instance : EnE Tx := ⟨eqD_tx⟩

/-! ### Out -/
theorem bind_cg {α β : Type} {o o' : Out α} (f : α → DS.Env → Out β) (h : o = o') : o.bind f = o'.bind f := by rw [h]
theorem sb_cg {α : Type} {o o' : Out α} (f : α → DS.Env → SOut) (h : o = o') : o.sb f = o'.sb f := by rw [h]
section
variable {α β γ : Type} {ρ : DS.Env}
theorem bind_ok' (a : α) (f : α → DS.Env → Out β) : (Out.ok a ρ).bind f = f a ρ := id rfl
theorem bind_stk' (f : α → DS.Env → Out β) : (Out.stk : Out α).bind f = .stk := id rfl
theorem sb_ok' (a : α) (f : α → DS.Env → SOut) : (Out.ok a ρ).sb f = f a ρ := id rfl
theorem sb_stk' (f : α → DS.Env → SOut) : (Out.stk : Out α).sb f = .stk := id rfl
theorem lift_some' (a : α) : Out.lift (some a) ρ = .ok a ρ := id rfl
theorem lift_none' : Out.lift (none : Option α) ρ = .stk := id rfl
theorem bind_lift (o : Option α) (f : α → DS.Env → Out β) : (Out.lift o ρ).bind f = o.elim .stk fun a => f a ρ := by cases o <;> rfl
theorem sb_lift (o : Option α) (f : α → DS.Env → SOut) : (Out.lift o ρ).sb f = o.elim .stk fun a => f a ρ := by cases o <;> rfl
theorem bind_elim (o : Option γ) (g : γ → Out α) (f : α → DS.Env → Out β) : (o.elim .stk g).bind f = o.elim .stk fun a => (g a).bind f := by cases o <;> rfl
theorem sb_elim (o : Option γ) (g : γ → Out α) (f : α → DS.Env → SOut) : (o.elim .stk g).sb f = o.elim .stk fun a => (g a).sb f := by cases o <;> rfl
theorem bind_ite (c : Prop) [Decidable c] (a b : Out α) (f : α → DS.Env → Out β) : (if c then a else b).bind f = if c then a.bind f else b.bind f := by split <;> rfl
theorem sb_ite (c : Prop) [Decidable c] (a b : Out α) (f : α → DS.Env → SOut) : (if c then a else b).sb f = if c then a.sb f else b.sb f := by split <;> rfl
theorem elim_map (o : Option α) (e : α → β) (n : γ) (f : β → γ) : (o.map e).elim n f = o.elim n fun a => f (e a) := by cases o <;> rfl
theorem elim_bind (o : Option α) (g : α → Option β) (n : γ) (f : β → γ) : (o.bind g).elim n f = o.elim n fun a => (g a).elim n f := by cases o <;> rfl
theorem elim_ite (c : Prop) [Decidable c] (a b : Option α) (n : γ) (f : α → γ) : (if c then a else b).elim n f = if c then a.elim n f else b.elim n f := by split <;> rfl
theorem elim_some (a : α) (n : γ) (f : α → γ) : (some a).elim n f = f a := id rfl
theorem elim_none (n : γ) (f : α → γ) : (none : Option α).elim n f = n := id rfl
theorem map_map' (o : Option α) (e : α → β) (f : β → γ) : (o.map e).map f = o.map fun a => f (e a) := by cases o <;> rfl
theorem map_some' (a : α) (e : α → β) : (some a).map e = some (e a) := id rfl
theorem map_ite (c : Prop) [Decidable c] (a b : Option α) (e : α → β) : (if c then a else b).map e = if c then a.map e else b.map e := by split <;> rfl
end
/-- a test decided ahead of a second one -/
def andO (p : Out Bool) (q : DS.Env → Out Bool) : Out Bool := p.bind fun t ρ => if t then q ρ else .ok false ρ
def orO (p : Out Bool) (q : DS.Env → Out Bool) : Out Bool := p.bind fun t ρ => if t then .ok true ρ else q ρ
def and2 (p : Bool) (q : Out Bool) (ρ : DS.Env) : Out Bool := if p then q else .ok false ρ
def or2 (p : Bool) (q : Out Bool) (ρ : DS.Env) : Out Bool := if p then .ok true ρ else q
def notO (p : Out Bool) : Out Bool := p.bind fun t ρ => .ok (!t) ρ
def iteO (p : Out Bool) (a b : DS.Env → Out D) : Out D := p.bind fun t ρ => if t then a ρ else b ρ
def ite2 (p : Bool) (a b : Out D) : Out D := if p then a else b
theorem andO_cg {p p' : Out Bool} (q : DS.Env → Out Bool) (h : p = p') : andO p q = andO p' q := by rw [h]
theorem orO_cg {p p' : Out Bool} (q : DS.Env → Out Bool) (h : p = p') : orO p q = orO p' q := by rw [h]
theorem iteO_cg {p p' : Out Bool} (a b : DS.Env → Out D) (h : p = p') : iteO p a b = iteO p' a b := by rw [h]
section
variable {ρ : DS.Env} {α : Type}
theorem andO_ok (p : Bool) (q : DS.Env → Out Bool) : andO (.ok p ρ) q = and2 p (q ρ) ρ := id rfl
theorem andO_elim (o : Option α) (g : α → Out Bool) (q : DS.Env → Out Bool) : andO (o.elim .stk g) q = o.elim .stk fun a => andO (g a) q := by cases o <;> rfl
theorem andO_lift (o : Option Bool) (q : DS.Env → Out Bool) : andO (Out.lift o ρ) q = o.elim .stk fun a => and2 a (q ρ) ρ := by cases o <;> rfl
theorem and2_ok (p q : Bool) : and2 p (.ok q ρ) ρ = .ok (p && q) ρ := by cases p <;> rfl
theorem and2_elim (p : Bool) (o : Option α) (g : α → Out Bool) : and2 p (o.elim .stk g) ρ = if p = true then o.elim .stk g else .ok false ρ := id rfl
theorem and2_lift (p : Bool) (o : Option Bool) : and2 p (Out.lift o ρ) ρ = Out.lift (if p = true then o else some false) ρ := by cases p <;> rfl
theorem and2_ite (p : Bool) (c : Prop) [Decidable c] (a b : Out Bool) : and2 p (if c then a else b) ρ = if p = true then (if c then a else b) else .ok false ρ := id rfl
theorem orO_ok (p : Bool) (q : DS.Env → Out Bool) : orO (.ok p ρ) q = or2 p (q ρ) ρ := id rfl
theorem orO_elim (o : Option α) (g : α → Out Bool) (q : DS.Env → Out Bool) : orO (o.elim .stk g) q = o.elim .stk fun a => orO (g a) q := by cases o <;> rfl
theorem orO_lift (o : Option Bool) (q : DS.Env → Out Bool) : orO (Out.lift o ρ) q = o.elim .stk fun a => or2 a (q ρ) ρ := by cases o <;> rfl
theorem or2_ok (p q : Bool) : or2 p (.ok q ρ) ρ = .ok (p || q) ρ := by cases p <;> rfl
theorem or2_elim (p : Bool) (o : Option α) (g : α → Out Bool) : or2 p (o.elim .stk g) ρ = if p = true then .ok true ρ else o.elim .stk g := id rfl
theorem or2_lift (p : Bool) (o : Option Bool) : or2 p (Out.lift o ρ) ρ = Out.lift (if p = true then some true else o) ρ := by cases p <;> rfl
theorem or2_ite (p : Bool) (c : Prop) [Decidable c] (a b : Out Bool) : or2 p (if c then a else b) ρ = if p = true then .ok true ρ else (if c then a else b) := id rfl
theorem notO_ok (p : Bool) : notO (.ok p ρ) = .ok (!p) ρ := id rfl
theorem notO_lift (o : Option Bool) : notO (Out.lift o ρ) = Out.lift (o.map fun t => !t) ρ := by cases o <;> rfl
theorem notO_elim (o : Option α) (g : α → Out Bool) : notO (o.elim .stk g) = o.elim .stk fun a => notO (g a) := by cases o <;> rfl
theorem notO_ite (c : Prop) [Decidable c] (a b : Out Bool) : notO (if c then a else b) = if c then notO a else notO b := by split <;> rfl
theorem andO_ite (c : Prop) [Decidable c] (a b : Out Bool) (q : DS.Env → Out Bool) : andO (if c then a else b) q = if c then andO a q else andO b q := by split <;> rfl
theorem orO_ite (c : Prop) [Decidable c] (a b : Out Bool) (q : DS.Env → Out Bool) : orO (if c then a else b) q = if c then orO a q else orO b q := by split <;> rfl
theorem iteO_ok (p : Bool) (a b : DS.Env → Out D) : iteO (.ok p ρ) a b = ite2 p (a ρ) (b ρ) := id rfl
theorem iteO_lift (o : Option Bool) (a b : DS.Env → Out D) : iteO (Out.lift o ρ) a b = o.elim .stk fun p => ite2 p (a ρ) (b ρ) := by cases o <;> rfl
theorem iteO_elim (o : Option α) (g : α → Out Bool) (a b : DS.Env → Out D) : iteO (o.elim .stk g) a b = o.elim .stk fun x => iteO (g x) a b := by cases o <;> rfl
theorem iteO_ite (c : Prop) [Decidable c] (x y : Out Bool) (a b : DS.Env → Out D) : iteO (if c then x else y) a b = if c then iteO x a b else iteO y a b := by split <;> rfl
end
theorem ite2_int (p : Bool) (i j : Int) (ρ : DS.Env) : ite2 p (.ok (.int i) ρ) (.ok (.int j) ρ) = .ok (.int (if p = true then i else j)) ρ := by cases p <;> rfl
theorem ite2_bl (p : Bool) (i j : Bool) (ρ : DS.Env) : ite2 p (.ok (.bl i) ρ) (.ok (.bl j) ρ) = .ok (.bl (if p = true then i else j)) ρ := by cases p <;> rfl
theorem ite2_tx (p : Bool) (i j : Tx) (ρ : DS.Env) : ite2 p (.ok (.str (SX.S i)) ρ) (.ok (.str (SX.S j)) ρ) = .ok (.str (SX.S (if p = true then i else j))) ρ := by cases p <;> rfl
/-- a value that must not be changed by what comes behind it -/
def grd {α : Type} (b : Bool) (o : Out α) : Out α := if b then o else .stk
theorem grd_t {α : Type} (o : Out α) : grd true o = o := id rfl
theorem grd_tl {α : Type} (b : Bool) (o : Out α) : grd (true || b) o = o := id rfl
theorem grd_tr {α : Type} (b : Bool) (o : Out α) : grd (b || true) o = o := by cases b <;> rfl

/-! ### terms -/
section
variable (S : Sg) (ρ : DS.Env)
theorem ev_kk (d : D) : ev S (.kk d) ρ = if atom d = true then .ok d ρ else .stk := by simp only [ev]
theorem ev_int (i : Int) : ev S (.kk (.int i)) ρ = .ok (.int i) ρ := by simp [ev, atom]
theorem ev_bl (i : Bool) : ev S (.kk (.bl i)) ρ = .ok (.bl i) ρ := by simp [ev, atom]
theorem ev_str (i : Str) : ev S (.kk (.str i)) ρ = .ok (.str i) ρ := by simp [ev, atom]
theorem ev_non : ev S (.kk .non) ρ = .ok .non ρ := by simp [ev, atom]
theorem ev_ty (t : DS.Ty) : ev S (.kk (.ty t)) ρ = .ok (.ty t) ρ := by simp [ev, atom]
theorem ev_gc (i : Nat) : ev S (.gc i) ρ = .ok (S.cd i) ρ := by simp only [ev]
def mvO (o : Option D) (i : Nat) (ρ : DS.Env) : Out D := o.elim .stk fun d => .ok (frz d) (ρ.set i (some (frz d)))
def tkO (o : Option D) (i : Nat) (ρ : DS.Env) : Out D := o.elim .stk fun d => .ok d (ρ.set i none)
theorem ev_mv (i : Nat) : ev S (.mv i) ρ = mvO (getS ρ i) i ρ := by simp only [ev, mvO]; cases getS ρ i <;> rfl
theorem ev_tk (i : Nat) : ev S (.tk i) ρ = tkO (getS ρ i) i ρ := by simp only [ev, tkO]; cases getS ρ i <;> rfl
theorem mvO_some (d : D) (i : Nat) : mvO (some d) i ρ = .ok (frz d) (ρ.set i (some (frz d))) := id rfl
theorem tkO_some (d : D) (i : Nat) : tkO (some d) i ρ = .ok d (ρ.set i none) := id rfl
def kbin2 (o : BOp) (b : Ar) (x : D) : D → DS.Env → Out D := fun y ρ2 => grd (kAr b || atom x) (Out.lift (binD o x y) ρ2)
def kbin1 (S : Sg) (o : BOp) (b : Ar) : D → DS.Env → Out D := fun x ρ1 => (evA S b ρ1).bind (kbin2 o b x)
theorem kbin2_a (o : BOp) (b : Ar) (x y : D) : kbin2 o b x y ρ = grd (kAr b || atom x) (Out.lift (binD o x y) ρ) := id rfl
theorem kbin1_a (o : BOp) (b : Ar) (x : D) : kbin1 S o b x ρ = (evA S b ρ).bind (kbin2 o b x) := id rfl
theorem ev_bin (o : BOp) (a b : Ar) : ev S (.bin o a b) ρ = (evA S a ρ).bind (kbin1 S o b) := by simp only [ev] <;> rfl
def kneg : D → DS.Env → Out D := fun x ρ1 => Out.lift (negD x) ρ1
theorem kneg_a (x : D) : kneg x ρ = Out.lift (negD x) ρ := id rfl
theorem ev_neg (a : Ar) : ev S (.neg a) ρ = (evA S a ρ).bind kneg := by simp only [ev] <;> rfl
def kcmp2 (o : COp) (b : Ar) (x : D) : D → DS.Env → Out D := fun y ρ2 => grd (kAr b || atom x) (Out.lift ((cmpD o x y).map .bl) ρ2)
def kcmp1 (S : Sg) (o : COp) (b : Ar) : D → DS.Env → Out D := fun x ρ1 => (evA S b ρ1).bind (kcmp2 o b x)
theorem kcmp2_a (o : COp) (b : Ar) (x y : D) : kcmp2 o b x y ρ = grd (kAr b || atom x) (Out.lift ((cmpD o x y).map .bl) ρ) := id rfl
theorem kcmp1_a (o : COp) (b : Ar) (x : D) : kcmp1 S o b x ρ = (evA S b ρ).bind (kcmp2 o b x) := id rfl
theorem ev_cmp (o : COp) (a b : Ar) : ev S (.cmp o a b) ρ = (evA S a ρ).bind (kcmp1 S o b) := by simp only [ev] <;> rfl
def chnO (o : Option Bool) (k : DS.Env → Out D) (ρ : DS.Env) : Out D := o.elim .stk fun t => if t then k ρ else .ok (.bl false) ρ
theorem chnO_cg {o o' : Option Bool} (k : DS.Env → Out D) (ρ : DS.Env) (h : o = o') : chnO o k ρ = chnO o' k ρ := by rw [h]
def chn2 (p : Bool) (k : Out D) (ρ : DS.Env) : Out D := if p then k else .ok (.bl false) ρ
theorem chnO_some (p : Bool) (k : DS.Env → Out D) : chnO (some p) k ρ = chn2 p (k ρ) ρ := id rfl
theorem chn2_ok (p q : Bool) : chn2 p (.ok (.bl q) ρ) ρ = .ok (.bl (p && q)) ρ := by cases p <;> rfl
theorem chn2_elim {α : Type} (p : Bool) (o : Option α) (g : α → Out D) : chn2 p (o.elim .stk g) ρ = if p = true then o.elim .stk g else .ok (.bl false) ρ := id rfl
def kchn3 (S : Sg) (o2 : COp) (c : Ar) (y : D) : DS.Env → Out D := fun ρ2 => (evA S c ρ2).bind (kcmp2 o2 c y)
def kchn2 (S : Sg) (o1 o2 : COp) (b c : Ar) (x : D) : D → DS.Env → Out D := fun y ρ2 => grd (kAr b || atom x) (chnO (cmpD o1 x y) (kchn3 S o2 c y) ρ2)
def kchn1 (S : Sg) (o1 o2 : COp) (b c : Ar) : D → DS.Env → Out D := fun x ρ1 => (evA S b ρ1).bind (kchn2 S o1 o2 b c x)
theorem kchn3_a (o2 : COp) (c : Ar) (y : D) : kchn3 S o2 c y ρ = (evA S c ρ).bind (kcmp2 o2 c y) := id rfl
theorem kchn2_a (o1 o2 : COp) (b c : Ar) (x y : D) : kchn2 S o1 o2 b c x y ρ = grd (kAr b || atom x) (chnO (cmpD o1 x y) (kchn3 S o2 c y) ρ) := id rfl
theorem kchn1_a (o1 o2 : COp) (b c : Ar) (x : D) : kchn1 S o1 o2 b c x ρ = (evA S b ρ).bind (kchn2 S o1 o2 b c x) := id rfl
theorem ev_chn (o1 o2 : COp) (a b c : Ar) : ev S (.chn o1 o2 a b c) ρ = (evA S a ρ).bind (kchn1 S o1 o2 b c) := by
  simp only [ev]
  congr; funext x ρ1
  unfold kchn1
  congr; funext y ρ2
  unfold kchn2 grd chnO
  cases cmpD o1 x y with
  | none => rfl
  | some t => cases t <;> rfl
def ksub2 (b : Ar) (x : D) : D → DS.Env → Out D := fun y ρ2 => grd (kAr b || atom x) (Out.lift (subD x y) ρ2)
def ksub1 (S : Sg) (b : Ar) : D → DS.Env → Out D := fun x ρ1 => (evA S b ρ1).bind (ksub2 b x)
theorem ksub2_a (b : Ar) (x y : D) : ksub2 b x y ρ = grd (kAr b || atom x) (Out.lift (subD x y) ρ) := id rfl
theorem ksub1_a (b : Ar) (x : D) : ksub1 S b x ρ = (evA S b ρ).bind (ksub2 b x) := id rfl
theorem ev_sub (a i : Ar) : ev S (.sub a i) ρ = (evA S a ρ).bind (ksub1 S i) := by simp only [ev] <;> rfl
def kslc3 (l h : OAr) (x : D) (y : Option Int) : Option Int → DS.Env → Out D := fun z ρ3 => grd ((kOAr l && kOAr h) || atom x) (Out.lift (slcD x y z) ρ3)
def kslc2 (S : Sg) (l h : OAr) (x : D) : Option Int → DS.Env → Out D := fun y ρ2 => (evOA S h ρ2).bind (kslc3 l h x y)
def kslc1 (S : Sg) (l h : OAr) : D → DS.Env → Out D := fun x ρ1 => (evOA S l ρ1).bind (kslc2 S l h x)
theorem kslc3_a (l h : OAr) (x : D) (y z : Option Int) : kslc3 l h x y z ρ = grd ((kOAr l && kOAr h) || atom x) (Out.lift (slcD x y z) ρ) := id rfl
theorem kslc2_a (l h : OAr) (x : D) (y : Option Int) : kslc2 S l h x y ρ = (evOA S h ρ).bind (kslc3 l h x y) := id rfl
theorem kslc1_a (l h : OAr) (x : D) : kslc1 S l h x ρ = (evOA S l ρ).bind (kslc2 S l h x) := id rfl
theorem ev_slc (a : Ar) (l h : OAr) : ev S (.slc a l h) ρ = (evA S a ρ).bind (kslc1 S l h) := by simp only [ev] <;> rfl
def kbi (f : BI) : List D → DS.Env → Out D := fun xs ρ1 => Out.lift (biD f xs) ρ1
theorem kbi_a (f : BI) (xs : List D) : kbi f xs ρ = Out.lift (biD f xs) ρ := id rfl
theorem ev_bi (f : BI) (as : Ars) : ev S (.bi f as) ρ = (evAs S as ρ).bind (kbi f) := by simp only [ev] <;> rfl
def kme2 (m : ME) (as : Ars) (x : D) : List D → DS.Env → Out D := fun xs ρ2 => grd (kArs as || atom x) (Out.lift (meD m x xs) ρ2)
def kme1 (S : Sg) (m : ME) (as : Ars) : D → DS.Env → Out D := fun x ρ1 => grd (recvOk m x) ((evAs S as ρ1).bind (kme2 m as x))
theorem kme2_a (m : ME) (as : Ars) (x : D) (xs : List D) : kme2 m as x xs ρ = grd (kArs as || atom x) (Out.lift (meD m x xs) ρ) := id rfl
theorem kme1_a (m : ME) (as : Ars) (x : D) : kme1 S m as x ρ = grd (recvOk m x) ((evAs S as ρ).bind (kme2 m as x)) := id rfl
theorem ev_me (m : ME) (a : Ar) (as : Ars) : ev S (.me m a as) ρ = (evA S a ρ).bind (kme1 S m as) := by simp only [ev] <;> rfl
def szO (n : Nat) (d : D) (ρ : DS.Env) : Out D := if okSz n then .ok d ρ else .stk
def ktup : List D → DS.Env → Out D := fun ds ρ1 => szO ds.length (.tup false (frzL ds)) ρ1
theorem ktup_a (ds : List D) : ktup ds ρ = szO ds.length (.tup false (frzL ds)) ρ := id rfl
theorem ev_tup (ts : Tms) : ev S (.tup ts) ρ = (evTs S ts ρ).bind ktup := by simp only [ev] <;> rfl
def klst : List D → DS.Env → Out D := fun ds ρ1 => szO ds.length (.lst true (frzL ds)) ρ1
theorem klst_a (ds : List D) : klst ds ρ = szO ds.length (.lst true (frzL ds)) ρ := id rfl
theorem ev_lst (ts : Tms) : ev S (.lst ts) ρ = (evTs S ts ρ).bind klst := by simp only [ev] <;> rfl
theorem ev_call (f : Nat) (as : Cas) : ev S (.call f as) ρ = (evC S as ρ).bind (callD (S.fn f)) := by simp only [ev] <;> rfl
theorem ev_ite (c : Ts) (a b : Tm) : ev S (.ite c a b) ρ = iteO (evT S c ρ) (ev S a) (ev S b) := by simp only [ev, iteO]
def ktst : Bool → DS.Env → Out D := fun t ρ1 => .ok (.bl t) ρ1
theorem ktst_a (t : Bool) : ktst t ρ = .ok (.bl t) ρ := id rfl
theorem ev_tst (c : Ts) : ev S (.tst c) ρ = (evT S c ρ).bind ktst := by simp only [ev] <;> rfl
theorem evA_pk (p : Pl) : evA S (.pk p) ρ = Out.lift (evPl p ρ) ρ := by simp only [evA]
theorem evA_vl (t : Tm) : evA S (.vl t) ρ = ev S t ρ := by simp only [evA]
theorem evPl_sl (i : Nat) : evPl (.sl i) ρ = getS ρ i := by simp only [evPl]
def oaO (x : D) (ρ : DS.Env) : Out (Option Int) := match x with | .int i => .ok (some i) ρ | _ => .stk
theorem oaO_int (i : Int) : oaO (.int i) ρ = .ok (some i) ρ := id rfl
theorem evOA_none : evOA S .none ρ = .ok none ρ := by simp only [evOA]
theorem evOA_some (a : Ar) : evOA S (.some a) ρ = (evA S a ρ).bind oaO := by
  simp only [evOA]
  all_goals congr
theorem evAs_nil : evAs S .nil ρ = .ok [] ρ := by simp only [evAs]
def kas2 (as : Ars) (x : D) : List D → DS.Env → Out (List D) := fun xs ρ2 => grd (kArs as || atom x) (.ok (x :: xs) ρ2)
def kas1 (S : Sg) (as : Ars) : D → DS.Env → Out (List D) := fun x ρ1 => (evAs S as ρ1).bind (kas2 as x)
theorem kas2_a (as : Ars) (x : D) (xs : List D) : kas2 as x xs ρ = grd (kArs as || atom x) (.ok (x :: xs) ρ) := id rfl
theorem kas1_a (as : Ars) (x : D) : kas1 S as x ρ = (evAs S as ρ).bind (kas2 as x) := id rfl
theorem evAs_cons (a : Ar) (as : Ars) : evAs S (.cons a as) ρ = (evA S a ρ).bind (kas1 S as) := by simp only [evAs] <;> rfl
theorem evTs_nil : evTs S .nil ρ = .ok [] ρ := by simp only [evTs]
def kts2 (x : D) : List D → DS.Env → Out (List D) := fun xs ρ2 => .ok (x :: xs) ρ2
def kts1 (S : Sg) (as : Tms) : D → DS.Env → Out (List D) := fun x ρ1 => (evTs S as ρ1).bind (kts2 x)
theorem kts2_a (x : D) (xs : List D) : kts2 x xs ρ = .ok (x :: xs) ρ := id rfl
theorem kts1_a (as : Tms) (x : D) : kts1 S as x ρ = (evTs S as ρ).bind (kts2 x) := id rfl
theorem evTs_cons (a : Tm) (as : Tms) : evTs S (.cons a as) ρ = (ev S a ρ).bind (kts1 S as) := by simp only [evTs] <;> rfl
theorem evC_nil : evC S .nil ρ = .ok [] ρ := by simp only [evC]
def kav (v : AV) : List AV → DS.Env → Out (List AV) := fun vs ρ1 => .ok (v :: vs) ρ1
theorem kav_a (v : AV) (vs : List AV) : kav v vs ρ = .ok (v :: vs) ρ := id rfl
def kvl (S : Sg) (cs : Cas) : D → DS.Env → Out (List AV) := fun d ρ1 => (evC S cs ρ1).bind (kav (.v d))
theorem kvl_a (cs : Cas) (d : D) : kvl S cs d ρ = (evC S cs ρ).bind (kav (.v d)) := id rfl
theorem evC_bor (i : Nat) (cs : Cas) : evC S (.cons (.bor i) cs) ρ = grd (getS ρ i).isSome ((evC S cs ρ).bind (kav (.b i))) := by simp only [evC] <;> rfl
theorem evC_mt (i : Nat) (cs : Cas) : evC S (.cons (.mt i) cs) ρ = grd (getS ρ i).isSome ((evC S cs ρ).bind (kav (.m i))) := by simp only [evC] <;> rfl
theorem evC_vl (t : Tm) (cs : Cas) : evC S (.cons (.vl t) cs) ρ = (ev S t ρ).bind (kvl S cs) := by simp only [evC] <;> rfl
def kbl : D → DS.Env → Out Bool := fun d ρ1 => Out.lift (blD d) ρ1
theorem kbl_a (d : D) : kbl d ρ = Out.lift (blD d) ρ := id rfl
theorem evT_vl (t : Tm) : evT S (.vl t) ρ = (ev S t ρ).bind kbl := by simp only [evT] <;> rfl
def ktr : D → DS.Env → Out Bool := fun d ρ1 => Out.lift (truD d) ρ1
theorem ktr_a (d : D) : ktr d ρ = Out.lift (truD d) ρ := id rfl
theorem evT_tr (a : Ar) : evT S (.tr a) ρ = (evA S a ρ).bind ktr := by simp only [evT] <;> rfl
theorem evT_and (a b : Ts) : evT S (.and a b) ρ = andO (evT S a ρ) (evT S b) := by simp only [evT, andO]
theorem evT_or (a b : Ts) : evT S (.or a b) ρ = orO (evT S a ρ) (evT S b) := by simp only [evT, orO]
theorem evT_not (a : Ts) : evT S (.not a) ρ = notO (evT S a ρ) := by simp only [evT, notO]
theorem blD_bl (b : Bool) : blD (.bl b) = some b := id rfl
end

/-! ### primitives -/
def okP {α : Type} (b : Bool) (a : α) : Option α := if b = true then some a else none
def fdivM (a b : Int) : Option Int := if okDiv b then some (a / b) else none
def modM (a b : Int) : Option Int := if 0 < b then some (a % b) else none
def mulM (a b : Int) : Option Int := if okMul a b then some (a * b) else none
def powM (a b : Int) : Option Int := if okPow a b then some (a ^ b.toNat) else none
def catM {α : Type} (a b : List α) : Option (List α) := if okSz (a.length + b.length) then some (a ++ b) else none
def repM {α : Type} (a : List α) (k : Int) : Option (List α) := if k.natAbs < 2 ^ 62 ∧ okSz (a.length * k.toNat) then some (List.replicate k.toNat a).flatten else none
def subM {α : Type} (l : List α) (i : Int) : Option α := atI l i
def chM (l : Tx) (i : Int) : Option Tx := if okSz l.length then (atI l i).map fun c => [c] else none
def slcM {α : Type} (l : List α) (lo hi : Option Int) : List α := (l.drop (HT.sIx l.length 0 lo)).take (HT.sIx l.length l.length hi - HT.sIx l.length 0 lo)
def slcS (l : Tx) (lo hi : Option Int) : Option Tx := if okSz l.length then some (slcM l lo hi) else none
def lenS (l : Tx) : Option Int := if okSz l.length then some (l.length : Int) else none
section
variable {α β : Type} [En α] [En β] (a b : Int)
theorem b_add : binD .add (.int a) (.int b) = some (.int (a + b)) := id rfl
theorem b_sub : binD .sub (.int a) (.int b) = some (.int (a - b)) := id rfl
theorem b_mul : binD .mul (.int a) (.int b) = (mulM a b).map .int := by
  show (if okMul a b then some (D.int (a * b)) else none) = _
  unfold mulM; split <;> rfl
theorem b_fdiv : binD .fdiv (.int a) (.int b) = (fdivM a b).map .int := by
  show (if okDiv b then some (D.int (a / b)) else none) = _
  unfold fdivM; split <;> rfl
theorem b_mod : binD .mod (.int a) (.int b) = (modM a b).map .int := by
  show (if 0 < b then some (D.int (a % b)) else none) = _
  unfold modM; split <;> rfl
theorem b_pow : binD .pow (.int a) (.int b) = (powM a b).map .int := by
  show (if okPow a b then some (D.int (a ^ b.toNat)) else none) = _
  unfold powM; split <;> rfl
theorem n_neg : negD (.int a) = some (.int (-a)) := id rfl
theorem all_root (l : List α) : (l.map enc).all rootFz = true := by
  induction l with
  | nil => rfl
  | cons a l ih => rw [List.map_cons, List.all_cons, ih, rootFz_enc, Bool.and_true]
theorem b_addL (o p : Bool) (x y : List α) : binD .add (.lst o (x.map enc)) (.lst p (y.map enc)) = (catM x y).map fun z => .lst true (z.map enc) := by
  show (if (x.map enc).all rootFz && (y.map enc).all rootFz && decide (okSz ((x.map enc).length + (y.map enc).length)) then some (D.lst true (x.map enc ++ y.map enc)) else none) = _
  rw [all_root, all_root, List.length_map, List.length_map]
  unfold catM
  by_cases h : okSz (x.length + y.length) <;> simp [h]
theorem b_addT (x y : List α) : binD .add (.tup false (x.map enc)) (.tup false (y.map enc)) = (catM x y).map fun z => .tup false (z.map enc) := by
  show (if (!false && !false) && ((x.map enc).all rootFz && (y.map enc).all rootFz) && decide (okSz ((x.map enc).length + (y.map enc).length)) then some (D.tup false (x.map enc ++ y.map enc)) else none) = _
  rw [all_root, all_root, List.length_map, List.length_map]
  unfold catM
  by_cases h : okSz (x.length + y.length) <;> simp [h]
theorem b_addS (x y : Tx) : binD .add (.str (SX.S x)) (.str (SX.S y)) = (catM x y).map fun z => .str (SX.S z) := by
  show (if okSz ((SX.S x).length + (SX.S y).length) then some (D.str (SX.S x ++ SX.S y)) else none) = _
  rw [SX.S_len, SX.S_len, SX.S_cat]
  unfold catM
  by_cases h : okSz (x.length + y.length) <;> simp [h]
theorem b_mulL (x : List α) : binD .mul (.lst true (x.map enc)) (.int a) = (repM x a).map fun z => .lst true (z.map enc) := by
  show (if true && (x.map enc).all rootFz && decide (a.natAbs < 2 ^ 62) && decide (okSz ((x.map enc).length * a.toNat)) then some (D.lst true (List.replicate a.toNat (x.map enc)).flatten) else none) = _
  rw [all_root, List.length_map]
  unfold repM
  by_cases h : a.natAbs < 2 ^ 62 <;> by_cases h2 : okSz (x.length * a.toNat) <;> simp [h, h2]
theorem atI_map (e : α → D) (l : List α) (i : Int) : atI (l.map e) i = (atI l i).map e := by
  unfold atI
  rw [List.length_map]
  cases ixN l.length i with
  | none => rfl
  | some j => simp only [Option.bind_some, List.getElem?_map]
theorem bind_fz (o : Option α) : (o.map enc).bind fzItem = o.map enc := by
  cases o with
  | none => rfl
  | some x => show (if rootFz (enc x) = true then some (enc x) else none) = _; rw [rootFz_enc]; rfl
theorem s_lst (o : Bool) (l : List α) (i : Int) : subD (.lst o (l.map enc)) (.int i) = (subM l i).map enc := by
  show (atI (l.map enc) i).bind fzItem = _
  rw [atI_map, bind_fz]; rfl
theorem s_tup (o : Bool) (l : List α) (i : Int) : subD (.tup o (l.map enc)) (.int i) = (subM l i).map enc := by
  show (atI (l.map enc) i).bind fzItem = _
  rw [atI_map, bind_fz]; rfl
theorem s_str (l : Tx) (i : Int) : subD (.str (SX.S l)) (.int i) = (chM l i).map fun z => .str (SX.S z) := by
  show (if okSz (SX.S l).length then (atI (SX.S l).cps.toList i).map fun c => D.str ⟨#[c]⟩ else none) = _
  rw [SX.S_len]
  unfold chM
  split
  · show (atI l i).map _ = _
    cases atI l i <;> rfl
  · rfl
theorem s_lstC (o : Bool) (ds : List D) (n : Nat) (d : D) (h : ds[n]? = some d) (hr : rootFz d = true) : subD (.lst o ds) (.int (n : Int)) = some d := by
  show (atI ds (n : Int)).bind fzItem = _
  have hl := (List.getElem?_eq_some_iff.mp h).1
  unfold atI ixN
  rw [if_pos (by omega), if_pos (by omega)]
  simp only [Int.toNat_natCast, Option.bind_some, h]
  show (if rootFz d = true then some d else none) = _
  rw [hr]; rfl
theorem s_tupC (o : Bool) (ds : List D) (n : Nat) (d : D) (h : ds[n]? = some d) (hr : rootFz d = true) : subD (.tup o ds) (.int (n : Int)) = some d := s_lstC o ds n d h hr
theorem cutD_map (l : List α) (lo hi : Option Int) : cutD (l.map enc) lo hi = (slcM l lo hi).map enc := by
  unfold cutD slcM
  rw [List.length_map, List.map_take, List.map_drop]
theorem sl_lst (o : Bool) (l : List α) (lo hi : Option Int) : slcD (.lst o (l.map enc)) lo hi = some (.lst true ((slcM l lo hi).map enc)) := by
  show (if (l.map enc).all rootFz then some (D.lst true (cutD (l.map enc) lo hi)) else none) = _
  rw [all_root, cutD_map]; rfl
theorem sl_tup (l : List α) (lo hi : Option Int) : slcD (.tup false (l.map enc)) lo hi = some (.tup false ((slcM l lo hi).map enc)) := by
  show (if !false && (l.map enc).all rootFz then some (D.tup false (cutD (l.map enc) lo hi)) else none) = _
  rw [all_root, cutD_map]; rfl
theorem sl_str (l : Tx) (lo hi : Option Int) : slcD (.str (SX.S l)) lo hi = (slcS l lo hi).map fun z => .str (SX.S z) := by
  show (if okSz (SX.S l).length then some (D.str (cutS (SX.S l) lo hi)) else none) = _
  rw [SX.S_len]
  unfold slcS slcM cutS
  split
  · simp only [Option.map_some]; rw [SX.S_len]
  · rfl
theorem l_lst (o : Bool) (ds : List D) : biD .len [.lst o ds] = some (.int (ds.length : Int)) := id rfl
theorem l_tup (o : Bool) (ds : List D) : biD .len [.tup o ds] = some (.int (ds.length : Int)) := id rfl
theorem l_str (l : Tx) : biD .len [.str (SX.S l)] = (lenS l).map .int := by
  show (if okSz (SX.S l).length then some (D.int (SX.S l).length) else none) = _
  rw [SX.S_len]
  unfold lenS; split <;> rfl
theorem len_map' (l : List α) (e : α → β) : (l.map e).length = l.length := List.length_map ..
theorem i_int : biD .int [.int a] = some (.int a) := id rfl
theorem i_bl (p : Bool) : biD .int [.bl p] = some (.int (if p = true then 1 else 0)) := id rfl
theorem o_bl (p : Bool) : biD .bool [.bl p] = some (.bl p) := id rfl
theorem o_int : biD .bool [.int a] = some (.bl (a != 0)) := id rfl
def absI (a : Int) : Int := if a < 0 then -a else a
def maxI (a b : Int) : Int := if b > a then b else a
def minI (a b : Int) : Int := if b < a then b else a
theorem i_abs : biD .abs [.int a] = some (.int (absI a)) := id rfl
theorem i_max : biD .max [.int a, .int b] = some (.int (maxI a b)) := id rfl
theorem i_min : biD .min [.int a, .int b] = some (.int (minI a b)) := id rfl
def maxM : List Int → Option Int
  | [] => none
  | x :: xs => some (maxL x xs)
def minM : List Int → Option Int
  | [] => none
  | x :: xs => some (minL x xs)
theorem enc_int_fun : (enc : Int → D) = D.int := id rfl
theorem i_maxL (o : Bool) (l : List Int) : biD .max [.lst o (l.map enc)] = (maxM l).map .int := by
  show (match intsD (l.map enc) with | some (x :: xs) => some (D.int (maxL x xs)) | _ => none) = _
  rw [enc_int_fun, intsD_map]
  cases l <;> rfl
theorem i_minL (o : Bool) (l : List Int) : biD .min [.lst o (l.map enc)] = (minM l).map .int := by
  show (match intsD (l.map enc) with | some (x :: xs) => some (D.int (minL x xs)) | _ => none) = _
  rw [enc_int_fun, intsD_map]
  cases l <;> rfl
theorem i_sum (o : Bool) (l : List Int) : biD .sum [.lst o (l.map enc)] = some (.int l.sum) := by
  show (intsD (l.map enc)).map (fun ns => D.int ns.sum) = _
  rw [enc_int_fun, intsD_map]; rfl
theorem i_sorted (o : Bool) (l : List Int) : biD .sorted [.lst o (l.map enc)] = some (.lst true ((sortI l).map enc)) := by
  show (intsD (l.map enc)).map (fun ns => D.lst true ((sortI ns).map .int)) = _
  rw [enc_int_fun, intsD_map]; rfl
theorem i_list (o : Bool) (l : List α) : biD .list [.lst o (l.map enc)] = some (.lst true (l.map enc)) := by
  show (if (l.map enc).all rootFz then some (D.lst true (l.map enc)) else none) = _
  rw [all_root]; rfl
theorem i_listT (o : Bool) (l : List α) : biD .list [.tup o (l.map enc)] = some (.lst true (l.map enc)) := by
  show (if (l.map enc).all rootFz then some (D.lst true (l.map enc)) else none) = _
  rw [all_root]; rfl
theorem i_tuple (o : Bool) (l : List α) : biD .tuple [.lst o (l.map enc)] = some (.tup false (l.map enc)) := by
  show (if (l.map enc).all rootFz then some (D.tup false (l.map enc)) else none) = _
  rw [all_root]; rfl
theorem i_isi (d t : D) : biD .isinst [d, t] = (isiD d t).map .bl := id rfl
end
theorem z_int (i : Int) (t : DS.Ty) : isiD (.int i) (.ty t) = some (t == .int) := id rfl
theorem z_bl (i : Bool) (t : DS.Ty) : isiD (.bl i) (.ty t) = some (t == .bool || t == .int) := id rfl
theorem z_str (i : Str) (t : DS.Ty) : isiD (.str i) (.ty t) = some (t == .str) := id rfl
theorem z_lst (o : Bool) (ds : List D) (t : DS.Ty) : isiD (.lst o ds) (.ty t) = some (t == .list) := id rfl
theorem z_tup (o : Bool) (ds : List D) (t : DS.Ty) : isiD (.tup o ds) (.ty t) = some (t == .tuple) := id rfl
theorem z_non (t : DS.Ty) : isiD .non (.ty t) = some false := id rfl
section
variable (a b : Int)
theorem c_lt : cmpD .lt (.int a) (.int b) = some (decide (a < b)) := id rfl
theorem c_le : cmpD .le (.int a) (.int b) = some (decide (a ≤ b)) := id rfl
theorem c_gt : cmpD .gt (.int a) (.int b) = some (decide (b < a)) := id rfl
theorem c_ge : cmpD .ge (.int a) (.int b) = some (decide (b ≤ a)) := id rfl
theorem c_eq (x y : D) : cmpD .eq x y = eqD x y := id rfl
theorem c_ne (x y : D) : cmpD .ne x y = (eqD x y).map (!·) := id rfl
theorem c_is (x : D) : cmpD .is x .non = some (isNon x) := id rfl
theorem c_isnot (x : D) : cmpD .isnot x .non = some (!isNon x) := id rfl
theorem t_non : truD .non = some false := id rfl
theorem t_bl (p : Bool) : truD (.bl p) = some p := id rfl
theorem t_int : truD (.int a) = some (a != 0) := id rfl
theorem t_lst (o : Bool) (ds : List D) : truD (.lst o ds) = some (!ds.isEmpty) := id rfl
theorem t_tup (o : Bool) (ds : List D) : truD (.tup o ds) = some (!ds.isEmpty) := id rfl
theorem isEmpty_map' {α β : Type} (l : List α) (e : α → β) : (l.map e).isEmpty = l.isEmpty := by cases l <;> rfl
theorem in_ints (o : Bool) (l : List Int) : cmpD .isin (.int a) (.lst o (l.map enc)) = some (decide (a ∈ l)) := by
  show (if flatD (.int a) && (l.map enc).all flatD then some (inV (vOf (.int a)) ((l.map enc).map vOf)) else none) = _
  have h : (l.map (enc : Int → D)).all flatD = true := by induction l with | nil => rfl | cons x l ih => rw [List.map_cons, List.all_cons, ih]; rfl
  rw [h]
  show some (inV (.int a) ((l.map enc).map vOf)) = _
  congr
  induction l with
  | nil => simp [inV]
  | cons x l ih =>
    have ih := ih (by rw [List.map_cons, List.all_cons, Bool.and_eq_true] at h; exact h.2)
    simp only [inV, List.map_cons, List.any_cons] at ih ⊢
    rw [ih]
    by_cases hx : a = x
    · subst hx; simp [enc_int_fun, vOf, eqV]
    · have : ¬ x = a := fun z => hx z.symm
      simp [enc_int_fun, vOf, eqV, hx, this]
end
end DM

set_option Elab.async false
set_option linter.all false
set_option maxRecDepth 100000
/-! DM2: statements, loops, defs as rewriting rules. -/
namespace DM
open DS PySem L2
open En (enc)

/-! ### slots -/
section
variable (x : Option D) (ρ : DS.Env)
theorem getS_0 : getS (x :: ρ) 0 = x := by unfold getS; rfl
theorem getS_s (i : Nat) : getS (x :: ρ) (i + 1) = getS ρ i := by unfold getS; rfl
theorem set_0 (y : Option D) : List.set (x :: ρ) 0 y = y :: ρ := id rfl
theorem set_s (i : Nat) (y : Option D) : List.set (x :: ρ) (i + 1) y = x :: List.set ρ i y := id rfl
theorem at_0 : (x :: ρ)[0]? = some x := id rfl
theorem at_s (i : Nat) : (x :: ρ)[i + 1]? = ρ[i]? := id rfl
theorem wipe_nil : wipeE [] ρ = ρ := id rfl
theorem wipe_cons (i : Nat) (is : List Nat) : wipeE (i :: is) ρ = wipeE is (ρ.set i none) := id rfl
theorem keep_nil (l : List Nat) (k : Nat) : keepE l k [] = [] := id rfl
theorem keep_cons (l : List Nat) (k : Nat) : keepE l k (x :: ρ) = (if l.contains k = true then x else none) :: keepE l (k + 1) ρ := id rfl
end
/-- for no parameter that is changed -/
theorem keep_none : ∀ (k : Nat) (ρ : DS.Env), keepE [] k ρ = ρ.map fun _ => none
  | _, [] => rfl
  | k, x :: ρ => by rw [keep_cons, keep_none (k + 1) ρ]; rfl
theorem map_none_nil : ([] : DS.Env).map (fun _ => (none : Option D)) = [] := id rfl
theorem map_none_cons (x : Option D) (ρ : DS.Env) : (x :: ρ).map (fun _ => (none : Option D)) = none :: ρ.map fun _ => none := id rfl

/-! ### SOut -/
def andThen (o : SOut) (f : DS.Env → SOut) : SOut := match o with
  | .nx ρ => f ρ
  | o => o
theorem an_cg {o o' : SOut} (f : DS.Env → SOut) (h : o = o') : andThen o f = andThen o' f := by rw [h]
def pnO (b : Bool) (o : SOut) : SOut := if b then .stk else o
def ifO (b : Bool) (x y : SOut) : SOut := if b = true then x else y
/-- a turn's end: continue is as going on -/
def nxct (o : SOut) : SOut := match o with
  | .ct ρ => .nx ρ
  | o => o
/-- how a turn, a loop, a branch ends -/
inductive Rs (σ τ : Type) where
  | go (s : σ) | rt (r : τ)
inductive Ct (σ τ : Type) where
  | nx (s : σ) | bk (s : σ) | rt (r : τ)
def Rs.el {σ τ γ : Type} (x : Rs σ τ) (f : σ → γ) (g : τ → γ) : γ := match x with
  | .go s => f s
  | .rt r => g r
def Ct.el {σ τ γ : Type} (x : Ct σ τ) (f : σ → γ) (h : σ → γ) (g : τ → γ) : γ := match x with
  | .nx s => f s
  | .bk s => h s
  | .rt r => g r
section
variable {α σ τ : Type} {ρ : DS.Env} (f : DS.Env → SOut)
theorem pnO_f (o : SOut) : pnO false o = o := id rfl
theorem an_nx : andThen (.nx ρ) f = f ρ := id rfl
theorem an_rt (d : D) : andThen (.rt d ρ) f = .rt d ρ := id rfl
theorem an_bk : andThen (.bk ρ) f = .bk ρ := id rfl
theorem an_ct : andThen (.ct ρ) f = .ct ρ := id rfl
theorem an_stk : andThen .stk f = .stk := id rfl
theorem an_exc (x fs) : andThen (.exc x fs ρ) f = .exc x fs ρ := id rfl
theorem an_el (o : Option α) (g : α → SOut) : andThen (o.elim .stk g) f = o.elim .stk fun a => andThen (g a) f := by cases o <;> rfl
theorem an_ite (c : Prop) [Decidable c] (a b : SOut) : andThen (if c then a else b) f = if c then andThen a f else andThen b f := by split <;> rfl
theorem an_rs (x : Rs σ τ) (g : σ → SOut) (h : τ → SOut) : andThen (x.el g h) f = x.el (fun s => andThen (g s) f) (fun r => andThen (h r) f) := by cases x <;> rfl
theorem nc_nx : nxct (.nx ρ) = .nx ρ := id rfl
theorem nc_ct : nxct (.ct ρ) = .nx ρ := id rfl
theorem nc_bk : nxct (.bk ρ) = .bk ρ := id rfl
theorem nc_rt (d : D) : nxct (.rt d ρ) = .rt d ρ := id rfl
theorem nc_stk : nxct .stk = .stk := id rfl
theorem nc_exc (x fs) : nxct (.exc x fs ρ) = .exc x fs ρ := id rfl
theorem nc_el (o : Option α) (g : α → SOut) : nxct (o.elim .stk g) = o.elim .stk fun a => nxct (g a) := by cases o <;> rfl
theorem nc_ite (c : Prop) [Decidable c] (a b : SOut) : nxct (if c then a else b) = if c then nxct a else nxct b := by split <;> rfl
theorem nc_rs (x : Rs σ τ) (g : σ → SOut) (h : τ → SOut) : nxct (x.el g h) = x.el (fun s => nxct (g s)) (fun r => nxct (h r)) := by cases x <;> rfl
theorem el_rs {γ δ : Type} (x : Rs σ τ) (g : σ → Option γ) (h : τ → Option γ) (n : δ) (k : γ → δ) : (x.el g h).elim n k = x.el (fun s => (g s).elim n k) (fun r => (h r).elim n k) := by cases x <;> rfl
theorem rs_go {γ : Type} (s : σ) (g : σ → γ) (h : τ → γ) : (Rs.go s).el g h = g s := id rfl
theorem rs_rt {γ : Type} (s : τ) (g : σ → γ) (h : τ → γ) : (Rs.rt s).el g h = h s := id rfl
theorem ct_nx {γ : Type} (s : σ) (g : σ → γ) (k : σ → γ) (h : τ → γ) : (Ct.nx s).el g k h = g s := id rfl
theorem ct_bk {γ : Type} (s : σ) (g : σ → γ) (k : σ → γ) (h : τ → γ) : (Ct.bk s).el g k h = k s := id rfl
theorem ct_rt {γ : Type} (s : τ) (g : σ → γ) (k : σ → γ) (h : τ → γ) : (Ct.rt s : Ct σ τ).el g k h = h s := id rfl
end
section
variable (S : Sg) (pn : List Nat) (ρ : DS.Env)
theorem ss_nil : evSs S pn .nil ρ = .nx ρ := by simp only [evSs]
theorem ss_cons (s : Sm) (ss : Sms) : evSs S pn (.cons s ss) ρ = andThen (evS S pn s ρ) (evSs S pn ss) := by
  simp only [evSs]
  all_goals (cases evS S pn s ρ <;> rfl)
def kasg (pn : List Nat) (i : Nat) : D → DS.Env → SOut := fun d ρ1 => pnO (pn.contains i) (.nx (ρ1.set i (some d)))
theorem kasg_a (i : Nat) (d : D) : kasg pn i d ρ = pnO (pn.contains i) (.nx (ρ.set i (some d))) := id rfl
theorem st_asg (i : Nat) (t : Tm) : evS S pn (.asg i t) ρ = (ev S t ρ).sb (kasg pn i) := by simp only [evS] <;> rfl
def kidO (o : Option (List D)) (is : List Nat) (ρ : DS.Env) : SOut := o.elim .stk fun ds => if ds.length = is.length && ds.all rootFz then .nx (putL is ds ρ) else .stk
def kasT (pn : List Nat) (is : List Nat) : D → DS.Env → SOut := fun d ρ1 => pnO (is.any pn.contains) (kidO (kidsD d) is ρ1)
theorem kasT_a (is : List Nat) (d : D) : kasT pn is d ρ = pnO (is.any pn.contains) (kidO (kidsD d) is ρ) := id rfl
theorem st_asT (is : List Nat) (t : Tm) : evS S pn (.asT is t) ρ = (ev S t ρ).sb (kasT pn is) := by
  simp only [evS]
  congr; funext d ρ1; unfold kasT pnO; split
  · rfl
  · unfold kidO; cases kidsD d <;> rfl
def asIO (o : Option D) (x : D) (d : D) (i : Nat) (ρ : DS.Env) : SOut := match o, x with
  | some (.lst true ds), .int z => (ixN ds.length z).elim .stk fun j => if ds.all rootFz then .nx (ρ.set i (some (.lst true (ds.set j (frz d))))) else .stk
  | _, _ => .stk
def someO (o : Option D) (k : SOut) : SOut := match o with | some _ => k | none => .stk
theorem someO_some (d : D) (k : SOut) : someO (some d) k = k := id rfl
def kasI2 (i : Nat) (d : D) : D → DS.Env → SOut := fun x ρ2 => asIO (getS ρ2 i) x d i ρ2
def kasI1 (S : Sg) (i : Nat) (k : Ar) : D → DS.Env → SOut := fun d ρ1 => someO (getS ρ1 i) ((evA S k ρ1).sb (kasI2 i d))
theorem kasI2_a (i : Nat) (d x : D) : kasI2 i d x ρ = asIO (getS ρ i) x d i ρ := id rfl
theorem kasI1_a (i : Nat) (k : Ar) (d : D) : kasI1 S i k d ρ = someO (getS ρ i) ((evA S k ρ).sb (kasI2 i d)) := id rfl
theorem st_asI (i : Nat) (k : Ar) (t : Tm) : evS S pn (.asI i k t) ρ = (ev S t ρ).sb (kasI1 S i k) := by
  simp only [evS]
  congr; funext d ρ1
  unfold kasI1 someO
  cases getS ρ1 i with
  | none => rfl
  | some e =>
    dsimp only
    congr; funext x ρ2
    unfold kasI2 asIO
    cases getS ρ2 i with
    | none => rfl
    | some e =>
      cases e with
      | lst o ds =>
        cases o with
        | false => rfl
        | true =>
          cases x with
          | int z => dsimp only; cases ixN ds.length z <;> rfl
          | _ => rfl
      | _ => rfl
def augO (o : Option D) (op : BOp) (x : D) (i : Nat) (ρ : DS.Env) : SOut := match o with
  | some d => (augD op d x).elim .stk fun z => .nx (ρ.set i (some (.int z)))
  | none => .stk
def kaug (pn : List Nat) (i : Nat) (o : BOp) (e : Option D) : D → DS.Env → SOut := fun x ρ1 => pnO (pn.contains i) (augO e o x i ρ1)
theorem kaug_a (i : Nat) (o : BOp) (e : Option D) (x : D) : kaug pn i o e x ρ = pnO (pn.contains i) (augO e o x i ρ) := id rfl
theorem st_aug (i : Nat) (o : BOp) (a : Ar) : evS S pn (.aug i o a) ρ = someO (getS ρ i) ((evA S a ρ).sb (kaug pn i o (getS ρ i))) := by
  simp only [evS]
  cases getS ρ i with
  | none => rfl
  | some d =>
    show _ = (evA S a ρ).sb _
    dsimp only
    congr; funext x ρ1
    unfold kaug pnO augO
    split
    · rfl
    · dsimp only; cases augD o d x <;> rfl
theorem augO_add (a b : Int) (i : Nat) : augO (some (.int a)) .add (.int b) i ρ = .nx (ρ.set i (some (.int (a + b)))) := id rfl
theorem augO_sub (a b : Int) (i : Nat) : augO (some (.int a)) .sub (.int b) i ρ = .nx (ρ.set i (some (.int (a - b)))) := id rfl
theorem st_doc : evS S pn .doc ρ = .nx ρ := by simp only [evS]
def kex : D → DS.Env → SOut := fun _ ρ1 => .nx ρ1
theorem kex_a (d : D) : kex d ρ = .nx ρ := id rfl
theorem st_ex (t : Tm) : evS S pn (.ex t) ρ = (ev S t ρ).sb kex := by simp only [evS] <;> rfl
noncomputable def kif (S : Sg) (pn : List Nat) (a b : Sms) : Bool → DS.Env → SOut := fun t ρ1 => if t = true then evSs S pn a ρ1 else evSs S pn b ρ1
theorem kif_a (a b : Sms) (t : Bool) : kif S pn a b t ρ = if t = true then evSs S pn a ρ else evSs S pn b ρ := id rfl
theorem st_ite (c : Ts) (a b : Sms) : evS S pn (.ite c a b) ρ = (evT S c ρ).sb (kif S pn a b) := by simp only [evS] <;> rfl
def evIL (S : Sg) (it : DS.It) (ρ : DS.Env) : Out (List D) := (evI S it ρ).bind fun w ρ1 => .ok w.list ρ1
noncomputable def kfor (S : Sg) (pn : List Nat) (i : Nat) (b : Sms) : List D → DS.Env → SOut := fun ds ρ1 => pnO (pn.contains i) (forL i (evSs S pn b) ds ρ1)
theorem kfor_a (i : Nat) (b : Sms) (ds : List D) : kfor S pn i b ds ρ = pnO (pn.contains i) (forL i (evSs S pn b) ds ρ) := id rfl
noncomputable def kforT (S : Sg) (pn : List Nat) (is : List Nat) (b : Sms) : List D → DS.Env → SOut := fun ds ρ1 => pnO (is.any pn.contains) (forTL is (evSs S pn b) ds ρ1)
theorem kforT_a (is : List Nat) (b : Sms) (ds : List D) : kforT S pn is b ds ρ = pnO (is.any pn.contains) (forTL is (evSs S pn b) ds ρ) := id rfl
theorem st_for1 (i : Nat) (it : DS.It) (b : Sms) : evS S pn (.for1 i it b) ρ = (evIL S it ρ).sb (kfor S pn i b) := by
  simp only [evS, evIL]
  cases evI S it ρ <;> rfl
theorem st_forT (is : List Nat) (it : DS.It) (b : Sms) : evS S pn (.forT is it b) ρ = (evIL S it ρ).sb (kforT S pn is b) := by
  simp only [evS, evIL]
  cases evI S it ρ <;> rfl
theorem st_whl (c : Ts) (b : Sms) : evS S pn (.whl c b) ρ = whL (evT S c) (evSs S pn b) ρ := by simp only [evS]
def kret (pn : List Nat) : D → DS.Env → SOut := fun d ρ1 => .rt d (keepE pn 0 ρ1)
theorem kret_a (d : D) : kret pn d ρ = .rt d (keepE pn 0 ρ) := id rfl
theorem st_ret (t : Tm) : evS S pn (.ret t) ρ = (ev S t ρ).sb (kret pn) := by simp only [evS] <;> rfl
theorem st_retN : evS S pn .retN ρ = .rt .non (keepE pn 0 ρ) := by simp only [evS]
theorem st_brk : evS S pn .brk ρ = .bk ρ := by simp only [evS]
theorem st_cnt : evS S pn .cnt ρ = .ct ρ := by simp only [evS]
theorem st_pas : evS S pn .pas ρ = .nx ρ := by simp only [evS]
theorem st_fgt (is : List Nat) : evS S pn (.fgt is) ρ = .nx (wipeE is ρ) := by simp only [evS]
def fzsO (o : Option D) (i : Nat) (ρ : DS.Env) : SOut := match o with
  | some d => .nx (ρ.set i (some (frz d)))
  | none => .stk
theorem fzsO_some (d : D) (i : Nat) : fzsO (some d) i ρ = .nx (ρ.set i (some (frz d))) := id rfl
theorem st_fzs (i : Nat) : evS S pn (.fzs i) ρ = fzsO (getS ρ i) i ρ := by
  simp only [evS, fzsO]
  all_goals (cases getS ρ i <;> rfl)
/-! ### walks -/
def seqO (o : Option D) (i : Nat) (ρ : DS.Env) : Out (List D) := o.elim .stk fun d => (walkD d).elim .stk fun w => .ok w.list (ρ.set i (some (frz d)))
theorem it_sl (i : Nat) : evIL S (.seq (.pk (.sl i))) ρ = seqO (getS ρ i) i ρ := by
  simp only [evIL, evI]
  unfold seqO
  cases getS ρ i with
  | none => rfl
  | some d => dsimp only [Option.elim]; cases walkD d <;> rfl
def wkO (d : D) (ρ : DS.Env) : Out (List D) := (walkD d).elim .stk fun w => .ok w.list ρ
theorem it_vl (t : Tm) : evIL S (.seq (.vl t)) ρ = (ev S t ρ).bind wkO := by
  simp only [evIL, evI]
  cases ev S t ρ with
  | ok d ρ1 => simp only [Out.bind_ok]; unfold wkO; cases walkD d <;> rfl
  | _ => rfl
end
def rangeI (a b : Int) : List Int := (List.range (b - a).toNat).map fun i => a + (i : Nat)
def rngM (a b : Int) : Option (List Int) := if (small62 a && small62 b) = true then some (rangeI a b) else none
def rng1M (b : Int) : Option (List Int) := if small62 b = true then some (rangeI 0 b) else none
section
variable {α : Type} [En α] (S : Sg) (ρ : DS.Env)
theorem walk_lst (o : Bool) (l : List α) : walkD (.lst o (l.map enc)) = some (.items (l.map enc)) := by
  show some (Walk.items (frzL (l.map enc))) = _
  rw [frzL_map _ En.ff]
theorem walk_tup (o : Bool) (l : List α) : walkD (.tup o (l.map enc)) = some (.items (l.map enc)) := by
  show some (Walk.items (frzL (l.map enc))) = _
  rw [frzL_map _ En.ff]
theorem walk_str (l : Tx) : walkD (.str (SX.S l)) = some (.items ((l.map fun c => [c]).map (enc : Tx → D))) := by
  show some (Walk.items (l.map fun c => D.str ⟨#[c]⟩)) = _
  rw [List.map_map]; rfl
theorem walk_lstC (o : Bool) (ds : List D) : walkD (.lst o ds) = some (.items (frzL ds)) := id rfl
theorem walk_tupC (o : Bool) (ds : List D) : walkD (.tup o ds) = some (.items (frzL ds)) := id rfl
theorem wlist (ds : List D) : (Walk.items ds).list = ds := id rfl
def r1O (x : D) (ρ : DS.Env) : Out (List D) := match x with
  | .int j => (rng1M j).elim .stk fun l => .ok (l.map enc) ρ
  | _ => .stk
def r2O (x y : D) (ρ : DS.Env) : Out (List D) := match x, y with
  | .int i, .int j => (rngM i j).elim .stk fun l => .ok (l.map enc) ρ
  | _, _ => .stk
theorem r1O_int (j : Int) : r1O (.int j) ρ = (rng1M j).elim .stk fun l => .ok (l.map enc) ρ := id rfl
theorem r2O_int (i j : Int) : r2O (.int i) (.int j) ρ = (rngM i j).elim .stk fun l => .ok (l.map enc) ρ := id rfl
theorem rng_list (lo : Int) (n : Nat) : (Walk.range lo n).list = ((List.range n).map fun i => lo + (i : Nat)).map (enc : Int → D) := by
  show (List.range n).map (fun i => D.int (lo + (i : Nat))) = _
  rw [List.map_map]; rfl
theorem it_r1 (a : Ar) : evIL S (.rng1 a) ρ = (evA S a ρ).bind r1O := by
  simp only [evIL, evI]
  cases evA S a ρ with
  | ok d ρ1 =>
    simp only [Out.bind_ok]
    cases d with
    | int j =>
      unfold r1O
      dsimp only
      unfold rng1M rangeI
      by_cases h : small62 j = true
      · rw [if_pos h, if_pos h]
        simp only [Out.bind_ok, Option.elim]
        rw [rng_list, Int.sub_zero]
      · rw [if_neg h, if_neg h]; rfl
    | _ => rfl
  | _ => rfl
def kr2 (S : Sg) (b : Ar) : D → DS.Env → Out (List D) := fun x ρ1 => (evA S b ρ1).bind (r2O x)
theorem kr2_a (b : Ar) (x : D) : kr2 S b x ρ = (evA S b ρ).bind (r2O x) := id rfl
theorem it_r2 (a b : Ar) : evIL S (.rng2 a b) ρ = (evA S a ρ).bind (kr2 S b) := by
  simp only [evIL, evI]
  cases evA S a ρ with
  | ok d ρ1 =>
    simp only [Out.bind_ok]
    rw [kr2_a]
    cases evA S b ρ1 with
    | ok e ρ2 =>
      simp only [Out.bind_ok]
      cases d with
      | int i =>
        cases e with
        | int j =>
          unfold r2O
          dsimp only
          unfold rngM rangeI
          by_cases h : (small62 i && small62 j) = true
          · rw [if_pos h, if_pos h]
            simp only [Out.bind_ok, Option.elim]
            rw [rng_list]
          · rw [if_neg h, if_neg h]; rfl
        | _ => rfl
      | _ => cases e <;> rfl
    | _ => rfl
  | _ => rfl
end

/-! ### loops -/
def foldM {α σ : Type} (step : α → σ → Option σ) : List α → σ → Option σ
  | [], s => some s
  | x :: xs, s => (step x s).bind (foldM step xs)
def forC {α σ τ : Type} (step : α → σ → Option (Ct σ τ)) : List α → σ → Option (Rs σ τ)
  | [], s => some (.go s)
  | x :: xs, s => (step x s).bind fun c => c.el (forC step xs) (fun s => some (.go s)) (fun r => some (.rt r))
section
variable {α σ τ : Type} [En α]
theorem forL_nc (i : Nat) (b : DS.Env → SOut) (x : D) (xs : List D) (ρ : DS.Env) : forL i b (x :: xs) ρ = match nxct (b (ρ.set i (some x))) with
    | .nx ρ' => forL i b xs ρ'
    | .bk ρ' => .nx ρ'
    | o => o := by
  show (match b (ρ.set i (some x)) with | .nx ρ' => forL i b xs ρ' | .ct ρ' => forL i b xs ρ' | .bk ρ' => .nx ρ' | o => o) = _
  cases b (ρ.set i (some x)) <;> rfl
theorem forL_fold (i : Nat) (b : DS.Env → SOut) (E : σ → DS.Env) (step : α → σ → Option σ) (h : ∀ x s, nxct (b ((E s).set i (some (enc x)))) = (step x s).elim .stk fun s' => .nx (E s')) :
    ∀ (l : List α) (s : σ), forL i b (l.map enc) (E s) = (foldM step l s).elim .stk fun s' => .nx (E s')
  | [], s => rfl
  | x :: l, s => by
    rw [List.map_cons, forL_nc, h]
    unfold foldM
    cases step x s with
    | none => rfl
    | some s' => exact forL_fold i b E step h l s'
theorem forL_forC (i : Nat) (b : DS.Env → SOut) (E : σ → DS.Env) (R : τ → SOut) (hR : ∀ r, (∃ d ρ, R r = .rt d ρ)) (step : α → σ → Option (Ct σ τ)) (h : ∀ x s, nxct (b ((E s).set i (some (enc x)))) = (step x s).elim .stk fun c => c.el (fun s' => .nx (E s')) (fun s' => .bk (E s')) R) :
    ∀ (l : List α) (s : σ), forL i b (l.map enc) (E s) = (forC step l s).elim .stk fun c => c.el (fun s' => .nx (E s')) R
  | [], s => rfl
  | x :: l, s => by
    rw [List.map_cons, forL_nc, h]
    unfold forC
    cases step x s with
    | none => rfl
    | some c =>
      cases c with
      | nx s' => exact forL_forC i b E R hR step h l s'
      | bk s' => rfl
      | rt r =>
        obtain ⟨d, ρ, e⟩ := hR r
        simp only [Option.elim, Option.bind, Ct.el, Rs.el, e]
theorem forTL_nc (is : List Nat) (b : DS.Env → SOut) (x : D) (xs : List D) (ρ : DS.Env) : forTL is b (x :: xs) ρ = match putT is x ρ with
    | some ρ0 => match nxct (b ρ0) with
      | .nx ρ' => forTL is b xs ρ'
      | .bk ρ' => .nx ρ'
      | o => o
    | none => .stk := by
  rw [forTL_G, forG]
  cases putT is x ρ with
  | none => rfl
  | some ρ0 =>
    dsimp only
    cases b ρ0 <;> first | rfl | exact (forTL_G is b xs _).symm
theorem forTL_fold (is : List Nat) (b : DS.Env → SOut) (E : σ → DS.Env) (P : α → σ → DS.Env) (hp : ∀ x s, putT is (enc x) (E s) = some (P x s)) (step : α → σ → Option σ) (h : ∀ x s, nxct (b (P x s)) = (step x s).elim .stk fun s' => .nx (E s')) :
    ∀ (l : List α) (s : σ), forTL is b (l.map enc) (E s) = (foldM step l s).elim .stk fun s' => .nx (E s')
  | [], s => rfl
  | x :: l, s => by
    rw [List.map_cons, forTL_nc, hp]
    dsimp only
    rw [h]
    unfold foldM
    cases step x s with
    | none => rfl
    | some s' => exact forTL_fold is b E P hp step h l s'
theorem forTL_forC (is : List Nat) (b : DS.Env → SOut) (E : σ → DS.Env) (P : α → σ → DS.Env) (hp : ∀ x s, putT is (enc x) (E s) = some (P x s)) (R : τ → SOut) (hR : ∀ r, (∃ d ρ, R r = .rt d ρ)) (step : α → σ → Option (Ct σ τ)) (h : ∀ x s, nxct (b (P x s)) = (step x s).elim .stk fun c => c.el (fun s' => .nx (E s')) (fun s' => .bk (E s')) R) :
    ∀ (l : List α) (s : σ), forTL is b (l.map enc) (E s) = (forC step l s).elim .stk fun c => c.el (fun s' => .nx (E s')) R
  | [], s => rfl
  | x :: l, s => by
    rw [List.map_cons, forTL_nc, hp]
    dsimp only
    rw [h]
    unfold forC
    cases step x s with
    | none => rfl
    | some c =>
      cases c with
      | nx s' => exact forTL_forC is b E P hp R hR step h l s'
      | bk s' => rfl
      | rt r =>
        obtain ⟨d, ρ, e⟩ := hR r
        simp only [Option.elim, Option.bind, Ct.el, Rs.el, e]
end
/-! ### comprehensions -/
def lcM {α β : Type} (c : α → Option Bool) (e : α → Option β) : List α → List β → Option (List β)
  | [], acc => some acc
  | x :: xs, acc => (c x).bind fun t => if t = true then (e x).bind fun y => if acc.length < sizeLine then lcM c e xs (acc ++ [y]) else none else lcM c e xs acc
section
variable {α β : Type} [En α] [En β]
theorem lc_eq (i : Nat) (cD : DS.Env → Out Bool) (eD : DS.Env → Out D) (ρ : DS.Env) (c : α → Option Bool) (e : α → Option β)
    (hc : ∀ x, cD (ρ.set i (some (enc x))) = (c x).elim .stk fun t => .ok t (ρ.set i (some (enc x))))
    (he : ∀ x, eD (ρ.set i (some (enc x))) = (e x).elim .stk fun y => .ok (enc y) (ρ.set i (some (enc x)))) :
    ∀ (l : List α) (acc : List β) (ρ1 : DS.Env), (ρ1 = ρ ∨ ∃ x, ρ1 = ρ.set i (some (enc (x : α)))) → lcL i cD eD (l.map enc) (acc.map enc) ρ1 = (lcM c e l acc).elim Out.stk fun z => Out.ok (D.lst true (z.map enc)) (ρ.set i none)
  | [], acc, ρ1, h1 => by
    have e1 : ρ1.set i none = ρ.set i none := by
      rcases h1 with rfl | ⟨x, rfl⟩
      · rfl
      · rw [List.set_set]
    show Out.ok (D.lst true (acc.map enc)) (ρ1.set i none) = _
    rw [e1]; rfl
  | x :: l, acc, ρ1, h1 => by
    have e1 : ρ1.set i (some (enc x)) = ρ.set i (some (enc x)) := by
      rcases h1 with rfl | ⟨y, rfl⟩
      · rfl
      · rw [List.set_set]
    rw [List.map_cons]
    unfold lcL lcM
    rw [e1, hc]
    cases hx : c x with
    | none => rfl
    | some t =>
      simp only [Option.elim, Option.bind]
      cases t with
      | false =>
        simp only [Bool.false_eq_true, if_false]
        exact lc_eq i cD eD ρ c e hc he l acc _ (.inr ⟨x, rfl⟩)
      | true =>
        simp only [if_true]
        rw [he]
        cases hy : e x with
        | none => rfl
        | some y =>
          simp only [Option.elim]
          rw [List.length_map]
          by_cases hz : acc.length < sizeLine
          · rw [if_pos hz, if_pos hz]
            have := lc_eq i cD eD ρ c e hc he l (acc ++ [y]) _ (.inr ⟨x, rfl⟩)
            rw [frz_enc]
            rw [List.map_append] at this
            exact this
          · rw [if_neg hz, if_neg hz]
            all_goals rfl
def lcO (o : Option (Option D)) (k : Out D) : Out D := match o with
  | some none => k
  | _ => .stk
theorem lcO_n (k : Out D) : lcO (some none) k = k := id rfl
def klc (S : Sg) (i : Nat) (c : OTs) (e : Tm) : List D → DS.Env → Out D := fun ds ρ1 => lcO ρ1[i]? (lcL i (evOT S c) (ev S e) ds [] ρ1)
theorem klc_a (S : Sg) (ρ : DS.Env) (i : Nat) (c : OTs) (e : Tm) (ds : List D) : klc S i c e ds ρ = lcO ρ[i]? (lcL i (evOT S c) (ev S e) ds [] ρ) := id rfl
theorem ev_lc (S : Sg) (ρ : DS.Env) (i : Nat) (it : DS.It) (c : OTs) (e : Tm) : ev S (.lc i it c e) ρ = (evIL S it ρ).bind (klc S i c e) := by
  simp only [ev, evIL]
  cases evI S it ρ with
  | ok w ρ1 =>
    simp only [Out.bind_ok]
    unfold klc lcO
    rfl
  | _ => rfl
theorem ot_none (S : Sg) (ρ : DS.Env) : evOT S .none ρ = .ok true ρ := by simp only [evOT]
theorem ot_some (S : Sg) (ρ : DS.Env) (c : Ts) : evOT S (.some c) ρ = evT S c ρ := by simp only [evOT]
end
/-! ### two fors -/
def lciM {β γ : Type} (m : β → Option γ) : List β → List γ → Option (List γ)
  | [], acc => some acc
  | y :: ys, acc => (m y).bind fun z => if acc.length < sizeLine then lciM m ys (acc ++ [z]) else none
def lc2M {α β γ : Type} (its : α → Option (List β)) (m : α → β → Option γ) : List α → List γ → Option (List γ)
  | [], acc => some acc
  | x :: xs, acc => (its x).bind fun l => (lciM (m x) l acc).bind fun acc' => lc2M its m xs acc'
section
variable {α β γ : Type} [En α] [En β] [En γ]
theorem lci_eq (j : Nat) (eD : DS.Env → Out D) (ρ : DS.Env) (m : β → Option γ)
    (he : ∀ y, eD (ρ.set j (some (enc y))) = (m y).elim .stk fun z => .ok (enc z) (ρ.set j (some (enc y)))) :
    ∀ (l : List β) (acc : List γ) (ρ1 : DS.Env), (ρ1 = ρ ∨ ∃ y, ρ1 = ρ.set j (some (enc (y : β)))) → lcI j eD (l.map enc) (acc.map enc) ρ1 = (lciM m l acc).elim Out.stk fun z => Out.ok (z.map enc) (ρ.set j none)
  | [], acc, ρ1, h1 => by
    have e1 : ρ1.set j none = ρ.set j none := by
      rcases h1 with rfl | ⟨x, rfl⟩
      · rfl
      · rw [List.set_set]
    show Out.ok (acc.map enc) (ρ1.set j none) = _
    rw [e1]; rfl
  | x :: l, acc, ρ1, h1 => by
    have e1 : ρ1.set j (some (enc x)) = ρ.set j (some (enc x)) := by
      rcases h1 with rfl | ⟨y, rfl⟩
      · rfl
      · rw [List.set_set]
    rw [List.map_cons]
    unfold lcI lciM
    rw [e1, he]
    cases hy : m x with
    | none => rfl
    | some y =>
      simp only [Option.elim, Option.bind]
      rw [List.length_map]
      by_cases hz : acc.length < sizeLine
      · rw [if_pos hz, if_pos hz]
        have := lci_eq j eD ρ m he l (acc ++ [y]) _ (.inr ⟨x, rfl⟩)
        rw [frz_enc]
        rw [List.map_append] at this
        exact this
      · rw [if_neg hz, if_neg hz]
        all_goals rfl
theorem lc2_eq (S : Sg) (i j : Nat) (it2 : DS.It) (e : Tm) (ρ : DS.Env) (its : α → Option (List β)) (m : α → β → Option γ) (hij : i ≠ j) (hj : ρ[j]? = some none)
    (hw : ∀ x, evIL S it2 (ρ.set i (some (enc x))) = (its x).elim .stk fun l => .ok (l.map enc) (ρ.set i (some (enc x))))
    (he : ∀ x y, ev S e ((ρ.set i (some (enc x))).set j (some (enc y))) = (m x y).elim .stk fun z => .ok (enc z) ((ρ.set i (some (enc x))).set j (some (enc y)))) :
    ∀ (l : List α) (acc : List γ) (ρ1 : DS.Env), (ρ1 = ρ ∨ ∃ x, ρ1 = ρ.set i (some (enc (x : α)))) → lcO2 i j (evI S it2) (ev S e) (l.map enc) (acc.map enc) ρ1 = (lc2M its m l acc).elim Out.stk fun z => Out.ok (D.lst true (z.map enc)) (ρ.set i none)
  | [], acc, ρ1, h1 => by
    have e1 : ρ1.set i none = ρ.set i none := by
      rcases h1 with rfl | ⟨x, rfl⟩
      · rfl
      · rw [List.set_set]
    show Out.ok (D.lst true (acc.map enc)) (ρ1.set i none) = _
    rw [e1]; rfl
  | x :: l, acc, ρ1, h1 => by
    have e1 : ρ1.set i (some (enc x)) = ρ.set i (some (enc x)) := by
      rcases h1 with rfl | ⟨y, rfl⟩
      · rfl
      · rw [List.set_set]
    rw [List.map_cons]
    unfold lcO2 lc2M
    rw [e1]
    have h2 := hw x
    unfold evIL at h2
    cases hx : its x with
    | none =>
      rw [hx] at h2
      cases h3 : evI S it2 (ρ.set i (some (enc x))) with
      | ok w ρ2 => rw [h3] at h2; cases h2
      | exc => rfl
      | stk => rfl
    | some l1 =>
      rw [hx] at h2
      cases h3 : evI S it2 (ρ.set i (some (enc x))) with
      | exc => rw [h3] at h2; cases h2
      | stk => rw [h3] at h2; cases h2
      | ok w ρ2 =>
        rw [h3] at h2
        have h2 : Out.ok w.list ρ2 = Out.ok (l1.map enc) (ρ.set i (some (enc x))) := h2
        injection h2 with h4 h5
        subst h5
        have hj2 : (ρ.set i (some (enc x)))[j]? = some none := by rw [List.getElem?_set_ne hij]; exact hj
        dsimp only
        rw [hj2, h4]
        dsimp only
        rw [lci_eq j (ev S e) _ (m x) (he x) l1 acc _ (.inl rfl)]
        simp only [Option.bind]
        cases lciM (m x) l1 acc with
        | none => rfl
        | some acc' =>
          simp only [Option.elim]
          rw [set_back hj2]
          exact lc2_eq S i j it2 e ρ its m hij hj hw he l acc' _ (.inr ⟨x, rfl⟩)
def lc2O (o p : Option (Option D)) (k : Out D) : Out D := match o, p with
  | some none, some none => k
  | _, _ => .stk
theorem lc2O_n (k : Out D) : lc2O (some none) (some none) k = k := id rfl
def klc2 (S : Sg) (i j : Nat) (it2 : DS.It) (e : Tm) : List D → DS.Env → Out D := fun ds ρ1 => lc2O ρ1[i]? ρ1[j]? (lcO2 i j (evI S it2) (ev S e) ds [] ρ1)
theorem klc2_a (S : Sg) (ρ : DS.Env) (i j : Nat) (it2 : DS.It) (e : Tm) (ds : List D) : klc2 S i j it2 e ds ρ = lc2O ρ[i]? ρ[j]? (lcO2 i j (evI S it2) (ev S e) ds [] ρ) := id rfl
theorem ev_lc2 (S : Sg) (ρ : DS.Env) (i j : Nat) (it it2 : DS.It) (e : Tm) : ev S (.lc2 i it j it2 e) ρ = (evIL S it ρ).bind (klc2 S i j it2 e) := by
  simp only [ev, evIL]
  cases evI S it ρ with
  | ok w ρ1 =>
    simp only [Out.bind_ok]
    unfold klc2 lc2O
    rfl
  | _ => rfl
end
/-! ### methods that change -/
def muO (o : Option D) (k : Out D) : Out D := match o with | some (.lst true _) => k | _ => .stk
def mu2 (o : Option D) (m : Mu) (xs : List D) (i : Nat) (ρ : DS.Env) : Out D := match o with
  | some (.lst true ds) => (muD m ds (frzL xs)).elim .stk fun p => .ok p.1 (ρ.set i (some (.lst true p.2)))
  | _ => .stk
def kmu (m : Mu) (i : Nat) : List D → DS.Env → Out D := fun xs ρ1 => mu2 (getS ρ1 i) m xs i ρ1
theorem kmu_a (ρ : DS.Env) (m : Mu) (i : Nat) (xs : List D) : kmu m i xs ρ = mu2 (getS ρ i) m xs i ρ := id rfl
theorem ev_muO (S : Sg) (ρ : DS.Env) (m : Mu) (i : Nat) (as : Tms) : ev S (.mu m i as) ρ = muO (getS ρ i) ((evTs S as ρ).bind (kmu m i)) := by
  simp only [ev]
  cases getS ρ i with
  | none => rfl
  | some d =>
    cases d with
    | lst o ds =>
      cases o with
      | false => rfl
      | true =>
        show Out.bind _ _ = Out.bind _ _
        congr; funext xs ρ1
        unfold kmu mu2
        cases getS ρ1 i with
        | none => rfl
        | some d =>
          cases d with
          | lst o ds =>
            cases o with
            | false => rfl
            | true => dsimp only; cases muD m ds (frzL xs) <;> rfl
          | _ => rfl
    | _ => rfl
theorem muO_l (ds : List D) (k : Out D) : muO (some (.lst true ds)) k = k := id rfl
theorem mu2_l (ds : List D) (m : Mu) (xs : List D) (i : Nat) (ρ : DS.Env) : mu2 (some (.lst true ds)) m xs i ρ = (muD m ds (frzL xs)).elim .stk fun p => .ok p.1 (ρ.set i (some (.lst true p.2))) := id rfl
def appM {α : Type} (l : List α) (x : α) : Option (List α) := if l.length < sizeLine then some (l ++ [x]) else none
def popM {α : Type} : List α → Option (α × List α)
  | [] => none
  | x :: l => some ((x :: l).getLast (List.cons_ne_nil _ _), (x :: l).dropLast)
section
variable {α : Type} [En α]
theorem mu_app (l : List α) (x : α) : muD .append (l.map enc) [enc x] = (appM l x).map fun z => (.non, z.map enc) := by
  show (if (l.map enc).length < sizeLine then some (D.non, l.map enc ++ [enc x]) else none) = _
  rw [List.length_map]
  unfold appM
  split
  · rw [Option.map_some, List.map_append]; rfl
  · rfl
theorem mu_pop (l : List α) : muD .pop (l.map enc) [] = (popM l).map fun z => (enc z.1, z.2.map enc) := by
  show (if (l.map enc).all rootFz then match (l.map enc).getLast? with | some x => some (x, (l.map enc).dropLast) | none => none else none) = _
  rw [all_root, if_pos rfl]
  cases l with
  | nil => rfl
  | cons x l =>
    rw [List.getLast?_map, List.getLast?_eq_some_getLast (List.cons_ne_nil x l)]
    simp only [Option.map_some, popM, List.map_dropLast]
theorem mu_rev (l : List α) : muD .reverse (l.map enc) [] = some (.non, l.reverse.map enc) := by
  show (if (l.map enc).all rootFz then some (D.non, (l.map enc).reverse) else none) = _
  rw [all_root, if_pos rfl, List.map_reverse]
theorem mu_clr (l : List D) : muD .clear l [] = some (.non, []) := id rfl
/-- l[i] = x -/
def setM (l : List α) (i : Int) (x : α) : Option (List α) := (ixN l.length i).map fun j => l.set j x
theorem asI_eq (l : List α) (z : Int) (x : α) (i : Nat) (ρ : DS.Env) : asIO (some (.lst true (l.map enc))) (.int z) (enc x) i ρ = (setM l z x).elim SOut.stk fun l' => SOut.nx (ρ.set i (some (.lst true (l'.map enc)))) := by
  show ((ixN (l.map enc).length z).elim SOut.stk fun j => if (l.map enc).all rootFz then SOut.nx (ρ.set i (some (.lst true ((l.map enc).set j (frz (enc x)))))) else SOut.stk) = _
  rw [List.length_map, all_root, frz_enc]
  unfold setM
  cases ixN l.length z with
  | none => rfl
  | some j => simp only [Option.elim, Option.map_some, if_true, List.map_set]
end
/-! ### calls -/
section
variable (f : Nat) (sem : List D → Res) (ρ : DS.Env)
def resO (r : Res) (mi : List Nat) (ρm ρf : DS.Env) : Out D := r.out mi ρm ρf
theorem res_ok (d : D) (mi : List Nat) (ms : List D) (ρm ρf : DS.Env) : (Res.ok d ms).out mi ρm ρf = (putE mi ms (if (atom d && ms.all selfc) = true then ρm else ρf)).elim .stk fun ρ' => .ok d ρ' := by
  show (match putE mi ms (if atom d && ms.all selfc then ρm else ρf) with | some ρ' => Out.ok d ρ' | none => .stk) = _
  cases putE mi ms (if (atom d && ms.all selfc) = true then ρm else ρf) <;> rfl
theorem res_stk (mi : List Nat) (ρm ρf : DS.Env) : Res.stk.out mi ρm ρf = .stk := id rfl
theorem res_el {α : Type} (o : Option α) (g : α → Res) (mi : List Nat) (ρm ρf : DS.Env) : (o.elim Res.stk g).out mi ρm ρf = o.elim .stk fun a => (g a).out mi ρm ρf := by cases o <;> rfl
def tkL (is : List Nat) (ρ : DS.Env) (k : List D → DS.Env → Out D) : Out D := (takeL is ρ).elim .stk fun p => k p.1 p.2
def fzL (is : List Nat) (ρ : DS.Env) (k : List D → DS.Env → Out D) : Out D := (frzLs is ρ).elim .stk fun p => k p.1 p.2
def kcl2 (sem : List D → Res) (vs : List AV) (mds : List D) (ρm : DS.Env) : List D → DS.Env → Out D := fun bds ρf => (argsD vs mds bds).elim .stk fun ds => (sem ds).out (mutIx vs) ρm ρf
def kcl1 (sem : List D → Res) (vs : List AV) : List D → DS.Env → Out D := fun mds ρm => fzL (borIx vs) ρm (kcl2 sem vs mds ρm)
theorem kcl2_a (vs : List AV) (mds : List D) (ρm : DS.Env) (bds : List D) (ρf : DS.Env) : kcl2 sem vs mds ρm bds ρf = (argsD vs mds bds).elim .stk fun ds => (sem ds).out (mutIx vs) ρm ρf := id rfl
theorem kcl1_a (vs : List AV) (mds : List D) (ρm : DS.Env) : kcl1 sem vs mds ρm = fzL (borIx vs) ρm (kcl2 sem vs mds ρm) := id rfl
theorem callD_eq (vs : List AV) : callD sem vs ρ = tkL (mutIx vs) ρ (kcl1 sem vs) := by
  unfold callD tkL kcl1 fzL kcl2
  cases takeL (mutIx vs) ρ with
  | none => rfl
  | some p =>
    obtain ⟨mds, ρm⟩ := p
    simp only [Option.elim]
    cases frzLs (borIx vs) ρm with
    | none => rfl
    | some p =>
      obtain ⟨bds, ρf⟩ := p
      simp only
      cases argsD vs mds bds <;> rfl
def kpre (d : D) (k : List D → DS.Env → Out D) : List D → DS.Env → Out D := fun ds ρ' => k (d :: ds) ρ'
theorem kpre_a (d : D) (k : List D → DS.Env → Out D) (ds : List D) : kpre d k ds ρ = k (d :: ds) ρ := id rfl
def tk1 (o : Option D) (i : Nat) (is : List Nat) (ρ : DS.Env) (k : List D → DS.Env → Out D) : Out D := o.elim .stk fun d => tkL is (ρ.set i none) (kpre d k)
theorem tkL_nil (k : List D → DS.Env → Out D) : tkL [] ρ k = k [] ρ := id rfl
theorem tkL_cons (i : Nat) (is : List Nat) (k : List D → DS.Env → Out D) : tkL (i :: is) ρ k = tk1 (getS ρ i) i is ρ k := by
  unfold tkL tk1 takeL
  cases getS ρ i with
  | none => rfl
  | some d =>
    simp only [Option.elim]
    unfold tkL
    cases takeL is (ρ.set i none) <;> rfl
theorem tk1_cg {o o' : Option D} (i : Nat) (is : List Nat) (ρ : DS.Env) (k : List D → DS.Env → Out D) (h : o = o') : tk1 o i is ρ k = tk1 o' i is ρ k := by rw [h]
theorem tk1_some (d : D) (i : Nat) (is : List Nat) (k : List D → DS.Env → Out D) : tk1 (some d) i is ρ k = tkL is (ρ.set i none) (kpre d k) := id rfl
def fz1 (o : Option D) (i : Nat) (is : List Nat) (ρ : DS.Env) (k : List D → DS.Env → Out D) : Out D := o.elim .stk fun d => fzL is (ρ.set i (some (frz d))) (kpre (frz d) k)
theorem fzL_nil (k : List D → DS.Env → Out D) : fzL [] ρ k = k [] ρ := id rfl
theorem fzL_cons (i : Nat) (is : List Nat) (k : List D → DS.Env → Out D) : fzL (i :: is) ρ k = fz1 (getS ρ i) i is ρ k := by
  unfold fzL fz1 frzLs
  cases getS ρ i with
  | none => rfl
  | some d =>
    simp only [Option.elim]
    unfold fzL
    cases frzLs is (ρ.set i (some (frz d))) <;> rfl
theorem fz1_cg {o o' : Option D} (i : Nat) (is : List Nat) (ρ : DS.Env) (k : List D → DS.Env → Out D) (h : o = o') : fz1 o i is ρ k = fz1 o' i is ρ k := by rw [h]
theorem fz1_some (d : D) (i : Nat) (is : List Nat) (k : List D → DS.Env → Out D) : fz1 (some d) i is ρ k = fzL is (ρ.set i (some (frz d))) (kpre (frz d) k) := id rfl
theorem mi_nil : mutIx [] = [] := id rfl
theorem mi_m (i : Nat) (r : List AV) : mutIx (.m i :: r) = i :: mutIx r := id rfl
theorem mi_v (d : D) (r : List AV) : mutIx (.v d :: r) = mutIx r := id rfl
theorem mi_b (i : Nat) (r : List AV) : mutIx (.b i :: r) = mutIx r := id rfl
theorem bi_nil : borIx [] = [] := id rfl
theorem bi_m (i : Nat) (r : List AV) : borIx (.m i :: r) = borIx r := id rfl
theorem bi_v (d : D) (r : List AV) : borIx (.v d :: r) = borIx r := id rfl
theorem bi_b (i : Nat) (r : List AV) : borIx (.b i :: r) = i :: borIx r := id rfl
theorem ar_nil : argsD [] [] [] = some [] := id rfl
theorem ar_v (d : D) (r : List AV) (ms bs : List D) : argsD (.v d :: r) ms bs = (argsD r ms bs).map (frz d :: ·) := id rfl
theorem ar_m (i : Nat) (r : List AV) (m : D) (ms bs : List D) : argsD (.m i :: r) (m :: ms) bs = (argsD r ms bs).map (m :: ·) := id rfl
theorem ar_b (i : Nat) (r : List AV) (b : D) (ms bs : List D) : argsD (.b i :: r) ms (b :: bs) = (argsD r ms bs).map (b :: ·) := by
  cases ms <;> rfl
theorem pt_nil : putE [] [] ρ = some ρ := id rfl
def pt1 (o : Option (Option D)) (k : Option DS.Env) : Option DS.Env := match o with | some none => k | _ => none
theorem pt_cons (i : Nat) (is : List Nat) (d : D) (ds : List D) : putE (i :: is) (d :: ds) ρ = pt1 ρ[i]? (putE is ds (ρ.set i (some d))) := id rfl
theorem pt1_n (k : Option DS.Env) : pt1 (some none) k = k := id rfl
theorem atom_int (i : Int) : atom (.int i) = true := id rfl
theorem atom_bl (i : Bool) : atom (.bl i) = true := id rfl
theorem atom_str (i : Str) : atom (.str i) = true := id rfl
theorem atom_non : atom .non = true := id rfl
theorem atom_lst (o : Bool) (ds : List D) : atom (.lst o ds) = false := id rfl
theorem atom_tup (o : Bool) (ds : List D) : atom (.tup o ds) = false := id rfl
theorem selfc_lst {α : Type} [En α] [EnA α] (l : List α) : selfc (.lst true (l.map enc)) = true := by
  show (l.map enc).all atom = true
  induction l with
  | nil => rfl
  | cons x l ih => rw [List.map_cons, List.all_cons, ih, atom_enc, Bool.and_true]
end
/-! ### defs -/
def fin (pn : List Nat) (o : SOut) : Res := match o with
  | .rt d ρ => (getAll ρ pn).elim .stk fun ms => .ok d ms
  | .nx ρ => (getAll ρ pn).elim .stk fun ms => .ok .non ms
  | .exc x fs _ => .exc x fs
  | _ => .stk
theorem def_eq (S : Sg) (muts : List Bool) (n : Nat) (b : Sms) (ds : List D) : evDef S muts n b ds = fin (mutsAt muts) (evSs S (mutsAt muts) b (ds.map some ++ List.replicate (n - ds.length) none)) := by
  unfold evDef fin
  cases evSs S (mutsAt muts) b (ds.map some ++ List.replicate (n - ds.length) none) with
  | rt d ρ => dsimp only; cases getAll ρ (mutsAt muts) <;> rfl
  | nx ρ => dsimp only; cases getAll ρ (mutsAt muts) <;> rfl
  | _ => rfl
section
variable {σ τ α : Type} (pn : List Nat) (ρ : DS.Env)
theorem fin_rt (d : D) : fin pn (.rt d ρ) = (getAll ρ pn).elim .stk fun ms => .ok d ms := id rfl
theorem fin_nx : fin pn (.nx ρ) = (getAll ρ pn).elim .stk fun ms => .ok .non ms := id rfl
theorem fin_stk : fin pn .stk = .stk := id rfl
theorem fin_exc (x fs) : fin pn (.exc x fs ρ) = .exc x fs := id rfl
theorem fin_el (o : Option α) (g : α → SOut) : fin pn (o.elim .stk g) = o.elim .stk fun a => fin pn (g a) := by cases o <;> rfl
theorem fin_ite (c : Prop) [Decidable c] (a b : SOut) : fin pn (if c then a else b) = if c then fin pn a else fin pn b := by split <;> rfl
theorem fin_rs (x : Rs σ τ) (g : σ → SOut) (h : τ → SOut) : fin pn (x.el g h) = x.el (fun s => fin pn (g s)) (fun r => fin pn (h r)) := by cases x <;> rfl
theorem ga_nil : getAll ρ [] = some [] := id rfl
def ga1 (o : Option D) (k : Option (List D)) : Option (List D) := o.elim none fun d => k.map (d :: ·)
theorem ga_cons (i : Nat) (is : List Nat) : getAll ρ (i :: is) = ga1 (getS ρ i) (getAll ρ is) := by
  unfold ga1
  show (match getS ρ i, getAll ρ is with | some d, some ds => some (d :: ds) | _, _ => none) = _
  cases getS ρ i with
  | none => rfl
  | some d => cases getAll ρ is <;> rfl
theorem ga1_some (d : D) (ds : List D) : ga1 (some d) (some ds) = some (d :: ds) := id rfl
end
end DM

set_option Elab.async false
set_option linter.all false
set_option maxRecDepth 100000
/-! DM3: more rewriting rules. -/
namespace DM
open DS PySem L2
open En (enc)
section
variable {ρ : DS.Env} {α β γ δ ε : Type} [En α] [En β] [En γ] [En δ] [En ε]
theorem and2_t (q : Out Bool) : and2 true q ρ = q := id rfl
theorem and2_f (q : Out Bool) : and2 false q ρ = .ok false ρ := id rfl
theorem or2_t (q : Out Bool) : or2 true q ρ = .ok true ρ := id rfl
theorem or2_f (q : Out Bool) : or2 false q ρ = q := id rfl
theorem and2_stk (p : Bool) : and2 p .stk ρ = if p = true then .stk else .ok false ρ := id rfl
theorem or2_stk (p : Bool) : or2 p .stk ρ = if p = true then .ok true ρ else .stk := id rfl
theorem ite2_t (a b : Out D) : ite2 true a b = a := id rfl
theorem ite2_f (a b : Out D) : ite2 false a b = b := id rfl
theorem ite2_def (p : Bool) (a b : Out D) : ite2 p a b = if p = true then a else b := id rfl
theorem n_int (i : Int) : isNon (.int i) = false := id rfl
theorem n_bl (i : Bool) : isNon (.bl i) = false := id rfl
theorem n_str (i : Str) : isNon (.str i) = false := id rfl
theorem n_lst (o : Bool) (ds : List D) : isNon (.lst o ds) = false := id rfl
theorem n_tup (o : Bool) (ds : List D) : isNon (.tup o ds) = false := id rfl
theorem n_non : isNon .non = true := id rfl
theorem fz_int (i : Int) : fzItem (.int i) = some (.int i) := id rfl
theorem fz_bl (i : Bool) : fzItem (.bl i) = some (.bl i) := id rfl
theorem fz_str (i : Str) : fzItem (.str i) = some (.str i) := id rfl
theorem fz_non : fzItem .non = some .non := id rfl
theorem fz_lst (ds : List D) : fzItem (.lst false ds) = some (.lst false ds) := id rfl
theorem fz_tup (ds : List D) : fzItem (.tup false ds) = some (.tup false ds) := id rfl
theorem fz_enc (a : α) : fzItem (enc a) = some (enc a) := by
  show (if rootFz (enc a) = true then some (enc a) else none) = _
  rw [rootFz_enc]; rfl
theorem frzL_map' (l : List α) : frzL (l.map enc) = l.map enc := frzL_map _ En.ff l
theorem seqO_some (d : D) (i : Nat) : seqO (some d) i ρ = (walkD d).elim .stk fun w => .ok w.list (ρ.set i (some (frz d))) := id rfl
theorem wkO_def (d : D) : wkO d ρ = (walkD d).elim .stk fun w => .ok w.list ρ := id rfl
theorem walk_t2 (o : Bool) (a b : Int) : walkD (.tup o [.int a, .int b]) = some (.items (List.map enc [a, b])) := id rfl
theorem walk_t3 (o : Bool) (a b c : Int) : walkD (.tup o [.int a, .int b, .int c]) = some (.items (List.map enc [a, b, c])) := id rfl
theorem s_t2i (o : Bool) (a b k : Int) : subD (.tup o [.int a, .int b]) (.int k) = (subM [a, b] k).map .int := s_tup o [a, b] k
theorem s_t3i (o : Bool) (a b c k : Int) : subD (.tup o [.int a, .int b, .int c]) (.int k) = (subM [a, b, c] k).map .int := s_tup o [a, b, c] k
theorem kid_l (o : Bool) (ds : List D) : kidsD (.lst o ds) = some ds := id rfl
theorem kid_t (o : Bool) (ds : List D) : kidsD (.tup o ds) = some ds := id rfl
theorem kidO_some (ds : List D) (is : List Nat) : kidO (some ds) is ρ = if (decide (ds.length = is.length) && ds.all rootFz) = true then .nx (putL is ds ρ) else .stk := id rfl
theorem putL_nil (ds : List D) : putL [] ds ρ = ρ := id rfl
theorem putL_cons (i : Nat) (is : List Nat) (d : D) (ds : List D) : putL (i :: is) (d :: ds) ρ = putL is ds (ρ.set i (some d)) := id rfl
theorem s_0 (o : Bool) (x0 : D) (l : List D) : subD (.tup o (x0 :: l)) (.int 0) = fzItem x0 := by
  show (atI (x0 :: l) 0).bind fzItem = _
  have : atI (x0 :: l) 0 = some x0 := by
    unfold atI ixN
    rw [if_pos (by decide), if_pos (by simp only [List.length_cons]; omega)]
    rfl
  rw [this]; rfl
theorem h_0 (o : Bool) (x0 : D) (l : List D) : subD (.lst o (x0 :: l)) (.int 0) = fzItem x0 := by
  show (atI (x0 :: l) 0).bind fzItem = _
  have : atI (x0 :: l) 0 = some x0 := by
    unfold atI ixN
    rw [if_pos (by decide), if_pos (by simp only [List.length_cons]; omega)]
    rfl
  rw [this]; rfl
theorem s_1 (o : Bool) (x0 x1 : D) (l : List D) : subD (.tup o (x0 :: x1 :: l)) (.int 1) = fzItem x1 := by
  show (atI (x0 :: x1 :: l) 1).bind fzItem = _
  have : atI (x0 :: x1 :: l) 1 = some x1 := by
    unfold atI ixN
    rw [if_pos (by decide), if_pos (by simp only [List.length_cons]; omega)]
    rfl
  rw [this]; rfl
theorem h_1 (o : Bool) (x0 x1 : D) (l : List D) : subD (.lst o (x0 :: x1 :: l)) (.int 1) = fzItem x1 := by
  show (atI (x0 :: x1 :: l) 1).bind fzItem = _
  have : atI (x0 :: x1 :: l) 1 = some x1 := by
    unfold atI ixN
    rw [if_pos (by decide), if_pos (by simp only [List.length_cons]; omega)]
    rfl
  rw [this]; rfl
theorem s_2 (o : Bool) (x0 x1 x2 : D) (l : List D) : subD (.tup o (x0 :: x1 :: x2 :: l)) (.int 2) = fzItem x2 := by
  show (atI (x0 :: x1 :: x2 :: l) 2).bind fzItem = _
  have : atI (x0 :: x1 :: x2 :: l) 2 = some x2 := by
    unfold atI ixN
    rw [if_pos (by decide), if_pos (by simp only [List.length_cons]; omega)]
    rfl
  rw [this]; rfl
theorem h_2 (o : Bool) (x0 x1 x2 : D) (l : List D) : subD (.lst o (x0 :: x1 :: x2 :: l)) (.int 2) = fzItem x2 := by
  show (atI (x0 :: x1 :: x2 :: l) 2).bind fzItem = _
  have : atI (x0 :: x1 :: x2 :: l) 2 = some x2 := by
    unfold atI ixN
    rw [if_pos (by decide), if_pos (by simp only [List.length_cons]; omega)]
    rfl
  rw [this]; rfl
theorem s_3 (o : Bool) (x0 x1 x2 x3 : D) (l : List D) : subD (.tup o (x0 :: x1 :: x2 :: x3 :: l)) (.int 3) = fzItem x3 := by
  show (atI (x0 :: x1 :: x2 :: x3 :: l) 3).bind fzItem = _
  have : atI (x0 :: x1 :: x2 :: x3 :: l) 3 = some x3 := by
    unfold atI ixN
    rw [if_pos (by decide), if_pos (by simp only [List.length_cons]; omega)]
    rfl
  rw [this]; rfl
theorem h_3 (o : Bool) (x0 x1 x2 x3 : D) (l : List D) : subD (.lst o (x0 :: x1 :: x2 :: x3 :: l)) (.int 3) = fzItem x3 := by
  show (atI (x0 :: x1 :: x2 :: x3 :: l) 3).bind fzItem = _
  have : atI (x0 :: x1 :: x2 :: x3 :: l) 3 = some x3 := by
    unfold atI ixN
    rw [if_pos (by decide), if_pos (by simp only [List.length_cons]; omega)]
    rfl
  rw [this]; rfl
theorem s_4 (o : Bool) (x0 x1 x2 x3 x4 : D) (l : List D) : subD (.tup o (x0 :: x1 :: x2 :: x3 :: x4 :: l)) (.int 4) = fzItem x4 := by
  show (atI (x0 :: x1 :: x2 :: x3 :: x4 :: l) 4).bind fzItem = _
  have : atI (x0 :: x1 :: x2 :: x3 :: x4 :: l) 4 = some x4 := by
    unfold atI ixN
    rw [if_pos (by decide), if_pos (by simp only [List.length_cons]; omega)]
    rfl
  rw [this]; rfl
theorem h_4 (o : Bool) (x0 x1 x2 x3 x4 : D) (l : List D) : subD (.lst o (x0 :: x1 :: x2 :: x3 :: x4 :: l)) (.int 4) = fzItem x4 := by
  show (atI (x0 :: x1 :: x2 :: x3 :: x4 :: l) 4).bind fzItem = _
  have : atI (x0 :: x1 :: x2 :: x3 :: x4 :: l) 4 = some x4 := by
    unfold atI ixN
    rw [if_pos (by decide), if_pos (by simp only [List.length_cons]; omega)]
    rfl
  rw [this]; rfl
theorem s_5 (o : Bool) (x0 x1 x2 x3 x4 x5 : D) (l : List D) : subD (.tup o (x0 :: x1 :: x2 :: x3 :: x4 :: x5 :: l)) (.int 5) = fzItem x5 := by
  show (atI (x0 :: x1 :: x2 :: x3 :: x4 :: x5 :: l) 5).bind fzItem = _
  have : atI (x0 :: x1 :: x2 :: x3 :: x4 :: x5 :: l) 5 = some x5 := by
    unfold atI ixN
    rw [if_pos (by decide), if_pos (by simp only [List.length_cons]; omega)]
    rfl
  rw [this]; rfl
theorem h_5 (o : Bool) (x0 x1 x2 x3 x4 x5 : D) (l : List D) : subD (.lst o (x0 :: x1 :: x2 :: x3 :: x4 :: x5 :: l)) (.int 5) = fzItem x5 := by
  show (atI (x0 :: x1 :: x2 :: x3 :: x4 :: x5 :: l) 5).bind fzItem = _
  have : atI (x0 :: x1 :: x2 :: x3 :: x4 :: x5 :: l) 5 = some x5 := by
    unfold atI ixN
    rw [if_pos (by decide), if_pos (by simp only [List.length_cons]; omega)]
    rfl
  rw [this]; rfl
theorem s_6 (o : Bool) (x0 x1 x2 x3 x4 x5 x6 : D) (l : List D) : subD (.tup o (x0 :: x1 :: x2 :: x3 :: x4 :: x5 :: x6 :: l)) (.int 6) = fzItem x6 := by
  show (atI (x0 :: x1 :: x2 :: x3 :: x4 :: x5 :: x6 :: l) 6).bind fzItem = _
  have : atI (x0 :: x1 :: x2 :: x3 :: x4 :: x5 :: x6 :: l) 6 = some x6 := by
    unfold atI ixN
    rw [if_pos (by decide), if_pos (by simp only [List.length_cons]; omega)]
    rfl
  rw [this]; rfl
theorem h_6 (o : Bool) (x0 x1 x2 x3 x4 x5 x6 : D) (l : List D) : subD (.lst o (x0 :: x1 :: x2 :: x3 :: x4 :: x5 :: x6 :: l)) (.int 6) = fzItem x6 := by
  show (atI (x0 :: x1 :: x2 :: x3 :: x4 :: x5 :: x6 :: l) 6).bind fzItem = _
  have : atI (x0 :: x1 :: x2 :: x3 :: x4 :: x5 :: x6 :: l) 6 = some x6 := by
    unfold atI ixN
    rw [if_pos (by decide), if_pos (by simp only [List.length_cons]; omega)]
    rfl
  rw [this]; rfl
theorem s_7 (o : Bool) (x0 x1 x2 x3 x4 x5 x6 x7 : D) (l : List D) : subD (.tup o (x0 :: x1 :: x2 :: x3 :: x4 :: x5 :: x6 :: x7 :: l)) (.int 7) = fzItem x7 := by
  show (atI (x0 :: x1 :: x2 :: x3 :: x4 :: x5 :: x6 :: x7 :: l) 7).bind fzItem = _
  have : atI (x0 :: x1 :: x2 :: x3 :: x4 :: x5 :: x6 :: x7 :: l) 7 = some x7 := by
    unfold atI ixN
    rw [if_pos (by decide), if_pos (by simp only [List.length_cons]; omega)]
    rfl
  rw [this]; rfl
theorem h_7 (o : Bool) (x0 x1 x2 x3 x4 x5 x6 x7 : D) (l : List D) : subD (.lst o (x0 :: x1 :: x2 :: x3 :: x4 :: x5 :: x6 :: x7 :: l)) (.int 7) = fzItem x7 := by
  show (atI (x0 :: x1 :: x2 :: x3 :: x4 :: x5 :: x6 :: x7 :: l) 7).bind fzItem = _
  have : atI (x0 :: x1 :: x2 :: x3 :: x4 :: x5 :: x6 :: x7 :: l) 7 = some x7 := by
    unfold atI ixN
    rw [if_pos (by decide), if_pos (by simp only [List.length_cons]; omega)]
    rfl
  rw [this]; rfl
theorem szO_0 (d : D) : szO 0 d ρ = .ok d ρ := if_pos (by decide)
theorem szO_1 (d : D) : szO 1 d ρ = .ok d ρ := if_pos (by decide)
theorem szO_2 (d : D) : szO 2 d ρ = .ok d ρ := if_pos (by decide)
theorem szO_3 (d : D) : szO 3 d ρ = .ok d ρ := if_pos (by decide)
theorem szO_4 (d : D) : szO 4 d ρ = .ok d ρ := if_pos (by decide)
theorem szO_5 (d : D) : szO 5 d ρ = .ok d ρ := if_pos (by decide)
theorem szO_6 (d : D) : szO 6 d ρ = .ok d ρ := if_pos (by decide)
theorem szO_7 (d : D) : szO 7 d ρ = .ok d ρ := if_pos (by decide)
theorem szO_8 (d : D) : szO 8 d ρ = .ok d ρ := if_pos (by decide)
theorem szO_9 (d : D) : szO 9 d ρ = .ok d ρ := if_pos (by decide)
theorem szO_10 (d : D) : szO 10 d ρ = .ok d ρ := if_pos (by decide)
theorem szO_11 (d : D) : szO 11 d ρ = .ok d ρ := if_pos (by decide)
theorem szO_12 (d : D) : szO 12 d ρ = .ok d ρ := if_pos (by decide)
theorem szO_13 (d : D) : szO 13 d ρ = .ok d ρ := if_pos (by decide)
theorem szO_14 (d : D) : szO 14 d ρ = .ok d ρ := if_pos (by decide)
theorem szO_15 (d : D) : szO 15 d ρ = .ok d ρ := if_pos (by decide)
theorem szO_16 (d : D) : szO 16 d ρ = .ok d ρ := if_pos (by decide)
theorem szO_17 (d : D) : szO 17 d ρ = .ok d ρ := if_pos (by decide)
theorem szO_18 (d : D) : szO 18 d ρ = .ok d ρ := if_pos (by decide)
theorem szO_19 (d : D) : szO 19 d ρ = .ok d ρ := if_pos (by decide)
theorem szO_20 (d : D) : szO 20 d ρ = .ok d ρ := if_pos (by decide)
theorem szO_21 (d : D) : szO 21 d ρ = .ok d ρ := if_pos (by decide)
theorem szO_22 (d : D) : szO 22 d ρ = .ok d ρ := if_pos (by decide)
theorem szO_23 (d : D) : szO 23 d ρ = .ok d ρ := if_pos (by decide)
theorem szO_24 (d : D) : szO 24 d ρ = .ok d ρ := if_pos (by decide)
theorem szO_25 (d : D) : szO 25 d ρ = .ok d ρ := if_pos (by decide)
theorem sub_non (x : D) : subD .non x = none := id rfl
theorem len_non : biD .len [.non] = none := id rfl
theorem lift_def {τ : Type} (o : Option τ) : Out.lift o ρ = o.elim .stk fun a => .ok a ρ := by cases o <;> rfl
theorem elim_same {τ σ : Type} (o : Option τ) (n : σ) : (o.elim n fun _ => n) = n := by cases o <;> rfl
theorem notO_stk : notO .stk = .stk := id rfl
theorem orO_stk (q : DS.Env → Out Bool) : orO .stk q = .stk := id rfl
theorem andO_stk (q : DS.Env → Out Bool) : andO .stk q = .stk := id rfl
theorem iteO_stk (a b : DS.Env → Out D) : iteO .stk a b = .stk := id rfl
theorem eta_t2 (v : T2 α β) : T2.mk v.a0 v.a1 = v := id rfl
theorem eta_t3 (v : T3 α β γ) : T3.mk v.a0 v.a1 v.a2 = v := id rfl
theorem eta_t4 (v : T4 α β γ δ) : T4.mk v.a0 v.a1 v.a2 v.a3 = v := id rfl
theorem eta_t5 (v : T5 α β γ δ ε) : T5.mk v.a0 v.a1 v.a2 v.a3 v.a4 = v := id rfl
theorem eta_h2 (v : H2 α β) : H2.mk v.a0 v.a1 = v := id rfl
theorem eta_h3 (v : H3 α β γ) : H3.mk v.a0 v.a1 v.a2 = v := id rfl
theorem eta_h4 (v : H4 α β γ δ) : H4.mk v.a0 v.a1 v.a2 v.a3 = v := id rfl
theorem eta_h5 (v : H5 α β γ δ ε) : H5.mk v.a0 v.a1 v.a2 v.a3 v.a4 = v := id rfl
theorem eta_tu (v : Tu α) : Tu.mk v.l = v := id rfl
theorem ty_int_int : (DS.Ty.int == DS.Ty.int) = true := by decide
theorem ty_int_bool : (DS.Ty.int == DS.Ty.bool) = false := by decide
theorem ty_int_str : (DS.Ty.int == DS.Ty.str) = false := by decide
theorem ty_int_list : (DS.Ty.int == DS.Ty.list) = false := by decide
theorem ty_int_tuple : (DS.Ty.int == DS.Ty.tuple) = false := by decide
theorem ty_int_dict : (DS.Ty.int == DS.Ty.dict) = false := by decide
theorem ty_bool_int : (DS.Ty.bool == DS.Ty.int) = false := by decide
theorem ty_bool_bool : (DS.Ty.bool == DS.Ty.bool) = true := by decide
theorem ty_bool_str : (DS.Ty.bool == DS.Ty.str) = false := by decide
theorem ty_bool_list : (DS.Ty.bool == DS.Ty.list) = false := by decide
theorem ty_bool_tuple : (DS.Ty.bool == DS.Ty.tuple) = false := by decide
theorem ty_bool_dict : (DS.Ty.bool == DS.Ty.dict) = false := by decide
theorem ty_str_int : (DS.Ty.str == DS.Ty.int) = false := by decide
theorem ty_str_bool : (DS.Ty.str == DS.Ty.bool) = false := by decide
theorem ty_str_str : (DS.Ty.str == DS.Ty.str) = true := by decide
theorem ty_str_list : (DS.Ty.str == DS.Ty.list) = false := by decide
theorem ty_str_tuple : (DS.Ty.str == DS.Ty.tuple) = false := by decide
theorem ty_str_dict : (DS.Ty.str == DS.Ty.dict) = false := by decide
theorem ty_list_int : (DS.Ty.list == DS.Ty.int) = false := by decide
theorem ty_list_bool : (DS.Ty.list == DS.Ty.bool) = false := by decide
theorem ty_list_str : (DS.Ty.list == DS.Ty.str) = false := by decide
theorem ty_list_list : (DS.Ty.list == DS.Ty.list) = true := by decide
theorem ty_list_tuple : (DS.Ty.list == DS.Ty.tuple) = false := by decide
theorem ty_list_dict : (DS.Ty.list == DS.Ty.dict) = false := by decide
theorem ty_tuple_int : (DS.Ty.tuple == DS.Ty.int) = false := by decide
theorem ty_tuple_bool : (DS.Ty.tuple == DS.Ty.bool) = false := by decide
theorem ty_tuple_str : (DS.Ty.tuple == DS.Ty.str) = false := by decide
theorem ty_tuple_list : (DS.Ty.tuple == DS.Ty.list) = false := by decide
theorem ty_tuple_tuple : (DS.Ty.tuple == DS.Ty.tuple) = true := by decide
theorem ty_tuple_dict : (DS.Ty.tuple == DS.Ty.dict) = false := by decide
theorem ty_dict_int : (DS.Ty.dict == DS.Ty.int) = false := by decide
theorem ty_dict_bool : (DS.Ty.dict == DS.Ty.bool) = false := by decide
theorem ty_dict_str : (DS.Ty.dict == DS.Ty.str) = false := by decide
theorem ty_dict_list : (DS.Ty.dict == DS.Ty.list) = false := by decide
theorem ty_dict_tuple : (DS.Ty.dict == DS.Ty.tuple) = false := by decide
theorem ty_dict_dict : (DS.Ty.dict == DS.Ty.dict) = true := by decide
end
end DM

set_option Elab.async false
set_option linter.all false
set_option maxRecDepth 100000
set_option maxHeartbeats 4000000
namespace K86
open PySem PySem.Spec PyProof.Rows L2 DS DM
open DM.En (enc)
def top (i : Nat) : Stmt := PySem.Challenge.pw_beatsbounded_k86_words_and_ranges.main.body.getD i (.Pass ⟨0, 0, 0, 0⟩)
def cds : Nat → D
  | 0 => .int (-9223372036854775808)
  | 1 => .int (9223372036854775807)
  | 2 => .tup false [.int (-9223372036854775808), .int (9223372036854775807)]
  | 3 => .int (18446744073709551616)
  | _ => .non
/-! wrap -/
abbrev s0 : Stmt := top 5
def nm0 : Nm := ⟨["n"], [], ["LOW", "HIGH", "EVERY", "COUNT"], ["min", "max", "len", "int", "abs", "isinstance", "tuple", "range", "bool", "sorted"]⟩
def b0 : Sms := (.cons (.ret (.bin .add (.vl (.bin .mod (.vl (.bin .sub (.pk (.sl 0)) (.vl (.gc 0)))) (.vl (.gc 3)))) (.vl (.gc 0)))) .nil)
def ms0 : List Bool := [false]
noncomputable def SG0 : Sg := ⟨fun i => match i with  | _ => fun _ => .stk, cds⟩
noncomputable def sem0 : List D → Res := evDef SG0 ms0 1 b0
/-! is_word -/
abbrev s1 : Stmt := top 6
def nm1 : Nm := ⟨["n"], [("wrap", [false])], ["LOW", "HIGH", "EVERY", "COUNT"], ["min", "max", "len", "int", "abs", "isinstance", "tuple", "range", "bool", "sorted"]⟩
def b1 : Sms := (.cons (.ret (.chn .le .le (.vl (.gc 0)) (.pk (.sl 0)) (.vl (.gc 1)))) .nil)
def ms1 : List Bool := [false]
noncomputable def SG1 : Sg := ⟨fun i => match i with | 0 => sem0 | _ => fun _ => .stk, cds⟩
noncomputable def sem1 : List D → Res := evDef SG1 ms1 1 b1
/-! hull -/
abbrev s2 : Stmt := top 7
def nm2 : Nm := ⟨["a", "b"], [("wrap", [false]), ("is_word", [false])], ["LOW", "HIGH", "EVERY", "COUNT"], ["min", "max", "len", "int", "abs", "isinstance", "tuple", "range", "bool", "sorted"]⟩
def b2 : Sms := (.cons (.ret (.tup (.cons (.bi .min (.cons (.vl (.sub (.pk (.sl 0)) (.vl (.kk (.int 0))))) (.cons (.vl (.sub (.pk (.sl 1)) (.vl (.kk (.int 0))))) .nil))) (.cons (.bi .max (.cons (.vl (.sub (.pk (.sl 0)) (.vl (.kk (.int 1))))) (.cons (.vl (.sub (.pk (.sl 1)) (.vl (.kk (.int 1))))) .nil))) .nil)))) .nil)
def ms2 : List Bool := [false, false]
noncomputable def SG2 : Sg := ⟨fun i => match i with | 0 => sem0 | 1 => sem1 | _ => fun _ => .stk, cds⟩
noncomputable def sem2 : List D → Res := evDef SG2 ms2 2 b2
/-! meet -/
abbrev s3 : Stmt := top 8
def nm3 : Nm := ⟨["a", "b", "low", "high"], [("wrap", [false]), ("is_word", [false]), ("hull", [false, false])], ["LOW", "HIGH", "EVERY", "COUNT"], ["min", "max", "len", "int", "abs", "isinstance", "tuple", "range", "bool", "sorted"]⟩
def b3 : Sms := (.cons (.asg 2 (.bi .max (.cons (.vl (.sub (.pk (.sl 0)) (.vl (.kk (.int 0))))) (.cons (.vl (.sub (.pk (.sl 1)) (.vl (.kk (.int 0))))) .nil)))) (.cons (.asg 3 (.bi .min (.cons (.vl (.sub (.pk (.sl 0)) (.vl (.kk (.int 1))))) (.cons (.vl (.sub (.pk (.sl 1)) (.vl (.kk (.int 1))))) .nil)))) (.cons (.ite (.vl (.cmp .gt (.pk (.sl 2)) (.pk (.sl 3))))
    (.cons (.ret (.kk .non)) .nil)
    .nil) (.cons (.ret (.tup (.cons (.mv 2) (.cons (.mv 3) .nil)))) .nil))))
def ms3 : List Bool := [false, false]
noncomputable def SG3 : Sg := ⟨fun i => match i with | 0 => sem0 | 1 => sem1 | 2 => sem2 | _ => fun _ => .stk, cds⟩
noncomputable def sem3 : List D → Res := evDef SG3 ms3 4 b3
/-! inside -/
abbrev s4 : Stmt := top 9
def nm4 : Nm := ⟨["a", "b"], [("wrap", [false]), ("is_word", [false]), ("hull", [false, false]), ("meet", [false, false])], ["LOW", "HIGH", "EVERY", "COUNT"], ["min", "max", "len", "int", "abs", "isinstance", "tuple", "range", "bool", "sorted"]⟩
def b4 : Sms := (.cons (.ret (.tst (.and (.vl (.cmp .le (.vl (.sub (.pk (.sl 1)) (.vl (.kk (.int 0))))) (.vl (.sub (.pk (.sl 0)) (.vl (.kk (.int 0))))))) (.vl (.cmp .le (.vl (.sub (.pk (.sl 0)) (.vl (.kk (.int 1))))) (.vl (.sub (.pk (.sl 1)) (.vl (.kk (.int 1)))))))))) .nil)
def ms4 : List Bool := [false, false]
noncomputable def SG4 : Sg := ⟨fun i => match i with | 0 => sem0 | 1 => sem1 | 2 => sem2 | 3 => sem3 | _ => fun _ => .stk, cds⟩
noncomputable def sem4 : List D → Res := evDef SG4 ms4 2 b4
/-! in_words -/
abbrev s5 : Stmt := top 10
def nm5 : Nm := ⟨["low", "high"], [("wrap", [false]), ("is_word", [false]), ("hull", [false, false]), ("meet", [false, false]), ("inside", [false, false])], ["LOW", "HIGH", "EVERY", "COUNT"], ["min", "max", "len", "int", "abs", "isinstance", "tuple", "range", "bool", "sorted"]⟩
def b5 : Sms := (.cons (.ite (.or (.vl (.cmp .lt (.pk (.sl 0)) (.vl (.gc 0)))) (.vl (.cmp .gt (.pk (.sl 1)) (.vl (.gc 1)))))
    (.cons (.ret (.gc 2)) .nil)
    .nil) (.cons (.ret (.tup (.cons (.mv 0) (.cons (.mv 1) .nil)))) .nil))
def ms5 : List Bool := [false, false]
noncomputable def SG5 : Sg := ⟨fun i => match i with | 0 => sem0 | 1 => sem1 | 2 => sem2 | 3 => sem3 | 4 => sem4 | _ => fun _ => .stk, cds⟩
noncomputable def sem5 : List D → Res := evDef SG5 ms5 2 b5
/-! add_ranges -/
abbrev s6 : Stmt := top 11
def nm6 : Nm := ⟨["a", "b"], [("wrap", [false]), ("is_word", [false]), ("hull", [false, false]), ("meet", [false, false]), ("inside", [false, false]), ("in_words", [false, false])], ["LOW", "HIGH", "EVERY", "COUNT"], ["min", "max", "len", "int", "abs", "isinstance", "tuple", "range", "bool", "sorted"]⟩
def b6 : Sms := (.cons (.ret (.call 5 (.cons (.vl (.bin .add (.vl (.sub (.pk (.sl 0)) (.vl (.kk (.int 0))))) (.vl (.sub (.pk (.sl 1)) (.vl (.kk (.int 0))))))) (.cons (.vl (.bin .add (.vl (.sub (.pk (.sl 0)) (.vl (.kk (.int 1))))) (.vl (.sub (.pk (.sl 1)) (.vl (.kk (.int 1))))))) .nil)))) .nil)
def ms6 : List Bool := [false, false]
noncomputable def SG6 : Sg := ⟨fun i => match i with | 0 => sem0 | 1 => sem1 | 2 => sem2 | 3 => sem3 | 4 => sem4 | 5 => sem5 | _ => fun _ => .stk, cds⟩
noncomputable def sem6 : List D → Res := evDef SG6 ms6 2 b6
/-! sub_ranges -/
abbrev s7 : Stmt := top 12
def nm7 : Nm := ⟨["a", "b"], [("wrap", [false]), ("is_word", [false]), ("hull", [false, false]), ("meet", [false, false]), ("inside", [false, false]), ("in_words", [false, false]), ("add_ranges", [false, false])], ["LOW", "HIGH", "EVERY", "COUNT"], ["min", "max", "len", "int", "abs", "isinstance", "tuple", "range", "bool", "sorted"]⟩
def b7 : Sms := (.cons (.ret (.call 5 (.cons (.vl (.bin .sub (.vl (.sub (.pk (.sl 0)) (.vl (.kk (.int 0))))) (.vl (.sub (.pk (.sl 1)) (.vl (.kk (.int 1))))))) (.cons (.vl (.bin .sub (.vl (.sub (.pk (.sl 0)) (.vl (.kk (.int 1))))) (.vl (.sub (.pk (.sl 1)) (.vl (.kk (.int 0))))))) .nil)))) .nil)
def ms7 : List Bool := [false, false]
noncomputable def SG7 : Sg := ⟨fun i => match i with | 0 => sem0 | 1 => sem1 | 2 => sem2 | 3 => sem3 | 4 => sem4 | 5 => sem5 | 6 => sem6 | _ => fun _ => .stk, cds⟩
noncomputable def sem7 : List D → Res := evDef SG7 ms7 2 b7
/-! mul_ranges -/
abbrev s8 : Stmt := top 13
def nm8 : Nm := ⟨["a", "b", "products", "x", "y"], [("wrap", [false]), ("is_word", [false]), ("hull", [false, false]), ("meet", [false, false]), ("inside", [false, false]), ("in_words", [false, false]), ("add_ranges", [false, false]), ("sub_ranges", [false, false])], ["LOW", "HIGH", "EVERY", "COUNT"], ["min", "max", "len", "int", "abs", "isinstance", "tuple", "range", "bool", "sorted"]⟩
def f8_J1 : DS.It := (.seq (.pk (.sl 1)))
def f8_C1 : DS.Tm := (.bin .mul (.pk (.sl 3)) (.pk (.sl 4)))
def b8 : Sms := (.cons (.asg 2 (.lc2 3 (.seq (.pk (.sl 0))) 4 f8_J1 f8_C1)) (.cons (.ret (.call 5 (.cons (.vl (.bi .min (.cons (.pk (.sl 2)) .nil))) (.cons (.vl (.bi .max (.cons (.pk (.sl 2)) .nil))) .nil)))) .nil))
def ms8 : List Bool := [false, false]
noncomputable def SG8 : Sg := ⟨fun i => match i with | 0 => sem0 | 1 => sem1 | 2 => sem2 | 3 => sem3 | 4 => sem4 | 5 => sem5 | 6 => sem6 | 7 => sem7 | _ => fun _ => .stk, cds⟩
noncomputable def sem8 : List D → Res := evDef SG8 ms8 5 b8
/-! _law_cell -/
abbrev s9 : Stmt := top 15
def nm9 : Nm := ⟨["script", "k"], [("wrap", [false]), ("is_word", [false]), ("hull", [false, false]), ("meet", [false, false]), ("inside", [false, false]), ("in_words", [false, false]), ("add_ranges", [false, false]), ("sub_ranges", [false, false]), ("mul_ranges", [false, false])], ["LOW", "HIGH", "EVERY", "COUNT"], ["min", "max", "len", "int", "abs", "isinstance", "tuple", "range", "bool", "sorted"]⟩
def b9 : Sms := (.cons (.ite (.vl (.cmp .lt (.pk (.sl 1)) (.vl (.bi .len (.cons (.pk (.sl 0)) .nil)))))
    (.cons (.ret (.bi .int (.cons (.vl (.sub (.pk (.sl 0)) (.pk (.sl 1)))) .nil))) .nil)
    .nil) (.cons (.ret (.kk (.int 0))) .nil))
def ms9 : List Bool := [false, false]
noncomputable def SG9 : Sg := ⟨fun i => match i with | 0 => sem0 | 1 => sem1 | 2 => sem2 | 3 => sem3 | 4 => sem4 | 5 => sem5 | 6 => sem6 | 7 => sem7 | 8 => sem8 | _ => fun _ => .stk, cds⟩
noncomputable def sem9 : List D → Res := evDef SG9 ms9 2 b9
/-! _law_end -/
abbrev s10 : Stmt := top 16
def nm10 : Nm := ⟨["cell", "rest"], [("wrap", [false]), ("is_word", [false]), ("hull", [false, false]), ("meet", [false, false]), ("inside", [false, false]), ("in_words", [false, false]), ("add_ranges", [false, false]), ("sub_ranges", [false, false]), ("mul_ranges", [false, false]), ("_law_cell", [false, false])], ["LOW", "HIGH", "EVERY", "COUNT"], ["min", "max", "len", "int", "abs", "isinstance", "tuple", "range", "bool", "sorted"]⟩
def f10_I1 : DS.Sm := (.ite (.vl (.cmp .lt (.vl (.bi .abs (.cons (.pk (.sl 1)) .nil))) (.vl (.kk (.int 1000000000000000)))))
    (.cons (.asg 1 (.bin .add (.vl (.bin .mul (.pk (.sl 1)) (.vl (.kk (.int 11400714819323198485))))) (.vl (.kk (.int 7046029254386353131))))) (.cons (.fgt [0]) .nil))
    (.cons (.fgt [0]) .nil))
def b10 : Sms := (.cons (.asg 1 (.bin .fdiv (.pk (.sl 0)) (.vl (.kk (.int 4))))) (.cons (.ite (.vl (.cmp .eq (.vl (.bin .mod (.pk (.sl 0)) (.vl (.kk (.int 4))))) (.vl (.kk (.int 0)))))
    (.cons (.ret (.bin .sub (.vl (.bin .mod (.pk (.sl 1)) (.vl (.kk (.int 19))))) (.vl (.kk (.int 9))))) .nil)
    .nil) (.cons (.ite (.vl (.cmp .eq (.vl (.bin .mod (.pk (.sl 0)) (.vl (.kk (.int 4))))) (.vl (.kk (.int 1)))))
    (.cons (.ret (.bin .add (.vl (.neg (.vl (.kk (.int 9223372036854775808))))) (.vl (.bin .mod (.pk (.sl 1)) (.vl (.kk (.int 10))))))) .nil)
    .nil) (.cons (.ite (.vl (.cmp .eq (.vl (.bin .mod (.pk (.sl 0)) (.vl (.kk (.int 4))))) (.vl (.kk (.int 2)))))
    (.cons (.ret (.bin .sub (.vl (.kk (.int 9223372036854775807))) (.vl (.bin .mod (.pk (.sl 1)) (.vl (.kk (.int 10))))))) .nil)
    .nil) (.cons (.fgt [0]) (.cons f10_I1 (.cons (.ret (.bin .sub (.vl (.bin .mod (.pk (.sl 1)) (.vl (.kk (.int 18446744073709551616))))) (.vl (.kk (.int 9223372036854775808))))) .nil)))))))
def ms10 : List Bool := [false]
noncomputable def SG10 : Sg := ⟨fun i => match i with | 0 => sem0 | 1 => sem1 | 2 => sem2 | 3 => sem3 | 4 => sem4 | 5 => sem5 | 6 => sem6 | 7 => sem7 | 8 => sem8 | 9 => sem9 | _ => fun _ => .stk, cds⟩
noncomputable def sem10 : List D → Res := evDef SG10 ms10 2 b10
/-! _law_tuple -/
abbrev s11 : Stmt := top 17
def nm11 : Nm := ⟨["actual", "due", "k"], [("wrap", [false]), ("is_word", [false]), ("hull", [false, false]), ("meet", [false, false]), ("inside", [false, false]), ("in_words", [false, false]), ("add_ranges", [false, false]), ("sub_ranges", [false, false]), ("mul_ranges", [false, false]), ("_law_cell", [false, false]), ("_law_end", [false])], ["LOW", "HIGH", "EVERY", "COUNT"], ["min", "max", "len", "int", "abs", "isinstance", "tuple", "range", "bool", "sorted"]⟩
def f11_L1 : DS.Sms := (.cons (.ite (.or (.not (.tr (.vl (.bi .isinst (.cons (.vl (.sub (.pk (.sl 0)) (.pk (.sl 2)))) (.cons (.vl (.kk (.ty .int))) .nil)))))) (.or (.tr (.vl (.bi .isinst (.cons (.vl (.sub (.pk (.sl 0)) (.pk (.sl 2)))) (.cons (.vl (.kk (.ty .bool))) .nil))))) (.vl (.cmp .ne (.vl (.sub (.pk (.sl 0)) (.pk (.sl 2)))) (.vl (.sub (.pk (.sl 1)) (.pk (.sl 2))))))))
    (.cons (.ret (.kk (.bl false))) .nil)
    .nil) (.cons (.fgt [2]) .nil))
def b11 : Sms := (.cons (.ite (.vl (.cmp .is (.pk (.sl 1)) (.vl (.kk .non))))
    (.cons (.ret (.cmp .is (.pk (.sl 0)) (.vl (.kk .non)))) .nil)
    .nil) (.cons (.ite (.or (.not (.tr (.vl (.bi .isinst (.cons (.pk (.sl 0)) (.cons (.vl (.kk (.ty .tuple))) .nil)))))) (.vl (.cmp .ne (.vl (.bi .len (.cons (.pk (.sl 0)) .nil))) (.vl (.kk (.int 2))))))
    (.cons (.ret (.kk (.bl false))) .nil)
    .nil) (.cons (.fgt [2]) (.cons (.for1 2 (.rng1 (.vl (.kk (.int 2)))) f11_L1) (.cons (.fgt [0, 1, 2]) (.cons (.ret (.kk (.bl true))) .nil))))))
def ms11 : List Bool := [false, false]
noncomputable def SG11 : Sg := ⟨fun i => match i with | 0 => sem0 | 1 => sem1 | 2 => sem2 | 3 => sem3 | 4 => sem4 | 5 => sem5 | 6 => sem6 | 7 => sem7 | 8 => sem8 | 9 => sem9 | 10 => sem10 | _ => fun _ => .stk, cds⟩
noncomputable def sem11 : List D → Res := evDef SG11 ms11 3 b11
/-! _law_bool -/
abbrev s12 : Stmt := top 18
def nm12 : Nm := ⟨["actual", "due"], [("wrap", [false]), ("is_word", [false]), ("hull", [false, false]), ("meet", [false, false]), ("inside", [false, false]), ("in_words", [false, false]), ("add_ranges", [false, false]), ("sub_ranges", [false, false]), ("mul_ranges", [false, false]), ("_law_cell", [false, false]), ("_law_end", [false]), ("_law_tuple", [false, false])], ["LOW", "HIGH", "EVERY", "COUNT"], ["min", "max", "len", "int", "abs", "isinstance", "tuple", "range", "bool", "sorted"]⟩
def b12 : Sms := (.cons (.ret (.tst (.and (.vl (.bi .isinst (.cons (.pk (.sl 0)) (.cons (.vl (.kk (.ty .bool))) .nil)))) (.vl (.cmp .eq (.pk (.sl 0)) (.pk (.sl 1))))))) .nil)
def ms12 : List Bool := [false, false]
noncomputable def SG12 : Sg := ⟨fun i => match i with | 0 => sem0 | 1 => sem1 | 2 => sem2 | 3 => sem3 | 4 => sem4 | 5 => sem5 | 6 => sem6 | 7 => sem7 | 8 => sem8 | 9 => sem9 | 10 => sem10 | 11 => sem11 | _ => fun _ => .stk, cds⟩
noncomputable def sem12 : List D → Res := evDef SG12 ms12 2 b12
/-! _law_cut -/
abbrev s13 : Stmt := top 19
def nm13 : Nm := ⟨["low", "high"], [("wrap", [false]), ("is_word", [false]), ("hull", [false, false]), ("meet", [false, false]), ("inside", [false, false]), ("in_words", [false, false]), ("add_ranges", [false, false]), ("sub_ranges", [false, false]), ("mul_ranges", [false, false]), ("_law_cell", [false, false]), ("_law_end", [false]), ("_law_tuple", [false, false]), ("_law_bool", [false, false])], ["LOW", "HIGH", "EVERY", "COUNT"], ["min", "max", "len", "int", "abs", "isinstance", "tuple", "range", "bool", "sorted"]⟩
def b13 : Sms := (.cons (.ite (.or (.vl (.cmp .lt (.pk (.sl 0)) (.vl (.neg (.vl (.kk (.int 9223372036854775808))))))) (.vl (.cmp .gt (.pk (.sl 1)) (.vl (.kk (.int 9223372036854775807))))))
    (.cons (.ret (.tup (.cons (.neg (.vl (.kk (.int 9223372036854775808)))) (.cons (.kk (.int 9223372036854775807)) .nil)))) .nil)
    .nil) (.cons (.ret (.tup (.cons (.mv 0) (.cons (.mv 1) .nil)))) .nil))
def ms13 : List Bool := [false, false]
noncomputable def SG13 : Sg := ⟨fun i => match i with | 0 => sem0 | 1 => sem1 | 2 => sem2 | 3 => sem3 | 4 => sem4 | 5 => sem5 | 6 => sem6 | 7 => sem7 | 8 => sem8 | 9 => sem9 | 10 => sem10 | 11 => sem11 | 12 => sem12 | _ => fun _ => .stk, cds⟩
noncomputable def sem13 : List D → Res := evDef SG13 ms13 2 b13
/-! _law_numbers -/
abbrev s14 : Stmt := top 20
def nm14 : Nm := ⟨["a", "b", "great"], [("wrap", [false]), ("is_word", [false]), ("hull", [false, false]), ("meet", [false, false]), ("inside", [false, false]), ("in_words", [false, false]), ("add_ranges", [false, false]), ("sub_ranges", [false, false]), ("mul_ranges", [false, false]), ("_law_cell", [false, false]), ("_law_end", [false]), ("_law_tuple", [false, false]), ("_law_bool", [false, false]), ("_law_cut", [false, false])], ["LOW", "HIGH", "EVERY", "COUNT"], ["min", "max", "len", "int", "abs", "isinstance", "tuple", "range", "bool", "sorted"]⟩
def f14_D1 : DS.Tm := (.lst (.cons (.sub (.pk (.sl 0)) (.vl (.kk (.int 0)))) (.cons (.sub (.pk (.sl 0)) (.vl (.kk (.int 1)))) (.cons (.sub (.pk (.sl 1)) (.vl (.kk (.int 0)))) (.cons (.bin .add (.vl (.sub (.pk (.sl 0)) (.vl (.kk (.int 0))))) (.vl (.sub (.pk (.sl 1)) (.vl (.kk (.int 0)))))) (.cons (.bin .add (.vl (.sub (.pk (.sl 0)) (.vl (.kk (.int 1))))) (.vl (.sub (.pk (.sl 1)) (.vl (.kk (.int 1)))))) (.cons (.bin .sub (.vl (.sub (.pk (.sl 0)) (.vl (.kk (.int 0))))) (.vl (.sub (.pk (.sl 1)) (.vl (.kk (.int 1)))))) (.cons (.bin .sub (.vl (.sub (.pk (.sl 0)) (.vl (.kk (.int 1))))) (.vl (.sub (.pk (.sl 1)) (.vl (.kk (.int 0)))))) (.cons (.bin .mul (.vl (.sub (.pk (.sl 0)) (.vl (.kk (.int 0))))) (.vl (.sub (.pk (.sl 1)) (.vl (.kk (.int 0)))))) (.cons (.bin .mul (.vl (.sub (.pk (.sl 0)) (.vl (.kk (.int 1))))) (.vl (.sub (.pk (.sl 1)) (.vl (.kk (.int 1)))))) (.cons (.mv 2) (.cons (.bin .sub (.vl (.sub (.pk (.sl 0)) (.vl (.kk (.int 0))))) (.vl (.kk (.int 1)))) (.cons (.bin .add (.vl (.sub (.pk (.sl 0)) (.vl (.kk (.int 1))))) (.vl (.kk (.int 1)))) .nil)))))))))))))
def b14 : Sms := (.cons (.ret f14_D1) .nil)
def ms14 : List Bool := [false, false, false]
noncomputable def SG14 : Sg := ⟨fun i => match i with | 0 => sem0 | 1 => sem1 | 2 => sem2 | 3 => sem3 | 4 => sem4 | 5 => sem5 | 6 => sem6 | 7 => sem7 | 8 => sem8 | 9 => sem9 | 10 => sem10 | 11 => sem11 | 12 => sem12 | 13 => sem13 | _ => fun _ => .stk, cds⟩
noncomputable def sem14 : List D → Res := evDef SG14 ms14 3 b14
/-! _law_words -/
abbrev s15 : Stmt := top 21
def nm15 : Nm := ⟨["a", "b", "great", "n", "turns", "due", "actual"], [("wrap", [false]), ("is_word", [false]), ("hull", [false, false]), ("meet", [false, false]), ("inside", [false, false]), ("in_words", [false, false]), ("add_ranges", [false, false]), ("sub_ranges", [false, false]), ("mul_ranges", [false, false]), ("_law_cell", [false, false]), ("_law_end", [false]), ("_law_tuple", [false, false]), ("_law_bool", [false, false]), ("_law_cut", [false, false]), ("_law_numbers", [false, false, false])], ["LOW", "HIGH", "EVERY", "COUNT"], ["min", "max", "len", "int", "abs", "isinstance", "tuple", "range", "bool", "sorted"]⟩
def f15_L1 : DS.Sms := (.cons (.asg 4 (.bin .fdiv (.vl (.bin .add (.pk (.sl 3)) (.vl (.kk (.int 9223372036854775808))))) (.vl (.kk (.int 18446744073709551616))))) (.cons (.asg 5 (.bin .sub (.pk (.sl 3)) (.vl (.bin .mul (.pk (.sl 4)) (.vl (.kk (.int 18446744073709551616))))))) (.cons (.asg 6 (.call 0 (.cons (.bor 3) .nil))) (.cons (.ite (.or (.not (.tr (.vl (.bi .isinst (.cons (.pk (.sl 6)) (.cons (.vl (.kk (.ty .int))) .nil)))))) (.or (.tr (.vl (.bi .isinst (.cons (.pk (.sl 6)) (.cons (.vl (.kk (.ty .bool))) .nil))))) (.vl (.cmp .ne (.pk (.sl 6)) (.pk (.sl 5))))))
    (.cons (.ret (.kk (.bl false))) .nil)
    .nil) (.cons (.ite (.not (.tr (.vl (.call 12 (.cons (.vl (.call 1 (.cons (.bor 3) .nil))) (.cons (.vl (.cmp .eq (.pk (.sl 4)) (.vl (.kk (.int 0))))) .nil))))))
    (.cons (.ret (.kk (.bl false))) .nil)
    .nil) (.cons (.fgt [3, 4, 5, 6]) .nil))))))
def b15 : Sms := (.cons (.fgt [3, 4, 5, 6]) (.cons (.for1 3 (.seq (.vl (.call 14 (.cons (.bor 0) (.cons (.bor 1) (.cons (.bor 2) .nil)))))) f15_L1) (.cons (.fgt [0, 1, 2, 3, 4, 5, 6]) (.cons (.ret (.kk (.bl true))) .nil))))
def ms15 : List Bool := [false, false, false]
noncomputable def SG15 : Sg := ⟨fun i => match i with | 0 => sem0 | 1 => sem1 | 2 => sem2 | 3 => sem3 | 4 => sem4 | 5 => sem5 | 6 => sem6 | 7 => sem7 | 8 => sem8 | 9 => sem9 | 10 => sem10 | 11 => sem11 | 12 => sem12 | 13 => sem13 | 14 => sem14 | _ => fun _ => .stk, cds⟩
noncomputable def sem15 : List D → Res := evDef SG15 ms15 7 b15
/-! _law_sums -/
abbrev s16 : Stmt := top 22
def nm16 : Nm := ⟨["a", "b", "products"], [("wrap", [false]), ("is_word", [false]), ("hull", [false, false]), ("meet", [false, false]), ("inside", [false, false]), ("in_words", [false, false]), ("add_ranges", [false, false]), ("sub_ranges", [false, false]), ("mul_ranges", [false, false]), ("_law_cell", [false, false]), ("_law_end", [false]), ("_law_tuple", [false, false]), ("_law_bool", [false, false]), ("_law_cut", [false, false]), ("_law_numbers", [false, false, false]), ("_law_words", [false, false, false])], ["LOW", "HIGH", "EVERY", "COUNT"], ["min", "max", "len", "int", "abs", "isinstance", "tuple", "range", "bool", "sorted"]⟩
def f16_D1 : DS.Tm := (.lst (.cons (.bin .mul (.vl (.sub (.pk (.sl 0)) (.vl (.kk (.int 0))))) (.vl (.sub (.pk (.sl 1)) (.vl (.kk (.int 0)))))) (.cons (.bin .mul (.vl (.sub (.pk (.sl 0)) (.vl (.kk (.int 0))))) (.vl (.sub (.pk (.sl 1)) (.vl (.kk (.int 1)))))) (.cons (.bin .mul (.vl (.sub (.pk (.sl 0)) (.vl (.kk (.int 1))))) (.vl (.sub (.pk (.sl 1)) (.vl (.kk (.int 0)))))) (.cons (.bin .mul (.vl (.sub (.pk (.sl 0)) (.vl (.kk (.int 1))))) (.vl (.sub (.pk (.sl 1)) (.vl (.kk (.int 1)))))) .nil)))))
def b16 : Sms := (.cons (.ite (.not (.tr (.vl (.call 11 (.cons (.vl (.call 6 (.cons (.bor 0) (.cons (.bor 1) .nil)))) (.cons (.vl (.call 13 (.cons (.vl (.bin .add (.vl (.sub (.pk (.sl 0)) (.vl (.kk (.int 0))))) (.vl (.sub (.pk (.sl 1)) (.vl (.kk (.int 0))))))) (.cons (.vl (.bin .add (.vl (.sub (.pk (.sl 0)) (.vl (.kk (.int 1))))) (.vl (.sub (.pk (.sl 1)) (.vl (.kk (.int 1))))))) .nil)))) .nil))))))
    (.cons (.ret (.kk (.bl false))) .nil)
    .nil) (.cons (.ite (.not (.tr (.vl (.call 11 (.cons (.vl (.call 7 (.cons (.bor 0) (.cons (.bor 1) .nil)))) (.cons (.vl (.call 13 (.cons (.vl (.bin .sub (.vl (.sub (.pk (.sl 0)) (.vl (.kk (.int 0))))) (.vl (.sub (.pk (.sl 1)) (.vl (.kk (.int 1))))))) (.cons (.vl (.bin .sub (.vl (.sub (.pk (.sl 0)) (.vl (.kk (.int 1))))) (.vl (.sub (.pk (.sl 1)) (.vl (.kk (.int 0))))))) .nil)))) .nil))))))
    (.cons (.ret (.kk (.bl false))) .nil)
    .nil) (.cons (.asg 2 (.bi .sorted (.cons (.vl f16_D1) .nil))) (.cons (.ret (.call 11 (.cons (.vl (.call 8 (.cons (.bor 0) (.cons (.bor 1) .nil)))) (.cons (.vl (.call 13 (.cons (.vl (.sub (.pk (.sl 2)) (.vl (.kk (.int 0))))) (.cons (.vl (.sub (.pk (.sl 2)) (.vl (.kk (.int 3))))) .nil)))) .nil)))) .nil))))
def ms16 : List Bool := [false, false]
noncomputable def SG16 : Sg := ⟨fun i => match i with | 0 => sem0 | 1 => sem1 | 2 => sem2 | 3 => sem3 | 4 => sem4 | 5 => sem5 | 6 => sem6 | 7 => sem7 | 8 => sem8 | 9 => sem9 | 10 => sem10 | 11 => sem11 | 12 => sem12 | 13 => sem13 | 14 => sem14 | 15 => sem15 | _ => fun _ => .stk, cds⟩
noncomputable def sem16 : List D → Res := evDef SG16 ms16 3 b16
/-! law -/
abbrev s17 : Stmt := top 23
def nm17 : Nm := ⟨["script", "ends", "k", "one", "two", "a", "b", "great", "due"], [("wrap", [false]), ("is_word", [false]), ("hull", [false, false]), ("meet", [false, false]), ("inside", [false, false]), ("in_words", [false, false]), ("add_ranges", [false, false]), ("sub_ranges", [false, false]), ("mul_ranges", [false, false]), ("_law_cell", [false, false]), ("_law_end", [false]), ("_law_tuple", [false, false]), ("_law_bool", [false, false]), ("_law_cut", [false, false]), ("_law_numbers", [false, false, false]), ("_law_words", [false, false, false]), ("_law_sums", [false, false])], ["LOW", "HIGH", "EVERY", "COUNT"], ["min", "max", "len", "int", "abs", "isinstance", "tuple", "range", "bool", "sorted"]⟩
def f17_C1 : DS.Tm := (.call 10 (.cons (.vl (.call 9 (.cons (.bor 0) (.cons (.bor 2) .nil)))) .nil))
def f17_D1 : DS.Tm := (.lst (.cons (.sub (.pk (.sl 3)) (.vl (.kk (.int 1)))) (.cons (.bi .max (.cons (.vl (.sub (.pk (.sl 3)) (.vl (.kk (.int 1))))) (.cons (.vl (.sub (.pk (.sl 4)) (.vl (.kk (.int 1))))) .nil))) .nil)))
def f17_I1 : DS.Sm := (.ite (.vl (.cmp .eq (.vl (.bin .mod (.vl (.call 9 (.cons (.bor 0) (.cons (.vl (.kk (.int 4))) .nil)))) (.vl (.kk (.int 5))))) (.vl (.kk (.int 1)))))
    (.cons (.asg 4 f17_D1) (.cons (.fgt [1, 5, 6, 7, 8]) .nil))
    (.cons (.fgt [1, 5, 6, 7, 8]) .nil))
def f17_D2 : DS.Tm := (.lst (.cons (.sub (.pk (.sl 3)) (.vl (.kk (.int 0)))) (.cons (.sub (.pk (.sl 3)) (.vl (.kk (.int 1)))) .nil)))
def f17_I2 : DS.Sm := (.ite (.vl (.cmp .eq (.vl (.bin .mod (.vl (.call 9 (.cons (.bor 0) (.cons (.vl (.kk (.int 4))) .nil)))) (.vl (.kk (.int 5))))) (.vl (.kk (.int 2)))))
    (.cons (.asg 4 f17_D2) (.cons (.fgt [1, 5, 6, 7, 8]) .nil))
    (.cons (.fgt [1, 5, 6, 7, 8]) .nil))
def f17_I3 : DS.Sm := (.ite (.vl (.cmp .gt (.vl (.sub (.pk (.sl 8)) (.vl (.kk (.int 0))))) (.vl (.sub (.pk (.sl 8)) (.vl (.kk (.int 1)))))))
    (.cons (.asg 8 (.kk .non)) (.cons (.fgt [0, 1, 3, 4]) .nil))
    (.cons (.fgt [0, 1, 3, 4]) .nil))
def f17_K2 : DS.Sms := (.cons (.ite (.or (.not (.tr (.vl (.call 11 (.cons (.vl (.call 3 (.cons (.bor 5) (.cons (.bor 6) .nil)))) (.cons (.bor 8) .nil)))))) (.not (.tr (.vl (.call 11 (.cons (.vl (.call 2 (.cons (.bor 5) (.cons (.bor 6) .nil)))) (.cons (.vl (.tup (.cons (.bi .min (.cons (.vl (.sub (.pk (.sl 5)) (.vl (.kk (.int 0))))) (.cons (.vl (.sub (.pk (.sl 6)) (.vl (.kk (.int 0))))) .nil))) (.cons (.bi .max (.cons (.vl (.sub (.pk (.sl 5)) (.vl (.kk (.int 1))))) (.cons (.vl (.sub (.pk (.sl 6)) (.vl (.kk (.int 1))))) .nil))) .nil)))) .nil)))))))
    (.cons (.ret (.kk (.bl false))) .nil)
    .nil) (.cons (.ite (.or (.not (.tr (.vl (.call 12 (.cons (.vl (.call 4 (.cons (.bor 5) (.cons (.bor 6) .nil)))) (.cons (.vl (.tst (.and (.vl (.cmp .le (.vl (.sub (.pk (.sl 6)) (.vl (.kk (.int 0))))) (.vl (.sub (.pk (.sl 5)) (.vl (.kk (.int 0))))))) (.vl (.cmp .le (.vl (.sub (.pk (.sl 5)) (.vl (.kk (.int 1))))) (.vl (.sub (.pk (.sl 6)) (.vl (.kk (.int 1)))))))))) .nil)))))) (.not (.tr (.vl (.call 12 (.cons (.vl (.call 4 (.cons (.bor 6) (.cons (.bor 5) .nil)))) (.cons (.vl (.tst (.and (.vl (.cmp .le (.vl (.sub (.pk (.sl 5)) (.vl (.kk (.int 0))))) (.vl (.sub (.pk (.sl 6)) (.vl (.kk (.int 0))))))) (.vl (.cmp .le (.vl (.sub (.pk (.sl 6)) (.vl (.kk (.int 1))))) (.vl (.sub (.pk (.sl 5)) (.vl (.kk (.int 1)))))))))) .nil)))))))
    (.cons (.ret (.kk (.bl false))) .nil)
    .nil) (.cons (.ret (.tst (.and (.vl (.call 15 (.cons (.bor 5) (.cons (.bor 6) (.cons (.bor 7) .nil))))) (.and (.vl (.call 16 (.cons (.bor 5) (.cons (.bor 6) .nil)))) (.vl (.call 16 (.cons (.bor 6) (.cons (.bor 5) .nil)))))))) .nil)))
def f17_K1 : DS.Sms := (.cons (.fgt [0, 1, 3, 4]) (.cons f17_I3 (.cons (.fgt [0, 1, 3, 4]) f17_K2)))
def b17 : Sms := (.cons (.asg 1 (.lc 2 (.rng1 (.vl (.kk (.int 4)))) .none f17_C1)) (.cons (.asg 3 (.bi .sorted (.cons (.vl (.slc (.pk (.sl 1)) .none (.some (.vl (.kk (.int 2)))))) .nil))) (.cons (.asg 4 (.bi .sorted (.cons (.vl (.slc (.pk (.sl 1)) (.some (.vl (.kk (.int 2)))) .none)) .nil))) (.cons (.fgt [1, 5, 6, 7, 8]) (.cons f17_I1 (.cons (.fgt [1, 5, 6, 7, 8]) (.cons f17_I2 (.cons (.asg 5 (.tup (.cons (.sub (.pk (.sl 3)) (.vl (.kk (.int 0)))) (.cons (.sub (.pk (.sl 3)) (.vl (.kk (.int 1)))) .nil)))) (.cons (.asg 6 (.tup (.cons (.sub (.pk (.sl 4)) (.vl (.kk (.int 0)))) (.cons (.sub (.pk (.sl 4)) (.vl (.kk (.int 1)))) .nil)))) (.cons (.asg 7 (.bin .sub (.vl (.bin .mod (.vl (.bi .int (.cons (.vl (.call 9 (.cons (.bor 0) (.cons (.vl (.kk (.int 5))) .nil)))) .nil))) (.vl (.kk (.int 2000000000000000000000000000000000000000000007))))) (.vl (.kk (.int 1000000000000000000000000000000000000000000003))))) (.cons (.ite (.or (.vl (.cmp .ne (.vl (.gc 0)) (.vl (.neg (.vl (.kk (.int 9223372036854775808))))))) (.or (.vl (.cmp .ne (.vl (.gc 1)) (.vl (.kk (.int 9223372036854775807))))) (.not (.tr (.vl (.call 11 (.cons (.vl (.gc 2)) (.cons (.vl (.tup (.cons (.gc 0) (.cons (.gc 1) .nil)))) .nil))))))))
    (.cons (.ret (.kk (.bl false))) .nil)
    .nil) (.cons (.asg 8 (.tup (.cons (.bi .max (.cons (.vl (.sub (.pk (.sl 5)) (.vl (.kk (.int 0))))) (.cons (.vl (.sub (.pk (.sl 6)) (.vl (.kk (.int 0))))) .nil))) (.cons (.bi .min (.cons (.vl (.sub (.pk (.sl 5)) (.vl (.kk (.int 1))))) (.cons (.vl (.sub (.pk (.sl 6)) (.vl (.kk (.int 1))))) .nil))) .nil)))) (.cons (.fgt [0, 1, 3, 4]) f17_K1)))))))))))))
def ms17 : List Bool := [false]
noncomputable def SG17 : Sg := ⟨fun i => match i with | 0 => sem0 | 1 => sem1 | 2 => sem2 | 3 => sem3 | 4 => sem4 | 5 => sem5 | 6 => sem6 | 7 => sem7 | 8 => sem8 | 9 => sem9 | 10 => sem10 | 11 => sem11 | 12 => sem12 | 13 => sem13 | 14 => sem14 | 15 => sem15 | 16 => sem16 | _ => fun _ => .stk, cds⟩
noncomputable def sem17 : List D → Res := evDef SG17 ms17 9 b17
theorem chks : ([cSms nm0 (defScope s0) b0 (defBody s0), cSms nm1 (defScope s1) b1 (defBody s1), cSms nm2 (defScope s2) b2 (defBody s2), cSms nm3 (defScope s3) b3 (defBody s3), cSms nm4 (defScope s4) b4 (defBody s4), cSms nm5 (defScope s5) b5 (defBody s5), cSms nm6 (defScope s6) b6 (defBody s6), cSms nm7 (defScope s7) b7 (defBody s7), cSms nm8 (defScope s8) b8 (defBody s8), cSms nm9 (defScope s9) b9 (defBody s9), cSms nm10 (defScope s10) b10 (defBody s10), cSms nm11 (defScope s11) b11 (defBody s11), cSms nm12 (defScope s12) b12 (defBody s12), cSms nm13 (defScope s13) b13 (defBody s13), cSms nm14 (defScope s14) b14 (defBody s14), cSms nm15 (defScope s15) b15 (defBody s15), cSms nm16 (defScope s16) b16 (defBody s16), cSms nm17 (defScope s17) b17 (defBody s17)].all id) = true := by decide +kernel
theorem chk0 : cSms nm0 (defScope s0) b0 (defBody s0) = true := by have := chks; simp only [List.all_cons, Bool.and_eq_true, id] at this; exact this.1
theorem sc0 : FnScope nm0.N ["n"] (defScope s0) := ⟨rfl, rfl, rfl, by decide +kernel, rfl, by decide +kernel, by decide +kernel⟩
theorem chk1 : cSms nm1 (defScope s1) b1 (defBody s1) = true := by have := chks; simp only [List.all_cons, Bool.and_eq_true, id] at this; exact this.2.1
theorem sc1 : FnScope nm1.N ["n"] (defScope s1) := ⟨rfl, rfl, rfl, by decide +kernel, rfl, by decide +kernel, by decide +kernel⟩
theorem chk2 : cSms nm2 (defScope s2) b2 (defBody s2) = true := by have := chks; simp only [List.all_cons, Bool.and_eq_true, id] at this; exact this.2.2.1
theorem sc2 : FnScope nm2.N ["a", "b"] (defScope s2) := ⟨rfl, rfl, rfl, by decide +kernel, rfl, by decide +kernel, by decide +kernel⟩
theorem chk3 : cSms nm3 (defScope s3) b3 (defBody s3) = true := by have := chks; simp only [List.all_cons, Bool.and_eq_true, id] at this; exact this.2.2.2.1
theorem sc3 : FnScope nm3.N ["a", "b"] (defScope s3) := ⟨rfl, rfl, rfl, by decide +kernel, rfl, by decide +kernel, by decide +kernel⟩
theorem chk4 : cSms nm4 (defScope s4) b4 (defBody s4) = true := by have := chks; simp only [List.all_cons, Bool.and_eq_true, id] at this; exact this.2.2.2.2.1
theorem sc4 : FnScope nm4.N ["a", "b"] (defScope s4) := ⟨rfl, rfl, rfl, by decide +kernel, rfl, by decide +kernel, by decide +kernel⟩
theorem chk5 : cSms nm5 (defScope s5) b5 (defBody s5) = true := by have := chks; simp only [List.all_cons, Bool.and_eq_true, id] at this; exact this.2.2.2.2.2.1
theorem sc5 : FnScope nm5.N ["low", "high"] (defScope s5) := ⟨rfl, rfl, rfl, by decide +kernel, rfl, by decide +kernel, by decide +kernel⟩
theorem chk6 : cSms nm6 (defScope s6) b6 (defBody s6) = true := by have := chks; simp only [List.all_cons, Bool.and_eq_true, id] at this; exact this.2.2.2.2.2.2.1
theorem sc6 : FnScope nm6.N ["a", "b"] (defScope s6) := ⟨rfl, rfl, rfl, by decide +kernel, rfl, by decide +kernel, by decide +kernel⟩
theorem chk7 : cSms nm7 (defScope s7) b7 (defBody s7) = true := by have := chks; simp only [List.all_cons, Bool.and_eq_true, id] at this; exact this.2.2.2.2.2.2.2.1
theorem sc7 : FnScope nm7.N ["a", "b"] (defScope s7) := ⟨rfl, rfl, rfl, by decide +kernel, rfl, by decide +kernel, by decide +kernel⟩
theorem chk8 : cSms nm8 (defScope s8) b8 (defBody s8) = true := by have := chks; simp only [List.all_cons, Bool.and_eq_true, id] at this; exact this.2.2.2.2.2.2.2.2.1
theorem sc8 : FnScope nm8.N ["a", "b"] (defScope s8) := ⟨rfl, rfl, rfl, by decide +kernel, rfl, by decide +kernel, by decide +kernel⟩
theorem chk9 : cSms nm9 (defScope s9) b9 (defBody s9) = true := by have := chks; simp only [List.all_cons, Bool.and_eq_true, id] at this; exact this.2.2.2.2.2.2.2.2.2.1
theorem sc9 : FnScope nm9.N ["script", "k"] (defScope s9) := ⟨rfl, rfl, rfl, by decide +kernel, rfl, by decide +kernel, by decide +kernel⟩
theorem chk10 : cSms nm10 (defScope s10) b10 (defBody s10) = true := by have := chks; simp only [List.all_cons, Bool.and_eq_true, id] at this; exact this.2.2.2.2.2.2.2.2.2.2.1
theorem sc10 : FnScope nm10.N ["cell"] (defScope s10) := ⟨rfl, rfl, rfl, by decide +kernel, rfl, by decide +kernel, by decide +kernel⟩
theorem chk11 : cSms nm11 (defScope s11) b11 (defBody s11) = true := by have := chks; simp only [List.all_cons, Bool.and_eq_true, id] at this; exact this.2.2.2.2.2.2.2.2.2.2.2.1
theorem sc11 : FnScope nm11.N ["actual", "due"] (defScope s11) := ⟨rfl, rfl, rfl, by decide +kernel, rfl, by decide +kernel, by decide +kernel⟩
theorem chk12 : cSms nm12 (defScope s12) b12 (defBody s12) = true := by have := chks; simp only [List.all_cons, Bool.and_eq_true, id] at this; exact this.2.2.2.2.2.2.2.2.2.2.2.2.1
theorem sc12 : FnScope nm12.N ["actual", "due"] (defScope s12) := ⟨rfl, rfl, rfl, by decide +kernel, rfl, by decide +kernel, by decide +kernel⟩
theorem chk13 : cSms nm13 (defScope s13) b13 (defBody s13) = true := by have := chks; simp only [List.all_cons, Bool.and_eq_true, id] at this; exact this.2.2.2.2.2.2.2.2.2.2.2.2.2.1
theorem sc13 : FnScope nm13.N ["low", "high"] (defScope s13) := ⟨rfl, rfl, rfl, by decide +kernel, rfl, by decide +kernel, by decide +kernel⟩
theorem chk14 : cSms nm14 (defScope s14) b14 (defBody s14) = true := by have := chks; simp only [List.all_cons, Bool.and_eq_true, id] at this; exact this.2.2.2.2.2.2.2.2.2.2.2.2.2.2.1
theorem sc14 : FnScope nm14.N ["a", "b", "great"] (defScope s14) := ⟨rfl, rfl, rfl, by decide +kernel, rfl, by decide +kernel, by decide +kernel⟩
theorem chk15 : cSms nm15 (defScope s15) b15 (defBody s15) = true := by have := chks; simp only [List.all_cons, Bool.and_eq_true, id] at this; exact this.2.2.2.2.2.2.2.2.2.2.2.2.2.2.2.1
theorem sc15 : FnScope nm15.N ["a", "b", "great"] (defScope s15) := ⟨rfl, rfl, rfl, by decide +kernel, rfl, by decide +kernel, by decide +kernel⟩
theorem chk16 : cSms nm16 (defScope s16) b16 (defBody s16) = true := by have := chks; simp only [List.all_cons, Bool.and_eq_true, id] at this; exact this.2.2.2.2.2.2.2.2.2.2.2.2.2.2.2.2.1
theorem sc16 : FnScope nm16.N ["a", "b"] (defScope s16) := ⟨rfl, rfl, rfl, by decide +kernel, rfl, by decide +kernel, by decide +kernel⟩
theorem chk17 : cSms nm17 (defScope s17) b17 (defBody s17) = true := by have := chks; simp only [List.all_cons, Bool.and_eq_true, id] at this; exact this.2.2.2.2.2.2.2.2.2.2.2.2.2.2.2.2.2.1
theorem sc17 : FnScope nm17.N ["script"] (defScope s17) := ⟨rfl, rfl, rfl, by decide +kernel, rfl, by decide +kernel, by decide +kernel⟩
section
variable (K : PySem.W.Frag) (mg : Str → Option Value) (fa : Nat → Addr) (fd : Nat → FuncData)
def fps : Nat → List Str
  | 0 => ["n"]
  | 1 => ["n"]
  | 2 => ["a", "b"]
  | 3 => ["a", "b"]
  | 4 => ["a", "b"]
  | 5 => ["low", "high"]
  | 6 => ["a", "b"]
  | 7 => ["a", "b"]
  | 8 => ["a", "b"]
  | 9 => ["script", "k"]
  | 10 => ["cell"]
  | 11 => ["actual", "due"]
  | 12 => ["actual", "due"]
  | 13 => ["low", "high"]
  | 14 => ["a", "b", "great"]
  | 15 => ["a", "b", "great"]
  | 16 => ["a", "b"]
  | 17 => ["script"]
  | _ => []
noncomputable def C0 : Cst := ⟨K, mg, nm0, SG0, fa, fd, fps, fun _ => 0⟩
noncomputable def C1 : Cst := ⟨K, mg, nm1, SG1, fa, fd, fps, fun _ => 0⟩
noncomputable def C2 : Cst := ⟨K, mg, nm2, SG2, fa, fd, fps, fun _ => 0⟩
noncomputable def C3 : Cst := ⟨K, mg, nm3, SG3, fa, fd, fps, fun _ => 0⟩
noncomputable def C4 : Cst := ⟨K, mg, nm4, SG4, fa, fd, fps, fun _ => 0⟩
noncomputable def C5 : Cst := ⟨K, mg, nm5, SG5, fa, fd, fps, fun _ => 0⟩
noncomputable def C6 : Cst := ⟨K, mg, nm6, SG6, fa, fd, fps, fun _ => 0⟩
noncomputable def C7 : Cst := ⟨K, mg, nm7, SG7, fa, fd, fps, fun _ => 0⟩
noncomputable def C8 : Cst := ⟨K, mg, nm8, SG8, fa, fd, fps, fun _ => 0⟩
noncomputable def C9 : Cst := ⟨K, mg, nm9, SG9, fa, fd, fps, fun _ => 0⟩
noncomputable def C10 : Cst := ⟨K, mg, nm10, SG10, fa, fd, fps, fun _ => 0⟩
noncomputable def C11 : Cst := ⟨K, mg, nm11, SG11, fa, fd, fps, fun _ => 0⟩
noncomputable def C12 : Cst := ⟨K, mg, nm12, SG12, fa, fd, fps, fun _ => 0⟩
noncomputable def C13 : Cst := ⟨K, mg, nm13, SG13, fa, fd, fps, fun _ => 0⟩
noncomputable def C14 : Cst := ⟨K, mg, nm14, SG14, fa, fd, fps, fun _ => 0⟩
noncomputable def C15 : Cst := ⟨K, mg, nm15, SG15, fa, fd, fps, fun _ => 0⟩
noncomputable def C16 : Cst := ⟨K, mg, nm16, SG16, fa, fd, fps, fun _ => 0⟩
noncomputable def C17 : Cst := ⟨K, mg, nm17, SG17, fa, fd, fps, fun _ => 0⟩
end
section
variable {P : Program} {w : World} {K : PySem.W.Frag} {mg : Str → Option Value} {base : Heap} {fa : Nat → Addr} {fd : Nat → FuncData}
theorem all_ok (F0 : Fun K "wrap" "wrap" s0 (fa 0) (fd 0)) (F1 : Fun K "is_word" "is_word" s1 (fa 1) (fd 1)) (F2 : Fun K "hull" "hull" s2 (fa 2) (fd 2)) (F3 : Fun K "meet" "meet" s3 (fa 3) (fd 3)) (F4 : Fun K "inside" "inside" s4 (fa 4) (fd 4)) (F5 : Fun K "in_words" "in_words" s5 (fa 5) (fd 5)) (F6 : Fun K "add_ranges" "add_ranges" s6 (fa 6) (fd 6)) (F7 : Fun K "sub_ranges" "sub_ranges" s7 (fa 7) (fd 7)) (F8 : Fun K "mul_ranges" "mul_ranges" s8 (fa 8) (fd 8)) (F9 : Fun K "_law_cell" "_law_cell" s9 (fa 9) (fd 9)) (F10 : Fun K "_law_end" "_law_end" s10 (fa 10) (fd 10)) (F11 : Fun K "_law_tuple" "_law_tuple" s11 (fa 11) (fd 11)) (F12 : Fun K "_law_bool" "_law_bool" s12 (fa 12) (fd 12)) (F13 : Fun K "_law_cut" "_law_cut" s13 (fa 13) (fd 13)) (F14 : Fun K "_law_numbers" "_law_numbers" s14 (fa 14) (fd 14)) (F15 : Fun K "_law_words" "_law_words" s15 (fa 15) (fd 15)) (F16 : Fun K "_law_sums" "_law_sums" s16 (fa 16) (fd 16)) (F17 : Fun K "law" "law" s17 (fa 17) (fd 17)) (B0 : Binds K (fd 0) (fps 0) []) (B1 : Binds K (fd 1) (fps 1) []) (B2 : Binds K (fd 2) (fps 2) []) (B3 : Binds K (fd 3) (fps 3) []) (B4 : Binds K (fd 4) (fps 4) []) (B5 : Binds K (fd 5) (fps 5) []) (B6 : Binds K (fd 6) (fps 6) []) (B7 : Binds K (fd 7) (fps 7) []) (B8 : Binds K (fd 8) (fps 8) []) (B9 : Binds K (fd 9) (fps 9) []) (B10 : Binds K (fd 10) (fps 10) []) (B11 : Binds K (fd 11) (fps 11) []) (B12 : Binds K (fd 12) (fps 12) []) (B13 : Binds K (fd 13) (fps 13) []) (B14 : Binds K (fd 14) (fps 14) []) (B15 : Binds K (fd 15) (fps 15) []) (B16 : Binds K (fd 16) (fps 16) []) (G0 : mg "wrap" = some (.ref (fa 0))) (G1 : mg "is_word" = some (.ref (fa 1))) (G2 : mg "hull" = some (.ref (fa 2))) (G3 : mg "meet" = some (.ref (fa 3))) (G4 : mg "inside" = some (.ref (fa 4))) (G5 : mg "in_words" = some (.ref (fa 5))) (G6 : mg "add_ranges" = some (.ref (fa 6))) (G7 : mg "sub_ranges" = some (.ref (fa 7))) (G8 : mg "mul_ranges" = some (.ref (fa 8))) (G9 : mg "_law_cell" = some (.ref (fa 9))) (G10 : mg "_law_end" = some (.ref (fa 10))) (G11 : mg "_law_tuple" = some (.ref (fa 11))) (G12 : mg "_law_bool" = some (.ref (fa 12))) (G13 : mg "_law_cut" = some (.ref (fa 13))) (G14 : mg "_law_numbers" = some (.ref (fa 14))) (G15 : mg "_law_words" = some (.ref (fa 15))) (G16 : mg "_law_sums" = some (.ref (fa 16)))
    (hc : CnsOk (C0 K mg fa fd) mg 0 ["LOW", "HIGH", "EVERY", "COUNT"]) (hb : BlsOk mg ["min", "max", "len", "int", "abs", "isinstance", "tuple", "range", "bool", "sorted"]) : FnOk P w K mg base (L2.CX P w) 18 (fa 17) (fd 17) (fps 17) (spD (C17 K mg fa fd) ms17 sem17) := by
  have O0 : FnOk P w K mg base (L2.CX P w) 1 (fa 0) (fd 0) (fps 0) (spD (C0 K mg fa fd) ms0 sem0) := def_ok (C := C0 K mg fa fd) (k := 0) F0 sc0 rfl True.intro hc hb rfl chk0
  have O1 : FnOk P w K mg base (L2.CX P w) 2 (fa 1) (fd 1) (fps 1) (spD (C1 K mg fa fd) ms1 sem1) := def_ok (C := C1 K mg fa fd) (k := 1) F1 sc1 rfl ⟨⟨G0, F0.kp, B0, (O0.mono (by decide : 1 ≤ 1))⟩, True.intro⟩ hc hb rfl chk1
  have O2 : FnOk P w K mg base (L2.CX P w) 3 (fa 2) (fd 2) (fps 2) (spD (C2 K mg fa fd) ms2 sem2) := def_ok (C := C2 K mg fa fd) (k := 2) F2 sc2 rfl ⟨⟨G0, F0.kp, B0, (O0.mono (by decide : 1 ≤ 2))⟩, ⟨⟨G1, F1.kp, B1, (O1.mono (by decide : 2 ≤ 2))⟩, True.intro⟩⟩ hc hb rfl chk2
  have O3 : FnOk P w K mg base (L2.CX P w) 4 (fa 3) (fd 3) (fps 3) (spD (C3 K mg fa fd) ms3 sem3) := def_ok (C := C3 K mg fa fd) (k := 3) F3 sc3 rfl ⟨⟨G0, F0.kp, B0, (O0.mono (by decide : 1 ≤ 3))⟩, ⟨⟨G1, F1.kp, B1, (O1.mono (by decide : 2 ≤ 3))⟩, ⟨⟨G2, F2.kp, B2, (O2.mono (by decide : 3 ≤ 3))⟩, True.intro⟩⟩⟩ hc hb rfl chk3
  have O4 : FnOk P w K mg base (L2.CX P w) 5 (fa 4) (fd 4) (fps 4) (spD (C4 K mg fa fd) ms4 sem4) := def_ok (C := C4 K mg fa fd) (k := 4) F4 sc4 rfl ⟨⟨G0, F0.kp, B0, (O0.mono (by decide : 1 ≤ 4))⟩, ⟨⟨G1, F1.kp, B1, (O1.mono (by decide : 2 ≤ 4))⟩, ⟨⟨G2, F2.kp, B2, (O2.mono (by decide : 3 ≤ 4))⟩, ⟨⟨G3, F3.kp, B3, (O3.mono (by decide : 4 ≤ 4))⟩, True.intro⟩⟩⟩⟩ hc hb rfl chk4
  have O5 : FnOk P w K mg base (L2.CX P w) 6 (fa 5) (fd 5) (fps 5) (spD (C5 K mg fa fd) ms5 sem5) := def_ok (C := C5 K mg fa fd) (k := 5) F5 sc5 rfl ⟨⟨G0, F0.kp, B0, (O0.mono (by decide : 1 ≤ 5))⟩, ⟨⟨G1, F1.kp, B1, (O1.mono (by decide : 2 ≤ 5))⟩, ⟨⟨G2, F2.kp, B2, (O2.mono (by decide : 3 ≤ 5))⟩, ⟨⟨G3, F3.kp, B3, (O3.mono (by decide : 4 ≤ 5))⟩, ⟨⟨G4, F4.kp, B4, (O4.mono (by decide : 5 ≤ 5))⟩, True.intro⟩⟩⟩⟩⟩ hc hb rfl chk5
  have O6 : FnOk P w K mg base (L2.CX P w) 7 (fa 6) (fd 6) (fps 6) (spD (C6 K mg fa fd) ms6 sem6) := def_ok (C := C6 K mg fa fd) (k := 6) F6 sc6 rfl ⟨⟨G0, F0.kp, B0, (O0.mono (by decide : 1 ≤ 6))⟩, ⟨⟨G1, F1.kp, B1, (O1.mono (by decide : 2 ≤ 6))⟩, ⟨⟨G2, F2.kp, B2, (O2.mono (by decide : 3 ≤ 6))⟩, ⟨⟨G3, F3.kp, B3, (O3.mono (by decide : 4 ≤ 6))⟩, ⟨⟨G4, F4.kp, B4, (O4.mono (by decide : 5 ≤ 6))⟩, ⟨⟨G5, F5.kp, B5, (O5.mono (by decide : 6 ≤ 6))⟩, True.intro⟩⟩⟩⟩⟩⟩ hc hb rfl chk6
  have O7 : FnOk P w K mg base (L2.CX P w) 8 (fa 7) (fd 7) (fps 7) (spD (C7 K mg fa fd) ms7 sem7) := def_ok (C := C7 K mg fa fd) (k := 7) F7 sc7 rfl ⟨⟨G0, F0.kp, B0, (O0.mono (by decide : 1 ≤ 7))⟩, ⟨⟨G1, F1.kp, B1, (O1.mono (by decide : 2 ≤ 7))⟩, ⟨⟨G2, F2.kp, B2, (O2.mono (by decide : 3 ≤ 7))⟩, ⟨⟨G3, F3.kp, B3, (O3.mono (by decide : 4 ≤ 7))⟩, ⟨⟨G4, F4.kp, B4, (O4.mono (by decide : 5 ≤ 7))⟩, ⟨⟨G5, F5.kp, B5, (O5.mono (by decide : 6 ≤ 7))⟩, ⟨⟨G6, F6.kp, B6, (O6.mono (by decide : 7 ≤ 7))⟩, True.intro⟩⟩⟩⟩⟩⟩⟩ hc hb rfl chk7
  have O8 : FnOk P w K mg base (L2.CX P w) 9 (fa 8) (fd 8) (fps 8) (spD (C8 K mg fa fd) ms8 sem8) := def_ok (C := C8 K mg fa fd) (k := 8) F8 sc8 rfl ⟨⟨G0, F0.kp, B0, (O0.mono (by decide : 1 ≤ 8))⟩, ⟨⟨G1, F1.kp, B1, (O1.mono (by decide : 2 ≤ 8))⟩, ⟨⟨G2, F2.kp, B2, (O2.mono (by decide : 3 ≤ 8))⟩, ⟨⟨G3, F3.kp, B3, (O3.mono (by decide : 4 ≤ 8))⟩, ⟨⟨G4, F4.kp, B4, (O4.mono (by decide : 5 ≤ 8))⟩, ⟨⟨G5, F5.kp, B5, (O5.mono (by decide : 6 ≤ 8))⟩, ⟨⟨G6, F6.kp, B6, (O6.mono (by decide : 7 ≤ 8))⟩, ⟨⟨G7, F7.kp, B7, (O7.mono (by decide : 8 ≤ 8))⟩, True.intro⟩⟩⟩⟩⟩⟩⟩⟩ hc hb rfl chk8
  have O9 : FnOk P w K mg base (L2.CX P w) 10 (fa 9) (fd 9) (fps 9) (spD (C9 K mg fa fd) ms9 sem9) := def_ok (C := C9 K mg fa fd) (k := 9) F9 sc9 rfl ⟨⟨G0, F0.kp, B0, (O0.mono (by decide : 1 ≤ 9))⟩, ⟨⟨G1, F1.kp, B1, (O1.mono (by decide : 2 ≤ 9))⟩, ⟨⟨G2, F2.kp, B2, (O2.mono (by decide : 3 ≤ 9))⟩, ⟨⟨G3, F3.kp, B3, (O3.mono (by decide : 4 ≤ 9))⟩, ⟨⟨G4, F4.kp, B4, (O4.mono (by decide : 5 ≤ 9))⟩, ⟨⟨G5, F5.kp, B5, (O5.mono (by decide : 6 ≤ 9))⟩, ⟨⟨G6, F6.kp, B6, (O6.mono (by decide : 7 ≤ 9))⟩, ⟨⟨G7, F7.kp, B7, (O7.mono (by decide : 8 ≤ 9))⟩, ⟨⟨G8, F8.kp, B8, (O8.mono (by decide : 9 ≤ 9))⟩, True.intro⟩⟩⟩⟩⟩⟩⟩⟩⟩ hc hb rfl chk9
  have O10 : FnOk P w K mg base (L2.CX P w) 11 (fa 10) (fd 10) (fps 10) (spD (C10 K mg fa fd) ms10 sem10) := def_ok (C := C10 K mg fa fd) (k := 10) F10 sc10 rfl ⟨⟨G0, F0.kp, B0, (O0.mono (by decide : 1 ≤ 10))⟩, ⟨⟨G1, F1.kp, B1, (O1.mono (by decide : 2 ≤ 10))⟩, ⟨⟨G2, F2.kp, B2, (O2.mono (by decide : 3 ≤ 10))⟩, ⟨⟨G3, F3.kp, B3, (O3.mono (by decide : 4 ≤ 10))⟩, ⟨⟨G4, F4.kp, B4, (O4.mono (by decide : 5 ≤ 10))⟩, ⟨⟨G5, F5.kp, B5, (O5.mono (by decide : 6 ≤ 10))⟩, ⟨⟨G6, F6.kp, B6, (O6.mono (by decide : 7 ≤ 10))⟩, ⟨⟨G7, F7.kp, B7, (O7.mono (by decide : 8 ≤ 10))⟩, ⟨⟨G8, F8.kp, B8, (O8.mono (by decide : 9 ≤ 10))⟩, ⟨⟨G9, F9.kp, B9, (O9.mono (by decide : 10 ≤ 10))⟩, True.intro⟩⟩⟩⟩⟩⟩⟩⟩⟩⟩ hc hb rfl chk10
  have O11 : FnOk P w K mg base (L2.CX P w) 12 (fa 11) (fd 11) (fps 11) (spD (C11 K mg fa fd) ms11 sem11) := def_ok (C := C11 K mg fa fd) (k := 11) F11 sc11 rfl ⟨⟨G0, F0.kp, B0, (O0.mono (by decide : 1 ≤ 11))⟩, ⟨⟨G1, F1.kp, B1, (O1.mono (by decide : 2 ≤ 11))⟩, ⟨⟨G2, F2.kp, B2, (O2.mono (by decide : 3 ≤ 11))⟩, ⟨⟨G3, F3.kp, B3, (O3.mono (by decide : 4 ≤ 11))⟩, ⟨⟨G4, F4.kp, B4, (O4.mono (by decide : 5 ≤ 11))⟩, ⟨⟨G5, F5.kp, B5, (O5.mono (by decide : 6 ≤ 11))⟩, ⟨⟨G6, F6.kp, B6, (O6.mono (by decide : 7 ≤ 11))⟩, ⟨⟨G7, F7.kp, B7, (O7.mono (by decide : 8 ≤ 11))⟩, ⟨⟨G8, F8.kp, B8, (O8.mono (by decide : 9 ≤ 11))⟩, ⟨⟨G9, F9.kp, B9, (O9.mono (by decide : 10 ≤ 11))⟩, ⟨⟨G10, F10.kp, B10, (O10.mono (by decide : 11 ≤ 11))⟩, True.intro⟩⟩⟩⟩⟩⟩⟩⟩⟩⟩⟩ hc hb rfl chk11
  have O12 : FnOk P w K mg base (L2.CX P w) 13 (fa 12) (fd 12) (fps 12) (spD (C12 K mg fa fd) ms12 sem12) := def_ok (C := C12 K mg fa fd) (k := 12) F12 sc12 rfl ⟨⟨G0, F0.kp, B0, (O0.mono (by decide : 1 ≤ 12))⟩, ⟨⟨G1, F1.kp, B1, (O1.mono (by decide : 2 ≤ 12))⟩, ⟨⟨G2, F2.kp, B2, (O2.mono (by decide : 3 ≤ 12))⟩, ⟨⟨G3, F3.kp, B3, (O3.mono (by decide : 4 ≤ 12))⟩, ⟨⟨G4, F4.kp, B4, (O4.mono (by decide : 5 ≤ 12))⟩, ⟨⟨G5, F5.kp, B5, (O5.mono (by decide : 6 ≤ 12))⟩, ⟨⟨G6, F6.kp, B6, (O6.mono (by decide : 7 ≤ 12))⟩, ⟨⟨G7, F7.kp, B7, (O7.mono (by decide : 8 ≤ 12))⟩, ⟨⟨G8, F8.kp, B8, (O8.mono (by decide : 9 ≤ 12))⟩, ⟨⟨G9, F9.kp, B9, (O9.mono (by decide : 10 ≤ 12))⟩, ⟨⟨G10, F10.kp, B10, (O10.mono (by decide : 11 ≤ 12))⟩, ⟨⟨G11, F11.kp, B11, (O11.mono (by decide : 12 ≤ 12))⟩, True.intro⟩⟩⟩⟩⟩⟩⟩⟩⟩⟩⟩⟩ hc hb rfl chk12
  have O13 : FnOk P w K mg base (L2.CX P w) 14 (fa 13) (fd 13) (fps 13) (spD (C13 K mg fa fd) ms13 sem13) := def_ok (C := C13 K mg fa fd) (k := 13) F13 sc13 rfl ⟨⟨G0, F0.kp, B0, (O0.mono (by decide : 1 ≤ 13))⟩, ⟨⟨G1, F1.kp, B1, (O1.mono (by decide : 2 ≤ 13))⟩, ⟨⟨G2, F2.kp, B2, (O2.mono (by decide : 3 ≤ 13))⟩, ⟨⟨G3, F3.kp, B3, (O3.mono (by decide : 4 ≤ 13))⟩, ⟨⟨G4, F4.kp, B4, (O4.mono (by decide : 5 ≤ 13))⟩, ⟨⟨G5, F5.kp, B5, (O5.mono (by decide : 6 ≤ 13))⟩, ⟨⟨G6, F6.kp, B6, (O6.mono (by decide : 7 ≤ 13))⟩, ⟨⟨G7, F7.kp, B7, (O7.mono (by decide : 8 ≤ 13))⟩, ⟨⟨G8, F8.kp, B8, (O8.mono (by decide : 9 ≤ 13))⟩, ⟨⟨G9, F9.kp, B9, (O9.mono (by decide : 10 ≤ 13))⟩, ⟨⟨G10, F10.kp, B10, (O10.mono (by decide : 11 ≤ 13))⟩, ⟨⟨G11, F11.kp, B11, (O11.mono (by decide : 12 ≤ 13))⟩, ⟨⟨G12, F12.kp, B12, (O12.mono (by decide : 13 ≤ 13))⟩, True.intro⟩⟩⟩⟩⟩⟩⟩⟩⟩⟩⟩⟩⟩ hc hb rfl chk13
  have O14 : FnOk P w K mg base (L2.CX P w) 15 (fa 14) (fd 14) (fps 14) (spD (C14 K mg fa fd) ms14 sem14) := def_ok (C := C14 K mg fa fd) (k := 14) F14 sc14 rfl ⟨⟨G0, F0.kp, B0, (O0.mono (by decide : 1 ≤ 14))⟩, ⟨⟨G1, F1.kp, B1, (O1.mono (by decide : 2 ≤ 14))⟩, ⟨⟨G2, F2.kp, B2, (O2.mono (by decide : 3 ≤ 14))⟩, ⟨⟨G3, F3.kp, B3, (O3.mono (by decide : 4 ≤ 14))⟩, ⟨⟨G4, F4.kp, B4, (O4.mono (by decide : 5 ≤ 14))⟩, ⟨⟨G5, F5.kp, B5, (O5.mono (by decide : 6 ≤ 14))⟩, ⟨⟨G6, F6.kp, B6, (O6.mono (by decide : 7 ≤ 14))⟩, ⟨⟨G7, F7.kp, B7, (O7.mono (by decide : 8 ≤ 14))⟩, ⟨⟨G8, F8.kp, B8, (O8.mono (by decide : 9 ≤ 14))⟩, ⟨⟨G9, F9.kp, B9, (O9.mono (by decide : 10 ≤ 14))⟩, ⟨⟨G10, F10.kp, B10, (O10.mono (by decide : 11 ≤ 14))⟩, ⟨⟨G11, F11.kp, B11, (O11.mono (by decide : 12 ≤ 14))⟩, ⟨⟨G12, F12.kp, B12, (O12.mono (by decide : 13 ≤ 14))⟩, ⟨⟨G13, F13.kp, B13, (O13.mono (by decide : 14 ≤ 14))⟩, True.intro⟩⟩⟩⟩⟩⟩⟩⟩⟩⟩⟩⟩⟩⟩ hc hb rfl chk14
  have O15 : FnOk P w K mg base (L2.CX P w) 16 (fa 15) (fd 15) (fps 15) (spD (C15 K mg fa fd) ms15 sem15) := def_ok (C := C15 K mg fa fd) (k := 15) F15 sc15 rfl ⟨⟨G0, F0.kp, B0, (O0.mono (by decide : 1 ≤ 15))⟩, ⟨⟨G1, F1.kp, B1, (O1.mono (by decide : 2 ≤ 15))⟩, ⟨⟨G2, F2.kp, B2, (O2.mono (by decide : 3 ≤ 15))⟩, ⟨⟨G3, F3.kp, B3, (O3.mono (by decide : 4 ≤ 15))⟩, ⟨⟨G4, F4.kp, B4, (O4.mono (by decide : 5 ≤ 15))⟩, ⟨⟨G5, F5.kp, B5, (O5.mono (by decide : 6 ≤ 15))⟩, ⟨⟨G6, F6.kp, B6, (O6.mono (by decide : 7 ≤ 15))⟩, ⟨⟨G7, F7.kp, B7, (O7.mono (by decide : 8 ≤ 15))⟩, ⟨⟨G8, F8.kp, B8, (O8.mono (by decide : 9 ≤ 15))⟩, ⟨⟨G9, F9.kp, B9, (O9.mono (by decide : 10 ≤ 15))⟩, ⟨⟨G10, F10.kp, B10, (O10.mono (by decide : 11 ≤ 15))⟩, ⟨⟨G11, F11.kp, B11, (O11.mono (by decide : 12 ≤ 15))⟩, ⟨⟨G12, F12.kp, B12, (O12.mono (by decide : 13 ≤ 15))⟩, ⟨⟨G13, F13.kp, B13, (O13.mono (by decide : 14 ≤ 15))⟩, ⟨⟨G14, F14.kp, B14, (O14.mono (by decide : 15 ≤ 15))⟩, True.intro⟩⟩⟩⟩⟩⟩⟩⟩⟩⟩⟩⟩⟩⟩⟩ hc hb rfl chk15
  have O16 : FnOk P w K mg base (L2.CX P w) 17 (fa 16) (fd 16) (fps 16) (spD (C16 K mg fa fd) ms16 sem16) := def_ok (C := C16 K mg fa fd) (k := 16) F16 sc16 rfl ⟨⟨G0, F0.kp, B0, (O0.mono (by decide : 1 ≤ 16))⟩, ⟨⟨G1, F1.kp, B1, (O1.mono (by decide : 2 ≤ 16))⟩, ⟨⟨G2, F2.kp, B2, (O2.mono (by decide : 3 ≤ 16))⟩, ⟨⟨G3, F3.kp, B3, (O3.mono (by decide : 4 ≤ 16))⟩, ⟨⟨G4, F4.kp, B4, (O4.mono (by decide : 5 ≤ 16))⟩, ⟨⟨G5, F5.kp, B5, (O5.mono (by decide : 6 ≤ 16))⟩, ⟨⟨G6, F6.kp, B6, (O6.mono (by decide : 7 ≤ 16))⟩, ⟨⟨G7, F7.kp, B7, (O7.mono (by decide : 8 ≤ 16))⟩, ⟨⟨G8, F8.kp, B8, (O8.mono (by decide : 9 ≤ 16))⟩, ⟨⟨G9, F9.kp, B9, (O9.mono (by decide : 10 ≤ 16))⟩, ⟨⟨G10, F10.kp, B10, (O10.mono (by decide : 11 ≤ 16))⟩, ⟨⟨G11, F11.kp, B11, (O11.mono (by decide : 12 ≤ 16))⟩, ⟨⟨G12, F12.kp, B12, (O12.mono (by decide : 13 ≤ 16))⟩, ⟨⟨G13, F13.kp, B13, (O13.mono (by decide : 14 ≤ 16))⟩, ⟨⟨G14, F14.kp, B14, (O14.mono (by decide : 15 ≤ 16))⟩, ⟨⟨G15, F15.kp, B15, (O15.mono (by decide : 16 ≤ 16))⟩, True.intro⟩⟩⟩⟩⟩⟩⟩⟩⟩⟩⟩⟩⟩⟩⟩⟩ hc hb rfl chk16
  have O17 : FnOk P w K mg base (L2.CX P w) 18 (fa 17) (fd 17) (fps 17) (spD (C17 K mg fa fd) ms17 sem17) := def_ok (C := C17 K mg fa fd) (k := 17) F17 sc17 rfl ⟨⟨G0, F0.kp, B0, (O0.mono (by decide : 1 ≤ 17))⟩, ⟨⟨G1, F1.kp, B1, (O1.mono (by decide : 2 ≤ 17))⟩, ⟨⟨G2, F2.kp, B2, (O2.mono (by decide : 3 ≤ 17))⟩, ⟨⟨G3, F3.kp, B3, (O3.mono (by decide : 4 ≤ 17))⟩, ⟨⟨G4, F4.kp, B4, (O4.mono (by decide : 5 ≤ 17))⟩, ⟨⟨G5, F5.kp, B5, (O5.mono (by decide : 6 ≤ 17))⟩, ⟨⟨G6, F6.kp, B6, (O6.mono (by decide : 7 ≤ 17))⟩, ⟨⟨G7, F7.kp, B7, (O7.mono (by decide : 8 ≤ 17))⟩, ⟨⟨G8, F8.kp, B8, (O8.mono (by decide : 9 ≤ 17))⟩, ⟨⟨G9, F9.kp, B9, (O9.mono (by decide : 10 ≤ 17))⟩, ⟨⟨G10, F10.kp, B10, (O10.mono (by decide : 11 ≤ 17))⟩, ⟨⟨G11, F11.kp, B11, (O11.mono (by decide : 12 ≤ 17))⟩, ⟨⟨G12, F12.kp, B12, (O12.mono (by decide : 13 ≤ 17))⟩, ⟨⟨G13, F13.kp, B13, (O13.mono (by decide : 14 ≤ 17))⟩, ⟨⟨G14, F14.kp, B14, (O14.mono (by decide : 15 ≤ 17))⟩, ⟨⟨G15, F15.kp, B15, (O15.mono (by decide : 16 ≤ 17))⟩, ⟨⟨G16, F16.kp, B16, (O16.mono (by decide : 17 ≤ 17))⟩, True.intro⟩⟩⟩⟩⟩⟩⟩⟩⟩⟩⟩⟩⟩⟩⟩⟩⟩ hc hb rfl chk17
  exact O17
end
/-! mirror of wrap -/
theorem cd0_0 : SG0.cd 0 = .int (-9223372036854775808) := rfl
theorem cd0_3 : SG0.cd 3 = .int (18446744073709551616) := rfl
def m0 (v_n : Int) : Option Int :=
  (modM (v_n - (-9223372036854775808)) (18446744073709551616)).bind fun t1 =>
  some (t1 + (-9223372036854775808))
theorem e0 (v_n : Int) : sem0 [(.int v_n)] = (m0 v_n).elim .stk fun r => .ok (.int r) [] := by
  refine (def_eq _ _ _ _ _).trans ?_
  show fin [] (evSs SG0 [] b0 [some (.int v_n)]) = _
  simp only [b0, m0, cd0_0, cd0_3,
  DM.kbin1_a, DM.kbin2_a, DM.kneg_a, DM.kcmp1_a, DM.kcmp2_a, DM.kchn1_a, DM.kchn2_a, DM.kchn3_a, DM.ksub1_a, DM.ksub2_a, DM.kslc1_a, DM.kslc2_a, DM.kslc3_a, DM.kbi_a, DM.kme1_a, DM.kme2_a, DM.ktup_a, DM.klst_a, DM.ktst_a, DM.kas1_a, DM.kas2_a, DM.kts1_a, DM.kts2_a, DM.kav_a, DM.kvl_a, DM.kbl_a, DM.ktr_a, DM.kasg_a, DM.kasT_a, DM.kasI1_a, DM.kasI2_a, DM.kaug_a, DM.kex_a, DM.kif_a, DM.kfor_a, DM.kforT_a, DM.kret_a, DM.kr2_a, DM.klc_a, DM.klc2_a, DM.kmu_a, DM.kcl1_a, DM.kcl2_a, DM.kpre_a, DM.ev_int, DM.ev_bl, DM.ev_str, DM.ev_non, DM.ev_ty, DM.ev_gc, DM.ev_mv, DM.ev_tk, DM.mvO_some, DM.tkO_some, DM.ev_bin, DM.ev_neg, DM.ev_cmp, DM.chnO_some, DM.chn2_ok, DM.chn2_elim, DM.ev_chn, DM.ev_sub, DM.ev_slc, DM.ev_bi, DM.ev_me, DM.ev_tup, DM.ev_lst, DM.ev_call, DM.ev_ite, DM.ev_tst, DM.evA_pk, DM.evA_vl, DM.evPl_sl, DM.oaO_int, DM.evOA_none, DM.evOA_some, DM.evAs_nil, DM.evAs_cons, DM.evTs_nil, DM.evTs_cons, DM.evC_nil, DM.evC_bor, DM.evC_mt, DM.evC_vl, DM.evT_vl, DM.evT_tr, DM.evT_and, DM.evT_or, DM.evT_not, DM.blD_bl, DM.bind_ok', DM.bind_stk', DM.sb_ok', DM.sb_stk', DM.lift_some', DM.lift_none', DM.lift_def, DM.elim_same, ite_self, DM.sub_non, DM.len_non, DM.bind_elim, DM.sb_elim, DM.bind_ite, DM.sb_ite, DM.elim_map, DM.elim_bind, DM.elim_ite, DM.elim_some, DM.elim_none, DM.map_map', DM.map_some', DM.map_ite, DM.andO_ok, DM.andO_elim, DM.and2_ok, DM.and2_elim, DM.and2_ite, DM.and2_t, DM.and2_f, DM.and2_stk, DM.or2_stk, DM.ite2_t, DM.ite2_f, DM.orO_ok, DM.orO_elim, DM.or2_ok, DM.or2_elim, DM.or2_ite, DM.or2_t, DM.or2_f, DM.notO_ok, DM.notO_elim, DM.notO_ite, DM.andO_ite, DM.orO_ite, DM.iteO_ok, DM.iteO_elim, DM.iteO_ite, DM.ite2_int, DM.ite2_bl, DM.ite2_tx, DM.ite2_def, DM.grd_t, DM.grd_tl, DM.grd_tr, DM.b_add, DM.b_sub, DM.b_mul, DM.b_fdiv, DM.b_mod, DM.b_pow, DM.n_neg, DM.b_addL, DM.b_addT, DM.b_addS, DM.b_mulL, DM.s_lst, DM.s_tup, DM.s_str, DM.s_t2i, DM.s_t3i, DM.s_0, DM.s_1, DM.s_2, DM.s_3, DM.s_4, DM.s_5, DM.s_6, DM.s_7, DM.h_0, DM.h_1, DM.h_2, DM.h_3, DM.h_4, DM.h_5, DM.h_6, DM.h_7, DM.sl_lst, DM.sl_tup, DM.sl_str, DM.l_lst, DM.l_tup, DM.l_str, List.length_map, DM.i_int, DM.i_bl, DM.o_bl, DM.o_int, DM.i_abs, DM.i_max, DM.i_min, DM.i_maxL, DM.i_minL, DM.i_sum, DM.i_sorted, DM.i_list, DM.i_listT, DM.i_tuple, DM.i_isi, DM.z_int, DM.z_bl, DM.z_str, DM.z_lst, DM.z_tup, DM.z_non, DM.c_lt, DM.c_le, DM.c_gt, DM.c_ge, DM.c_eq, DM.c_ne, DM.c_is, DM.c_isnot, DM.t_non, DM.t_bl, DM.t_int, DM.t_lst, DM.t_tup, DM.isEmpty_map', DM.in_ints, DM.eqD_int, DM.eqD_bl, DM.eqD_tx, DM.isNon_opt, DM.isNon_enc, DM.n_int, DM.n_bl, DM.n_str, DM.n_lst, DM.n_tup, DM.n_non, DM.notO_stk, DM.orO_stk, DM.andO_stk, DM.iteO_stk, DM.eta_t2, DM.eta_t3, DM.eta_t4, DM.eta_t5, DM.eta_h2, DM.eta_h3, DM.eta_h4, DM.eta_h5, DM.eta_tu, DM.getS_0, DM.getS_s, DM.set_0, DM.set_s, DM.at_0, DM.at_s, DM.wipe_nil, DM.wipe_cons, DM.keep_none, DM.keep_nil, DM.keep_cons, DM.map_none_nil, DM.map_none_cons, DM.pnO_f, DM.an_nx, DM.an_rt, DM.an_bk, DM.an_ct, DM.an_stk, DM.an_el, DM.an_ite, DM.an_rs, DM.nc_nx, DM.nc_ct, DM.nc_bk, DM.nc_rt, DM.nc_stk, DM.nc_el, DM.nc_ite, DM.nc_rs, DM.el_rs, DM.rs_go, DM.rs_rt, DM.ct_nx, DM.ct_bk, DM.ct_rt, DM.ss_nil, DM.ss_cons, DM.st_asg, DM.st_asT, DM.st_asI, DM.st_aug, DM.st_doc, DM.st_ex, DM.st_ite, DM.st_for1, DM.st_forT, DM.st_ret, DM.st_retN, DM.st_brk, DM.st_cnt, DM.st_pas, DM.st_fgt, DM.st_fzs, DM.fzsO_some, DM.someO_some, DM.augO_add, DM.augO_sub, DM.asI_eq, DM.it_sl, DM.it_vl, DM.it_r1, DM.it_r2, DM.r1O_int, DM.r2O_int, DM.walk_lst, DM.walk_tup, DM.walk_str, DM.walk_t2, DM.walk_t3, DM.wlist, DM.seqO_some, DM.wkO_def, DM.ev_lc, DM.lcO_n, DM.ev_lc2, DM.lc2O_n, DM.ev_muO, DM.muO_l, DM.mu2_l, DM.mu_app, DM.mu_pop, DM.mu_rev, DM.mu_clr, DM.callD_eq, DM.res_ok, DM.res_stk, DM.res_el, DM.tkL_nil, DM.tkL_cons, DM.tk1_some, DM.fzL_nil, DM.fzL_cons, DM.fz1_some, DM.mi_nil, DM.mi_m, DM.mi_v, DM.mi_b, DM.bi_nil, DM.bi_m, DM.bi_v, DM.bi_b, DM.ar_nil, DM.ar_v, DM.ar_m, DM.ar_b, DM.pt_nil, DM.pt_cons, DM.pt1_n, DM.atom_int, DM.atom_bl, DM.atom_str, DM.atom_non, DM.atom_lst, DM.atom_tup, DM.atom_enc, DM.selfc_lst, DM.fin_rt, DM.fin_nx, DM.fin_stk, DM.fin_el, DM.fin_ite, DM.fin_rs, DM.ga_nil, DM.ga_cons, DM.ga1_some, DM.kid_l, DM.kid_t, DM.kidO_some, DM.putL_nil, DM.putL_cons, DM.szO_0, DM.szO_1, DM.szO_2, DM.szO_3, DM.szO_4, DM.szO_5, DM.szO_6, DM.szO_7, DM.szO_8, DM.szO_9, DM.szO_10, DM.szO_11, DM.szO_12, DM.szO_13, DM.szO_14, DM.szO_15, DM.szO_16, DM.szO_17, DM.szO_18, DM.szO_19, DM.szO_20, DM.szO_21, DM.szO_22, DM.szO_23, DM.szO_24, DM.szO_25, DS.frz, DS.frzL, DM.frzL_map', DM.frz_enc, DM.rootFz_enc, DS.rootFz, DM.e_int, DM.e_bl, DM.e_tx, DM.e_un, DM.e_non, DM.e_som, DM.e_lst, DM.e_tu, DM.e_t2, DM.e_t3, DM.e_t4, DM.e_t5, DM.e_h2, DM.e_h3, DM.e_h4, DM.e_h5, DS.kAr, DS.kTm, DS.kArs, DS.kOAr, DS.kTms, DS.kCas, DS.kCa, DS.kTs, DS.kOTs, DS.kIt, DM.fz_int, DM.fz_bl, DM.fz_str, DM.fz_non, DM.fz_lst, DM.fz_tup, DM.fz_enc, List.contains_nil, List.contains_cons, List.any_nil, List.any_cons, List.all_nil, List.all_cons, List.length_cons, List.length_nil, Option.isSome_some, Bool.not_true, Bool.not_false, Bool.and_true, Bool.true_and, Bool.and_false, Bool.false_and, Bool.or_true, Bool.true_or, Bool.or_false, Bool.false_or, Bool.false_eq_true, eq_self, if_true, if_false, Option.isNone_none, Option.isNone_some, decide_true, decide_false, Nat.reduceAdd, Nat.reduceEqDiff, Nat.reduceBEq, DM.ty_int_int, DM.ty_int_bool, DM.ty_int_str, DM.ty_int_list, DM.ty_int_tuple, DM.ty_int_dict, DM.ty_bool_int, DM.ty_bool_bool, DM.ty_bool_str, DM.ty_bool_list, DM.ty_bool_tuple, DM.ty_bool_dict, DM.ty_str_int, DM.ty_str_bool, DM.ty_str_str, DM.ty_str_list, DM.ty_str_tuple, DM.ty_str_dict, DM.ty_list_int, DM.ty_list_bool, DM.ty_list_str, DM.ty_list_list, DM.ty_list_tuple, DM.ty_list_dict, DM.ty_tuple_int, DM.ty_tuple_bool, DM.ty_tuple_str, DM.ty_tuple_list, DM.ty_tuple_tuple, DM.ty_tuple_dict, DM.ty_dict_int, DM.ty_dict_bool, DM.ty_dict_str, DM.ty_dict_list, DM.ty_dict_tuple, DM.ty_dict_dict, ↓DM.bind_ok', ↓DM.bind_stk', ↓DM.bind_elim, ↓DM.bind_ite, ↓DM.sb_ok', ↓DM.sb_stk', ↓DM.sb_elim, ↓DM.sb_ite, ↓DM.an_nx, ↓DM.an_rt, ↓DM.an_bk, ↓DM.an_ct, ↓DM.an_stk, ↓DM.an_el, ↓DM.an_ite, ↓DM.an_rs, ↓DM.andO_ok, ↓DM.andO_elim, ↓DM.andO_stk, ↓DM.orO_ok, ↓DM.orO_elim, ↓DM.orO_stk, ↓DM.iteO_ok, ↓DM.iteO_elim, ↓DM.iteO_stk, ↓DM.notO_ok, ↓DM.chnO_some, ↓DM.tkL_nil, ↓DM.tkL_cons, ↓DM.tk1_some, ↓DM.fzL_nil, ↓DM.fzL_cons, ↓DM.fz1_some, ↓DM.elim_some, ↓DM.elim_none, ↓DM.and2_f, ↓DM.or2_t, ↓DM.grd_t, ↓if_true, ↓if_false]
/-! mirror of is_word -/
theorem cd1_0 : SG1.cd 0 = .int (-9223372036854775808) := rfl
theorem cd1_1 : SG1.cd 1 = .int (9223372036854775807) := rfl
def m1 (v_n : Int) : Option Bool :=
  some ((decide ((-9223372036854775808) ≤ v_n)) && (decide (v_n ≤ (9223372036854775807))))
theorem e1 (v_n : Int) : sem1 [(.int v_n)] = (m1 v_n).elim .stk fun r => .ok (.bl r) [] := by
  refine (def_eq _ _ _ _ _).trans ?_
  show fin [] (evSs SG1 [] b1 [some (.int v_n)]) = _
  simp only [b1, m1, cd1_0, cd1_1,
  DM.kbin1_a, DM.kbin2_a, DM.kneg_a, DM.kcmp1_a, DM.kcmp2_a, DM.kchn1_a, DM.kchn2_a, DM.kchn3_a, DM.ksub1_a, DM.ksub2_a, DM.kslc1_a, DM.kslc2_a, DM.kslc3_a, DM.kbi_a, DM.kme1_a, DM.kme2_a, DM.ktup_a, DM.klst_a, DM.ktst_a, DM.kas1_a, DM.kas2_a, DM.kts1_a, DM.kts2_a, DM.kav_a, DM.kvl_a, DM.kbl_a, DM.ktr_a, DM.kasg_a, DM.kasT_a, DM.kasI1_a, DM.kasI2_a, DM.kaug_a, DM.kex_a, DM.kif_a, DM.kfor_a, DM.kforT_a, DM.kret_a, DM.kr2_a, DM.klc_a, DM.klc2_a, DM.kmu_a, DM.kcl1_a, DM.kcl2_a, DM.kpre_a, DM.ev_int, DM.ev_bl, DM.ev_str, DM.ev_non, DM.ev_ty, DM.ev_gc, DM.ev_mv, DM.ev_tk, DM.mvO_some, DM.tkO_some, DM.ev_bin, DM.ev_neg, DM.ev_cmp, DM.chnO_some, DM.chn2_ok, DM.chn2_elim, DM.ev_chn, DM.ev_sub, DM.ev_slc, DM.ev_bi, DM.ev_me, DM.ev_tup, DM.ev_lst, DM.ev_call, DM.ev_ite, DM.ev_tst, DM.evA_pk, DM.evA_vl, DM.evPl_sl, DM.oaO_int, DM.evOA_none, DM.evOA_some, DM.evAs_nil, DM.evAs_cons, DM.evTs_nil, DM.evTs_cons, DM.evC_nil, DM.evC_bor, DM.evC_mt, DM.evC_vl, DM.evT_vl, DM.evT_tr, DM.evT_and, DM.evT_or, DM.evT_not, DM.blD_bl, DM.bind_ok', DM.bind_stk', DM.sb_ok', DM.sb_stk', DM.lift_some', DM.lift_none', DM.lift_def, DM.elim_same, ite_self, DM.sub_non, DM.len_non, DM.bind_elim, DM.sb_elim, DM.bind_ite, DM.sb_ite, DM.elim_map, DM.elim_bind, DM.elim_ite, DM.elim_some, DM.elim_none, DM.map_map', DM.map_some', DM.map_ite, DM.andO_ok, DM.andO_elim, DM.and2_ok, DM.and2_elim, DM.and2_ite, DM.and2_t, DM.and2_f, DM.and2_stk, DM.or2_stk, DM.ite2_t, DM.ite2_f, DM.orO_ok, DM.orO_elim, DM.or2_ok, DM.or2_elim, DM.or2_ite, DM.or2_t, DM.or2_f, DM.notO_ok, DM.notO_elim, DM.notO_ite, DM.andO_ite, DM.orO_ite, DM.iteO_ok, DM.iteO_elim, DM.iteO_ite, DM.ite2_int, DM.ite2_bl, DM.ite2_tx, DM.ite2_def, DM.grd_t, DM.grd_tl, DM.grd_tr, DM.b_add, DM.b_sub, DM.b_mul, DM.b_fdiv, DM.b_mod, DM.b_pow, DM.n_neg, DM.b_addL, DM.b_addT, DM.b_addS, DM.b_mulL, DM.s_lst, DM.s_tup, DM.s_str, DM.s_t2i, DM.s_t3i, DM.s_0, DM.s_1, DM.s_2, DM.s_3, DM.s_4, DM.s_5, DM.s_6, DM.s_7, DM.h_0, DM.h_1, DM.h_2, DM.h_3, DM.h_4, DM.h_5, DM.h_6, DM.h_7, DM.sl_lst, DM.sl_tup, DM.sl_str, DM.l_lst, DM.l_tup, DM.l_str, List.length_map, DM.i_int, DM.i_bl, DM.o_bl, DM.o_int, DM.i_abs, DM.i_max, DM.i_min, DM.i_maxL, DM.i_minL, DM.i_sum, DM.i_sorted, DM.i_list, DM.i_listT, DM.i_tuple, DM.i_isi, DM.z_int, DM.z_bl, DM.z_str, DM.z_lst, DM.z_tup, DM.z_non, DM.c_lt, DM.c_le, DM.c_gt, DM.c_ge, DM.c_eq, DM.c_ne, DM.c_is, DM.c_isnot, DM.t_non, DM.t_bl, DM.t_int, DM.t_lst, DM.t_tup, DM.isEmpty_map', DM.in_ints, DM.eqD_int, DM.eqD_bl, DM.eqD_tx, DM.isNon_opt, DM.isNon_enc, DM.n_int, DM.n_bl, DM.n_str, DM.n_lst, DM.n_tup, DM.n_non, DM.notO_stk, DM.orO_stk, DM.andO_stk, DM.iteO_stk, DM.eta_t2, DM.eta_t3, DM.eta_t4, DM.eta_t5, DM.eta_h2, DM.eta_h3, DM.eta_h4, DM.eta_h5, DM.eta_tu, DM.getS_0, DM.getS_s, DM.set_0, DM.set_s, DM.at_0, DM.at_s, DM.wipe_nil, DM.wipe_cons, DM.keep_none, DM.keep_nil, DM.keep_cons, DM.map_none_nil, DM.map_none_cons, DM.pnO_f, DM.an_nx, DM.an_rt, DM.an_bk, DM.an_ct, DM.an_stk, DM.an_el, DM.an_ite, DM.an_rs, DM.nc_nx, DM.nc_ct, DM.nc_bk, DM.nc_rt, DM.nc_stk, DM.nc_el, DM.nc_ite, DM.nc_rs, DM.el_rs, DM.rs_go, DM.rs_rt, DM.ct_nx, DM.ct_bk, DM.ct_rt, DM.ss_nil, DM.ss_cons, DM.st_asg, DM.st_asT, DM.st_asI, DM.st_aug, DM.st_doc, DM.st_ex, DM.st_ite, DM.st_for1, DM.st_forT, DM.st_ret, DM.st_retN, DM.st_brk, DM.st_cnt, DM.st_pas, DM.st_fgt, DM.st_fzs, DM.fzsO_some, DM.someO_some, DM.augO_add, DM.augO_sub, DM.asI_eq, DM.it_sl, DM.it_vl, DM.it_r1, DM.it_r2, DM.r1O_int, DM.r2O_int, DM.walk_lst, DM.walk_tup, DM.walk_str, DM.walk_t2, DM.walk_t3, DM.wlist, DM.seqO_some, DM.wkO_def, DM.ev_lc, DM.lcO_n, DM.ev_lc2, DM.lc2O_n, DM.ev_muO, DM.muO_l, DM.mu2_l, DM.mu_app, DM.mu_pop, DM.mu_rev, DM.mu_clr, DM.callD_eq, DM.res_ok, DM.res_stk, DM.res_el, DM.tkL_nil, DM.tkL_cons, DM.tk1_some, DM.fzL_nil, DM.fzL_cons, DM.fz1_some, DM.mi_nil, DM.mi_m, DM.mi_v, DM.mi_b, DM.bi_nil, DM.bi_m, DM.bi_v, DM.bi_b, DM.ar_nil, DM.ar_v, DM.ar_m, DM.ar_b, DM.pt_nil, DM.pt_cons, DM.pt1_n, DM.atom_int, DM.atom_bl, DM.atom_str, DM.atom_non, DM.atom_lst, DM.atom_tup, DM.atom_enc, DM.selfc_lst, DM.fin_rt, DM.fin_nx, DM.fin_stk, DM.fin_el, DM.fin_ite, DM.fin_rs, DM.ga_nil, DM.ga_cons, DM.ga1_some, DM.kid_l, DM.kid_t, DM.kidO_some, DM.putL_nil, DM.putL_cons, DM.szO_0, DM.szO_1, DM.szO_2, DM.szO_3, DM.szO_4, DM.szO_5, DM.szO_6, DM.szO_7, DM.szO_8, DM.szO_9, DM.szO_10, DM.szO_11, DM.szO_12, DM.szO_13, DM.szO_14, DM.szO_15, DM.szO_16, DM.szO_17, DM.szO_18, DM.szO_19, DM.szO_20, DM.szO_21, DM.szO_22, DM.szO_23, DM.szO_24, DM.szO_25, DS.frz, DS.frzL, DM.frzL_map', DM.frz_enc, DM.rootFz_enc, DS.rootFz, DM.e_int, DM.e_bl, DM.e_tx, DM.e_un, DM.e_non, DM.e_som, DM.e_lst, DM.e_tu, DM.e_t2, DM.e_t3, DM.e_t4, DM.e_t5, DM.e_h2, DM.e_h3, DM.e_h4, DM.e_h5, DS.kAr, DS.kTm, DS.kArs, DS.kOAr, DS.kTms, DS.kCas, DS.kCa, DS.kTs, DS.kOTs, DS.kIt, DM.fz_int, DM.fz_bl, DM.fz_str, DM.fz_non, DM.fz_lst, DM.fz_tup, DM.fz_enc, List.contains_nil, List.contains_cons, List.any_nil, List.any_cons, List.all_nil, List.all_cons, List.length_cons, List.length_nil, Option.isSome_some, Bool.not_true, Bool.not_false, Bool.and_true, Bool.true_and, Bool.and_false, Bool.false_and, Bool.or_true, Bool.true_or, Bool.or_false, Bool.false_or, Bool.false_eq_true, eq_self, if_true, if_false, Option.isNone_none, Option.isNone_some, decide_true, decide_false, Nat.reduceAdd, Nat.reduceEqDiff, Nat.reduceBEq, DM.ty_int_int, DM.ty_int_bool, DM.ty_int_str, DM.ty_int_list, DM.ty_int_tuple, DM.ty_int_dict, DM.ty_bool_int, DM.ty_bool_bool, DM.ty_bool_str, DM.ty_bool_list, DM.ty_bool_tuple, DM.ty_bool_dict, DM.ty_str_int, DM.ty_str_bool, DM.ty_str_str, DM.ty_str_list, DM.ty_str_tuple, DM.ty_str_dict, DM.ty_list_int, DM.ty_list_bool, DM.ty_list_str, DM.ty_list_list, DM.ty_list_tuple, DM.ty_list_dict, DM.ty_tuple_int, DM.ty_tuple_bool, DM.ty_tuple_str, DM.ty_tuple_list, DM.ty_tuple_tuple, DM.ty_tuple_dict, DM.ty_dict_int, DM.ty_dict_bool, DM.ty_dict_str, DM.ty_dict_list, DM.ty_dict_tuple, DM.ty_dict_dict, ↓DM.bind_ok', ↓DM.bind_stk', ↓DM.bind_elim, ↓DM.bind_ite, ↓DM.sb_ok', ↓DM.sb_stk', ↓DM.sb_elim, ↓DM.sb_ite, ↓DM.an_nx, ↓DM.an_rt, ↓DM.an_bk, ↓DM.an_ct, ↓DM.an_stk, ↓DM.an_el, ↓DM.an_ite, ↓DM.an_rs, ↓DM.andO_ok, ↓DM.andO_elim, ↓DM.andO_stk, ↓DM.orO_ok, ↓DM.orO_elim, ↓DM.orO_stk, ↓DM.iteO_ok, ↓DM.iteO_elim, ↓DM.iteO_stk, ↓DM.notO_ok, ↓DM.chnO_some, ↓DM.tkL_nil, ↓DM.tkL_cons, ↓DM.tk1_some, ↓DM.fzL_nil, ↓DM.fzL_cons, ↓DM.fz1_some, ↓DM.elim_some, ↓DM.elim_none, ↓DM.and2_f, ↓DM.or2_t, ↓DM.grd_t, ↓if_true, ↓if_false]
/-! mirror of hull -/
def m2 (v_a : (T2 Int Int)) (v_b : (T2 Int Int)) : Option (T2 Int Int) :=
  some (T2.mk (minI v_a.a0 v_b.a0) (maxI v_a.a1 v_b.a1))
theorem e2 (v_a_0 : Int) (v_a_1 : Int) (v_b_0 : Int) (v_b_1 : Int) : sem2 [(.tup false [(.int v_a_0), (.int v_a_1)]), (.tup false [(.int v_b_0), (.int v_b_1)])] = (m2 (T2.mk v_a_0 v_a_1) (T2.mk v_b_0 v_b_1)).elim .stk fun r => .ok (.tup false [(.int r.a0), (.int r.a1)]) [] := by
  refine (def_eq _ _ _ _ _).trans ?_
  show fin [] (evSs SG2 [] b2 [some (.tup false [(.int v_a_0), (.int v_a_1)]), some (.tup false [(.int v_b_0), (.int v_b_1)])]) = _
  simp only [b2, m2, DM.kbin1_a, DM.kbin2_a, DM.kneg_a, DM.kcmp1_a, DM.kcmp2_a, DM.kchn1_a, DM.kchn2_a, DM.kchn3_a, DM.ksub1_a, DM.ksub2_a, DM.kslc1_a, DM.kslc2_a, DM.kslc3_a, DM.kbi_a, DM.kme1_a, DM.kme2_a, DM.ktup_a, DM.klst_a, DM.ktst_a, DM.kas1_a, DM.kas2_a, DM.kts1_a, DM.kts2_a, DM.kav_a, DM.kvl_a, DM.kbl_a, DM.ktr_a, DM.kasg_a, DM.kasT_a, DM.kasI1_a, DM.kasI2_a, DM.kaug_a, DM.kex_a, DM.kif_a, DM.kfor_a, DM.kforT_a, DM.kret_a, DM.kr2_a, DM.klc_a, DM.klc2_a, DM.kmu_a, DM.kcl1_a, DM.kcl2_a, DM.kpre_a, DM.ev_int, DM.ev_bl, DM.ev_str, DM.ev_non, DM.ev_ty, DM.ev_gc, DM.ev_mv, DM.ev_tk, DM.mvO_some, DM.tkO_some, DM.ev_bin, DM.ev_neg, DM.ev_cmp, DM.chnO_some, DM.chn2_ok, DM.chn2_elim, DM.ev_chn, DM.ev_sub, DM.ev_slc, DM.ev_bi, DM.ev_me, DM.ev_tup, DM.ev_lst, DM.ev_call, DM.ev_ite, DM.ev_tst, DM.evA_pk, DM.evA_vl, DM.evPl_sl, DM.oaO_int, DM.evOA_none, DM.evOA_some, DM.evAs_nil, DM.evAs_cons, DM.evTs_nil, DM.evTs_cons, DM.evC_nil, DM.evC_bor, DM.evC_mt, DM.evC_vl, DM.evT_vl, DM.evT_tr, DM.evT_and, DM.evT_or, DM.evT_not, DM.blD_bl, DM.bind_ok', DM.bind_stk', DM.sb_ok', DM.sb_stk', DM.lift_some', DM.lift_none', DM.lift_def, DM.elim_same, ite_self, DM.sub_non, DM.len_non, DM.bind_elim, DM.sb_elim, DM.bind_ite, DM.sb_ite, DM.elim_map, DM.elim_bind, DM.elim_ite, DM.elim_some, DM.elim_none, DM.map_map', DM.map_some', DM.map_ite, DM.andO_ok, DM.andO_elim, DM.and2_ok, DM.and2_elim, DM.and2_ite, DM.and2_t, DM.and2_f, DM.and2_stk, DM.or2_stk, DM.ite2_t, DM.ite2_f, DM.orO_ok, DM.orO_elim, DM.or2_ok, DM.or2_elim, DM.or2_ite, DM.or2_t, DM.or2_f, DM.notO_ok, DM.notO_elim, DM.notO_ite, DM.andO_ite, DM.orO_ite, DM.iteO_ok, DM.iteO_elim, DM.iteO_ite, DM.ite2_int, DM.ite2_bl, DM.ite2_tx, DM.ite2_def, DM.grd_t, DM.grd_tl, DM.grd_tr, DM.b_add, DM.b_sub, DM.b_mul, DM.b_fdiv, DM.b_mod, DM.b_pow, DM.n_neg, DM.b_addL, DM.b_addT, DM.b_addS, DM.b_mulL, DM.s_lst, DM.s_tup, DM.s_str, DM.s_t2i, DM.s_t3i, DM.s_0, DM.s_1, DM.s_2, DM.s_3, DM.s_4, DM.s_5, DM.s_6, DM.s_7, DM.h_0, DM.h_1, DM.h_2, DM.h_3, DM.h_4, DM.h_5, DM.h_6, DM.h_7, DM.sl_lst, DM.sl_tup, DM.sl_str, DM.l_lst, DM.l_tup, DM.l_str, List.length_map, DM.i_int, DM.i_bl, DM.o_bl, DM.o_int, DM.i_abs, DM.i_max, DM.i_min, DM.i_maxL, DM.i_minL, DM.i_sum, DM.i_sorted, DM.i_list, DM.i_listT, DM.i_tuple, DM.i_isi, DM.z_int, DM.z_bl, DM.z_str, DM.z_lst, DM.z_tup, DM.z_non, DM.c_lt, DM.c_le, DM.c_gt, DM.c_ge, DM.c_eq, DM.c_ne, DM.c_is, DM.c_isnot, DM.t_non, DM.t_bl, DM.t_int, DM.t_lst, DM.t_tup, DM.isEmpty_map', DM.in_ints, DM.eqD_int, DM.eqD_bl, DM.eqD_tx, DM.isNon_opt, DM.isNon_enc, DM.n_int, DM.n_bl, DM.n_str, DM.n_lst, DM.n_tup, DM.n_non, DM.notO_stk, DM.orO_stk, DM.andO_stk, DM.iteO_stk, DM.eta_t2, DM.eta_t3, DM.eta_t4, DM.eta_t5, DM.eta_h2, DM.eta_h3, DM.eta_h4, DM.eta_h5, DM.eta_tu, DM.getS_0, DM.getS_s, DM.set_0, DM.set_s, DM.at_0, DM.at_s, DM.wipe_nil, DM.wipe_cons, DM.keep_none, DM.keep_nil, DM.keep_cons, DM.map_none_nil, DM.map_none_cons, DM.pnO_f, DM.an_nx, DM.an_rt, DM.an_bk, DM.an_ct, DM.an_stk, DM.an_el, DM.an_ite, DM.an_rs, DM.nc_nx, DM.nc_ct, DM.nc_bk, DM.nc_rt, DM.nc_stk, DM.nc_el, DM.nc_ite, DM.nc_rs, DM.el_rs, DM.rs_go, DM.rs_rt, DM.ct_nx, DM.ct_bk, DM.ct_rt, DM.ss_nil, DM.ss_cons, DM.st_asg, DM.st_asT, DM.st_asI, DM.st_aug, DM.st_doc, DM.st_ex, DM.st_ite, DM.st_for1, DM.st_forT, DM.st_ret, DM.st_retN, DM.st_brk, DM.st_cnt, DM.st_pas, DM.st_fgt, DM.st_fzs, DM.fzsO_some, DM.someO_some, DM.augO_add, DM.augO_sub, DM.asI_eq, DM.it_sl, DM.it_vl, DM.it_r1, DM.it_r2, DM.r1O_int, DM.r2O_int, DM.walk_lst, DM.walk_tup, DM.walk_str, DM.walk_t2, DM.walk_t3, DM.wlist, DM.seqO_some, DM.wkO_def, DM.ev_lc, DM.lcO_n, DM.ev_lc2, DM.lc2O_n, DM.ev_muO, DM.muO_l, DM.mu2_l, DM.mu_app, DM.mu_pop, DM.mu_rev, DM.mu_clr, DM.callD_eq, DM.res_ok, DM.res_stk, DM.res_el, DM.tkL_nil, DM.tkL_cons, DM.tk1_some, DM.fzL_nil, DM.fzL_cons, DM.fz1_some, DM.mi_nil, DM.mi_m, DM.mi_v, DM.mi_b, DM.bi_nil, DM.bi_m, DM.bi_v, DM.bi_b, DM.ar_nil, DM.ar_v, DM.ar_m, DM.ar_b, DM.pt_nil, DM.pt_cons, DM.pt1_n, DM.atom_int, DM.atom_bl, DM.atom_str, DM.atom_non, DM.atom_lst, DM.atom_tup, DM.atom_enc, DM.selfc_lst, DM.fin_rt, DM.fin_nx, DM.fin_stk, DM.fin_el, DM.fin_ite, DM.fin_rs, DM.ga_nil, DM.ga_cons, DM.ga1_some, DM.kid_l, DM.kid_t, DM.kidO_some, DM.putL_nil, DM.putL_cons, DM.szO_0, DM.szO_1, DM.szO_2, DM.szO_3, DM.szO_4, DM.szO_5, DM.szO_6, DM.szO_7, DM.szO_8, DM.szO_9, DM.szO_10, DM.szO_11, DM.szO_12, DM.szO_13, DM.szO_14, DM.szO_15, DM.szO_16, DM.szO_17, DM.szO_18, DM.szO_19, DM.szO_20, DM.szO_21, DM.szO_22, DM.szO_23, DM.szO_24, DM.szO_25, DS.frz, DS.frzL, DM.frzL_map', DM.frz_enc, DM.rootFz_enc, DS.rootFz, DM.e_int, DM.e_bl, DM.e_tx, DM.e_un, DM.e_non, DM.e_som, DM.e_lst, DM.e_tu, DM.e_t2, DM.e_t3, DM.e_t4, DM.e_t5, DM.e_h2, DM.e_h3, DM.e_h4, DM.e_h5, DS.kAr, DS.kTm, DS.kArs, DS.kOAr, DS.kTms, DS.kCas, DS.kCa, DS.kTs, DS.kOTs, DS.kIt, DM.fz_int, DM.fz_bl, DM.fz_str, DM.fz_non, DM.fz_lst, DM.fz_tup, DM.fz_enc, List.contains_nil, List.contains_cons, List.any_nil, List.any_cons, List.all_nil, List.all_cons, List.length_cons, List.length_nil, Option.isSome_some, Bool.not_true, Bool.not_false, Bool.and_true, Bool.true_and, Bool.and_false, Bool.false_and, Bool.or_true, Bool.true_or, Bool.or_false, Bool.false_or, Bool.false_eq_true, eq_self, if_true, if_false, Option.isNone_none, Option.isNone_some, decide_true, decide_false, Nat.reduceAdd, Nat.reduceEqDiff, Nat.reduceBEq, DM.ty_int_int, DM.ty_int_bool, DM.ty_int_str, DM.ty_int_list, DM.ty_int_tuple, DM.ty_int_dict, DM.ty_bool_int, DM.ty_bool_bool, DM.ty_bool_str, DM.ty_bool_list, DM.ty_bool_tuple, DM.ty_bool_dict, DM.ty_str_int, DM.ty_str_bool, DM.ty_str_str, DM.ty_str_list, DM.ty_str_tuple, DM.ty_str_dict, DM.ty_list_int, DM.ty_list_bool, DM.ty_list_str, DM.ty_list_list, DM.ty_list_tuple, DM.ty_list_dict, DM.ty_tuple_int, DM.ty_tuple_bool, DM.ty_tuple_str, DM.ty_tuple_list, DM.ty_tuple_tuple, DM.ty_tuple_dict, DM.ty_dict_int, DM.ty_dict_bool, DM.ty_dict_str, DM.ty_dict_list, DM.ty_dict_tuple, DM.ty_dict_dict, ↓DM.bind_ok', ↓DM.bind_stk', ↓DM.bind_elim, ↓DM.bind_ite, ↓DM.sb_ok', ↓DM.sb_stk', ↓DM.sb_elim, ↓DM.sb_ite, ↓DM.an_nx, ↓DM.an_rt, ↓DM.an_bk, ↓DM.an_ct, ↓DM.an_stk, ↓DM.an_el, ↓DM.an_ite, ↓DM.an_rs, ↓DM.andO_ok, ↓DM.andO_elim, ↓DM.andO_stk, ↓DM.orO_ok, ↓DM.orO_elim, ↓DM.orO_stk, ↓DM.iteO_ok, ↓DM.iteO_elim, ↓DM.iteO_stk, ↓DM.notO_ok, ↓DM.chnO_some, ↓DM.tkL_nil, ↓DM.tkL_cons, ↓DM.tk1_some, ↓DM.fzL_nil, ↓DM.fzL_cons, ↓DM.fz1_some, ↓DM.elim_some, ↓DM.elim_none, ↓DM.and2_f, ↓DM.or2_t, ↓DM.grd_t, ↓if_true, ↓if_false]
/-! mirror of meet -/
def m3 (v_a : (T2 Int Int)) (v_b : (T2 Int Int)) : Option (Option (T2 Int Int)) :=
  if (decide ((minI v_a.a1 v_b.a1) < (maxI v_a.a0 v_b.a0))) = true then
  some (none : (Option (T2 Int Int)))
  else
  some (some (T2.mk (maxI v_a.a0 v_b.a0) (minI v_a.a1 v_b.a1)))
theorem e3 (v_a_0 : Int) (v_a_1 : Int) (v_b_0 : Int) (v_b_1 : Int) : sem3 [(.tup false [(.int v_a_0), (.int v_a_1)]), (.tup false [(.int v_b_0), (.int v_b_1)])] = (m3 (T2.mk v_a_0 v_a_1) (T2.mk v_b_0 v_b_1)).elim .stk fun r => .ok (enc r) [] := by
  refine (def_eq _ _ _ _ _).trans ?_
  show fin [] (evSs SG3 [] b3 [some (.tup false [(.int v_a_0), (.int v_a_1)]), some (.tup false [(.int v_b_0), (.int v_b_1)]), none, none]) = _
  simp only [b3, m3, DM.kbin1_a, DM.kbin2_a, DM.kneg_a, DM.kcmp1_a, DM.kcmp2_a, DM.kchn1_a, DM.kchn2_a, DM.kchn3_a, DM.ksub1_a, DM.ksub2_a, DM.kslc1_a, DM.kslc2_a, DM.kslc3_a, DM.kbi_a, DM.kme1_a, DM.kme2_a, DM.ktup_a, DM.klst_a, DM.ktst_a, DM.kas1_a, DM.kas2_a, DM.kts1_a, DM.kts2_a, DM.kav_a, DM.kvl_a, DM.kbl_a, DM.ktr_a, DM.kasg_a, DM.kasT_a, DM.kasI1_a, DM.kasI2_a, DM.kaug_a, DM.kex_a, DM.kif_a, DM.kfor_a, DM.kforT_a, DM.kret_a, DM.kr2_a, DM.klc_a, DM.klc2_a, DM.kmu_a, DM.kcl1_a, DM.kcl2_a, DM.kpre_a, DM.ev_int, DM.ev_bl, DM.ev_str, DM.ev_non, DM.ev_ty, DM.ev_gc, DM.ev_mv, DM.ev_tk, DM.mvO_some, DM.tkO_some, DM.ev_bin, DM.ev_neg, DM.ev_cmp, DM.chnO_some, DM.chn2_ok, DM.chn2_elim, DM.ev_chn, DM.ev_sub, DM.ev_slc, DM.ev_bi, DM.ev_me, DM.ev_tup, DM.ev_lst, DM.ev_call, DM.ev_ite, DM.ev_tst, DM.evA_pk, DM.evA_vl, DM.evPl_sl, DM.oaO_int, DM.evOA_none, DM.evOA_some, DM.evAs_nil, DM.evAs_cons, DM.evTs_nil, DM.evTs_cons, DM.evC_nil, DM.evC_bor, DM.evC_mt, DM.evC_vl, DM.evT_vl, DM.evT_tr, DM.evT_and, DM.evT_or, DM.evT_not, DM.blD_bl, DM.bind_ok', DM.bind_stk', DM.sb_ok', DM.sb_stk', DM.lift_some', DM.lift_none', DM.lift_def, DM.elim_same, ite_self, DM.sub_non, DM.len_non, DM.bind_elim, DM.sb_elim, DM.bind_ite, DM.sb_ite, DM.elim_map, DM.elim_bind, DM.elim_ite, DM.elim_some, DM.elim_none, DM.map_map', DM.map_some', DM.map_ite, DM.andO_ok, DM.andO_elim, DM.and2_ok, DM.and2_elim, DM.and2_ite, DM.and2_t, DM.and2_f, DM.and2_stk, DM.or2_stk, DM.ite2_t, DM.ite2_f, DM.orO_ok, DM.orO_elim, DM.or2_ok, DM.or2_elim, DM.or2_ite, DM.or2_t, DM.or2_f, DM.notO_ok, DM.notO_elim, DM.notO_ite, DM.andO_ite, DM.orO_ite, DM.iteO_ok, DM.iteO_elim, DM.iteO_ite, DM.ite2_int, DM.ite2_bl, DM.ite2_tx, DM.ite2_def, DM.grd_t, DM.grd_tl, DM.grd_tr, DM.b_add, DM.b_sub, DM.b_mul, DM.b_fdiv, DM.b_mod, DM.b_pow, DM.n_neg, DM.b_addL, DM.b_addT, DM.b_addS, DM.b_mulL, DM.s_lst, DM.s_tup, DM.s_str, DM.s_t2i, DM.s_t3i, DM.s_0, DM.s_1, DM.s_2, DM.s_3, DM.s_4, DM.s_5, DM.s_6, DM.s_7, DM.h_0, DM.h_1, DM.h_2, DM.h_3, DM.h_4, DM.h_5, DM.h_6, DM.h_7, DM.sl_lst, DM.sl_tup, DM.sl_str, DM.l_lst, DM.l_tup, DM.l_str, List.length_map, DM.i_int, DM.i_bl, DM.o_bl, DM.o_int, DM.i_abs, DM.i_max, DM.i_min, DM.i_maxL, DM.i_minL, DM.i_sum, DM.i_sorted, DM.i_list, DM.i_listT, DM.i_tuple, DM.i_isi, DM.z_int, DM.z_bl, DM.z_str, DM.z_lst, DM.z_tup, DM.z_non, DM.c_lt, DM.c_le, DM.c_gt, DM.c_ge, DM.c_eq, DM.c_ne, DM.c_is, DM.c_isnot, DM.t_non, DM.t_bl, DM.t_int, DM.t_lst, DM.t_tup, DM.isEmpty_map', DM.in_ints, DM.eqD_int, DM.eqD_bl, DM.eqD_tx, DM.isNon_opt, DM.isNon_enc, DM.n_int, DM.n_bl, DM.n_str, DM.n_lst, DM.n_tup, DM.n_non, DM.notO_stk, DM.orO_stk, DM.andO_stk, DM.iteO_stk, DM.eta_t2, DM.eta_t3, DM.eta_t4, DM.eta_t5, DM.eta_h2, DM.eta_h3, DM.eta_h4, DM.eta_h5, DM.eta_tu, DM.getS_0, DM.getS_s, DM.set_0, DM.set_s, DM.at_0, DM.at_s, DM.wipe_nil, DM.wipe_cons, DM.keep_none, DM.keep_nil, DM.keep_cons, DM.map_none_nil, DM.map_none_cons, DM.pnO_f, DM.an_nx, DM.an_rt, DM.an_bk, DM.an_ct, DM.an_stk, DM.an_el, DM.an_ite, DM.an_rs, DM.nc_nx, DM.nc_ct, DM.nc_bk, DM.nc_rt, DM.nc_stk, DM.nc_el, DM.nc_ite, DM.nc_rs, DM.el_rs, DM.rs_go, DM.rs_rt, DM.ct_nx, DM.ct_bk, DM.ct_rt, DM.ss_nil, DM.ss_cons, DM.st_asg, DM.st_asT, DM.st_asI, DM.st_aug, DM.st_doc, DM.st_ex, DM.st_ite, DM.st_for1, DM.st_forT, DM.st_ret, DM.st_retN, DM.st_brk, DM.st_cnt, DM.st_pas, DM.st_fgt, DM.st_fzs, DM.fzsO_some, DM.someO_some, DM.augO_add, DM.augO_sub, DM.asI_eq, DM.it_sl, DM.it_vl, DM.it_r1, DM.it_r2, DM.r1O_int, DM.r2O_int, DM.walk_lst, DM.walk_tup, DM.walk_str, DM.walk_t2, DM.walk_t3, DM.wlist, DM.seqO_some, DM.wkO_def, DM.ev_lc, DM.lcO_n, DM.ev_lc2, DM.lc2O_n, DM.ev_muO, DM.muO_l, DM.mu2_l, DM.mu_app, DM.mu_pop, DM.mu_rev, DM.mu_clr, DM.callD_eq, DM.res_ok, DM.res_stk, DM.res_el, DM.tkL_nil, DM.tkL_cons, DM.tk1_some, DM.fzL_nil, DM.fzL_cons, DM.fz1_some, DM.mi_nil, DM.mi_m, DM.mi_v, DM.mi_b, DM.bi_nil, DM.bi_m, DM.bi_v, DM.bi_b, DM.ar_nil, DM.ar_v, DM.ar_m, DM.ar_b, DM.pt_nil, DM.pt_cons, DM.pt1_n, DM.atom_int, DM.atom_bl, DM.atom_str, DM.atom_non, DM.atom_lst, DM.atom_tup, DM.atom_enc, DM.selfc_lst, DM.fin_rt, DM.fin_nx, DM.fin_stk, DM.fin_el, DM.fin_ite, DM.fin_rs, DM.ga_nil, DM.ga_cons, DM.ga1_some, DM.kid_l, DM.kid_t, DM.kidO_some, DM.putL_nil, DM.putL_cons, DM.szO_0, DM.szO_1, DM.szO_2, DM.szO_3, DM.szO_4, DM.szO_5, DM.szO_6, DM.szO_7, DM.szO_8, DM.szO_9, DM.szO_10, DM.szO_11, DM.szO_12, DM.szO_13, DM.szO_14, DM.szO_15, DM.szO_16, DM.szO_17, DM.szO_18, DM.szO_19, DM.szO_20, DM.szO_21, DM.szO_22, DM.szO_23, DM.szO_24, DM.szO_25, DS.frz, DS.frzL, DM.frzL_map', DM.frz_enc, DM.rootFz_enc, DS.rootFz, DM.e_int, DM.e_bl, DM.e_tx, DM.e_un, DM.e_non, DM.e_som, DM.e_lst, DM.e_tu, DM.e_t2, DM.e_t3, DM.e_t4, DM.e_t5, DM.e_h2, DM.e_h3, DM.e_h4, DM.e_h5, DS.kAr, DS.kTm, DS.kArs, DS.kOAr, DS.kTms, DS.kCas, DS.kCa, DS.kTs, DS.kOTs, DS.kIt, DM.fz_int, DM.fz_bl, DM.fz_str, DM.fz_non, DM.fz_lst, DM.fz_tup, DM.fz_enc, List.contains_nil, List.contains_cons, List.any_nil, List.any_cons, List.all_nil, List.all_cons, List.length_cons, List.length_nil, Option.isSome_some, Bool.not_true, Bool.not_false, Bool.and_true, Bool.true_and, Bool.and_false, Bool.false_and, Bool.or_true, Bool.true_or, Bool.or_false, Bool.false_or, Bool.false_eq_true, eq_self, if_true, if_false, Option.isNone_none, Option.isNone_some, decide_true, decide_false, Nat.reduceAdd, Nat.reduceEqDiff, Nat.reduceBEq, DM.ty_int_int, DM.ty_int_bool, DM.ty_int_str, DM.ty_int_list, DM.ty_int_tuple, DM.ty_int_dict, DM.ty_bool_int, DM.ty_bool_bool, DM.ty_bool_str, DM.ty_bool_list, DM.ty_bool_tuple, DM.ty_bool_dict, DM.ty_str_int, DM.ty_str_bool, DM.ty_str_str, DM.ty_str_list, DM.ty_str_tuple, DM.ty_str_dict, DM.ty_list_int, DM.ty_list_bool, DM.ty_list_str, DM.ty_list_list, DM.ty_list_tuple, DM.ty_list_dict, DM.ty_tuple_int, DM.ty_tuple_bool, DM.ty_tuple_str, DM.ty_tuple_list, DM.ty_tuple_tuple, DM.ty_tuple_dict, DM.ty_dict_int, DM.ty_dict_bool, DM.ty_dict_str, DM.ty_dict_list, DM.ty_dict_tuple, DM.ty_dict_dict, ↓DM.bind_ok', ↓DM.bind_stk', ↓DM.bind_elim, ↓DM.bind_ite, ↓DM.sb_ok', ↓DM.sb_stk', ↓DM.sb_elim, ↓DM.sb_ite, ↓DM.an_nx, ↓DM.an_rt, ↓DM.an_bk, ↓DM.an_ct, ↓DM.an_stk, ↓DM.an_el, ↓DM.an_ite, ↓DM.an_rs, ↓DM.andO_ok, ↓DM.andO_elim, ↓DM.andO_stk, ↓DM.orO_ok, ↓DM.orO_elim, ↓DM.orO_stk, ↓DM.iteO_ok, ↓DM.iteO_elim, ↓DM.iteO_stk, ↓DM.notO_ok, ↓DM.chnO_some, ↓DM.tkL_nil, ↓DM.tkL_cons, ↓DM.tk1_some, ↓DM.fzL_nil, ↓DM.fzL_cons, ↓DM.fz1_some, ↓DM.elim_some, ↓DM.elim_none, ↓DM.and2_f, ↓DM.or2_t, ↓DM.grd_t, ↓if_true, ↓if_false]
/-! mirror of inside -/
def m4 (v_a : (T2 Int Int)) (v_b : (T2 Int Int)) : Option Bool :=
  some ((decide (v_b.a0 ≤ v_a.a0)) && (decide (v_a.a1 ≤ v_b.a1)))
theorem e4 (v_a_0 : Int) (v_a_1 : Int) (v_b_0 : Int) (v_b_1 : Int) : sem4 [(.tup false [(.int v_a_0), (.int v_a_1)]), (.tup false [(.int v_b_0), (.int v_b_1)])] = (m4 (T2.mk v_a_0 v_a_1) (T2.mk v_b_0 v_b_1)).elim .stk fun r => .ok (.bl r) [] := by
  refine (def_eq _ _ _ _ _).trans ?_
  show fin [] (evSs SG4 [] b4 [some (.tup false [(.int v_a_0), (.int v_a_1)]), some (.tup false [(.int v_b_0), (.int v_b_1)])]) = _
  simp only [b4, m4, DM.kbin1_a, DM.kbin2_a, DM.kneg_a, DM.kcmp1_a, DM.kcmp2_a, DM.kchn1_a, DM.kchn2_a, DM.kchn3_a, DM.ksub1_a, DM.ksub2_a, DM.kslc1_a, DM.kslc2_a, DM.kslc3_a, DM.kbi_a, DM.kme1_a, DM.kme2_a, DM.ktup_a, DM.klst_a, DM.ktst_a, DM.kas1_a, DM.kas2_a, DM.kts1_a, DM.kts2_a, DM.kav_a, DM.kvl_a, DM.kbl_a, DM.ktr_a, DM.kasg_a, DM.kasT_a, DM.kasI1_a, DM.kasI2_a, DM.kaug_a, DM.kex_a, DM.kif_a, DM.kfor_a, DM.kforT_a, DM.kret_a, DM.kr2_a, DM.klc_a, DM.klc2_a, DM.kmu_a, DM.kcl1_a, DM.kcl2_a, DM.kpre_a, DM.ev_int, DM.ev_bl, DM.ev_str, DM.ev_non, DM.ev_ty, DM.ev_gc, DM.ev_mv, DM.ev_tk, DM.mvO_some, DM.tkO_some, DM.ev_bin, DM.ev_neg, DM.ev_cmp, DM.chnO_some, DM.chn2_ok, DM.chn2_elim, DM.ev_chn, DM.ev_sub, DM.ev_slc, DM.ev_bi, DM.ev_me, DM.ev_tup, DM.ev_lst, DM.ev_call, DM.ev_ite, DM.ev_tst, DM.evA_pk, DM.evA_vl, DM.evPl_sl, DM.oaO_int, DM.evOA_none, DM.evOA_some, DM.evAs_nil, DM.evAs_cons, DM.evTs_nil, DM.evTs_cons, DM.evC_nil, DM.evC_bor, DM.evC_mt, DM.evC_vl, DM.evT_vl, DM.evT_tr, DM.evT_and, DM.evT_or, DM.evT_not, DM.blD_bl, DM.bind_ok', DM.bind_stk', DM.sb_ok', DM.sb_stk', DM.lift_some', DM.lift_none', DM.lift_def, DM.elim_same, ite_self, DM.sub_non, DM.len_non, DM.bind_elim, DM.sb_elim, DM.bind_ite, DM.sb_ite, DM.elim_map, DM.elim_bind, DM.elim_ite, DM.elim_some, DM.elim_none, DM.map_map', DM.map_some', DM.map_ite, DM.andO_ok, DM.andO_elim, DM.and2_ok, DM.and2_elim, DM.and2_ite, DM.and2_t, DM.and2_f, DM.and2_stk, DM.or2_stk, DM.ite2_t, DM.ite2_f, DM.orO_ok, DM.orO_elim, DM.or2_ok, DM.or2_elim, DM.or2_ite, DM.or2_t, DM.or2_f, DM.notO_ok, DM.notO_elim, DM.notO_ite, DM.andO_ite, DM.orO_ite, DM.iteO_ok, DM.iteO_elim, DM.iteO_ite, DM.ite2_int, DM.ite2_bl, DM.ite2_tx, DM.ite2_def, DM.grd_t, DM.grd_tl, DM.grd_tr, DM.b_add, DM.b_sub, DM.b_mul, DM.b_fdiv, DM.b_mod, DM.b_pow, DM.n_neg, DM.b_addL, DM.b_addT, DM.b_addS, DM.b_mulL, DM.s_lst, DM.s_tup, DM.s_str, DM.s_t2i, DM.s_t3i, DM.s_0, DM.s_1, DM.s_2, DM.s_3, DM.s_4, DM.s_5, DM.s_6, DM.s_7, DM.h_0, DM.h_1, DM.h_2, DM.h_3, DM.h_4, DM.h_5, DM.h_6, DM.h_7, DM.sl_lst, DM.sl_tup, DM.sl_str, DM.l_lst, DM.l_tup, DM.l_str, List.length_map, DM.i_int, DM.i_bl, DM.o_bl, DM.o_int, DM.i_abs, DM.i_max, DM.i_min, DM.i_maxL, DM.i_minL, DM.i_sum, DM.i_sorted, DM.i_list, DM.i_listT, DM.i_tuple, DM.i_isi, DM.z_int, DM.z_bl, DM.z_str, DM.z_lst, DM.z_tup, DM.z_non, DM.c_lt, DM.c_le, DM.c_gt, DM.c_ge, DM.c_eq, DM.c_ne, DM.c_is, DM.c_isnot, DM.t_non, DM.t_bl, DM.t_int, DM.t_lst, DM.t_tup, DM.isEmpty_map', DM.in_ints, DM.eqD_int, DM.eqD_bl, DM.eqD_tx, DM.isNon_opt, DM.isNon_enc, DM.n_int, DM.n_bl, DM.n_str, DM.n_lst, DM.n_tup, DM.n_non, DM.notO_stk, DM.orO_stk, DM.andO_stk, DM.iteO_stk, DM.eta_t2, DM.eta_t3, DM.eta_t4, DM.eta_t5, DM.eta_h2, DM.eta_h3, DM.eta_h4, DM.eta_h5, DM.eta_tu, DM.getS_0, DM.getS_s, DM.set_0, DM.set_s, DM.at_0, DM.at_s, DM.wipe_nil, DM.wipe_cons, DM.keep_none, DM.keep_nil, DM.keep_cons, DM.map_none_nil, DM.map_none_cons, DM.pnO_f, DM.an_nx, DM.an_rt, DM.an_bk, DM.an_ct, DM.an_stk, DM.an_el, DM.an_ite, DM.an_rs, DM.nc_nx, DM.nc_ct, DM.nc_bk, DM.nc_rt, DM.nc_stk, DM.nc_el, DM.nc_ite, DM.nc_rs, DM.el_rs, DM.rs_go, DM.rs_rt, DM.ct_nx, DM.ct_bk, DM.ct_rt, DM.ss_nil, DM.ss_cons, DM.st_asg, DM.st_asT, DM.st_asI, DM.st_aug, DM.st_doc, DM.st_ex, DM.st_ite, DM.st_for1, DM.st_forT, DM.st_ret, DM.st_retN, DM.st_brk, DM.st_cnt, DM.st_pas, DM.st_fgt, DM.st_fzs, DM.fzsO_some, DM.someO_some, DM.augO_add, DM.augO_sub, DM.asI_eq, DM.it_sl, DM.it_vl, DM.it_r1, DM.it_r2, DM.r1O_int, DM.r2O_int, DM.walk_lst, DM.walk_tup, DM.walk_str, DM.walk_t2, DM.walk_t3, DM.wlist, DM.seqO_some, DM.wkO_def, DM.ev_lc, DM.lcO_n, DM.ev_lc2, DM.lc2O_n, DM.ev_muO, DM.muO_l, DM.mu2_l, DM.mu_app, DM.mu_pop, DM.mu_rev, DM.mu_clr, DM.callD_eq, DM.res_ok, DM.res_stk, DM.res_el, DM.tkL_nil, DM.tkL_cons, DM.tk1_some, DM.fzL_nil, DM.fzL_cons, DM.fz1_some, DM.mi_nil, DM.mi_m, DM.mi_v, DM.mi_b, DM.bi_nil, DM.bi_m, DM.bi_v, DM.bi_b, DM.ar_nil, DM.ar_v, DM.ar_m, DM.ar_b, DM.pt_nil, DM.pt_cons, DM.pt1_n, DM.atom_int, DM.atom_bl, DM.atom_str, DM.atom_non, DM.atom_lst, DM.atom_tup, DM.atom_enc, DM.selfc_lst, DM.fin_rt, DM.fin_nx, DM.fin_stk, DM.fin_el, DM.fin_ite, DM.fin_rs, DM.ga_nil, DM.ga_cons, DM.ga1_some, DM.kid_l, DM.kid_t, DM.kidO_some, DM.putL_nil, DM.putL_cons, DM.szO_0, DM.szO_1, DM.szO_2, DM.szO_3, DM.szO_4, DM.szO_5, DM.szO_6, DM.szO_7, DM.szO_8, DM.szO_9, DM.szO_10, DM.szO_11, DM.szO_12, DM.szO_13, DM.szO_14, DM.szO_15, DM.szO_16, DM.szO_17, DM.szO_18, DM.szO_19, DM.szO_20, DM.szO_21, DM.szO_22, DM.szO_23, DM.szO_24, DM.szO_25, DS.frz, DS.frzL, DM.frzL_map', DM.frz_enc, DM.rootFz_enc, DS.rootFz, DM.e_int, DM.e_bl, DM.e_tx, DM.e_un, DM.e_non, DM.e_som, DM.e_lst, DM.e_tu, DM.e_t2, DM.e_t3, DM.e_t4, DM.e_t5, DM.e_h2, DM.e_h3, DM.e_h4, DM.e_h5, DS.kAr, DS.kTm, DS.kArs, DS.kOAr, DS.kTms, DS.kCas, DS.kCa, DS.kTs, DS.kOTs, DS.kIt, DM.fz_int, DM.fz_bl, DM.fz_str, DM.fz_non, DM.fz_lst, DM.fz_tup, DM.fz_enc, List.contains_nil, List.contains_cons, List.any_nil, List.any_cons, List.all_nil, List.all_cons, List.length_cons, List.length_nil, Option.isSome_some, Bool.not_true, Bool.not_false, Bool.and_true, Bool.true_and, Bool.and_false, Bool.false_and, Bool.or_true, Bool.true_or, Bool.or_false, Bool.false_or, Bool.false_eq_true, eq_self, if_true, if_false, Option.isNone_none, Option.isNone_some, decide_true, decide_false, Nat.reduceAdd, Nat.reduceEqDiff, Nat.reduceBEq, DM.ty_int_int, DM.ty_int_bool, DM.ty_int_str, DM.ty_int_list, DM.ty_int_tuple, DM.ty_int_dict, DM.ty_bool_int, DM.ty_bool_bool, DM.ty_bool_str, DM.ty_bool_list, DM.ty_bool_tuple, DM.ty_bool_dict, DM.ty_str_int, DM.ty_str_bool, DM.ty_str_str, DM.ty_str_list, DM.ty_str_tuple, DM.ty_str_dict, DM.ty_list_int, DM.ty_list_bool, DM.ty_list_str, DM.ty_list_list, DM.ty_list_tuple, DM.ty_list_dict, DM.ty_tuple_int, DM.ty_tuple_bool, DM.ty_tuple_str, DM.ty_tuple_list, DM.ty_tuple_tuple, DM.ty_tuple_dict, DM.ty_dict_int, DM.ty_dict_bool, DM.ty_dict_str, DM.ty_dict_list, DM.ty_dict_tuple, DM.ty_dict_dict, ↓DM.bind_ok', ↓DM.bind_stk', ↓DM.bind_elim, ↓DM.bind_ite, ↓DM.sb_ok', ↓DM.sb_stk', ↓DM.sb_elim, ↓DM.sb_ite, ↓DM.an_nx, ↓DM.an_rt, ↓DM.an_bk, ↓DM.an_ct, ↓DM.an_stk, ↓DM.an_el, ↓DM.an_ite, ↓DM.an_rs, ↓DM.andO_ok, ↓DM.andO_elim, ↓DM.andO_stk, ↓DM.orO_ok, ↓DM.orO_elim, ↓DM.orO_stk, ↓DM.iteO_ok, ↓DM.iteO_elim, ↓DM.iteO_stk, ↓DM.notO_ok, ↓DM.chnO_some, ↓DM.tkL_nil, ↓DM.tkL_cons, ↓DM.tk1_some, ↓DM.fzL_nil, ↓DM.fzL_cons, ↓DM.fz1_some, ↓DM.elim_some, ↓DM.elim_none, ↓DM.and2_f, ↓DM.or2_t, ↓DM.grd_t, ↓if_true, ↓if_false]
/-! mirror of in_words -/
theorem cd5_0 : SG5.cd 0 = .int (-9223372036854775808) := rfl
theorem cd5_1 : SG5.cd 1 = .int (9223372036854775807) := rfl
theorem cd5_2 : SG5.cd 2 = .tup false [.int (-9223372036854775808), .int (9223372036854775807)] := rfl
def m5 (v_low : Int) (v_high : Int) : Option (T2 Int Int) :=
  if ((decide (v_low < (-9223372036854775808))) || (decide ((9223372036854775807) < v_high))) = true then
  some (T2.mk (-9223372036854775808) (9223372036854775807))
  else
  some (T2.mk v_low v_high)
theorem e5 (v_low : Int) (v_high : Int) : sem5 [(.int v_low), (.int v_high)] = (m5 v_low v_high).elim .stk fun r => .ok (.tup false [(.int r.a0), (.int r.a1)]) [] := by
  refine (def_eq _ _ _ _ _).trans ?_
  show fin [] (evSs SG5 [] b5 [some (.int v_low), some (.int v_high)]) = _
  simp only [b5, m5, cd5_0, cd5_1, cd5_2,
  DM.kbin1_a, DM.kbin2_a, DM.kneg_a, DM.kcmp1_a, DM.kcmp2_a, DM.kchn1_a, DM.kchn2_a, DM.kchn3_a, DM.ksub1_a, DM.ksub2_a, DM.kslc1_a, DM.kslc2_a, DM.kslc3_a, DM.kbi_a, DM.kme1_a, DM.kme2_a, DM.ktup_a, DM.klst_a, DM.ktst_a, DM.kas1_a, DM.kas2_a, DM.kts1_a, DM.kts2_a, DM.kav_a, DM.kvl_a, DM.kbl_a, DM.ktr_a, DM.kasg_a, DM.kasT_a, DM.kasI1_a, DM.kasI2_a, DM.kaug_a, DM.kex_a, DM.kif_a, DM.kfor_a, DM.kforT_a, DM.kret_a, DM.kr2_a, DM.klc_a, DM.klc2_a, DM.kmu_a, DM.kcl1_a, DM.kcl2_a, DM.kpre_a, DM.ev_int, DM.ev_bl, DM.ev_str, DM.ev_non, DM.ev_ty, DM.ev_gc, DM.ev_mv, DM.ev_tk, DM.mvO_some, DM.tkO_some, DM.ev_bin, DM.ev_neg, DM.ev_cmp, DM.chnO_some, DM.chn2_ok, DM.chn2_elim, DM.ev_chn, DM.ev_sub, DM.ev_slc, DM.ev_bi, DM.ev_me, DM.ev_tup, DM.ev_lst, DM.ev_call, DM.ev_ite, DM.ev_tst, DM.evA_pk, DM.evA_vl, DM.evPl_sl, DM.oaO_int, DM.evOA_none, DM.evOA_some, DM.evAs_nil, DM.evAs_cons, DM.evTs_nil, DM.evTs_cons, DM.evC_nil, DM.evC_bor, DM.evC_mt, DM.evC_vl, DM.evT_vl, DM.evT_tr, DM.evT_and, DM.evT_or, DM.evT_not, DM.blD_bl, DM.bind_ok', DM.bind_stk', DM.sb_ok', DM.sb_stk', DM.lift_some', DM.lift_none', DM.lift_def, DM.elim_same, ite_self, DM.sub_non, DM.len_non, DM.bind_elim, DM.sb_elim, DM.bind_ite, DM.sb_ite, DM.elim_map, DM.elim_bind, DM.elim_ite, DM.elim_some, DM.elim_none, DM.map_map', DM.map_some', DM.map_ite, DM.andO_ok, DM.andO_elim, DM.and2_ok, DM.and2_elim, DM.and2_ite, DM.and2_t, DM.and2_f, DM.and2_stk, DM.or2_stk, DM.ite2_t, DM.ite2_f, DM.orO_ok, DM.orO_elim, DM.or2_ok, DM.or2_elim, DM.or2_ite, DM.or2_t, DM.or2_f, DM.notO_ok, DM.notO_elim, DM.notO_ite, DM.andO_ite, DM.orO_ite, DM.iteO_ok, DM.iteO_elim, DM.iteO_ite, DM.ite2_int, DM.ite2_bl, DM.ite2_tx, DM.ite2_def, DM.grd_t, DM.grd_tl, DM.grd_tr, DM.b_add, DM.b_sub, DM.b_mul, DM.b_fdiv, DM.b_mod, DM.b_pow, DM.n_neg, DM.b_addL, DM.b_addT, DM.b_addS, DM.b_mulL, DM.s_lst, DM.s_tup, DM.s_str, DM.s_t2i, DM.s_t3i, DM.s_0, DM.s_1, DM.s_2, DM.s_3, DM.s_4, DM.s_5, DM.s_6, DM.s_7, DM.h_0, DM.h_1, DM.h_2, DM.h_3, DM.h_4, DM.h_5, DM.h_6, DM.h_7, DM.sl_lst, DM.sl_tup, DM.sl_str, DM.l_lst, DM.l_tup, DM.l_str, List.length_map, DM.i_int, DM.i_bl, DM.o_bl, DM.o_int, DM.i_abs, DM.i_max, DM.i_min, DM.i_maxL, DM.i_minL, DM.i_sum, DM.i_sorted, DM.i_list, DM.i_listT, DM.i_tuple, DM.i_isi, DM.z_int, DM.z_bl, DM.z_str, DM.z_lst, DM.z_tup, DM.z_non, DM.c_lt, DM.c_le, DM.c_gt, DM.c_ge, DM.c_eq, DM.c_ne, DM.c_is, DM.c_isnot, DM.t_non, DM.t_bl, DM.t_int, DM.t_lst, DM.t_tup, DM.isEmpty_map', DM.in_ints, DM.eqD_int, DM.eqD_bl, DM.eqD_tx, DM.isNon_opt, DM.isNon_enc, DM.n_int, DM.n_bl, DM.n_str, DM.n_lst, DM.n_tup, DM.n_non, DM.notO_stk, DM.orO_stk, DM.andO_stk, DM.iteO_stk, DM.eta_t2, DM.eta_t3, DM.eta_t4, DM.eta_t5, DM.eta_h2, DM.eta_h3, DM.eta_h4, DM.eta_h5, DM.eta_tu, DM.getS_0, DM.getS_s, DM.set_0, DM.set_s, DM.at_0, DM.at_s, DM.wipe_nil, DM.wipe_cons, DM.keep_none, DM.keep_nil, DM.keep_cons, DM.map_none_nil, DM.map_none_cons, DM.pnO_f, DM.an_nx, DM.an_rt, DM.an_bk, DM.an_ct, DM.an_stk, DM.an_el, DM.an_ite, DM.an_rs, DM.nc_nx, DM.nc_ct, DM.nc_bk, DM.nc_rt, DM.nc_stk, DM.nc_el, DM.nc_ite, DM.nc_rs, DM.el_rs, DM.rs_go, DM.rs_rt, DM.ct_nx, DM.ct_bk, DM.ct_rt, DM.ss_nil, DM.ss_cons, DM.st_asg, DM.st_asT, DM.st_asI, DM.st_aug, DM.st_doc, DM.st_ex, DM.st_ite, DM.st_for1, DM.st_forT, DM.st_ret, DM.st_retN, DM.st_brk, DM.st_cnt, DM.st_pas, DM.st_fgt, DM.st_fzs, DM.fzsO_some, DM.someO_some, DM.augO_add, DM.augO_sub, DM.asI_eq, DM.it_sl, DM.it_vl, DM.it_r1, DM.it_r2, DM.r1O_int, DM.r2O_int, DM.walk_lst, DM.walk_tup, DM.walk_str, DM.walk_t2, DM.walk_t3, DM.wlist, DM.seqO_some, DM.wkO_def, DM.ev_lc, DM.lcO_n, DM.ev_lc2, DM.lc2O_n, DM.ev_muO, DM.muO_l, DM.mu2_l, DM.mu_app, DM.mu_pop, DM.mu_rev, DM.mu_clr, DM.callD_eq, DM.res_ok, DM.res_stk, DM.res_el, DM.tkL_nil, DM.tkL_cons, DM.tk1_some, DM.fzL_nil, DM.fzL_cons, DM.fz1_some, DM.mi_nil, DM.mi_m, DM.mi_v, DM.mi_b, DM.bi_nil, DM.bi_m, DM.bi_v, DM.bi_b, DM.ar_nil, DM.ar_v, DM.ar_m, DM.ar_b, DM.pt_nil, DM.pt_cons, DM.pt1_n, DM.atom_int, DM.atom_bl, DM.atom_str, DM.atom_non, DM.atom_lst, DM.atom_tup, DM.atom_enc, DM.selfc_lst, DM.fin_rt, DM.fin_nx, DM.fin_stk, DM.fin_el, DM.fin_ite, DM.fin_rs, DM.ga_nil, DM.ga_cons, DM.ga1_some, DM.kid_l, DM.kid_t, DM.kidO_some, DM.putL_nil, DM.putL_cons, DM.szO_0, DM.szO_1, DM.szO_2, DM.szO_3, DM.szO_4, DM.szO_5, DM.szO_6, DM.szO_7, DM.szO_8, DM.szO_9, DM.szO_10, DM.szO_11, DM.szO_12, DM.szO_13, DM.szO_14, DM.szO_15, DM.szO_16, DM.szO_17, DM.szO_18, DM.szO_19, DM.szO_20, DM.szO_21, DM.szO_22, DM.szO_23, DM.szO_24, DM.szO_25, DS.frz, DS.frzL, DM.frzL_map', DM.frz_enc, DM.rootFz_enc, DS.rootFz, DM.e_int, DM.e_bl, DM.e_tx, DM.e_un, DM.e_non, DM.e_som, DM.e_lst, DM.e_tu, DM.e_t2, DM.e_t3, DM.e_t4, DM.e_t5, DM.e_h2, DM.e_h3, DM.e_h4, DM.e_h5, DS.kAr, DS.kTm, DS.kArs, DS.kOAr, DS.kTms, DS.kCas, DS.kCa, DS.kTs, DS.kOTs, DS.kIt, DM.fz_int, DM.fz_bl, DM.fz_str, DM.fz_non, DM.fz_lst, DM.fz_tup, DM.fz_enc, List.contains_nil, List.contains_cons, List.any_nil, List.any_cons, List.all_nil, List.all_cons, List.length_cons, List.length_nil, Option.isSome_some, Bool.not_true, Bool.not_false, Bool.and_true, Bool.true_and, Bool.and_false, Bool.false_and, Bool.or_true, Bool.true_or, Bool.or_false, Bool.false_or, Bool.false_eq_true, eq_self, if_true, if_false, Option.isNone_none, Option.isNone_some, decide_true, decide_false, Nat.reduceAdd, Nat.reduceEqDiff, Nat.reduceBEq, DM.ty_int_int, DM.ty_int_bool, DM.ty_int_str, DM.ty_int_list, DM.ty_int_tuple, DM.ty_int_dict, DM.ty_bool_int, DM.ty_bool_bool, DM.ty_bool_str, DM.ty_bool_list, DM.ty_bool_tuple, DM.ty_bool_dict, DM.ty_str_int, DM.ty_str_bool, DM.ty_str_str, DM.ty_str_list, DM.ty_str_tuple, DM.ty_str_dict, DM.ty_list_int, DM.ty_list_bool, DM.ty_list_str, DM.ty_list_list, DM.ty_list_tuple, DM.ty_list_dict, DM.ty_tuple_int, DM.ty_tuple_bool, DM.ty_tuple_str, DM.ty_tuple_list, DM.ty_tuple_tuple, DM.ty_tuple_dict, DM.ty_dict_int, DM.ty_dict_bool, DM.ty_dict_str, DM.ty_dict_list, DM.ty_dict_tuple, DM.ty_dict_dict, ↓DM.bind_ok', ↓DM.bind_stk', ↓DM.bind_elim, ↓DM.bind_ite, ↓DM.sb_ok', ↓DM.sb_stk', ↓DM.sb_elim, ↓DM.sb_ite, ↓DM.an_nx, ↓DM.an_rt, ↓DM.an_bk, ↓DM.an_ct, ↓DM.an_stk, ↓DM.an_el, ↓DM.an_ite, ↓DM.an_rs, ↓DM.andO_ok, ↓DM.andO_elim, ↓DM.andO_stk, ↓DM.orO_ok, ↓DM.orO_elim, ↓DM.orO_stk, ↓DM.iteO_ok, ↓DM.iteO_elim, ↓DM.iteO_stk, ↓DM.notO_ok, ↓DM.chnO_some, ↓DM.tkL_nil, ↓DM.tkL_cons, ↓DM.tk1_some, ↓DM.fzL_nil, ↓DM.fzL_cons, ↓DM.fz1_some, ↓DM.elim_some, ↓DM.elim_none, ↓DM.and2_f, ↓DM.or2_t, ↓DM.grd_t, ↓if_true, ↓if_false]
/-! mirror of add_ranges -/
theorem fn6_5 : SG6.fn 5 = sem5 := rfl
def m6 (v_a : (T2 Int Int)) (v_b : (T2 Int Int)) : Option (T2 Int Int) :=
  (m5 (v_a.a0 + v_b.a0) (v_a.a1 + v_b.a1)).bind fun t1 =>
  some t1
theorem e6 (v_a_0 : Int) (v_a_1 : Int) (v_b_0 : Int) (v_b_1 : Int) : sem6 [(.tup false [(.int v_a_0), (.int v_a_1)]), (.tup false [(.int v_b_0), (.int v_b_1)])] = (m6 (T2.mk v_a_0 v_a_1) (T2.mk v_b_0 v_b_1)).elim .stk fun r => .ok (.tup false [(.int r.a0), (.int r.a1)]) [] := by
  refine (def_eq _ _ _ _ _).trans ?_
  show fin [] (evSs SG6 [] b6 [some (.tup false [(.int v_a_0), (.int v_a_1)]), some (.tup false [(.int v_b_0), (.int v_b_1)])]) = _
  simp only [b6, m6, fn6_5, e5,
  DM.kbin1_a, DM.kbin2_a, DM.kneg_a, DM.kcmp1_a, DM.kcmp2_a, DM.kchn1_a, DM.kchn2_a, DM.kchn3_a, DM.ksub1_a, DM.ksub2_a, DM.kslc1_a, DM.kslc2_a, DM.kslc3_a, DM.kbi_a, DM.kme1_a, DM.kme2_a, DM.ktup_a, DM.klst_a, DM.ktst_a, DM.kas1_a, DM.kas2_a, DM.kts1_a, DM.kts2_a, DM.kav_a, DM.kvl_a, DM.kbl_a, DM.ktr_a, DM.kasg_a, DM.kasT_a, DM.kasI1_a, DM.kasI2_a, DM.kaug_a, DM.kex_a, DM.kif_a, DM.kfor_a, DM.kforT_a, DM.kret_a, DM.kr2_a, DM.klc_a, DM.klc2_a, DM.kmu_a, DM.kcl1_a, DM.kcl2_a, DM.kpre_a, DM.ev_int, DM.ev_bl, DM.ev_str, DM.ev_non, DM.ev_ty, DM.ev_gc, DM.ev_mv, DM.ev_tk, DM.mvO_some, DM.tkO_some, DM.ev_bin, DM.ev_neg, DM.ev_cmp, DM.chnO_some, DM.chn2_ok, DM.chn2_elim, DM.ev_chn, DM.ev_sub, DM.ev_slc, DM.ev_bi, DM.ev_me, DM.ev_tup, DM.ev_lst, DM.ev_call, DM.ev_ite, DM.ev_tst, DM.evA_pk, DM.evA_vl, DM.evPl_sl, DM.oaO_int, DM.evOA_none, DM.evOA_some, DM.evAs_nil, DM.evAs_cons, DM.evTs_nil, DM.evTs_cons, DM.evC_nil, DM.evC_bor, DM.evC_mt, DM.evC_vl, DM.evT_vl, DM.evT_tr, DM.evT_and, DM.evT_or, DM.evT_not, DM.blD_bl, DM.bind_ok', DM.bind_stk', DM.sb_ok', DM.sb_stk', DM.lift_some', DM.lift_none', DM.lift_def, DM.elim_same, ite_self, DM.sub_non, DM.len_non, DM.bind_elim, DM.sb_elim, DM.bind_ite, DM.sb_ite, DM.elim_map, DM.elim_bind, DM.elim_ite, DM.elim_some, DM.elim_none, DM.map_map', DM.map_some', DM.map_ite, DM.andO_ok, DM.andO_elim, DM.and2_ok, DM.and2_elim, DM.and2_ite, DM.and2_t, DM.and2_f, DM.and2_stk, DM.or2_stk, DM.ite2_t, DM.ite2_f, DM.orO_ok, DM.orO_elim, DM.or2_ok, DM.or2_elim, DM.or2_ite, DM.or2_t, DM.or2_f, DM.notO_ok, DM.notO_elim, DM.notO_ite, DM.andO_ite, DM.orO_ite, DM.iteO_ok, DM.iteO_elim, DM.iteO_ite, DM.ite2_int, DM.ite2_bl, DM.ite2_tx, DM.ite2_def, DM.grd_t, DM.grd_tl, DM.grd_tr, DM.b_add, DM.b_sub, DM.b_mul, DM.b_fdiv, DM.b_mod, DM.b_pow, DM.n_neg, DM.b_addL, DM.b_addT, DM.b_addS, DM.b_mulL, DM.s_lst, DM.s_tup, DM.s_str, DM.s_t2i, DM.s_t3i, DM.s_0, DM.s_1, DM.s_2, DM.s_3, DM.s_4, DM.s_5, DM.s_6, DM.s_7, DM.h_0, DM.h_1, DM.h_2, DM.h_3, DM.h_4, DM.h_5, DM.h_6, DM.h_7, DM.sl_lst, DM.sl_tup, DM.sl_str, DM.l_lst, DM.l_tup, DM.l_str, List.length_map, DM.i_int, DM.i_bl, DM.o_bl, DM.o_int, DM.i_abs, DM.i_max, DM.i_min, DM.i_maxL, DM.i_minL, DM.i_sum, DM.i_sorted, DM.i_list, DM.i_listT, DM.i_tuple, DM.i_isi, DM.z_int, DM.z_bl, DM.z_str, DM.z_lst, DM.z_tup, DM.z_non, DM.c_lt, DM.c_le, DM.c_gt, DM.c_ge, DM.c_eq, DM.c_ne, DM.c_is, DM.c_isnot, DM.t_non, DM.t_bl, DM.t_int, DM.t_lst, DM.t_tup, DM.isEmpty_map', DM.in_ints, DM.eqD_int, DM.eqD_bl, DM.eqD_tx, DM.isNon_opt, DM.isNon_enc, DM.n_int, DM.n_bl, DM.n_str, DM.n_lst, DM.n_tup, DM.n_non, DM.notO_stk, DM.orO_stk, DM.andO_stk, DM.iteO_stk, DM.eta_t2, DM.eta_t3, DM.eta_t4, DM.eta_t5, DM.eta_h2, DM.eta_h3, DM.eta_h4, DM.eta_h5, DM.eta_tu, DM.getS_0, DM.getS_s, DM.set_0, DM.set_s, DM.at_0, DM.at_s, DM.wipe_nil, DM.wipe_cons, DM.keep_none, DM.keep_nil, DM.keep_cons, DM.map_none_nil, DM.map_none_cons, DM.pnO_f, DM.an_nx, DM.an_rt, DM.an_bk, DM.an_ct, DM.an_stk, DM.an_el, DM.an_ite, DM.an_rs, DM.nc_nx, DM.nc_ct, DM.nc_bk, DM.nc_rt, DM.nc_stk, DM.nc_el, DM.nc_ite, DM.nc_rs, DM.el_rs, DM.rs_go, DM.rs_rt, DM.ct_nx, DM.ct_bk, DM.ct_rt, DM.ss_nil, DM.ss_cons, DM.st_asg, DM.st_asT, DM.st_asI, DM.st_aug, DM.st_doc, DM.st_ex, DM.st_ite, DM.st_for1, DM.st_forT, DM.st_ret, DM.st_retN, DM.st_brk, DM.st_cnt, DM.st_pas, DM.st_fgt, DM.st_fzs, DM.fzsO_some, DM.someO_some, DM.augO_add, DM.augO_sub, DM.asI_eq, DM.it_sl, DM.it_vl, DM.it_r1, DM.it_r2, DM.r1O_int, DM.r2O_int, DM.walk_lst, DM.walk_tup, DM.walk_str, DM.walk_t2, DM.walk_t3, DM.wlist, DM.seqO_some, DM.wkO_def, DM.ev_lc, DM.lcO_n, DM.ev_lc2, DM.lc2O_n, DM.ev_muO, DM.muO_l, DM.mu2_l, DM.mu_app, DM.mu_pop, DM.mu_rev, DM.mu_clr, DM.callD_eq, DM.res_ok, DM.res_stk, DM.res_el, DM.tkL_nil, DM.tkL_cons, DM.tk1_some, DM.fzL_nil, DM.fzL_cons, DM.fz1_some, DM.mi_nil, DM.mi_m, DM.mi_v, DM.mi_b, DM.bi_nil, DM.bi_m, DM.bi_v, DM.bi_b, DM.ar_nil, DM.ar_v, DM.ar_m, DM.ar_b, DM.pt_nil, DM.pt_cons, DM.pt1_n, DM.atom_int, DM.atom_bl, DM.atom_str, DM.atom_non, DM.atom_lst, DM.atom_tup, DM.atom_enc, DM.selfc_lst, DM.fin_rt, DM.fin_nx, DM.fin_stk, DM.fin_el, DM.fin_ite, DM.fin_rs, DM.ga_nil, DM.ga_cons, DM.ga1_some, DM.kid_l, DM.kid_t, DM.kidO_some, DM.putL_nil, DM.putL_cons, DM.szO_0, DM.szO_1, DM.szO_2, DM.szO_3, DM.szO_4, DM.szO_5, DM.szO_6, DM.szO_7, DM.szO_8, DM.szO_9, DM.szO_10, DM.szO_11, DM.szO_12, DM.szO_13, DM.szO_14, DM.szO_15, DM.szO_16, DM.szO_17, DM.szO_18, DM.szO_19, DM.szO_20, DM.szO_21, DM.szO_22, DM.szO_23, DM.szO_24, DM.szO_25, DS.frz, DS.frzL, DM.frzL_map', DM.frz_enc, DM.rootFz_enc, DS.rootFz, DM.e_int, DM.e_bl, DM.e_tx, DM.e_un, DM.e_non, DM.e_som, DM.e_lst, DM.e_tu, DM.e_t2, DM.e_t3, DM.e_t4, DM.e_t5, DM.e_h2, DM.e_h3, DM.e_h4, DM.e_h5, DS.kAr, DS.kTm, DS.kArs, DS.kOAr, DS.kTms, DS.kCas, DS.kCa, DS.kTs, DS.kOTs, DS.kIt, DM.fz_int, DM.fz_bl, DM.fz_str, DM.fz_non, DM.fz_lst, DM.fz_tup, DM.fz_enc, List.contains_nil, List.contains_cons, List.any_nil, List.any_cons, List.all_nil, List.all_cons, List.length_cons, List.length_nil, Option.isSome_some, Bool.not_true, Bool.not_false, Bool.and_true, Bool.true_and, Bool.and_false, Bool.false_and, Bool.or_true, Bool.true_or, Bool.or_false, Bool.false_or, Bool.false_eq_true, eq_self, if_true, if_false, Option.isNone_none, Option.isNone_some, decide_true, decide_false, Nat.reduceAdd, Nat.reduceEqDiff, Nat.reduceBEq, DM.ty_int_int, DM.ty_int_bool, DM.ty_int_str, DM.ty_int_list, DM.ty_int_tuple, DM.ty_int_dict, DM.ty_bool_int, DM.ty_bool_bool, DM.ty_bool_str, DM.ty_bool_list, DM.ty_bool_tuple, DM.ty_bool_dict, DM.ty_str_int, DM.ty_str_bool, DM.ty_str_str, DM.ty_str_list, DM.ty_str_tuple, DM.ty_str_dict, DM.ty_list_int, DM.ty_list_bool, DM.ty_list_str, DM.ty_list_list, DM.ty_list_tuple, DM.ty_list_dict, DM.ty_tuple_int, DM.ty_tuple_bool, DM.ty_tuple_str, DM.ty_tuple_list, DM.ty_tuple_tuple, DM.ty_tuple_dict, DM.ty_dict_int, DM.ty_dict_bool, DM.ty_dict_str, DM.ty_dict_list, DM.ty_dict_tuple, DM.ty_dict_dict, ↓DM.bind_ok', ↓DM.bind_stk', ↓DM.bind_elim, ↓DM.bind_ite, ↓DM.sb_ok', ↓DM.sb_stk', ↓DM.sb_elim, ↓DM.sb_ite, ↓DM.an_nx, ↓DM.an_rt, ↓DM.an_bk, ↓DM.an_ct, ↓DM.an_stk, ↓DM.an_el, ↓DM.an_ite, ↓DM.an_rs, ↓DM.andO_ok, ↓DM.andO_elim, ↓DM.andO_stk, ↓DM.orO_ok, ↓DM.orO_elim, ↓DM.orO_stk, ↓DM.iteO_ok, ↓DM.iteO_elim, ↓DM.iteO_stk, ↓DM.notO_ok, ↓DM.chnO_some, ↓DM.tkL_nil, ↓DM.tkL_cons, ↓DM.tk1_some, ↓DM.fzL_nil, ↓DM.fzL_cons, ↓DM.fz1_some, ↓DM.elim_some, ↓DM.elim_none, ↓DM.and2_f, ↓DM.or2_t, ↓DM.grd_t, ↓if_true, ↓if_false]
/-! mirror of sub_ranges -/
theorem fn7_5 : SG7.fn 5 = sem5 := rfl
def m7 (v_a : (T2 Int Int)) (v_b : (T2 Int Int)) : Option (T2 Int Int) :=
  (m5 (v_a.a0 - v_b.a1) (v_a.a1 - v_b.a0)).bind fun t1 =>
  some t1
theorem e7 (v_a_0 : Int) (v_a_1 : Int) (v_b_0 : Int) (v_b_1 : Int) : sem7 [(.tup false [(.int v_a_0), (.int v_a_1)]), (.tup false [(.int v_b_0), (.int v_b_1)])] = (m7 (T2.mk v_a_0 v_a_1) (T2.mk v_b_0 v_b_1)).elim .stk fun r => .ok (.tup false [(.int r.a0), (.int r.a1)]) [] := by
  refine (def_eq _ _ _ _ _).trans ?_
  show fin [] (evSs SG7 [] b7 [some (.tup false [(.int v_a_0), (.int v_a_1)]), some (.tup false [(.int v_b_0), (.int v_b_1)])]) = _
  simp only [b7, m7, fn7_5, e5,
  DM.kbin1_a, DM.kbin2_a, DM.kneg_a, DM.kcmp1_a, DM.kcmp2_a, DM.kchn1_a, DM.kchn2_a, DM.kchn3_a, DM.ksub1_a, DM.ksub2_a, DM.kslc1_a, DM.kslc2_a, DM.kslc3_a, DM.kbi_a, DM.kme1_a, DM.kme2_a, DM.ktup_a, DM.klst_a, DM.ktst_a, DM.kas1_a, DM.kas2_a, DM.kts1_a, DM.kts2_a, DM.kav_a, DM.kvl_a, DM.kbl_a, DM.ktr_a, DM.kasg_a, DM.kasT_a, DM.kasI1_a, DM.kasI2_a, DM.kaug_a, DM.kex_a, DM.kif_a, DM.kfor_a, DM.kforT_a, DM.kret_a, DM.kr2_a, DM.klc_a, DM.klc2_a, DM.kmu_a, DM.kcl1_a, DM.kcl2_a, DM.kpre_a, DM.ev_int, DM.ev_bl, DM.ev_str, DM.ev_non, DM.ev_ty, DM.ev_gc, DM.ev_mv, DM.ev_tk, DM.mvO_some, DM.tkO_some, DM.ev_bin, DM.ev_neg, DM.ev_cmp, DM.chnO_some, DM.chn2_ok, DM.chn2_elim, DM.ev_chn, DM.ev_sub, DM.ev_slc, DM.ev_bi, DM.ev_me, DM.ev_tup, DM.ev_lst, DM.ev_call, DM.ev_ite, DM.ev_tst, DM.evA_pk, DM.evA_vl, DM.evPl_sl, DM.oaO_int, DM.evOA_none, DM.evOA_some, DM.evAs_nil, DM.evAs_cons, DM.evTs_nil, DM.evTs_cons, DM.evC_nil, DM.evC_bor, DM.evC_mt, DM.evC_vl, DM.evT_vl, DM.evT_tr, DM.evT_and, DM.evT_or, DM.evT_not, DM.blD_bl, DM.bind_ok', DM.bind_stk', DM.sb_ok', DM.sb_stk', DM.lift_some', DM.lift_none', DM.lift_def, DM.elim_same, ite_self, DM.sub_non, DM.len_non, DM.bind_elim, DM.sb_elim, DM.bind_ite, DM.sb_ite, DM.elim_map, DM.elim_bind, DM.elim_ite, DM.elim_some, DM.elim_none, DM.map_map', DM.map_some', DM.map_ite, DM.andO_ok, DM.andO_elim, DM.and2_ok, DM.and2_elim, DM.and2_ite, DM.and2_t, DM.and2_f, DM.and2_stk, DM.or2_stk, DM.ite2_t, DM.ite2_f, DM.orO_ok, DM.orO_elim, DM.or2_ok, DM.or2_elim, DM.or2_ite, DM.or2_t, DM.or2_f, DM.notO_ok, DM.notO_elim, DM.notO_ite, DM.andO_ite, DM.orO_ite, DM.iteO_ok, DM.iteO_elim, DM.iteO_ite, DM.ite2_int, DM.ite2_bl, DM.ite2_tx, DM.ite2_def, DM.grd_t, DM.grd_tl, DM.grd_tr, DM.b_add, DM.b_sub, DM.b_mul, DM.b_fdiv, DM.b_mod, DM.b_pow, DM.n_neg, DM.b_addL, DM.b_addT, DM.b_addS, DM.b_mulL, DM.s_lst, DM.s_tup, DM.s_str, DM.s_t2i, DM.s_t3i, DM.s_0, DM.s_1, DM.s_2, DM.s_3, DM.s_4, DM.s_5, DM.s_6, DM.s_7, DM.h_0, DM.h_1, DM.h_2, DM.h_3, DM.h_4, DM.h_5, DM.h_6, DM.h_7, DM.sl_lst, DM.sl_tup, DM.sl_str, DM.l_lst, DM.l_tup, DM.l_str, List.length_map, DM.i_int, DM.i_bl, DM.o_bl, DM.o_int, DM.i_abs, DM.i_max, DM.i_min, DM.i_maxL, DM.i_minL, DM.i_sum, DM.i_sorted, DM.i_list, DM.i_listT, DM.i_tuple, DM.i_isi, DM.z_int, DM.z_bl, DM.z_str, DM.z_lst, DM.z_tup, DM.z_non, DM.c_lt, DM.c_le, DM.c_gt, DM.c_ge, DM.c_eq, DM.c_ne, DM.c_is, DM.c_isnot, DM.t_non, DM.t_bl, DM.t_int, DM.t_lst, DM.t_tup, DM.isEmpty_map', DM.in_ints, DM.eqD_int, DM.eqD_bl, DM.eqD_tx, DM.isNon_opt, DM.isNon_enc, DM.n_int, DM.n_bl, DM.n_str, DM.n_lst, DM.n_tup, DM.n_non, DM.notO_stk, DM.orO_stk, DM.andO_stk, DM.iteO_stk, DM.eta_t2, DM.eta_t3, DM.eta_t4, DM.eta_t5, DM.eta_h2, DM.eta_h3, DM.eta_h4, DM.eta_h5, DM.eta_tu, DM.getS_0, DM.getS_s, DM.set_0, DM.set_s, DM.at_0, DM.at_s, DM.wipe_nil, DM.wipe_cons, DM.keep_none, DM.keep_nil, DM.keep_cons, DM.map_none_nil, DM.map_none_cons, DM.pnO_f, DM.an_nx, DM.an_rt, DM.an_bk, DM.an_ct, DM.an_stk, DM.an_el, DM.an_ite, DM.an_rs, DM.nc_nx, DM.nc_ct, DM.nc_bk, DM.nc_rt, DM.nc_stk, DM.nc_el, DM.nc_ite, DM.nc_rs, DM.el_rs, DM.rs_go, DM.rs_rt, DM.ct_nx, DM.ct_bk, DM.ct_rt, DM.ss_nil, DM.ss_cons, DM.st_asg, DM.st_asT, DM.st_asI, DM.st_aug, DM.st_doc, DM.st_ex, DM.st_ite, DM.st_for1, DM.st_forT, DM.st_ret, DM.st_retN, DM.st_brk, DM.st_cnt, DM.st_pas, DM.st_fgt, DM.st_fzs, DM.fzsO_some, DM.someO_some, DM.augO_add, DM.augO_sub, DM.asI_eq, DM.it_sl, DM.it_vl, DM.it_r1, DM.it_r2, DM.r1O_int, DM.r2O_int, DM.walk_lst, DM.walk_tup, DM.walk_str, DM.walk_t2, DM.walk_t3, DM.wlist, DM.seqO_some, DM.wkO_def, DM.ev_lc, DM.lcO_n, DM.ev_lc2, DM.lc2O_n, DM.ev_muO, DM.muO_l, DM.mu2_l, DM.mu_app, DM.mu_pop, DM.mu_rev, DM.mu_clr, DM.callD_eq, DM.res_ok, DM.res_stk, DM.res_el, DM.tkL_nil, DM.tkL_cons, DM.tk1_some, DM.fzL_nil, DM.fzL_cons, DM.fz1_some, DM.mi_nil, DM.mi_m, DM.mi_v, DM.mi_b, DM.bi_nil, DM.bi_m, DM.bi_v, DM.bi_b, DM.ar_nil, DM.ar_v, DM.ar_m, DM.ar_b, DM.pt_nil, DM.pt_cons, DM.pt1_n, DM.atom_int, DM.atom_bl, DM.atom_str, DM.atom_non, DM.atom_lst, DM.atom_tup, DM.atom_enc, DM.selfc_lst, DM.fin_rt, DM.fin_nx, DM.fin_stk, DM.fin_el, DM.fin_ite, DM.fin_rs, DM.ga_nil, DM.ga_cons, DM.ga1_some, DM.kid_l, DM.kid_t, DM.kidO_some, DM.putL_nil, DM.putL_cons, DM.szO_0, DM.szO_1, DM.szO_2, DM.szO_3, DM.szO_4, DM.szO_5, DM.szO_6, DM.szO_7, DM.szO_8, DM.szO_9, DM.szO_10, DM.szO_11, DM.szO_12, DM.szO_13, DM.szO_14, DM.szO_15, DM.szO_16, DM.szO_17, DM.szO_18, DM.szO_19, DM.szO_20, DM.szO_21, DM.szO_22, DM.szO_23, DM.szO_24, DM.szO_25, DS.frz, DS.frzL, DM.frzL_map', DM.frz_enc, DM.rootFz_enc, DS.rootFz, DM.e_int, DM.e_bl, DM.e_tx, DM.e_un, DM.e_non, DM.e_som, DM.e_lst, DM.e_tu, DM.e_t2, DM.e_t3, DM.e_t4, DM.e_t5, DM.e_h2, DM.e_h3, DM.e_h4, DM.e_h5, DS.kAr, DS.kTm, DS.kArs, DS.kOAr, DS.kTms, DS.kCas, DS.kCa, DS.kTs, DS.kOTs, DS.kIt, DM.fz_int, DM.fz_bl, DM.fz_str, DM.fz_non, DM.fz_lst, DM.fz_tup, DM.fz_enc, List.contains_nil, List.contains_cons, List.any_nil, List.any_cons, List.all_nil, List.all_cons, List.length_cons, List.length_nil, Option.isSome_some, Bool.not_true, Bool.not_false, Bool.and_true, Bool.true_and, Bool.and_false, Bool.false_and, Bool.or_true, Bool.true_or, Bool.or_false, Bool.false_or, Bool.false_eq_true, eq_self, if_true, if_false, Option.isNone_none, Option.isNone_some, decide_true, decide_false, Nat.reduceAdd, Nat.reduceEqDiff, Nat.reduceBEq, DM.ty_int_int, DM.ty_int_bool, DM.ty_int_str, DM.ty_int_list, DM.ty_int_tuple, DM.ty_int_dict, DM.ty_bool_int, DM.ty_bool_bool, DM.ty_bool_str, DM.ty_bool_list, DM.ty_bool_tuple, DM.ty_bool_dict, DM.ty_str_int, DM.ty_str_bool, DM.ty_str_str, DM.ty_str_list, DM.ty_str_tuple, DM.ty_str_dict, DM.ty_list_int, DM.ty_list_bool, DM.ty_list_str, DM.ty_list_list, DM.ty_list_tuple, DM.ty_list_dict, DM.ty_tuple_int, DM.ty_tuple_bool, DM.ty_tuple_str, DM.ty_tuple_list, DM.ty_tuple_tuple, DM.ty_tuple_dict, DM.ty_dict_int, DM.ty_dict_bool, DM.ty_dict_str, DM.ty_dict_list, DM.ty_dict_tuple, DM.ty_dict_dict, ↓DM.bind_ok', ↓DM.bind_stk', ↓DM.bind_elim, ↓DM.bind_ite, ↓DM.sb_ok', ↓DM.sb_stk', ↓DM.sb_elim, ↓DM.sb_ite, ↓DM.an_nx, ↓DM.an_rt, ↓DM.an_bk, ↓DM.an_ct, ↓DM.an_stk, ↓DM.an_el, ↓DM.an_ite, ↓DM.an_rs, ↓DM.andO_ok, ↓DM.andO_elim, ↓DM.andO_stk, ↓DM.orO_ok, ↓DM.orO_elim, ↓DM.orO_stk, ↓DM.iteO_ok, ↓DM.iteO_elim, ↓DM.iteO_stk, ↓DM.notO_ok, ↓DM.chnO_some, ↓DM.tkL_nil, ↓DM.tkL_cons, ↓DM.tk1_some, ↓DM.fzL_nil, ↓DM.fzL_cons, ↓DM.fz1_some, ↓DM.elim_some, ↓DM.elim_none, ↓DM.and2_f, ↓DM.or2_t, ↓DM.grd_t, ↓if_true, ↓if_false]
/-! mirror of mul_ranges -/
theorem fn8_5 : SG8.fn 5 = sem5 := rfl
def f8_c1_i (v_a : (T2 Int Int)) (v_b : (T2 Int Int)) (v_x : Int) : Option (List Int) := some ([v_b.a0, v_b.a1])
def f8_c1_m (v_a : (T2 Int Int)) (v_b : (T2 Int Int)) (v_x : Int) (v_y : Int) : Option Int := (mulM v_x v_y).bind fun t1 => some t1
theorem f8_c1_hw (v_a_0 : Int) (v_a_1 : Int) (v_b_0 : Int) (v_b_1 : Int) (v_x : Int) : evIL SG8 f8_J1 [some (.tup false [(.int v_a_0), (.int v_a_1)]), some (.tup false [(.int v_b_0), (.int v_b_1)]), none, some (.int v_x), none] = (f8_c1_i (T2.mk v_a_0 v_a_1) (T2.mk v_b_0 v_b_1) v_x).elim .stk fun l => .ok (List.map enc l) [some (.tup false [(.int v_a_0), (.int v_a_1)]), some (.tup false [(.int v_b_0), (.int v_b_1)]), none, some (.int v_x), none] := by
  simp only [f8_J1, f8_c1_i, fn8_5, e5,
  DM.kbin1_a, DM.kbin2_a, DM.kneg_a, DM.kcmp1_a, DM.kcmp2_a, DM.kchn1_a, DM.kchn2_a, DM.kchn3_a, DM.ksub1_a, DM.ksub2_a, DM.kslc1_a, DM.kslc2_a, DM.kslc3_a, DM.kbi_a, DM.kme1_a, DM.kme2_a, DM.ktup_a, DM.klst_a, DM.ktst_a, DM.kas1_a, DM.kas2_a, DM.kts1_a, DM.kts2_a, DM.kav_a, DM.kvl_a, DM.kbl_a, DM.ktr_a, DM.kasg_a, DM.kasT_a, DM.kasI1_a, DM.kasI2_a, DM.kaug_a, DM.kex_a, DM.kif_a, DM.kfor_a, DM.kforT_a, DM.kret_a, DM.kr2_a, DM.klc_a, DM.klc2_a, DM.kmu_a, DM.kcl1_a, DM.kcl2_a, DM.kpre_a, DM.ev_int, DM.ev_bl, DM.ev_str, DM.ev_non, DM.ev_ty, DM.ev_gc, DM.ev_mv, DM.ev_tk, DM.mvO_some, DM.tkO_some, DM.ev_bin, DM.ev_neg, DM.ev_cmp, DM.chnO_some, DM.chn2_ok, DM.chn2_elim, DM.ev_chn, DM.ev_sub, DM.ev_slc, DM.ev_bi, DM.ev_me, DM.ev_tup, DM.ev_lst, DM.ev_call, DM.ev_ite, DM.ev_tst, DM.evA_pk, DM.evA_vl, DM.evPl_sl, DM.oaO_int, DM.evOA_none, DM.evOA_some, DM.evAs_nil, DM.evAs_cons, DM.evTs_nil, DM.evTs_cons, DM.evC_nil, DM.evC_bor, DM.evC_mt, DM.evC_vl, DM.evT_vl, DM.evT_tr, DM.evT_and, DM.evT_or, DM.evT_not, DM.blD_bl, DM.bind_ok', DM.bind_stk', DM.sb_ok', DM.sb_stk', DM.lift_some', DM.lift_none', DM.lift_def, DM.elim_same, ite_self, DM.sub_non, DM.len_non, DM.bind_elim, DM.sb_elim, DM.bind_ite, DM.sb_ite, DM.elim_map, DM.elim_bind, DM.elim_ite, DM.elim_some, DM.elim_none, DM.map_map', DM.map_some', DM.map_ite, DM.andO_ok, DM.andO_elim, DM.and2_ok, DM.and2_elim, DM.and2_ite, DM.and2_t, DM.and2_f, DM.and2_stk, DM.or2_stk, DM.ite2_t, DM.ite2_f, DM.orO_ok, DM.orO_elim, DM.or2_ok, DM.or2_elim, DM.or2_ite, DM.or2_t, DM.or2_f, DM.notO_ok, DM.notO_elim, DM.notO_ite, DM.andO_ite, DM.orO_ite, DM.iteO_ok, DM.iteO_elim, DM.iteO_ite, DM.ite2_int, DM.ite2_bl, DM.ite2_tx, DM.ite2_def, DM.grd_t, DM.grd_tl, DM.grd_tr, DM.b_add, DM.b_sub, DM.b_mul, DM.b_fdiv, DM.b_mod, DM.b_pow, DM.n_neg, DM.b_addL, DM.b_addT, DM.b_addS, DM.b_mulL, DM.s_lst, DM.s_tup, DM.s_str, DM.s_t2i, DM.s_t3i, DM.s_0, DM.s_1, DM.s_2, DM.s_3, DM.s_4, DM.s_5, DM.s_6, DM.s_7, DM.h_0, DM.h_1, DM.h_2, DM.h_3, DM.h_4, DM.h_5, DM.h_6, DM.h_7, DM.sl_lst, DM.sl_tup, DM.sl_str, DM.l_lst, DM.l_tup, DM.l_str, List.length_map, DM.i_int, DM.i_bl, DM.o_bl, DM.o_int, DM.i_abs, DM.i_max, DM.i_min, DM.i_maxL, DM.i_minL, DM.i_sum, DM.i_sorted, DM.i_list, DM.i_listT, DM.i_tuple, DM.i_isi, DM.z_int, DM.z_bl, DM.z_str, DM.z_lst, DM.z_tup, DM.z_non, DM.c_lt, DM.c_le, DM.c_gt, DM.c_ge, DM.c_eq, DM.c_ne, DM.c_is, DM.c_isnot, DM.t_non, DM.t_bl, DM.t_int, DM.t_lst, DM.t_tup, DM.isEmpty_map', DM.in_ints, DM.eqD_int, DM.eqD_bl, DM.eqD_tx, DM.isNon_opt, DM.isNon_enc, DM.n_int, DM.n_bl, DM.n_str, DM.n_lst, DM.n_tup, DM.n_non, DM.notO_stk, DM.orO_stk, DM.andO_stk, DM.iteO_stk, DM.eta_t2, DM.eta_t3, DM.eta_t4, DM.eta_t5, DM.eta_h2, DM.eta_h3, DM.eta_h4, DM.eta_h5, DM.eta_tu, DM.getS_0, DM.getS_s, DM.set_0, DM.set_s, DM.at_0, DM.at_s, DM.wipe_nil, DM.wipe_cons, DM.keep_none, DM.keep_nil, DM.keep_cons, DM.map_none_nil, DM.map_none_cons, DM.pnO_f, DM.an_nx, DM.an_rt, DM.an_bk, DM.an_ct, DM.an_stk, DM.an_el, DM.an_ite, DM.an_rs, DM.nc_nx, DM.nc_ct, DM.nc_bk, DM.nc_rt, DM.nc_stk, DM.nc_el, DM.nc_ite, DM.nc_rs, DM.el_rs, DM.rs_go, DM.rs_rt, DM.ct_nx, DM.ct_bk, DM.ct_rt, DM.ss_nil, DM.ss_cons, DM.st_asg, DM.st_asT, DM.st_asI, DM.st_aug, DM.st_doc, DM.st_ex, DM.st_ite, DM.st_for1, DM.st_forT, DM.st_ret, DM.st_retN, DM.st_brk, DM.st_cnt, DM.st_pas, DM.st_fgt, DM.st_fzs, DM.fzsO_some, DM.someO_some, DM.augO_add, DM.augO_sub, DM.asI_eq, DM.it_sl, DM.it_vl, DM.it_r1, DM.it_r2, DM.r1O_int, DM.r2O_int, DM.walk_lst, DM.walk_tup, DM.walk_str, DM.walk_t2, DM.walk_t3, DM.wlist, DM.seqO_some, DM.wkO_def, DM.ev_lc, DM.lcO_n, DM.ev_lc2, DM.lc2O_n, DM.ev_muO, DM.muO_l, DM.mu2_l, DM.mu_app, DM.mu_pop, DM.mu_rev, DM.mu_clr, DM.callD_eq, DM.res_ok, DM.res_stk, DM.res_el, DM.tkL_nil, DM.tkL_cons, DM.tk1_some, DM.fzL_nil, DM.fzL_cons, DM.fz1_some, DM.mi_nil, DM.mi_m, DM.mi_v, DM.mi_b, DM.bi_nil, DM.bi_m, DM.bi_v, DM.bi_b, DM.ar_nil, DM.ar_v, DM.ar_m, DM.ar_b, DM.pt_nil, DM.pt_cons, DM.pt1_n, DM.atom_int, DM.atom_bl, DM.atom_str, DM.atom_non, DM.atom_lst, DM.atom_tup, DM.atom_enc, DM.selfc_lst, DM.fin_rt, DM.fin_nx, DM.fin_stk, DM.fin_el, DM.fin_ite, DM.fin_rs, DM.ga_nil, DM.ga_cons, DM.ga1_some, DM.kid_l, DM.kid_t, DM.kidO_some, DM.putL_nil, DM.putL_cons, DM.szO_0, DM.szO_1, DM.szO_2, DM.szO_3, DM.szO_4, DM.szO_5, DM.szO_6, DM.szO_7, DM.szO_8, DM.szO_9, DM.szO_10, DM.szO_11, DM.szO_12, DM.szO_13, DM.szO_14, DM.szO_15, DM.szO_16, DM.szO_17, DM.szO_18, DM.szO_19, DM.szO_20, DM.szO_21, DM.szO_22, DM.szO_23, DM.szO_24, DM.szO_25, DS.frz, DS.frzL, DM.frzL_map', DM.frz_enc, DM.rootFz_enc, DS.rootFz, DM.e_int, DM.e_bl, DM.e_tx, DM.e_un, DM.e_non, DM.e_som, DM.e_lst, DM.e_tu, DM.e_t2, DM.e_t3, DM.e_t4, DM.e_t5, DM.e_h2, DM.e_h3, DM.e_h4, DM.e_h5, DS.kAr, DS.kTm, DS.kArs, DS.kOAr, DS.kTms, DS.kCas, DS.kCa, DS.kTs, DS.kOTs, DS.kIt, DM.fz_int, DM.fz_bl, DM.fz_str, DM.fz_non, DM.fz_lst, DM.fz_tup, DM.fz_enc, List.contains_nil, List.contains_cons, List.any_nil, List.any_cons, List.all_nil, List.all_cons, List.length_cons, List.length_nil, Option.isSome_some, Bool.not_true, Bool.not_false, Bool.and_true, Bool.true_and, Bool.and_false, Bool.false_and, Bool.or_true, Bool.true_or, Bool.or_false, Bool.false_or, Bool.false_eq_true, eq_self, if_true, if_false, Option.isNone_none, Option.isNone_some, decide_true, decide_false, Nat.reduceAdd, Nat.reduceEqDiff, Nat.reduceBEq, DM.ty_int_int, DM.ty_int_bool, DM.ty_int_str, DM.ty_int_list, DM.ty_int_tuple, DM.ty_int_dict, DM.ty_bool_int, DM.ty_bool_bool, DM.ty_bool_str, DM.ty_bool_list, DM.ty_bool_tuple, DM.ty_bool_dict, DM.ty_str_int, DM.ty_str_bool, DM.ty_str_str, DM.ty_str_list, DM.ty_str_tuple, DM.ty_str_dict, DM.ty_list_int, DM.ty_list_bool, DM.ty_list_str, DM.ty_list_list, DM.ty_list_tuple, DM.ty_list_dict, DM.ty_tuple_int, DM.ty_tuple_bool, DM.ty_tuple_str, DM.ty_tuple_list, DM.ty_tuple_tuple, DM.ty_tuple_dict, DM.ty_dict_int, DM.ty_dict_bool, DM.ty_dict_str, DM.ty_dict_list, DM.ty_dict_tuple, DM.ty_dict_dict, ↓DM.bind_ok', ↓DM.bind_stk', ↓DM.bind_elim, ↓DM.bind_ite, ↓DM.sb_ok', ↓DM.sb_stk', ↓DM.sb_elim, ↓DM.sb_ite, ↓DM.an_nx, ↓DM.an_rt, ↓DM.an_bk, ↓DM.an_ct, ↓DM.an_stk, ↓DM.an_el, ↓DM.an_ite, ↓DM.an_rs, ↓DM.andO_ok, ↓DM.andO_elim, ↓DM.andO_stk, ↓DM.orO_ok, ↓DM.orO_elim, ↓DM.orO_stk, ↓DM.iteO_ok, ↓DM.iteO_elim, ↓DM.iteO_stk, ↓DM.notO_ok, ↓DM.chnO_some, ↓DM.tkL_nil, ↓DM.tkL_cons, ↓DM.tk1_some, ↓DM.fzL_nil, ↓DM.fzL_cons, ↓DM.fz1_some, ↓DM.elim_some, ↓DM.elim_none, ↓DM.and2_f, ↓DM.or2_t, ↓DM.grd_t, ↓if_true, ↓if_false]
theorem f8_c1_he (v_a_0 : Int) (v_a_1 : Int) (v_b_0 : Int) (v_b_1 : Int) (v_x : Int) (v_y : Int) : ev SG8 f8_C1 [some (.tup false [(.int v_a_0), (.int v_a_1)]), some (.tup false [(.int v_b_0), (.int v_b_1)]), none, some (.int v_x), some (.int v_y)] = (f8_c1_m (T2.mk v_a_0 v_a_1) (T2.mk v_b_0 v_b_1) v_x v_y).elim .stk fun y => .ok (.int y) [some (.tup false [(.int v_a_0), (.int v_a_1)]), some (.tup false [(.int v_b_0), (.int v_b_1)]), none, some (.int v_x), some (.int v_y)] := by
  simp only [f8_C1, f8_c1_m, fn8_5, e5,
  DM.kbin1_a, DM.kbin2_a, DM.kneg_a, DM.kcmp1_a, DM.kcmp2_a, DM.kchn1_a, DM.kchn2_a, DM.kchn3_a, DM.ksub1_a, DM.ksub2_a, DM.kslc1_a, DM.kslc2_a, DM.kslc3_a, DM.kbi_a, DM.kme1_a, DM.kme2_a, DM.ktup_a, DM.klst_a, DM.ktst_a, DM.kas1_a, DM.kas2_a, DM.kts1_a, DM.kts2_a, DM.kav_a, DM.kvl_a, DM.kbl_a, DM.ktr_a, DM.kasg_a, DM.kasT_a, DM.kasI1_a, DM.kasI2_a, DM.kaug_a, DM.kex_a, DM.kif_a, DM.kfor_a, DM.kforT_a, DM.kret_a, DM.kr2_a, DM.klc_a, DM.klc2_a, DM.kmu_a, DM.kcl1_a, DM.kcl2_a, DM.kpre_a, DM.ev_int, DM.ev_bl, DM.ev_str, DM.ev_non, DM.ev_ty, DM.ev_gc, DM.ev_mv, DM.ev_tk, DM.mvO_some, DM.tkO_some, DM.ev_bin, DM.ev_neg, DM.ev_cmp, DM.chnO_some, DM.chn2_ok, DM.chn2_elim, DM.ev_chn, DM.ev_sub, DM.ev_slc, DM.ev_bi, DM.ev_me, DM.ev_tup, DM.ev_lst, DM.ev_call, DM.ev_ite, DM.ev_tst, DM.evA_pk, DM.evA_vl, DM.evPl_sl, DM.oaO_int, DM.evOA_none, DM.evOA_some, DM.evAs_nil, DM.evAs_cons, DM.evTs_nil, DM.evTs_cons, DM.evC_nil, DM.evC_bor, DM.evC_mt, DM.evC_vl, DM.evT_vl, DM.evT_tr, DM.evT_and, DM.evT_or, DM.evT_not, DM.blD_bl, DM.bind_ok', DM.bind_stk', DM.sb_ok', DM.sb_stk', DM.lift_some', DM.lift_none', DM.lift_def, DM.elim_same, ite_self, DM.sub_non, DM.len_non, DM.bind_elim, DM.sb_elim, DM.bind_ite, DM.sb_ite, DM.elim_map, DM.elim_bind, DM.elim_ite, DM.elim_some, DM.elim_none, DM.map_map', DM.map_some', DM.map_ite, DM.andO_ok, DM.andO_elim, DM.and2_ok, DM.and2_elim, DM.and2_ite, DM.and2_t, DM.and2_f, DM.and2_stk, DM.or2_stk, DM.ite2_t, DM.ite2_f, DM.orO_ok, DM.orO_elim, DM.or2_ok, DM.or2_elim, DM.or2_ite, DM.or2_t, DM.or2_f, DM.notO_ok, DM.notO_elim, DM.notO_ite, DM.andO_ite, DM.orO_ite, DM.iteO_ok, DM.iteO_elim, DM.iteO_ite, DM.ite2_int, DM.ite2_bl, DM.ite2_tx, DM.ite2_def, DM.grd_t, DM.grd_tl, DM.grd_tr, DM.b_add, DM.b_sub, DM.b_mul, DM.b_fdiv, DM.b_mod, DM.b_pow, DM.n_neg, DM.b_addL, DM.b_addT, DM.b_addS, DM.b_mulL, DM.s_lst, DM.s_tup, DM.s_str, DM.s_t2i, DM.s_t3i, DM.s_0, DM.s_1, DM.s_2, DM.s_3, DM.s_4, DM.s_5, DM.s_6, DM.s_7, DM.h_0, DM.h_1, DM.h_2, DM.h_3, DM.h_4, DM.h_5, DM.h_6, DM.h_7, DM.sl_lst, DM.sl_tup, DM.sl_str, DM.l_lst, DM.l_tup, DM.l_str, List.length_map, DM.i_int, DM.i_bl, DM.o_bl, DM.o_int, DM.i_abs, DM.i_max, DM.i_min, DM.i_maxL, DM.i_minL, DM.i_sum, DM.i_sorted, DM.i_list, DM.i_listT, DM.i_tuple, DM.i_isi, DM.z_int, DM.z_bl, DM.z_str, DM.z_lst, DM.z_tup, DM.z_non, DM.c_lt, DM.c_le, DM.c_gt, DM.c_ge, DM.c_eq, DM.c_ne, DM.c_is, DM.c_isnot, DM.t_non, DM.t_bl, DM.t_int, DM.t_lst, DM.t_tup, DM.isEmpty_map', DM.in_ints, DM.eqD_int, DM.eqD_bl, DM.eqD_tx, DM.isNon_opt, DM.isNon_enc, DM.n_int, DM.n_bl, DM.n_str, DM.n_lst, DM.n_tup, DM.n_non, DM.notO_stk, DM.orO_stk, DM.andO_stk, DM.iteO_stk, DM.eta_t2, DM.eta_t3, DM.eta_t4, DM.eta_t5, DM.eta_h2, DM.eta_h3, DM.eta_h4, DM.eta_h5, DM.eta_tu, DM.getS_0, DM.getS_s, DM.set_0, DM.set_s, DM.at_0, DM.at_s, DM.wipe_nil, DM.wipe_cons, DM.keep_none, DM.keep_nil, DM.keep_cons, DM.map_none_nil, DM.map_none_cons, DM.pnO_f, DM.an_nx, DM.an_rt, DM.an_bk, DM.an_ct, DM.an_stk, DM.an_el, DM.an_ite, DM.an_rs, DM.nc_nx, DM.nc_ct, DM.nc_bk, DM.nc_rt, DM.nc_stk, DM.nc_el, DM.nc_ite, DM.nc_rs, DM.el_rs, DM.rs_go, DM.rs_rt, DM.ct_nx, DM.ct_bk, DM.ct_rt, DM.ss_nil, DM.ss_cons, DM.st_asg, DM.st_asT, DM.st_asI, DM.st_aug, DM.st_doc, DM.st_ex, DM.st_ite, DM.st_for1, DM.st_forT, DM.st_ret, DM.st_retN, DM.st_brk, DM.st_cnt, DM.st_pas, DM.st_fgt, DM.st_fzs, DM.fzsO_some, DM.someO_some, DM.augO_add, DM.augO_sub, DM.asI_eq, DM.it_sl, DM.it_vl, DM.it_r1, DM.it_r2, DM.r1O_int, DM.r2O_int, DM.walk_lst, DM.walk_tup, DM.walk_str, DM.walk_t2, DM.walk_t3, DM.wlist, DM.seqO_some, DM.wkO_def, DM.ev_lc, DM.lcO_n, DM.ev_lc2, DM.lc2O_n, DM.ev_muO, DM.muO_l, DM.mu2_l, DM.mu_app, DM.mu_pop, DM.mu_rev, DM.mu_clr, DM.callD_eq, DM.res_ok, DM.res_stk, DM.res_el, DM.tkL_nil, DM.tkL_cons, DM.tk1_some, DM.fzL_nil, DM.fzL_cons, DM.fz1_some, DM.mi_nil, DM.mi_m, DM.mi_v, DM.mi_b, DM.bi_nil, DM.bi_m, DM.bi_v, DM.bi_b, DM.ar_nil, DM.ar_v, DM.ar_m, DM.ar_b, DM.pt_nil, DM.pt_cons, DM.pt1_n, DM.atom_int, DM.atom_bl, DM.atom_str, DM.atom_non, DM.atom_lst, DM.atom_tup, DM.atom_enc, DM.selfc_lst, DM.fin_rt, DM.fin_nx, DM.fin_stk, DM.fin_el, DM.fin_ite, DM.fin_rs, DM.ga_nil, DM.ga_cons, DM.ga1_some, DM.kid_l, DM.kid_t, DM.kidO_some, DM.putL_nil, DM.putL_cons, DM.szO_0, DM.szO_1, DM.szO_2, DM.szO_3, DM.szO_4, DM.szO_5, DM.szO_6, DM.szO_7, DM.szO_8, DM.szO_9, DM.szO_10, DM.szO_11, DM.szO_12, DM.szO_13, DM.szO_14, DM.szO_15, DM.szO_16, DM.szO_17, DM.szO_18, DM.szO_19, DM.szO_20, DM.szO_21, DM.szO_22, DM.szO_23, DM.szO_24, DM.szO_25, DS.frz, DS.frzL, DM.frzL_map', DM.frz_enc, DM.rootFz_enc, DS.rootFz, DM.e_int, DM.e_bl, DM.e_tx, DM.e_un, DM.e_non, DM.e_som, DM.e_lst, DM.e_tu, DM.e_t2, DM.e_t3, DM.e_t4, DM.e_t5, DM.e_h2, DM.e_h3, DM.e_h4, DM.e_h5, DS.kAr, DS.kTm, DS.kArs, DS.kOAr, DS.kTms, DS.kCas, DS.kCa, DS.kTs, DS.kOTs, DS.kIt, DM.fz_int, DM.fz_bl, DM.fz_str, DM.fz_non, DM.fz_lst, DM.fz_tup, DM.fz_enc, List.contains_nil, List.contains_cons, List.any_nil, List.any_cons, List.all_nil, List.all_cons, List.length_cons, List.length_nil, Option.isSome_some, Bool.not_true, Bool.not_false, Bool.and_true, Bool.true_and, Bool.and_false, Bool.false_and, Bool.or_true, Bool.true_or, Bool.or_false, Bool.false_or, Bool.false_eq_true, eq_self, if_true, if_false, Option.isNone_none, Option.isNone_some, decide_true, decide_false, Nat.reduceAdd, Nat.reduceEqDiff, Nat.reduceBEq, DM.ty_int_int, DM.ty_int_bool, DM.ty_int_str, DM.ty_int_list, DM.ty_int_tuple, DM.ty_int_dict, DM.ty_bool_int, DM.ty_bool_bool, DM.ty_bool_str, DM.ty_bool_list, DM.ty_bool_tuple, DM.ty_bool_dict, DM.ty_str_int, DM.ty_str_bool, DM.ty_str_str, DM.ty_str_list, DM.ty_str_tuple, DM.ty_str_dict, DM.ty_list_int, DM.ty_list_bool, DM.ty_list_str, DM.ty_list_list, DM.ty_list_tuple, DM.ty_list_dict, DM.ty_tuple_int, DM.ty_tuple_bool, DM.ty_tuple_str, DM.ty_tuple_list, DM.ty_tuple_tuple, DM.ty_tuple_dict, DM.ty_dict_int, DM.ty_dict_bool, DM.ty_dict_str, DM.ty_dict_list, DM.ty_dict_tuple, DM.ty_dict_dict, ↓DM.bind_ok', ↓DM.bind_stk', ↓DM.bind_elim, ↓DM.bind_ite, ↓DM.sb_ok', ↓DM.sb_stk', ↓DM.sb_elim, ↓DM.sb_ite, ↓DM.an_nx, ↓DM.an_rt, ↓DM.an_bk, ↓DM.an_ct, ↓DM.an_stk, ↓DM.an_el, ↓DM.an_ite, ↓DM.an_rs, ↓DM.andO_ok, ↓DM.andO_elim, ↓DM.andO_stk, ↓DM.orO_ok, ↓DM.orO_elim, ↓DM.orO_stk, ↓DM.iteO_ok, ↓DM.iteO_elim, ↓DM.iteO_stk, ↓DM.notO_ok, ↓DM.chnO_some, ↓DM.tkL_nil, ↓DM.tkL_cons, ↓DM.tk1_some, ↓DM.fzL_nil, ↓DM.fzL_cons, ↓DM.fz1_some, ↓DM.elim_some, ↓DM.elim_none, ↓DM.and2_f, ↓DM.or2_t, ↓DM.grd_t, ↓if_true, ↓if_false]
theorem f8_c1_eq (v_a_0 : Int) (v_a_1 : Int) (v_b_0 : Int) (v_b_1 : Int) (l : List Int) : lcO2 3 4 (evI SG8 f8_J1) (ev SG8 f8_C1) (List.map enc l) [] [some (.tup false [(.int v_a_0), (.int v_a_1)]), some (.tup false [(.int v_b_0), (.int v_b_1)]), none, none, none] = (lc2M (f8_c1_i (T2.mk v_a_0 v_a_1) (T2.mk v_b_0 v_b_1)) (f8_c1_m (T2.mk v_a_0 v_a_1) (T2.mk v_b_0 v_b_1)) l []).elim Out.stk fun z => Out.ok (D.lst true (List.map enc z)) [some (.tup false [(.int v_a_0), (.int v_a_1)]), some (.tup false [(.int v_b_0), (.int v_b_1)]), none, none, none] :=
  lc2_eq SG8 3 4 _ _ [some (.tup false [(.int v_a_0), (.int v_a_1)]), some (.tup false [(.int v_b_0), (.int v_b_1)]), none, none, none] _ _ (by decide) rfl (f8_c1_hw v_a_0 v_a_1 v_b_0 v_b_1) (f8_c1_he v_a_0 v_a_1 v_b_0 v_b_1) l [] _ (.inl rfl)
def m8 (v_a : (T2 Int Int)) (v_b : (T2 Int Int)) : Option (T2 Int Int) :=
  (lc2M (f8_c1_i v_a v_b) (f8_c1_m v_a v_b) ([v_a.a0, v_a.a1]) []).bind fun t1 =>
  (minM t1).bind fun t2 =>
  (maxM t1).bind fun t3 =>
  (m5 t2 t3).bind fun t4 =>
  some t4
theorem e8 (v_a_0 : Int) (v_a_1 : Int) (v_b_0 : Int) (v_b_1 : Int) : sem8 [(.tup false [(.int v_a_0), (.int v_a_1)]), (.tup false [(.int v_b_0), (.int v_b_1)])] = (m8 (T2.mk v_a_0 v_a_1) (T2.mk v_b_0 v_b_1)).elim .stk fun r => .ok (.tup false [(.int r.a0), (.int r.a1)]) [] := by
  refine (def_eq _ _ _ _ _).trans ?_
  show fin [] (evSs SG8 [] b8 [some (.tup false [(.int v_a_0), (.int v_a_1)]), some (.tup false [(.int v_b_0), (.int v_b_1)]), none, none, none]) = _
  simp only [b8, m8, f8_c1_eq, fn8_5, e5,
  DM.kbin1_a, DM.kbin2_a, DM.kneg_a, DM.kcmp1_a, DM.kcmp2_a, DM.kchn1_a, DM.kchn2_a, DM.kchn3_a, DM.ksub1_a, DM.ksub2_a, DM.kslc1_a, DM.kslc2_a, DM.kslc3_a, DM.kbi_a, DM.kme1_a, DM.kme2_a, DM.ktup_a, DM.klst_a, DM.ktst_a, DM.kas1_a, DM.kas2_a, DM.kts1_a, DM.kts2_a, DM.kav_a, DM.kvl_a, DM.kbl_a, DM.ktr_a, DM.kasg_a, DM.kasT_a, DM.kasI1_a, DM.kasI2_a, DM.kaug_a, DM.kex_a, DM.kif_a, DM.kfor_a, DM.kforT_a, DM.kret_a, DM.kr2_a, DM.klc_a, DM.klc2_a, DM.kmu_a, DM.kcl1_a, DM.kcl2_a, DM.kpre_a, DM.ev_int, DM.ev_bl, DM.ev_str, DM.ev_non, DM.ev_ty, DM.ev_gc, DM.ev_mv, DM.ev_tk, DM.mvO_some, DM.tkO_some, DM.ev_bin, DM.ev_neg, DM.ev_cmp, DM.chnO_some, DM.chn2_ok, DM.chn2_elim, DM.ev_chn, DM.ev_sub, DM.ev_slc, DM.ev_bi, DM.ev_me, DM.ev_tup, DM.ev_lst, DM.ev_call, DM.ev_ite, DM.ev_tst, DM.evA_pk, DM.evA_vl, DM.evPl_sl, DM.oaO_int, DM.evOA_none, DM.evOA_some, DM.evAs_nil, DM.evAs_cons, DM.evTs_nil, DM.evTs_cons, DM.evC_nil, DM.evC_bor, DM.evC_mt, DM.evC_vl, DM.evT_vl, DM.evT_tr, DM.evT_and, DM.evT_or, DM.evT_not, DM.blD_bl, DM.bind_ok', DM.bind_stk', DM.sb_ok', DM.sb_stk', DM.lift_some', DM.lift_none', DM.lift_def, DM.elim_same, ite_self, DM.sub_non, DM.len_non, DM.bind_elim, DM.sb_elim, DM.bind_ite, DM.sb_ite, DM.elim_map, DM.elim_bind, DM.elim_ite, DM.elim_some, DM.elim_none, DM.map_map', DM.map_some', DM.map_ite, DM.andO_ok, DM.andO_elim, DM.and2_ok, DM.and2_elim, DM.and2_ite, DM.and2_t, DM.and2_f, DM.and2_stk, DM.or2_stk, DM.ite2_t, DM.ite2_f, DM.orO_ok, DM.orO_elim, DM.or2_ok, DM.or2_elim, DM.or2_ite, DM.or2_t, DM.or2_f, DM.notO_ok, DM.notO_elim, DM.notO_ite, DM.andO_ite, DM.orO_ite, DM.iteO_ok, DM.iteO_elim, DM.iteO_ite, DM.ite2_int, DM.ite2_bl, DM.ite2_tx, DM.ite2_def, DM.grd_t, DM.grd_tl, DM.grd_tr, DM.b_add, DM.b_sub, DM.b_mul, DM.b_fdiv, DM.b_mod, DM.b_pow, DM.n_neg, DM.b_addL, DM.b_addT, DM.b_addS, DM.b_mulL, DM.s_lst, DM.s_tup, DM.s_str, DM.s_t2i, DM.s_t3i, DM.s_0, DM.s_1, DM.s_2, DM.s_3, DM.s_4, DM.s_5, DM.s_6, DM.s_7, DM.h_0, DM.h_1, DM.h_2, DM.h_3, DM.h_4, DM.h_5, DM.h_6, DM.h_7, DM.sl_lst, DM.sl_tup, DM.sl_str, DM.l_lst, DM.l_tup, DM.l_str, List.length_map, DM.i_int, DM.i_bl, DM.o_bl, DM.o_int, DM.i_abs, DM.i_max, DM.i_min, DM.i_maxL, DM.i_minL, DM.i_sum, DM.i_sorted, DM.i_list, DM.i_listT, DM.i_tuple, DM.i_isi, DM.z_int, DM.z_bl, DM.z_str, DM.z_lst, DM.z_tup, DM.z_non, DM.c_lt, DM.c_le, DM.c_gt, DM.c_ge, DM.c_eq, DM.c_ne, DM.c_is, DM.c_isnot, DM.t_non, DM.t_bl, DM.t_int, DM.t_lst, DM.t_tup, DM.isEmpty_map', DM.in_ints, DM.eqD_int, DM.eqD_bl, DM.eqD_tx, DM.isNon_opt, DM.isNon_enc, DM.n_int, DM.n_bl, DM.n_str, DM.n_lst, DM.n_tup, DM.n_non, DM.notO_stk, DM.orO_stk, DM.andO_stk, DM.iteO_stk, DM.eta_t2, DM.eta_t3, DM.eta_t4, DM.eta_t5, DM.eta_h2, DM.eta_h3, DM.eta_h4, DM.eta_h5, DM.eta_tu, DM.getS_0, DM.getS_s, DM.set_0, DM.set_s, DM.at_0, DM.at_s, DM.wipe_nil, DM.wipe_cons, DM.keep_none, DM.keep_nil, DM.keep_cons, DM.map_none_nil, DM.map_none_cons, DM.pnO_f, DM.an_nx, DM.an_rt, DM.an_bk, DM.an_ct, DM.an_stk, DM.an_el, DM.an_ite, DM.an_rs, DM.nc_nx, DM.nc_ct, DM.nc_bk, DM.nc_rt, DM.nc_stk, DM.nc_el, DM.nc_ite, DM.nc_rs, DM.el_rs, DM.rs_go, DM.rs_rt, DM.ct_nx, DM.ct_bk, DM.ct_rt, DM.ss_nil, DM.ss_cons, DM.st_asg, DM.st_asT, DM.st_asI, DM.st_aug, DM.st_doc, DM.st_ex, DM.st_ite, DM.st_for1, DM.st_forT, DM.st_ret, DM.st_retN, DM.st_brk, DM.st_cnt, DM.st_pas, DM.st_fgt, DM.st_fzs, DM.fzsO_some, DM.someO_some, DM.augO_add, DM.augO_sub, DM.asI_eq, DM.it_sl, DM.it_vl, DM.it_r1, DM.it_r2, DM.r1O_int, DM.r2O_int, DM.walk_lst, DM.walk_tup, DM.walk_str, DM.walk_t2, DM.walk_t3, DM.wlist, DM.seqO_some, DM.wkO_def, DM.ev_lc, DM.lcO_n, DM.ev_lc2, DM.lc2O_n, DM.ev_muO, DM.muO_l, DM.mu2_l, DM.mu_app, DM.mu_pop, DM.mu_rev, DM.mu_clr, DM.callD_eq, DM.res_ok, DM.res_stk, DM.res_el, DM.tkL_nil, DM.tkL_cons, DM.tk1_some, DM.fzL_nil, DM.fzL_cons, DM.fz1_some, DM.mi_nil, DM.mi_m, DM.mi_v, DM.mi_b, DM.bi_nil, DM.bi_m, DM.bi_v, DM.bi_b, DM.ar_nil, DM.ar_v, DM.ar_m, DM.ar_b, DM.pt_nil, DM.pt_cons, DM.pt1_n, DM.atom_int, DM.atom_bl, DM.atom_str, DM.atom_non, DM.atom_lst, DM.atom_tup, DM.atom_enc, DM.selfc_lst, DM.fin_rt, DM.fin_nx, DM.fin_stk, DM.fin_el, DM.fin_ite, DM.fin_rs, DM.ga_nil, DM.ga_cons, DM.ga1_some, DM.kid_l, DM.kid_t, DM.kidO_some, DM.putL_nil, DM.putL_cons, DM.szO_0, DM.szO_1, DM.szO_2, DM.szO_3, DM.szO_4, DM.szO_5, DM.szO_6, DM.szO_7, DM.szO_8, DM.szO_9, DM.szO_10, DM.szO_11, DM.szO_12, DM.szO_13, DM.szO_14, DM.szO_15, DM.szO_16, DM.szO_17, DM.szO_18, DM.szO_19, DM.szO_20, DM.szO_21, DM.szO_22, DM.szO_23, DM.szO_24, DM.szO_25, DS.frz, DS.frzL, DM.frzL_map', DM.frz_enc, DM.rootFz_enc, DS.rootFz, DM.e_int, DM.e_bl, DM.e_tx, DM.e_un, DM.e_non, DM.e_som, DM.e_lst, DM.e_tu, DM.e_t2, DM.e_t3, DM.e_t4, DM.e_t5, DM.e_h2, DM.e_h3, DM.e_h4, DM.e_h5, DS.kAr, DS.kTm, DS.kArs, DS.kOAr, DS.kTms, DS.kCas, DS.kCa, DS.kTs, DS.kOTs, DS.kIt, DM.fz_int, DM.fz_bl, DM.fz_str, DM.fz_non, DM.fz_lst, DM.fz_tup, DM.fz_enc, List.contains_nil, List.contains_cons, List.any_nil, List.any_cons, List.all_nil, List.all_cons, List.length_cons, List.length_nil, Option.isSome_some, Bool.not_true, Bool.not_false, Bool.and_true, Bool.true_and, Bool.and_false, Bool.false_and, Bool.or_true, Bool.true_or, Bool.or_false, Bool.false_or, Bool.false_eq_true, eq_self, if_true, if_false, Option.isNone_none, Option.isNone_some, decide_true, decide_false, Nat.reduceAdd, Nat.reduceEqDiff, Nat.reduceBEq, DM.ty_int_int, DM.ty_int_bool, DM.ty_int_str, DM.ty_int_list, DM.ty_int_tuple, DM.ty_int_dict, DM.ty_bool_int, DM.ty_bool_bool, DM.ty_bool_str, DM.ty_bool_list, DM.ty_bool_tuple, DM.ty_bool_dict, DM.ty_str_int, DM.ty_str_bool, DM.ty_str_str, DM.ty_str_list, DM.ty_str_tuple, DM.ty_str_dict, DM.ty_list_int, DM.ty_list_bool, DM.ty_list_str, DM.ty_list_list, DM.ty_list_tuple, DM.ty_list_dict, DM.ty_tuple_int, DM.ty_tuple_bool, DM.ty_tuple_str, DM.ty_tuple_list, DM.ty_tuple_tuple, DM.ty_tuple_dict, DM.ty_dict_int, DM.ty_dict_bool, DM.ty_dict_str, DM.ty_dict_list, DM.ty_dict_tuple, DM.ty_dict_dict, ↓DM.bind_ok', ↓DM.bind_stk', ↓DM.bind_elim, ↓DM.bind_ite, ↓DM.sb_ok', ↓DM.sb_stk', ↓DM.sb_elim, ↓DM.sb_ite, ↓DM.an_nx, ↓DM.an_rt, ↓DM.an_bk, ↓DM.an_ct, ↓DM.an_stk, ↓DM.an_el, ↓DM.an_ite, ↓DM.an_rs, ↓DM.andO_ok, ↓DM.andO_elim, ↓DM.andO_stk, ↓DM.orO_ok, ↓DM.orO_elim, ↓DM.orO_stk, ↓DM.iteO_ok, ↓DM.iteO_elim, ↓DM.iteO_stk, ↓DM.notO_ok, ↓DM.chnO_some, ↓DM.tkL_nil, ↓DM.tkL_cons, ↓DM.tk1_some, ↓DM.fzL_nil, ↓DM.fzL_cons, ↓DM.fz1_some, ↓DM.elim_some, ↓DM.elim_none, ↓DM.and2_f, ↓DM.or2_t, ↓DM.grd_t, ↓if_true, ↓if_false]
/-! mirror of _law_cell -/
def m9 (v_script : (List Int)) (v_k : Int) : Option Int :=
  if (decide (v_k < (v_script.length : Int))) = true then
  (subM v_script v_k).bind fun t1 =>
  some t1
  else
  some (0)
theorem e9 (v_script : (List Int)) (v_k : Int) : sem9 [(.lst false (List.map enc v_script)), (.int v_k)] = (m9 v_script v_k).elim .stk fun r => .ok (.int r) [] := by
  refine (def_eq _ _ _ _ _).trans ?_
  show fin [] (evSs SG9 [] b9 [some (.lst false (List.map enc v_script)), some (.int v_k)]) = _
  simp only [b9, m9, DM.kbin1_a, DM.kbin2_a, DM.kneg_a, DM.kcmp1_a, DM.kcmp2_a, DM.kchn1_a, DM.kchn2_a, DM.kchn3_a, DM.ksub1_a, DM.ksub2_a, DM.kslc1_a, DM.kslc2_a, DM.kslc3_a, DM.kbi_a, DM.kme1_a, DM.kme2_a, DM.ktup_a, DM.klst_a, DM.ktst_a, DM.kas1_a, DM.kas2_a, DM.kts1_a, DM.kts2_a, DM.kav_a, DM.kvl_a, DM.kbl_a, DM.ktr_a, DM.kasg_a, DM.kasT_a, DM.kasI1_a, DM.kasI2_a, DM.kaug_a, DM.kex_a, DM.kif_a, DM.kfor_a, DM.kforT_a, DM.kret_a, DM.kr2_a, DM.klc_a, DM.klc2_a, DM.kmu_a, DM.kcl1_a, DM.kcl2_a, DM.kpre_a, DM.ev_int, DM.ev_bl, DM.ev_str, DM.ev_non, DM.ev_ty, DM.ev_gc, DM.ev_mv, DM.ev_tk, DM.mvO_some, DM.tkO_some, DM.ev_bin, DM.ev_neg, DM.ev_cmp, DM.chnO_some, DM.chn2_ok, DM.chn2_elim, DM.ev_chn, DM.ev_sub, DM.ev_slc, DM.ev_bi, DM.ev_me, DM.ev_tup, DM.ev_lst, DM.ev_call, DM.ev_ite, DM.ev_tst, DM.evA_pk, DM.evA_vl, DM.evPl_sl, DM.oaO_int, DM.evOA_none, DM.evOA_some, DM.evAs_nil, DM.evAs_cons, DM.evTs_nil, DM.evTs_cons, DM.evC_nil, DM.evC_bor, DM.evC_mt, DM.evC_vl, DM.evT_vl, DM.evT_tr, DM.evT_and, DM.evT_or, DM.evT_not, DM.blD_bl, DM.bind_ok', DM.bind_stk', DM.sb_ok', DM.sb_stk', DM.lift_some', DM.lift_none', DM.lift_def, DM.elim_same, ite_self, DM.sub_non, DM.len_non, DM.bind_elim, DM.sb_elim, DM.bind_ite, DM.sb_ite, DM.elim_map, DM.elim_bind, DM.elim_ite, DM.elim_some, DM.elim_none, DM.map_map', DM.map_some', DM.map_ite, DM.andO_ok, DM.andO_elim, DM.and2_ok, DM.and2_elim, DM.and2_ite, DM.and2_t, DM.and2_f, DM.and2_stk, DM.or2_stk, DM.ite2_t, DM.ite2_f, DM.orO_ok, DM.orO_elim, DM.or2_ok, DM.or2_elim, DM.or2_ite, DM.or2_t, DM.or2_f, DM.notO_ok, DM.notO_elim, DM.notO_ite, DM.andO_ite, DM.orO_ite, DM.iteO_ok, DM.iteO_elim, DM.iteO_ite, DM.ite2_int, DM.ite2_bl, DM.ite2_tx, DM.ite2_def, DM.grd_t, DM.grd_tl, DM.grd_tr, DM.b_add, DM.b_sub, DM.b_mul, DM.b_fdiv, DM.b_mod, DM.b_pow, DM.n_neg, DM.b_addL, DM.b_addT, DM.b_addS, DM.b_mulL, DM.s_lst, DM.s_tup, DM.s_str, DM.s_t2i, DM.s_t3i, DM.s_0, DM.s_1, DM.s_2, DM.s_3, DM.s_4, DM.s_5, DM.s_6, DM.s_7, DM.h_0, DM.h_1, DM.h_2, DM.h_3, DM.h_4, DM.h_5, DM.h_6, DM.h_7, DM.sl_lst, DM.sl_tup, DM.sl_str, DM.l_lst, DM.l_tup, DM.l_str, List.length_map, DM.i_int, DM.i_bl, DM.o_bl, DM.o_int, DM.i_abs, DM.i_max, DM.i_min, DM.i_maxL, DM.i_minL, DM.i_sum, DM.i_sorted, DM.i_list, DM.i_listT, DM.i_tuple, DM.i_isi, DM.z_int, DM.z_bl, DM.z_str, DM.z_lst, DM.z_tup, DM.z_non, DM.c_lt, DM.c_le, DM.c_gt, DM.c_ge, DM.c_eq, DM.c_ne, DM.c_is, DM.c_isnot, DM.t_non, DM.t_bl, DM.t_int, DM.t_lst, DM.t_tup, DM.isEmpty_map', DM.in_ints, DM.eqD_int, DM.eqD_bl, DM.eqD_tx, DM.isNon_opt, DM.isNon_enc, DM.n_int, DM.n_bl, DM.n_str, DM.n_lst, DM.n_tup, DM.n_non, DM.notO_stk, DM.orO_stk, DM.andO_stk, DM.iteO_stk, DM.eta_t2, DM.eta_t3, DM.eta_t4, DM.eta_t5, DM.eta_h2, DM.eta_h3, DM.eta_h4, DM.eta_h5, DM.eta_tu, DM.getS_0, DM.getS_s, DM.set_0, DM.set_s, DM.at_0, DM.at_s, DM.wipe_nil, DM.wipe_cons, DM.keep_none, DM.keep_nil, DM.keep_cons, DM.map_none_nil, DM.map_none_cons, DM.pnO_f, DM.an_nx, DM.an_rt, DM.an_bk, DM.an_ct, DM.an_stk, DM.an_el, DM.an_ite, DM.an_rs, DM.nc_nx, DM.nc_ct, DM.nc_bk, DM.nc_rt, DM.nc_stk, DM.nc_el, DM.nc_ite, DM.nc_rs, DM.el_rs, DM.rs_go, DM.rs_rt, DM.ct_nx, DM.ct_bk, DM.ct_rt, DM.ss_nil, DM.ss_cons, DM.st_asg, DM.st_asT, DM.st_asI, DM.st_aug, DM.st_doc, DM.st_ex, DM.st_ite, DM.st_for1, DM.st_forT, DM.st_ret, DM.st_retN, DM.st_brk, DM.st_cnt, DM.st_pas, DM.st_fgt, DM.st_fzs, DM.fzsO_some, DM.someO_some, DM.augO_add, DM.augO_sub, DM.asI_eq, DM.it_sl, DM.it_vl, DM.it_r1, DM.it_r2, DM.r1O_int, DM.r2O_int, DM.walk_lst, DM.walk_tup, DM.walk_str, DM.walk_t2, DM.walk_t3, DM.wlist, DM.seqO_some, DM.wkO_def, DM.ev_lc, DM.lcO_n, DM.ev_lc2, DM.lc2O_n, DM.ev_muO, DM.muO_l, DM.mu2_l, DM.mu_app, DM.mu_pop, DM.mu_rev, DM.mu_clr, DM.callD_eq, DM.res_ok, DM.res_stk, DM.res_el, DM.tkL_nil, DM.tkL_cons, DM.tk1_some, DM.fzL_nil, DM.fzL_cons, DM.fz1_some, DM.mi_nil, DM.mi_m, DM.mi_v, DM.mi_b, DM.bi_nil, DM.bi_m, DM.bi_v, DM.bi_b, DM.ar_nil, DM.ar_v, DM.ar_m, DM.ar_b, DM.pt_nil, DM.pt_cons, DM.pt1_n, DM.atom_int, DM.atom_bl, DM.atom_str, DM.atom_non, DM.atom_lst, DM.atom_tup, DM.atom_enc, DM.selfc_lst, DM.fin_rt, DM.fin_nx, DM.fin_stk, DM.fin_el, DM.fin_ite, DM.fin_rs, DM.ga_nil, DM.ga_cons, DM.ga1_some, DM.kid_l, DM.kid_t, DM.kidO_some, DM.putL_nil, DM.putL_cons, DM.szO_0, DM.szO_1, DM.szO_2, DM.szO_3, DM.szO_4, DM.szO_5, DM.szO_6, DM.szO_7, DM.szO_8, DM.szO_9, DM.szO_10, DM.szO_11, DM.szO_12, DM.szO_13, DM.szO_14, DM.szO_15, DM.szO_16, DM.szO_17, DM.szO_18, DM.szO_19, DM.szO_20, DM.szO_21, DM.szO_22, DM.szO_23, DM.szO_24, DM.szO_25, DS.frz, DS.frzL, DM.frzL_map', DM.frz_enc, DM.rootFz_enc, DS.rootFz, DM.e_int, DM.e_bl, DM.e_tx, DM.e_un, DM.e_non, DM.e_som, DM.e_lst, DM.e_tu, DM.e_t2, DM.e_t3, DM.e_t4, DM.e_t5, DM.e_h2, DM.e_h3, DM.e_h4, DM.e_h5, DS.kAr, DS.kTm, DS.kArs, DS.kOAr, DS.kTms, DS.kCas, DS.kCa, DS.kTs, DS.kOTs, DS.kIt, DM.fz_int, DM.fz_bl, DM.fz_str, DM.fz_non, DM.fz_lst, DM.fz_tup, DM.fz_enc, List.contains_nil, List.contains_cons, List.any_nil, List.any_cons, List.all_nil, List.all_cons, List.length_cons, List.length_nil, Option.isSome_some, Bool.not_true, Bool.not_false, Bool.and_true, Bool.true_and, Bool.and_false, Bool.false_and, Bool.or_true, Bool.true_or, Bool.or_false, Bool.false_or, Bool.false_eq_true, eq_self, if_true, if_false, Option.isNone_none, Option.isNone_some, decide_true, decide_false, Nat.reduceAdd, Nat.reduceEqDiff, Nat.reduceBEq, DM.ty_int_int, DM.ty_int_bool, DM.ty_int_str, DM.ty_int_list, DM.ty_int_tuple, DM.ty_int_dict, DM.ty_bool_int, DM.ty_bool_bool, DM.ty_bool_str, DM.ty_bool_list, DM.ty_bool_tuple, DM.ty_bool_dict, DM.ty_str_int, DM.ty_str_bool, DM.ty_str_str, DM.ty_str_list, DM.ty_str_tuple, DM.ty_str_dict, DM.ty_list_int, DM.ty_list_bool, DM.ty_list_str, DM.ty_list_list, DM.ty_list_tuple, DM.ty_list_dict, DM.ty_tuple_int, DM.ty_tuple_bool, DM.ty_tuple_str, DM.ty_tuple_list, DM.ty_tuple_tuple, DM.ty_tuple_dict, DM.ty_dict_int, DM.ty_dict_bool, DM.ty_dict_str, DM.ty_dict_list, DM.ty_dict_tuple, DM.ty_dict_dict, ↓DM.bind_ok', ↓DM.bind_stk', ↓DM.bind_elim, ↓DM.bind_ite, ↓DM.sb_ok', ↓DM.sb_stk', ↓DM.sb_elim, ↓DM.sb_ite, ↓DM.an_nx, ↓DM.an_rt, ↓DM.an_bk, ↓DM.an_ct, ↓DM.an_stk, ↓DM.an_el, ↓DM.an_ite, ↓DM.an_rs, ↓DM.andO_ok, ↓DM.andO_elim, ↓DM.andO_stk, ↓DM.orO_ok, ↓DM.orO_elim, ↓DM.orO_stk, ↓DM.iteO_ok, ↓DM.iteO_elim, ↓DM.iteO_stk, ↓DM.notO_ok, ↓DM.chnO_some, ↓DM.tkL_nil, ↓DM.tkL_cons, ↓DM.tk1_some, ↓DM.fzL_nil, ↓DM.fzL_cons, ↓DM.fz1_some, ↓DM.elim_some, ↓DM.elim_none, ↓DM.and2_f, ↓DM.or2_t, ↓DM.grd_t, ↓if_true, ↓if_false]
/-! mirror of _law_end -/
def f10_i1 (v_rest : Int) : Option Int :=
  if (decide ((absI v_rest) < (1000000000000000))) = true then
  (mulM v_rest (11400714819323198485)).bind fun t1 =>
  some (t1 + (7046029254386353131))
  else
  some v_rest
theorem f10_i1_eq (v_rest : Int) : evS SG10 [] f10_I1 [none, some (.int v_rest)] = (f10_i1 v_rest).elim .stk fun s => .nx [none, some (.int s)] := by
  simp only [f10_I1, f10_i1, DM.kbin1_a, DM.kbin2_a, DM.kneg_a, DM.kcmp1_a, DM.kcmp2_a, DM.kchn1_a, DM.kchn2_a, DM.kchn3_a, DM.ksub1_a, DM.ksub2_a, DM.kslc1_a, DM.kslc2_a, DM.kslc3_a, DM.kbi_a, DM.kme1_a, DM.kme2_a, DM.ktup_a, DM.klst_a, DM.ktst_a, DM.kas1_a, DM.kas2_a, DM.kts1_a, DM.kts2_a, DM.kav_a, DM.kvl_a, DM.kbl_a, DM.ktr_a, DM.kasg_a, DM.kasT_a, DM.kasI1_a, DM.kasI2_a, DM.kaug_a, DM.kex_a, DM.kif_a, DM.kfor_a, DM.kforT_a, DM.kret_a, DM.kr2_a, DM.klc_a, DM.klc2_a, DM.kmu_a, DM.kcl1_a, DM.kcl2_a, DM.kpre_a, DM.ev_int, DM.ev_bl, DM.ev_str, DM.ev_non, DM.ev_ty, DM.ev_gc, DM.ev_mv, DM.ev_tk, DM.mvO_some, DM.tkO_some, DM.ev_bin, DM.ev_neg, DM.ev_cmp, DM.chnO_some, DM.chn2_ok, DM.chn2_elim, DM.ev_chn, DM.ev_sub, DM.ev_slc, DM.ev_bi, DM.ev_me, DM.ev_tup, DM.ev_lst, DM.ev_call, DM.ev_ite, DM.ev_tst, DM.evA_pk, DM.evA_vl, DM.evPl_sl, DM.oaO_int, DM.evOA_none, DM.evOA_some, DM.evAs_nil, DM.evAs_cons, DM.evTs_nil, DM.evTs_cons, DM.evC_nil, DM.evC_bor, DM.evC_mt, DM.evC_vl, DM.evT_vl, DM.evT_tr, DM.evT_and, DM.evT_or, DM.evT_not, DM.blD_bl, DM.bind_ok', DM.bind_stk', DM.sb_ok', DM.sb_stk', DM.lift_some', DM.lift_none', DM.lift_def, DM.elim_same, ite_self, DM.sub_non, DM.len_non, DM.bind_elim, DM.sb_elim, DM.bind_ite, DM.sb_ite, DM.elim_map, DM.elim_bind, DM.elim_ite, DM.elim_some, DM.elim_none, DM.map_map', DM.map_some', DM.map_ite, DM.andO_ok, DM.andO_elim, DM.and2_ok, DM.and2_elim, DM.and2_ite, DM.and2_t, DM.and2_f, DM.and2_stk, DM.or2_stk, DM.ite2_t, DM.ite2_f, DM.orO_ok, DM.orO_elim, DM.or2_ok, DM.or2_elim, DM.or2_ite, DM.or2_t, DM.or2_f, DM.notO_ok, DM.notO_elim, DM.notO_ite, DM.andO_ite, DM.orO_ite, DM.iteO_ok, DM.iteO_elim, DM.iteO_ite, DM.ite2_int, DM.ite2_bl, DM.ite2_tx, DM.ite2_def, DM.grd_t, DM.grd_tl, DM.grd_tr, DM.b_add, DM.b_sub, DM.b_mul, DM.b_fdiv, DM.b_mod, DM.b_pow, DM.n_neg, DM.b_addL, DM.b_addT, DM.b_addS, DM.b_mulL, DM.s_lst, DM.s_tup, DM.s_str, DM.s_t2i, DM.s_t3i, DM.s_0, DM.s_1, DM.s_2, DM.s_3, DM.s_4, DM.s_5, DM.s_6, DM.s_7, DM.h_0, DM.h_1, DM.h_2, DM.h_3, DM.h_4, DM.h_5, DM.h_6, DM.h_7, DM.sl_lst, DM.sl_tup, DM.sl_str, DM.l_lst, DM.l_tup, DM.l_str, List.length_map, DM.i_int, DM.i_bl, DM.o_bl, DM.o_int, DM.i_abs, DM.i_max, DM.i_min, DM.i_maxL, DM.i_minL, DM.i_sum, DM.i_sorted, DM.i_list, DM.i_listT, DM.i_tuple, DM.i_isi, DM.z_int, DM.z_bl, DM.z_str, DM.z_lst, DM.z_tup, DM.z_non, DM.c_lt, DM.c_le, DM.c_gt, DM.c_ge, DM.c_eq, DM.c_ne, DM.c_is, DM.c_isnot, DM.t_non, DM.t_bl, DM.t_int, DM.t_lst, DM.t_tup, DM.isEmpty_map', DM.in_ints, DM.eqD_int, DM.eqD_bl, DM.eqD_tx, DM.isNon_opt, DM.isNon_enc, DM.n_int, DM.n_bl, DM.n_str, DM.n_lst, DM.n_tup, DM.n_non, DM.notO_stk, DM.orO_stk, DM.andO_stk, DM.iteO_stk, DM.eta_t2, DM.eta_t3, DM.eta_t4, DM.eta_t5, DM.eta_h2, DM.eta_h3, DM.eta_h4, DM.eta_h5, DM.eta_tu, DM.getS_0, DM.getS_s, DM.set_0, DM.set_s, DM.at_0, DM.at_s, DM.wipe_nil, DM.wipe_cons, DM.keep_none, DM.keep_nil, DM.keep_cons, DM.map_none_nil, DM.map_none_cons, DM.pnO_f, DM.an_nx, DM.an_rt, DM.an_bk, DM.an_ct, DM.an_stk, DM.an_el, DM.an_ite, DM.an_rs, DM.nc_nx, DM.nc_ct, DM.nc_bk, DM.nc_rt, DM.nc_stk, DM.nc_el, DM.nc_ite, DM.nc_rs, DM.el_rs, DM.rs_go, DM.rs_rt, DM.ct_nx, DM.ct_bk, DM.ct_rt, DM.ss_nil, DM.ss_cons, DM.st_asg, DM.st_asT, DM.st_asI, DM.st_aug, DM.st_doc, DM.st_ex, DM.st_ite, DM.st_for1, DM.st_forT, DM.st_ret, DM.st_retN, DM.st_brk, DM.st_cnt, DM.st_pas, DM.st_fgt, DM.st_fzs, DM.fzsO_some, DM.someO_some, DM.augO_add, DM.augO_sub, DM.asI_eq, DM.it_sl, DM.it_vl, DM.it_r1, DM.it_r2, DM.r1O_int, DM.r2O_int, DM.walk_lst, DM.walk_tup, DM.walk_str, DM.walk_t2, DM.walk_t3, DM.wlist, DM.seqO_some, DM.wkO_def, DM.ev_lc, DM.lcO_n, DM.ev_lc2, DM.lc2O_n, DM.ev_muO, DM.muO_l, DM.mu2_l, DM.mu_app, DM.mu_pop, DM.mu_rev, DM.mu_clr, DM.callD_eq, DM.res_ok, DM.res_stk, DM.res_el, DM.tkL_nil, DM.tkL_cons, DM.tk1_some, DM.fzL_nil, DM.fzL_cons, DM.fz1_some, DM.mi_nil, DM.mi_m, DM.mi_v, DM.mi_b, DM.bi_nil, DM.bi_m, DM.bi_v, DM.bi_b, DM.ar_nil, DM.ar_v, DM.ar_m, DM.ar_b, DM.pt_nil, DM.pt_cons, DM.pt1_n, DM.atom_int, DM.atom_bl, DM.atom_str, DM.atom_non, DM.atom_lst, DM.atom_tup, DM.atom_enc, DM.selfc_lst, DM.fin_rt, DM.fin_nx, DM.fin_stk, DM.fin_el, DM.fin_ite, DM.fin_rs, DM.ga_nil, DM.ga_cons, DM.ga1_some, DM.kid_l, DM.kid_t, DM.kidO_some, DM.putL_nil, DM.putL_cons, DM.szO_0, DM.szO_1, DM.szO_2, DM.szO_3, DM.szO_4, DM.szO_5, DM.szO_6, DM.szO_7, DM.szO_8, DM.szO_9, DM.szO_10, DM.szO_11, DM.szO_12, DM.szO_13, DM.szO_14, DM.szO_15, DM.szO_16, DM.szO_17, DM.szO_18, DM.szO_19, DM.szO_20, DM.szO_21, DM.szO_22, DM.szO_23, DM.szO_24, DM.szO_25, DS.frz, DS.frzL, DM.frzL_map', DM.frz_enc, DM.rootFz_enc, DS.rootFz, DM.e_int, DM.e_bl, DM.e_tx, DM.e_un, DM.e_non, DM.e_som, DM.e_lst, DM.e_tu, DM.e_t2, DM.e_t3, DM.e_t4, DM.e_t5, DM.e_h2, DM.e_h3, DM.e_h4, DM.e_h5, DS.kAr, DS.kTm, DS.kArs, DS.kOAr, DS.kTms, DS.kCas, DS.kCa, DS.kTs, DS.kOTs, DS.kIt, DM.fz_int, DM.fz_bl, DM.fz_str, DM.fz_non, DM.fz_lst, DM.fz_tup, DM.fz_enc, List.contains_nil, List.contains_cons, List.any_nil, List.any_cons, List.all_nil, List.all_cons, List.length_cons, List.length_nil, Option.isSome_some, Bool.not_true, Bool.not_false, Bool.and_true, Bool.true_and, Bool.and_false, Bool.false_and, Bool.or_true, Bool.true_or, Bool.or_false, Bool.false_or, Bool.false_eq_true, eq_self, if_true, if_false, Option.isNone_none, Option.isNone_some, decide_true, decide_false, Nat.reduceAdd, Nat.reduceEqDiff, Nat.reduceBEq, DM.ty_int_int, DM.ty_int_bool, DM.ty_int_str, DM.ty_int_list, DM.ty_int_tuple, DM.ty_int_dict, DM.ty_bool_int, DM.ty_bool_bool, DM.ty_bool_str, DM.ty_bool_list, DM.ty_bool_tuple, DM.ty_bool_dict, DM.ty_str_int, DM.ty_str_bool, DM.ty_str_str, DM.ty_str_list, DM.ty_str_tuple, DM.ty_str_dict, DM.ty_list_int, DM.ty_list_bool, DM.ty_list_str, DM.ty_list_list, DM.ty_list_tuple, DM.ty_list_dict, DM.ty_tuple_int, DM.ty_tuple_bool, DM.ty_tuple_str, DM.ty_tuple_list, DM.ty_tuple_tuple, DM.ty_tuple_dict, DM.ty_dict_int, DM.ty_dict_bool, DM.ty_dict_str, DM.ty_dict_list, DM.ty_dict_tuple, DM.ty_dict_dict, ↓DM.bind_ok', ↓DM.bind_stk', ↓DM.bind_elim, ↓DM.bind_ite, ↓DM.sb_ok', ↓DM.sb_stk', ↓DM.sb_elim, ↓DM.sb_ite, ↓DM.an_nx, ↓DM.an_rt, ↓DM.an_bk, ↓DM.an_ct, ↓DM.an_stk, ↓DM.an_el, ↓DM.an_ite, ↓DM.an_rs, ↓DM.andO_ok, ↓DM.andO_elim, ↓DM.andO_stk, ↓DM.orO_ok, ↓DM.orO_elim, ↓DM.orO_stk, ↓DM.iteO_ok, ↓DM.iteO_elim, ↓DM.iteO_stk, ↓DM.notO_ok, ↓DM.chnO_some, ↓DM.tkL_nil, ↓DM.tkL_cons, ↓DM.tk1_some, ↓DM.fzL_nil, ↓DM.fzL_cons, ↓DM.fz1_some, ↓DM.elim_some, ↓DM.elim_none, ↓DM.and2_f, ↓DM.or2_t, ↓DM.grd_t, ↓if_true, ↓if_false]
def m10 (v_cell : Int) : Option Int :=
  (fdivM v_cell (4)).bind fun t1 =>
  (modM v_cell (4)).bind fun t2 =>
  if (decide (t2 = (0))) = true then
  (modM t1 (19)).bind fun t3 =>
  some (t3 - (9))
  else
  (modM v_cell (4)).bind fun t4 =>
  if (decide (t4 = (1))) = true then
  (modM t1 (10)).bind fun t5 =>
  some ((-(9223372036854775808)) + t5)
  else
  (modM v_cell (4)).bind fun t6 =>
  if (decide (t6 = (2))) = true then
  (modM t1 (10)).bind fun t7 =>
  some ((9223372036854775807) - t7)
  else
  (f10_i1 t1).bind fun t8 =>
  (modM t8 (18446744073709551616)).bind fun t9 =>
  some (t9 - (9223372036854775808))
theorem e10 (v_cell : Int) : sem10 [(.int v_cell)] = (m10 v_cell).elim .stk fun r => .ok (.int r) [] := by
  refine (def_eq _ _ _ _ _).trans ?_
  show fin [] (evSs SG10 [] b10 [some (.int v_cell), none]) = _
  simp only [b10, m10, f10_i1_eq, DM.kbin1_a, DM.kbin2_a, DM.kneg_a, DM.kcmp1_a, DM.kcmp2_a, DM.kchn1_a, DM.kchn2_a, DM.kchn3_a, DM.ksub1_a, DM.ksub2_a, DM.kslc1_a, DM.kslc2_a, DM.kslc3_a, DM.kbi_a, DM.kme1_a, DM.kme2_a, DM.ktup_a, DM.klst_a, DM.ktst_a, DM.kas1_a, DM.kas2_a, DM.kts1_a, DM.kts2_a, DM.kav_a, DM.kvl_a, DM.kbl_a, DM.ktr_a, DM.kasg_a, DM.kasT_a, DM.kasI1_a, DM.kasI2_a, DM.kaug_a, DM.kex_a, DM.kif_a, DM.kfor_a, DM.kforT_a, DM.kret_a, DM.kr2_a, DM.klc_a, DM.klc2_a, DM.kmu_a, DM.kcl1_a, DM.kcl2_a, DM.kpre_a, DM.ev_int, DM.ev_bl, DM.ev_str, DM.ev_non, DM.ev_ty, DM.ev_gc, DM.ev_mv, DM.ev_tk, DM.mvO_some, DM.tkO_some, DM.ev_bin, DM.ev_neg, DM.ev_cmp, DM.chnO_some, DM.chn2_ok, DM.chn2_elim, DM.ev_chn, DM.ev_sub, DM.ev_slc, DM.ev_bi, DM.ev_me, DM.ev_tup, DM.ev_lst, DM.ev_call, DM.ev_ite, DM.ev_tst, DM.evA_pk, DM.evA_vl, DM.evPl_sl, DM.oaO_int, DM.evOA_none, DM.evOA_some, DM.evAs_nil, DM.evAs_cons, DM.evTs_nil, DM.evTs_cons, DM.evC_nil, DM.evC_bor, DM.evC_mt, DM.evC_vl, DM.evT_vl, DM.evT_tr, DM.evT_and, DM.evT_or, DM.evT_not, DM.blD_bl, DM.bind_ok', DM.bind_stk', DM.sb_ok', DM.sb_stk', DM.lift_some', DM.lift_none', DM.lift_def, DM.elim_same, ite_self, DM.sub_non, DM.len_non, DM.bind_elim, DM.sb_elim, DM.bind_ite, DM.sb_ite, DM.elim_map, DM.elim_bind, DM.elim_ite, DM.elim_some, DM.elim_none, DM.map_map', DM.map_some', DM.map_ite, DM.andO_ok, DM.andO_elim, DM.and2_ok, DM.and2_elim, DM.and2_ite, DM.and2_t, DM.and2_f, DM.and2_stk, DM.or2_stk, DM.ite2_t, DM.ite2_f, DM.orO_ok, DM.orO_elim, DM.or2_ok, DM.or2_elim, DM.or2_ite, DM.or2_t, DM.or2_f, DM.notO_ok, DM.notO_elim, DM.notO_ite, DM.andO_ite, DM.orO_ite, DM.iteO_ok, DM.iteO_elim, DM.iteO_ite, DM.ite2_int, DM.ite2_bl, DM.ite2_tx, DM.ite2_def, DM.grd_t, DM.grd_tl, DM.grd_tr, DM.b_add, DM.b_sub, DM.b_mul, DM.b_fdiv, DM.b_mod, DM.b_pow, DM.n_neg, DM.b_addL, DM.b_addT, DM.b_addS, DM.b_mulL, DM.s_lst, DM.s_tup, DM.s_str, DM.s_t2i, DM.s_t3i, DM.s_0, DM.s_1, DM.s_2, DM.s_3, DM.s_4, DM.s_5, DM.s_6, DM.s_7, DM.h_0, DM.h_1, DM.h_2, DM.h_3, DM.h_4, DM.h_5, DM.h_6, DM.h_7, DM.sl_lst, DM.sl_tup, DM.sl_str, DM.l_lst, DM.l_tup, DM.l_str, List.length_map, DM.i_int, DM.i_bl, DM.o_bl, DM.o_int, DM.i_abs, DM.i_max, DM.i_min, DM.i_maxL, DM.i_minL, DM.i_sum, DM.i_sorted, DM.i_list, DM.i_listT, DM.i_tuple, DM.i_isi, DM.z_int, DM.z_bl, DM.z_str, DM.z_lst, DM.z_tup, DM.z_non, DM.c_lt, DM.c_le, DM.c_gt, DM.c_ge, DM.c_eq, DM.c_ne, DM.c_is, DM.c_isnot, DM.t_non, DM.t_bl, DM.t_int, DM.t_lst, DM.t_tup, DM.isEmpty_map', DM.in_ints, DM.eqD_int, DM.eqD_bl, DM.eqD_tx, DM.isNon_opt, DM.isNon_enc, DM.n_int, DM.n_bl, DM.n_str, DM.n_lst, DM.n_tup, DM.n_non, DM.notO_stk, DM.orO_stk, DM.andO_stk, DM.iteO_stk, DM.eta_t2, DM.eta_t3, DM.eta_t4, DM.eta_t5, DM.eta_h2, DM.eta_h3, DM.eta_h4, DM.eta_h5, DM.eta_tu, DM.getS_0, DM.getS_s, DM.set_0, DM.set_s, DM.at_0, DM.at_s, DM.wipe_nil, DM.wipe_cons, DM.keep_none, DM.keep_nil, DM.keep_cons, DM.map_none_nil, DM.map_none_cons, DM.pnO_f, DM.an_nx, DM.an_rt, DM.an_bk, DM.an_ct, DM.an_stk, DM.an_el, DM.an_ite, DM.an_rs, DM.nc_nx, DM.nc_ct, DM.nc_bk, DM.nc_rt, DM.nc_stk, DM.nc_el, DM.nc_ite, DM.nc_rs, DM.el_rs, DM.rs_go, DM.rs_rt, DM.ct_nx, DM.ct_bk, DM.ct_rt, DM.ss_nil, DM.ss_cons, DM.st_asg, DM.st_asT, DM.st_asI, DM.st_aug, DM.st_doc, DM.st_ex, DM.st_ite, DM.st_for1, DM.st_forT, DM.st_ret, DM.st_retN, DM.st_brk, DM.st_cnt, DM.st_pas, DM.st_fgt, DM.st_fzs, DM.fzsO_some, DM.someO_some, DM.augO_add, DM.augO_sub, DM.asI_eq, DM.it_sl, DM.it_vl, DM.it_r1, DM.it_r2, DM.r1O_int, DM.r2O_int, DM.walk_lst, DM.walk_tup, DM.walk_str, DM.walk_t2, DM.walk_t3, DM.wlist, DM.seqO_some, DM.wkO_def, DM.ev_lc, DM.lcO_n, DM.ev_lc2, DM.lc2O_n, DM.ev_muO, DM.muO_l, DM.mu2_l, DM.mu_app, DM.mu_pop, DM.mu_rev, DM.mu_clr, DM.callD_eq, DM.res_ok, DM.res_stk, DM.res_el, DM.tkL_nil, DM.tkL_cons, DM.tk1_some, DM.fzL_nil, DM.fzL_cons, DM.fz1_some, DM.mi_nil, DM.mi_m, DM.mi_v, DM.mi_b, DM.bi_nil, DM.bi_m, DM.bi_v, DM.bi_b, DM.ar_nil, DM.ar_v, DM.ar_m, DM.ar_b, DM.pt_nil, DM.pt_cons, DM.pt1_n, DM.atom_int, DM.atom_bl, DM.atom_str, DM.atom_non, DM.atom_lst, DM.atom_tup, DM.atom_enc, DM.selfc_lst, DM.fin_rt, DM.fin_nx, DM.fin_stk, DM.fin_el, DM.fin_ite, DM.fin_rs, DM.ga_nil, DM.ga_cons, DM.ga1_some, DM.kid_l, DM.kid_t, DM.kidO_some, DM.putL_nil, DM.putL_cons, DM.szO_0, DM.szO_1, DM.szO_2, DM.szO_3, DM.szO_4, DM.szO_5, DM.szO_6, DM.szO_7, DM.szO_8, DM.szO_9, DM.szO_10, DM.szO_11, DM.szO_12, DM.szO_13, DM.szO_14, DM.szO_15, DM.szO_16, DM.szO_17, DM.szO_18, DM.szO_19, DM.szO_20, DM.szO_21, DM.szO_22, DM.szO_23, DM.szO_24, DM.szO_25, DS.frz, DS.frzL, DM.frzL_map', DM.frz_enc, DM.rootFz_enc, DS.rootFz, DM.e_int, DM.e_bl, DM.e_tx, DM.e_un, DM.e_non, DM.e_som, DM.e_lst, DM.e_tu, DM.e_t2, DM.e_t3, DM.e_t4, DM.e_t5, DM.e_h2, DM.e_h3, DM.e_h4, DM.e_h5, DS.kAr, DS.kTm, DS.kArs, DS.kOAr, DS.kTms, DS.kCas, DS.kCa, DS.kTs, DS.kOTs, DS.kIt, DM.fz_int, DM.fz_bl, DM.fz_str, DM.fz_non, DM.fz_lst, DM.fz_tup, DM.fz_enc, List.contains_nil, List.contains_cons, List.any_nil, List.any_cons, List.all_nil, List.all_cons, List.length_cons, List.length_nil, Option.isSome_some, Bool.not_true, Bool.not_false, Bool.and_true, Bool.true_and, Bool.and_false, Bool.false_and, Bool.or_true, Bool.true_or, Bool.or_false, Bool.false_or, Bool.false_eq_true, eq_self, if_true, if_false, Option.isNone_none, Option.isNone_some, decide_true, decide_false, Nat.reduceAdd, Nat.reduceEqDiff, Nat.reduceBEq, DM.ty_int_int, DM.ty_int_bool, DM.ty_int_str, DM.ty_int_list, DM.ty_int_tuple, DM.ty_int_dict, DM.ty_bool_int, DM.ty_bool_bool, DM.ty_bool_str, DM.ty_bool_list, DM.ty_bool_tuple, DM.ty_bool_dict, DM.ty_str_int, DM.ty_str_bool, DM.ty_str_str, DM.ty_str_list, DM.ty_str_tuple, DM.ty_str_dict, DM.ty_list_int, DM.ty_list_bool, DM.ty_list_str, DM.ty_list_list, DM.ty_list_tuple, DM.ty_list_dict, DM.ty_tuple_int, DM.ty_tuple_bool, DM.ty_tuple_str, DM.ty_tuple_list, DM.ty_tuple_tuple, DM.ty_tuple_dict, DM.ty_dict_int, DM.ty_dict_bool, DM.ty_dict_str, DM.ty_dict_list, DM.ty_dict_tuple, DM.ty_dict_dict, ↓DM.bind_ok', ↓DM.bind_stk', ↓DM.bind_elim, ↓DM.bind_ite, ↓DM.sb_ok', ↓DM.sb_stk', ↓DM.sb_elim, ↓DM.sb_ite, ↓DM.an_nx, ↓DM.an_rt, ↓DM.an_bk, ↓DM.an_ct, ↓DM.an_stk, ↓DM.an_el, ↓DM.an_ite, ↓DM.an_rs, ↓DM.andO_ok, ↓DM.andO_elim, ↓DM.andO_stk, ↓DM.orO_ok, ↓DM.orO_elim, ↓DM.orO_stk, ↓DM.iteO_ok, ↓DM.iteO_elim, ↓DM.iteO_stk, ↓DM.notO_ok, ↓DM.chnO_some, ↓DM.tkL_nil, ↓DM.tkL_cons, ↓DM.tk1_some, ↓DM.fzL_nil, ↓DM.fzL_cons, ↓DM.fz1_some, ↓DM.elim_some, ↓DM.elim_none, ↓DM.and2_f, ↓DM.or2_t, ↓DM.grd_t, ↓if_true, ↓if_false]
/-! mirror of _law_tuple -/
def f11_l1 (v_actual : Unit) (v_due : Unit) (x : Int) (s : Unit) : Option (Ct Unit Bool) :=
  none
theorem f11_l1_b (v_actual : Unit) (v_due : Unit) (x : Int) (s : Unit) : nxct (evSs SG11 [] f11_L1 [some .non, some .non, some (.int x)]) = (f11_l1 v_actual v_due x s).elim .stk fun c => c.el (fun s => .nx [some .non, some .non, none]) (fun s => .bk [some .non, some .non, none]) (fun r => .rt (.bl r) [none, none, none]) := by
  simp only [f11_L1, f11_l1, DM.kbin1_a, DM.kbin2_a, DM.kneg_a, DM.kcmp1_a, DM.kcmp2_a, DM.kchn1_a, DM.kchn2_a, DM.kchn3_a, DM.ksub1_a, DM.ksub2_a, DM.kslc1_a, DM.kslc2_a, DM.kslc3_a, DM.kbi_a, DM.kme1_a, DM.kme2_a, DM.ktup_a, DM.klst_a, DM.ktst_a, DM.kas1_a, DM.kas2_a, DM.kts1_a, DM.kts2_a, DM.kav_a, DM.kvl_a, DM.kbl_a, DM.ktr_a, DM.kasg_a, DM.kasT_a, DM.kasI1_a, DM.kasI2_a, DM.kaug_a, DM.kex_a, DM.kif_a, DM.kfor_a, DM.kforT_a, DM.kret_a, DM.kr2_a, DM.klc_a, DM.klc2_a, DM.kmu_a, DM.kcl1_a, DM.kcl2_a, DM.kpre_a, DM.ev_int, DM.ev_bl, DM.ev_str, DM.ev_non, DM.ev_ty, DM.ev_gc, DM.ev_mv, DM.ev_tk, DM.mvO_some, DM.tkO_some, DM.ev_bin, DM.ev_neg, DM.ev_cmp, DM.chnO_some, DM.chn2_ok, DM.chn2_elim, DM.ev_chn, DM.ev_sub, DM.ev_slc, DM.ev_bi, DM.ev_me, DM.ev_tup, DM.ev_lst, DM.ev_call, DM.ev_ite, DM.ev_tst, DM.evA_pk, DM.evA_vl, DM.evPl_sl, DM.oaO_int, DM.evOA_none, DM.evOA_some, DM.evAs_nil, DM.evAs_cons, DM.evTs_nil, DM.evTs_cons, DM.evC_nil, DM.evC_bor, DM.evC_mt, DM.evC_vl, DM.evT_vl, DM.evT_tr, DM.evT_and, DM.evT_or, DM.evT_not, DM.blD_bl, DM.bind_ok', DM.bind_stk', DM.sb_ok', DM.sb_stk', DM.lift_some', DM.lift_none', DM.lift_def, DM.elim_same, ite_self, DM.sub_non, DM.len_non, DM.bind_elim, DM.sb_elim, DM.bind_ite, DM.sb_ite, DM.elim_map, DM.elim_bind, DM.elim_ite, DM.elim_some, DM.elim_none, DM.map_map', DM.map_some', DM.map_ite, DM.andO_ok, DM.andO_elim, DM.and2_ok, DM.and2_elim, DM.and2_ite, DM.and2_t, DM.and2_f, DM.and2_stk, DM.or2_stk, DM.ite2_t, DM.ite2_f, DM.orO_ok, DM.orO_elim, DM.or2_ok, DM.or2_elim, DM.or2_ite, DM.or2_t, DM.or2_f, DM.notO_ok, DM.notO_elim, DM.notO_ite, DM.andO_ite, DM.orO_ite, DM.iteO_ok, DM.iteO_elim, DM.iteO_ite, DM.ite2_int, DM.ite2_bl, DM.ite2_tx, DM.ite2_def, DM.grd_t, DM.grd_tl, DM.grd_tr, DM.b_add, DM.b_sub, DM.b_mul, DM.b_fdiv, DM.b_mod, DM.b_pow, DM.n_neg, DM.b_addL, DM.b_addT, DM.b_addS, DM.b_mulL, DM.s_lst, DM.s_tup, DM.s_str, DM.s_t2i, DM.s_t3i, DM.s_0, DM.s_1, DM.s_2, DM.s_3, DM.s_4, DM.s_5, DM.s_6, DM.s_7, DM.h_0, DM.h_1, DM.h_2, DM.h_3, DM.h_4, DM.h_5, DM.h_6, DM.h_7, DM.sl_lst, DM.sl_tup, DM.sl_str, DM.l_lst, DM.l_tup, DM.l_str, List.length_map, DM.i_int, DM.i_bl, DM.o_bl, DM.o_int, DM.i_abs, DM.i_max, DM.i_min, DM.i_maxL, DM.i_minL, DM.i_sum, DM.i_sorted, DM.i_list, DM.i_listT, DM.i_tuple, DM.i_isi, DM.z_int, DM.z_bl, DM.z_str, DM.z_lst, DM.z_tup, DM.z_non, DM.c_lt, DM.c_le, DM.c_gt, DM.c_ge, DM.c_eq, DM.c_ne, DM.c_is, DM.c_isnot, DM.t_non, DM.t_bl, DM.t_int, DM.t_lst, DM.t_tup, DM.isEmpty_map', DM.in_ints, DM.eqD_int, DM.eqD_bl, DM.eqD_tx, DM.isNon_opt, DM.isNon_enc, DM.n_int, DM.n_bl, DM.n_str, DM.n_lst, DM.n_tup, DM.n_non, DM.notO_stk, DM.orO_stk, DM.andO_stk, DM.iteO_stk, DM.eta_t2, DM.eta_t3, DM.eta_t4, DM.eta_t5, DM.eta_h2, DM.eta_h3, DM.eta_h4, DM.eta_h5, DM.eta_tu, DM.getS_0, DM.getS_s, DM.set_0, DM.set_s, DM.at_0, DM.at_s, DM.wipe_nil, DM.wipe_cons, DM.keep_none, DM.keep_nil, DM.keep_cons, DM.map_none_nil, DM.map_none_cons, DM.pnO_f, DM.an_nx, DM.an_rt, DM.an_bk, DM.an_ct, DM.an_stk, DM.an_el, DM.an_ite, DM.an_rs, DM.nc_nx, DM.nc_ct, DM.nc_bk, DM.nc_rt, DM.nc_stk, DM.nc_el, DM.nc_ite, DM.nc_rs, DM.el_rs, DM.rs_go, DM.rs_rt, DM.ct_nx, DM.ct_bk, DM.ct_rt, DM.ss_nil, DM.ss_cons, DM.st_asg, DM.st_asT, DM.st_asI, DM.st_aug, DM.st_doc, DM.st_ex, DM.st_ite, DM.st_for1, DM.st_forT, DM.st_ret, DM.st_retN, DM.st_brk, DM.st_cnt, DM.st_pas, DM.st_fgt, DM.st_fzs, DM.fzsO_some, DM.someO_some, DM.augO_add, DM.augO_sub, DM.asI_eq, DM.it_sl, DM.it_vl, DM.it_r1, DM.it_r2, DM.r1O_int, DM.r2O_int, DM.walk_lst, DM.walk_tup, DM.walk_str, DM.walk_t2, DM.walk_t3, DM.wlist, DM.seqO_some, DM.wkO_def, DM.ev_lc, DM.lcO_n, DM.ev_lc2, DM.lc2O_n, DM.ev_muO, DM.muO_l, DM.mu2_l, DM.mu_app, DM.mu_pop, DM.mu_rev, DM.mu_clr, DM.callD_eq, DM.res_ok, DM.res_stk, DM.res_el, DM.tkL_nil, DM.tkL_cons, DM.tk1_some, DM.fzL_nil, DM.fzL_cons, DM.fz1_some, DM.mi_nil, DM.mi_m, DM.mi_v, DM.mi_b, DM.bi_nil, DM.bi_m, DM.bi_v, DM.bi_b, DM.ar_nil, DM.ar_v, DM.ar_m, DM.ar_b, DM.pt_nil, DM.pt_cons, DM.pt1_n, DM.atom_int, DM.atom_bl, DM.atom_str, DM.atom_non, DM.atom_lst, DM.atom_tup, DM.atom_enc, DM.selfc_lst, DM.fin_rt, DM.fin_nx, DM.fin_stk, DM.fin_el, DM.fin_ite, DM.fin_rs, DM.ga_nil, DM.ga_cons, DM.ga1_some, DM.kid_l, DM.kid_t, DM.kidO_some, DM.putL_nil, DM.putL_cons, DM.szO_0, DM.szO_1, DM.szO_2, DM.szO_3, DM.szO_4, DM.szO_5, DM.szO_6, DM.szO_7, DM.szO_8, DM.szO_9, DM.szO_10, DM.szO_11, DM.szO_12, DM.szO_13, DM.szO_14, DM.szO_15, DM.szO_16, DM.szO_17, DM.szO_18, DM.szO_19, DM.szO_20, DM.szO_21, DM.szO_22, DM.szO_23, DM.szO_24, DM.szO_25, DS.frz, DS.frzL, DM.frzL_map', DM.frz_enc, DM.rootFz_enc, DS.rootFz, DM.e_int, DM.e_bl, DM.e_tx, DM.e_un, DM.e_non, DM.e_som, DM.e_lst, DM.e_tu, DM.e_t2, DM.e_t3, DM.e_t4, DM.e_t5, DM.e_h2, DM.e_h3, DM.e_h4, DM.e_h5, DS.kAr, DS.kTm, DS.kArs, DS.kOAr, DS.kTms, DS.kCas, DS.kCa, DS.kTs, DS.kOTs, DS.kIt, DM.fz_int, DM.fz_bl, DM.fz_str, DM.fz_non, DM.fz_lst, DM.fz_tup, DM.fz_enc, List.contains_nil, List.contains_cons, List.any_nil, List.any_cons, List.all_nil, List.all_cons, List.length_cons, List.length_nil, Option.isSome_some, Bool.not_true, Bool.not_false, Bool.and_true, Bool.true_and, Bool.and_false, Bool.false_and, Bool.or_true, Bool.true_or, Bool.or_false, Bool.false_or, Bool.false_eq_true, eq_self, if_true, if_false, Option.isNone_none, Option.isNone_some, decide_true, decide_false, Nat.reduceAdd, Nat.reduceEqDiff, Nat.reduceBEq, DM.ty_int_int, DM.ty_int_bool, DM.ty_int_str, DM.ty_int_list, DM.ty_int_tuple, DM.ty_int_dict, DM.ty_bool_int, DM.ty_bool_bool, DM.ty_bool_str, DM.ty_bool_list, DM.ty_bool_tuple, DM.ty_bool_dict, DM.ty_str_int, DM.ty_str_bool, DM.ty_str_str, DM.ty_str_list, DM.ty_str_tuple, DM.ty_str_dict, DM.ty_list_int, DM.ty_list_bool, DM.ty_list_str, DM.ty_list_list, DM.ty_list_tuple, DM.ty_list_dict, DM.ty_tuple_int, DM.ty_tuple_bool, DM.ty_tuple_str, DM.ty_tuple_list, DM.ty_tuple_tuple, DM.ty_tuple_dict, DM.ty_dict_int, DM.ty_dict_bool, DM.ty_dict_str, DM.ty_dict_list, DM.ty_dict_tuple, DM.ty_dict_dict, ↓DM.bind_ok', ↓DM.bind_stk', ↓DM.bind_elim, ↓DM.bind_ite, ↓DM.sb_ok', ↓DM.sb_stk', ↓DM.sb_elim, ↓DM.sb_ite, ↓DM.an_nx, ↓DM.an_rt, ↓DM.an_bk, ↓DM.an_ct, ↓DM.an_stk, ↓DM.an_el, ↓DM.an_ite, ↓DM.an_rs, ↓DM.andO_ok, ↓DM.andO_elim, ↓DM.andO_stk, ↓DM.orO_ok, ↓DM.orO_elim, ↓DM.orO_stk, ↓DM.iteO_ok, ↓DM.iteO_elim, ↓DM.iteO_stk, ↓DM.notO_ok, ↓DM.chnO_some, ↓DM.tkL_nil, ↓DM.tkL_cons, ↓DM.tk1_some, ↓DM.fzL_nil, ↓DM.fzL_cons, ↓DM.fz1_some, ↓DM.elim_some, ↓DM.elim_none, ↓DM.and2_f, ↓DM.or2_t, ↓DM.grd_t, ↓if_true, ↓if_false]
theorem f11_l1_eq  (l : List Int) : forL 2 (evSs SG11 [] f11_L1) (List.map enc l) [some .non, some .non, none] = (forC (f11_l1 () ()) l ()).elim .stk fun c => c.el (fun s => .nx [some .non, some .non, none]) (fun r => .rt (.bl r) [none, none, none]) :=
  forL_forC 2 _ (fun s => [some .non, some .non, none]) (fun r => .rt (.bl r) [none, none, none]) (fun _ => ⟨_, _, rfl⟩) (f11_l1 () ()) (f11_l1_b () ()) l ()
def f11_l2 (v_actual : Unit) (v_due : (T2 Int Int)) (x : Int) (s : Unit) : Option (Ct Unit Bool) :=
  none
theorem f11_l2_b (v_actual : Unit) (v_due : (T2 Int Int)) (x : Int) (s : Unit) : nxct (evSs SG11 [] f11_L1 [some .non, some (.tup false [(.int v_due.a0), (.int v_due.a1)]), some (.int x)]) = (f11_l2 v_actual v_due x s).elim .stk fun c => c.el (fun s => .nx [some .non, some (.tup false [(.int v_due.a0), (.int v_due.a1)]), none]) (fun s => .bk [some .non, some (.tup false [(.int v_due.a0), (.int v_due.a1)]), none]) (fun r => .rt (.bl r) [none, none, none]) := by
  simp only [f11_L1, f11_l2, f11_l1_eq, DM.kbin1_a, DM.kbin2_a, DM.kneg_a, DM.kcmp1_a, DM.kcmp2_a, DM.kchn1_a, DM.kchn2_a, DM.kchn3_a, DM.ksub1_a, DM.ksub2_a, DM.kslc1_a, DM.kslc2_a, DM.kslc3_a, DM.kbi_a, DM.kme1_a, DM.kme2_a, DM.ktup_a, DM.klst_a, DM.ktst_a, DM.kas1_a, DM.kas2_a, DM.kts1_a, DM.kts2_a, DM.kav_a, DM.kvl_a, DM.kbl_a, DM.ktr_a, DM.kasg_a, DM.kasT_a, DM.kasI1_a, DM.kasI2_a, DM.kaug_a, DM.kex_a, DM.kif_a, DM.kfor_a, DM.kforT_a, DM.kret_a, DM.kr2_a, DM.klc_a, DM.klc2_a, DM.kmu_a, DM.kcl1_a, DM.kcl2_a, DM.kpre_a, DM.ev_int, DM.ev_bl, DM.ev_str, DM.ev_non, DM.ev_ty, DM.ev_gc, DM.ev_mv, DM.ev_tk, DM.mvO_some, DM.tkO_some, DM.ev_bin, DM.ev_neg, DM.ev_cmp, DM.chnO_some, DM.chn2_ok, DM.chn2_elim, DM.ev_chn, DM.ev_sub, DM.ev_slc, DM.ev_bi, DM.ev_me, DM.ev_tup, DM.ev_lst, DM.ev_call, DM.ev_ite, DM.ev_tst, DM.evA_pk, DM.evA_vl, DM.evPl_sl, DM.oaO_int, DM.evOA_none, DM.evOA_some, DM.evAs_nil, DM.evAs_cons, DM.evTs_nil, DM.evTs_cons, DM.evC_nil, DM.evC_bor, DM.evC_mt, DM.evC_vl, DM.evT_vl, DM.evT_tr, DM.evT_and, DM.evT_or, DM.evT_not, DM.blD_bl, DM.bind_ok', DM.bind_stk', DM.sb_ok', DM.sb_stk', DM.lift_some', DM.lift_none', DM.lift_def, DM.elim_same, ite_self, DM.sub_non, DM.len_non, DM.bind_elim, DM.sb_elim, DM.bind_ite, DM.sb_ite, DM.elim_map, DM.elim_bind, DM.elim_ite, DM.elim_some, DM.elim_none, DM.map_map', DM.map_some', DM.map_ite, DM.andO_ok, DM.andO_elim, DM.and2_ok, DM.and2_elim, DM.and2_ite, DM.and2_t, DM.and2_f, DM.and2_stk, DM.or2_stk, DM.ite2_t, DM.ite2_f, DM.orO_ok, DM.orO_elim, DM.or2_ok, DM.or2_elim, DM.or2_ite, DM.or2_t, DM.or2_f, DM.notO_ok, DM.notO_elim, DM.notO_ite, DM.andO_ite, DM.orO_ite, DM.iteO_ok, DM.iteO_elim, DM.iteO_ite, DM.ite2_int, DM.ite2_bl, DM.ite2_tx, DM.ite2_def, DM.grd_t, DM.grd_tl, DM.grd_tr, DM.b_add, DM.b_sub, DM.b_mul, DM.b_fdiv, DM.b_mod, DM.b_pow, DM.n_neg, DM.b_addL, DM.b_addT, DM.b_addS, DM.b_mulL, DM.s_lst, DM.s_tup, DM.s_str, DM.s_t2i, DM.s_t3i, DM.s_0, DM.s_1, DM.s_2, DM.s_3, DM.s_4, DM.s_5, DM.s_6, DM.s_7, DM.h_0, DM.h_1, DM.h_2, DM.h_3, DM.h_4, DM.h_5, DM.h_6, DM.h_7, DM.sl_lst, DM.sl_tup, DM.sl_str, DM.l_lst, DM.l_tup, DM.l_str, List.length_map, DM.i_int, DM.i_bl, DM.o_bl, DM.o_int, DM.i_abs, DM.i_max, DM.i_min, DM.i_maxL, DM.i_minL, DM.i_sum, DM.i_sorted, DM.i_list, DM.i_listT, DM.i_tuple, DM.i_isi, DM.z_int, DM.z_bl, DM.z_str, DM.z_lst, DM.z_tup, DM.z_non, DM.c_lt, DM.c_le, DM.c_gt, DM.c_ge, DM.c_eq, DM.c_ne, DM.c_is, DM.c_isnot, DM.t_non, DM.t_bl, DM.t_int, DM.t_lst, DM.t_tup, DM.isEmpty_map', DM.in_ints, DM.eqD_int, DM.eqD_bl, DM.eqD_tx, DM.isNon_opt, DM.isNon_enc, DM.n_int, DM.n_bl, DM.n_str, DM.n_lst, DM.n_tup, DM.n_non, DM.notO_stk, DM.orO_stk, DM.andO_stk, DM.iteO_stk, DM.eta_t2, DM.eta_t3, DM.eta_t4, DM.eta_t5, DM.eta_h2, DM.eta_h3, DM.eta_h4, DM.eta_h5, DM.eta_tu, DM.getS_0, DM.getS_s, DM.set_0, DM.set_s, DM.at_0, DM.at_s, DM.wipe_nil, DM.wipe_cons, DM.keep_none, DM.keep_nil, DM.keep_cons, DM.map_none_nil, DM.map_none_cons, DM.pnO_f, DM.an_nx, DM.an_rt, DM.an_bk, DM.an_ct, DM.an_stk, DM.an_el, DM.an_ite, DM.an_rs, DM.nc_nx, DM.nc_ct, DM.nc_bk, DM.nc_rt, DM.nc_stk, DM.nc_el, DM.nc_ite, DM.nc_rs, DM.el_rs, DM.rs_go, DM.rs_rt, DM.ct_nx, DM.ct_bk, DM.ct_rt, DM.ss_nil, DM.ss_cons, DM.st_asg, DM.st_asT, DM.st_asI, DM.st_aug, DM.st_doc, DM.st_ex, DM.st_ite, DM.st_for1, DM.st_forT, DM.st_ret, DM.st_retN, DM.st_brk, DM.st_cnt, DM.st_pas, DM.st_fgt, DM.st_fzs, DM.fzsO_some, DM.someO_some, DM.augO_add, DM.augO_sub, DM.asI_eq, DM.it_sl, DM.it_vl, DM.it_r1, DM.it_r2, DM.r1O_int, DM.r2O_int, DM.walk_lst, DM.walk_tup, DM.walk_str, DM.walk_t2, DM.walk_t3, DM.wlist, DM.seqO_some, DM.wkO_def, DM.ev_lc, DM.lcO_n, DM.ev_lc2, DM.lc2O_n, DM.ev_muO, DM.muO_l, DM.mu2_l, DM.mu_app, DM.mu_pop, DM.mu_rev, DM.mu_clr, DM.callD_eq, DM.res_ok, DM.res_stk, DM.res_el, DM.tkL_nil, DM.tkL_cons, DM.tk1_some, DM.fzL_nil, DM.fzL_cons, DM.fz1_some, DM.mi_nil, DM.mi_m, DM.mi_v, DM.mi_b, DM.bi_nil, DM.bi_m, DM.bi_v, DM.bi_b, DM.ar_nil, DM.ar_v, DM.ar_m, DM.ar_b, DM.pt_nil, DM.pt_cons, DM.pt1_n, DM.atom_int, DM.atom_bl, DM.atom_str, DM.atom_non, DM.atom_lst, DM.atom_tup, DM.atom_enc, DM.selfc_lst, DM.fin_rt, DM.fin_nx, DM.fin_stk, DM.fin_el, DM.fin_ite, DM.fin_rs, DM.ga_nil, DM.ga_cons, DM.ga1_some, DM.kid_l, DM.kid_t, DM.kidO_some, DM.putL_nil, DM.putL_cons, DM.szO_0, DM.szO_1, DM.szO_2, DM.szO_3, DM.szO_4, DM.szO_5, DM.szO_6, DM.szO_7, DM.szO_8, DM.szO_9, DM.szO_10, DM.szO_11, DM.szO_12, DM.szO_13, DM.szO_14, DM.szO_15, DM.szO_16, DM.szO_17, DM.szO_18, DM.szO_19, DM.szO_20, DM.szO_21, DM.szO_22, DM.szO_23, DM.szO_24, DM.szO_25, DS.frz, DS.frzL, DM.frzL_map', DM.frz_enc, DM.rootFz_enc, DS.rootFz, DM.e_int, DM.e_bl, DM.e_tx, DM.e_un, DM.e_non, DM.e_som, DM.e_lst, DM.e_tu, DM.e_t2, DM.e_t3, DM.e_t4, DM.e_t5, DM.e_h2, DM.e_h3, DM.e_h4, DM.e_h5, DS.kAr, DS.kTm, DS.kArs, DS.kOAr, DS.kTms, DS.kCas, DS.kCa, DS.kTs, DS.kOTs, DS.kIt, DM.fz_int, DM.fz_bl, DM.fz_str, DM.fz_non, DM.fz_lst, DM.fz_tup, DM.fz_enc, List.contains_nil, List.contains_cons, List.any_nil, List.any_cons, List.all_nil, List.all_cons, List.length_cons, List.length_nil, Option.isSome_some, Bool.not_true, Bool.not_false, Bool.and_true, Bool.true_and, Bool.and_false, Bool.false_and, Bool.or_true, Bool.true_or, Bool.or_false, Bool.false_or, Bool.false_eq_true, eq_self, if_true, if_false, Option.isNone_none, Option.isNone_some, decide_true, decide_false, Nat.reduceAdd, Nat.reduceEqDiff, Nat.reduceBEq, DM.ty_int_int, DM.ty_int_bool, DM.ty_int_str, DM.ty_int_list, DM.ty_int_tuple, DM.ty_int_dict, DM.ty_bool_int, DM.ty_bool_bool, DM.ty_bool_str, DM.ty_bool_list, DM.ty_bool_tuple, DM.ty_bool_dict, DM.ty_str_int, DM.ty_str_bool, DM.ty_str_str, DM.ty_str_list, DM.ty_str_tuple, DM.ty_str_dict, DM.ty_list_int, DM.ty_list_bool, DM.ty_list_str, DM.ty_list_list, DM.ty_list_tuple, DM.ty_list_dict, DM.ty_tuple_int, DM.ty_tuple_bool, DM.ty_tuple_str, DM.ty_tuple_list, DM.ty_tuple_tuple, DM.ty_tuple_dict, DM.ty_dict_int, DM.ty_dict_bool, DM.ty_dict_str, DM.ty_dict_list, DM.ty_dict_tuple, DM.ty_dict_dict, ↓DM.bind_ok', ↓DM.bind_stk', ↓DM.bind_elim, ↓DM.bind_ite, ↓DM.sb_ok', ↓DM.sb_stk', ↓DM.sb_elim, ↓DM.sb_ite, ↓DM.an_nx, ↓DM.an_rt, ↓DM.an_bk, ↓DM.an_ct, ↓DM.an_stk, ↓DM.an_el, ↓DM.an_ite, ↓DM.an_rs, ↓DM.andO_ok, ↓DM.andO_elim, ↓DM.andO_stk, ↓DM.orO_ok, ↓DM.orO_elim, ↓DM.orO_stk, ↓DM.iteO_ok, ↓DM.iteO_elim, ↓DM.iteO_stk, ↓DM.notO_ok, ↓DM.chnO_some, ↓DM.tkL_nil, ↓DM.tkL_cons, ↓DM.tk1_some, ↓DM.fzL_nil, ↓DM.fzL_cons, ↓DM.fz1_some, ↓DM.elim_some, ↓DM.elim_none, ↓DM.and2_f, ↓DM.or2_t, ↓DM.grd_t, ↓if_true, ↓if_false]
theorem f11_l2_eq (v_due_0 : Int) (v_due_1 : Int) (l : List Int) : forL 2 (evSs SG11 [] f11_L1) (List.map enc l) [some .non, some (.tup false [(.int v_due_0), (.int v_due_1)]), none] = (forC (f11_l2 () (T2.mk v_due_0 v_due_1)) l ()).elim .stk fun c => c.el (fun s => .nx [some .non, some (.tup false [(.int v_due_0), (.int v_due_1)]), none]) (fun r => .rt (.bl r) [none, none, none]) :=
  forL_forC 2 _ (fun s => [some .non, some (.tup false [(.int v_due_0), (.int v_due_1)]), none]) (fun r => .rt (.bl r) [none, none, none]) (fun _ => ⟨_, _, rfl⟩) (f11_l2 () (T2.mk v_due_0 v_due_1)) (f11_l2_b () (T2.mk v_due_0 v_due_1)) l ()
def f11_l3 (v_actual : (T2 Int Int)) (v_due : Unit) (x : Int) (s : Unit) : Option (Ct Unit Bool) :=
  (subM [v_actual.a0, v_actual.a1] x).bind fun t1 =>
  (if (!true) = true then some true else (subM [v_actual.a0, v_actual.a1] x).bind fun t2 => (if false = true then some true else none).bind fun t4 => some t4).bind fun t5 =>
  if t5 = true then
  some (.rt false)
  else
  some (.nx ())
theorem f11_l3_b (v_actual : (T2 Int Int)) (v_due : Unit) (x : Int) (s : Unit) : nxct (evSs SG11 [] f11_L1 [some (.tup false [(.int v_actual.a0), (.int v_actual.a1)]), some .non, some (.int x)]) = (f11_l3 v_actual v_due x s).elim .stk fun c => c.el (fun s => .nx [some (.tup false [(.int v_actual.a0), (.int v_actual.a1)]), some .non, none]) (fun s => .bk [some (.tup false [(.int v_actual.a0), (.int v_actual.a1)]), some .non, none]) (fun r => .rt (.bl r) [none, none, none]) := by
  simp only [f11_L1, f11_l3, f11_l1_eq, f11_l2_eq, DM.kbin1_a, DM.kbin2_a, DM.kneg_a, DM.kcmp1_a, DM.kcmp2_a, DM.kchn1_a, DM.kchn2_a, DM.kchn3_a, DM.ksub1_a, DM.ksub2_a, DM.kslc1_a, DM.kslc2_a, DM.kslc3_a, DM.kbi_a, DM.kme1_a, DM.kme2_a, DM.ktup_a, DM.klst_a, DM.ktst_a, DM.kas1_a, DM.kas2_a, DM.kts1_a, DM.kts2_a, DM.kav_a, DM.kvl_a, DM.kbl_a, DM.ktr_a, DM.kasg_a, DM.kasT_a, DM.kasI1_a, DM.kasI2_a, DM.kaug_a, DM.kex_a, DM.kif_a, DM.kfor_a, DM.kforT_a, DM.kret_a, DM.kr2_a, DM.klc_a, DM.klc2_a, DM.kmu_a, DM.kcl1_a, DM.kcl2_a, DM.kpre_a, DM.ev_int, DM.ev_bl, DM.ev_str, DM.ev_non, DM.ev_ty, DM.ev_gc, DM.ev_mv, DM.ev_tk, DM.mvO_some, DM.tkO_some, DM.ev_bin, DM.ev_neg, DM.ev_cmp, DM.chnO_some, DM.chn2_ok, DM.chn2_elim, DM.ev_chn, DM.ev_sub, DM.ev_slc, DM.ev_bi, DM.ev_me, DM.ev_tup, DM.ev_lst, DM.ev_call, DM.ev_ite, DM.ev_tst, DM.evA_pk, DM.evA_vl, DM.evPl_sl, DM.oaO_int, DM.evOA_none, DM.evOA_some, DM.evAs_nil, DM.evAs_cons, DM.evTs_nil, DM.evTs_cons, DM.evC_nil, DM.evC_bor, DM.evC_mt, DM.evC_vl, DM.evT_vl, DM.evT_tr, DM.evT_and, DM.evT_or, DM.evT_not, DM.blD_bl, DM.bind_ok', DM.bind_stk', DM.sb_ok', DM.sb_stk', DM.lift_some', DM.lift_none', DM.lift_def, DM.elim_same, ite_self, DM.sub_non, DM.len_non, DM.bind_elim, DM.sb_elim, DM.bind_ite, DM.sb_ite, DM.elim_map, DM.elim_bind, DM.elim_ite, DM.elim_some, DM.elim_none, DM.map_map', DM.map_some', DM.map_ite, DM.andO_ok, DM.andO_elim, DM.and2_ok, DM.and2_elim, DM.and2_ite, DM.and2_t, DM.and2_f, DM.and2_stk, DM.or2_stk, DM.ite2_t, DM.ite2_f, DM.orO_ok, DM.orO_elim, DM.or2_ok, DM.or2_elim, DM.or2_ite, DM.or2_t, DM.or2_f, DM.notO_ok, DM.notO_elim, DM.notO_ite, DM.andO_ite, DM.orO_ite, DM.iteO_ok, DM.iteO_elim, DM.iteO_ite, DM.ite2_int, DM.ite2_bl, DM.ite2_tx, DM.ite2_def, DM.grd_t, DM.grd_tl, DM.grd_tr, DM.b_add, DM.b_sub, DM.b_mul, DM.b_fdiv, DM.b_mod, DM.b_pow, DM.n_neg, DM.b_addL, DM.b_addT, DM.b_addS, DM.b_mulL, DM.s_lst, DM.s_tup, DM.s_str, DM.s_t2i, DM.s_t3i, DM.s_0, DM.s_1, DM.s_2, DM.s_3, DM.s_4, DM.s_5, DM.s_6, DM.s_7, DM.h_0, DM.h_1, DM.h_2, DM.h_3, DM.h_4, DM.h_5, DM.h_6, DM.h_7, DM.sl_lst, DM.sl_tup, DM.sl_str, DM.l_lst, DM.l_tup, DM.l_str, List.length_map, DM.i_int, DM.i_bl, DM.o_bl, DM.o_int, DM.i_abs, DM.i_max, DM.i_min, DM.i_maxL, DM.i_minL, DM.i_sum, DM.i_sorted, DM.i_list, DM.i_listT, DM.i_tuple, DM.i_isi, DM.z_int, DM.z_bl, DM.z_str, DM.z_lst, DM.z_tup, DM.z_non, DM.c_lt, DM.c_le, DM.c_gt, DM.c_ge, DM.c_eq, DM.c_ne, DM.c_is, DM.c_isnot, DM.t_non, DM.t_bl, DM.t_int, DM.t_lst, DM.t_tup, DM.isEmpty_map', DM.in_ints, DM.eqD_int, DM.eqD_bl, DM.eqD_tx, DM.isNon_opt, DM.isNon_enc, DM.n_int, DM.n_bl, DM.n_str, DM.n_lst, DM.n_tup, DM.n_non, DM.notO_stk, DM.orO_stk, DM.andO_stk, DM.iteO_stk, DM.eta_t2, DM.eta_t3, DM.eta_t4, DM.eta_t5, DM.eta_h2, DM.eta_h3, DM.eta_h4, DM.eta_h5, DM.eta_tu, DM.getS_0, DM.getS_s, DM.set_0, DM.set_s, DM.at_0, DM.at_s, DM.wipe_nil, DM.wipe_cons, DM.keep_none, DM.keep_nil, DM.keep_cons, DM.map_none_nil, DM.map_none_cons, DM.pnO_f, DM.an_nx, DM.an_rt, DM.an_bk, DM.an_ct, DM.an_stk, DM.an_el, DM.an_ite, DM.an_rs, DM.nc_nx, DM.nc_ct, DM.nc_bk, DM.nc_rt, DM.nc_stk, DM.nc_el, DM.nc_ite, DM.nc_rs, DM.el_rs, DM.rs_go, DM.rs_rt, DM.ct_nx, DM.ct_bk, DM.ct_rt, DM.ss_nil, DM.ss_cons, DM.st_asg, DM.st_asT, DM.st_asI, DM.st_aug, DM.st_doc, DM.st_ex, DM.st_ite, DM.st_for1, DM.st_forT, DM.st_ret, DM.st_retN, DM.st_brk, DM.st_cnt, DM.st_pas, DM.st_fgt, DM.st_fzs, DM.fzsO_some, DM.someO_some, DM.augO_add, DM.augO_sub, DM.asI_eq, DM.it_sl, DM.it_vl, DM.it_r1, DM.it_r2, DM.r1O_int, DM.r2O_int, DM.walk_lst, DM.walk_tup, DM.walk_str, DM.walk_t2, DM.walk_t3, DM.wlist, DM.seqO_some, DM.wkO_def, DM.ev_lc, DM.lcO_n, DM.ev_lc2, DM.lc2O_n, DM.ev_muO, DM.muO_l, DM.mu2_l, DM.mu_app, DM.mu_pop, DM.mu_rev, DM.mu_clr, DM.callD_eq, DM.res_ok, DM.res_stk, DM.res_el, DM.tkL_nil, DM.tkL_cons, DM.tk1_some, DM.fzL_nil, DM.fzL_cons, DM.fz1_some, DM.mi_nil, DM.mi_m, DM.mi_v, DM.mi_b, DM.bi_nil, DM.bi_m, DM.bi_v, DM.bi_b, DM.ar_nil, DM.ar_v, DM.ar_m, DM.ar_b, DM.pt_nil, DM.pt_cons, DM.pt1_n, DM.atom_int, DM.atom_bl, DM.atom_str, DM.atom_non, DM.atom_lst, DM.atom_tup, DM.atom_enc, DM.selfc_lst, DM.fin_rt, DM.fin_nx, DM.fin_stk, DM.fin_el, DM.fin_ite, DM.fin_rs, DM.ga_nil, DM.ga_cons, DM.ga1_some, DM.kid_l, DM.kid_t, DM.kidO_some, DM.putL_nil, DM.putL_cons, DM.szO_0, DM.szO_1, DM.szO_2, DM.szO_3, DM.szO_4, DM.szO_5, DM.szO_6, DM.szO_7, DM.szO_8, DM.szO_9, DM.szO_10, DM.szO_11, DM.szO_12, DM.szO_13, DM.szO_14, DM.szO_15, DM.szO_16, DM.szO_17, DM.szO_18, DM.szO_19, DM.szO_20, DM.szO_21, DM.szO_22, DM.szO_23, DM.szO_24, DM.szO_25, DS.frz, DS.frzL, DM.frzL_map', DM.frz_enc, DM.rootFz_enc, DS.rootFz, DM.e_int, DM.e_bl, DM.e_tx, DM.e_un, DM.e_non, DM.e_som, DM.e_lst, DM.e_tu, DM.e_t2, DM.e_t3, DM.e_t4, DM.e_t5, DM.e_h2, DM.e_h3, DM.e_h4, DM.e_h5, DS.kAr, DS.kTm, DS.kArs, DS.kOAr, DS.kTms, DS.kCas, DS.kCa, DS.kTs, DS.kOTs, DS.kIt, DM.fz_int, DM.fz_bl, DM.fz_str, DM.fz_non, DM.fz_lst, DM.fz_tup, DM.fz_enc, List.contains_nil, List.contains_cons, List.any_nil, List.any_cons, List.all_nil, List.all_cons, List.length_cons, List.length_nil, Option.isSome_some, Bool.not_true, Bool.not_false, Bool.and_true, Bool.true_and, Bool.and_false, Bool.false_and, Bool.or_true, Bool.true_or, Bool.or_false, Bool.false_or, Bool.false_eq_true, eq_self, if_true, if_false, Option.isNone_none, Option.isNone_some, decide_true, decide_false, Nat.reduceAdd, Nat.reduceEqDiff, Nat.reduceBEq, DM.ty_int_int, DM.ty_int_bool, DM.ty_int_str, DM.ty_int_list, DM.ty_int_tuple, DM.ty_int_dict, DM.ty_bool_int, DM.ty_bool_bool, DM.ty_bool_str, DM.ty_bool_list, DM.ty_bool_tuple, DM.ty_bool_dict, DM.ty_str_int, DM.ty_str_bool, DM.ty_str_str, DM.ty_str_list, DM.ty_str_tuple, DM.ty_str_dict, DM.ty_list_int, DM.ty_list_bool, DM.ty_list_str, DM.ty_list_list, DM.ty_list_tuple, DM.ty_list_dict, DM.ty_tuple_int, DM.ty_tuple_bool, DM.ty_tuple_str, DM.ty_tuple_list, DM.ty_tuple_tuple, DM.ty_tuple_dict, DM.ty_dict_int, DM.ty_dict_bool, DM.ty_dict_str, DM.ty_dict_list, DM.ty_dict_tuple, DM.ty_dict_dict, ↓DM.bind_ok', ↓DM.bind_stk', ↓DM.bind_elim, ↓DM.bind_ite, ↓DM.sb_ok', ↓DM.sb_stk', ↓DM.sb_elim, ↓DM.sb_ite, ↓DM.an_nx, ↓DM.an_rt, ↓DM.an_bk, ↓DM.an_ct, ↓DM.an_stk, ↓DM.an_el, ↓DM.an_ite, ↓DM.an_rs, ↓DM.andO_ok, ↓DM.andO_elim, ↓DM.andO_stk, ↓DM.orO_ok, ↓DM.orO_elim, ↓DM.orO_stk, ↓DM.iteO_ok, ↓DM.iteO_elim, ↓DM.iteO_stk, ↓DM.notO_ok, ↓DM.chnO_some, ↓DM.tkL_nil, ↓DM.tkL_cons, ↓DM.tk1_some, ↓DM.fzL_nil, ↓DM.fzL_cons, ↓DM.fz1_some, ↓DM.elim_some, ↓DM.elim_none, ↓DM.and2_f, ↓DM.or2_t, ↓DM.grd_t, ↓if_true, ↓if_false]
theorem f11_l3_eq (v_actual_0 : Int) (v_actual_1 : Int) (l : List Int) : forL 2 (evSs SG11 [] f11_L1) (List.map enc l) [some (.tup false [(.int v_actual_0), (.int v_actual_1)]), some .non, none] = (forC (f11_l3 (T2.mk v_actual_0 v_actual_1) ()) l ()).elim .stk fun c => c.el (fun s => .nx [some (.tup false [(.int v_actual_0), (.int v_actual_1)]), some .non, none]) (fun r => .rt (.bl r) [none, none, none]) :=
  forL_forC 2 _ (fun s => [some (.tup false [(.int v_actual_0), (.int v_actual_1)]), some .non, none]) (fun r => .rt (.bl r) [none, none, none]) (fun _ => ⟨_, _, rfl⟩) (f11_l3 (T2.mk v_actual_0 v_actual_1) ()) (f11_l3_b (T2.mk v_actual_0 v_actual_1) ()) l ()
def f11_l4 (v_actual : (T2 Int Int)) (v_due : (T2 Int Int)) (x : Int) (s : Unit) : Option (Ct Unit Bool) :=
  (subM [v_actual.a0, v_actual.a1] x).bind fun t1 =>
  (if (!true) = true then some true else (subM [v_actual.a0, v_actual.a1] x).bind fun t2 => (if false = true then some true else (subM [v_actual.a0, v_actual.a1] x).bind fun t3 => (subM [v_due.a0, v_due.a1] x).bind fun t4 => some (!decide (t3 = t4))).bind fun t5 => some t5).bind fun t6 =>
  if t6 = true then
  some (.rt false)
  else
  some (.nx ())
theorem f11_l4_b (v_actual : (T2 Int Int)) (v_due : (T2 Int Int)) (x : Int) (s : Unit) : nxct (evSs SG11 [] f11_L1 [some (.tup false [(.int v_actual.a0), (.int v_actual.a1)]), some (.tup false [(.int v_due.a0), (.int v_due.a1)]), some (.int x)]) = (f11_l4 v_actual v_due x s).elim .stk fun c => c.el (fun s => .nx [some (.tup false [(.int v_actual.a0), (.int v_actual.a1)]), some (.tup false [(.int v_due.a0), (.int v_due.a1)]), none]) (fun s => .bk [some (.tup false [(.int v_actual.a0), (.int v_actual.a1)]), some (.tup false [(.int v_due.a0), (.int v_due.a1)]), none]) (fun r => .rt (.bl r) [none, none, none]) := by
  simp only [f11_L1, f11_l4, f11_l1_eq, f11_l2_eq, f11_l3_eq, DM.kbin1_a, DM.kbin2_a, DM.kneg_a, DM.kcmp1_a, DM.kcmp2_a, DM.kchn1_a, DM.kchn2_a, DM.kchn3_a, DM.ksub1_a, DM.ksub2_a, DM.kslc1_a, DM.kslc2_a, DM.kslc3_a, DM.kbi_a, DM.kme1_a, DM.kme2_a, DM.ktup_a, DM.klst_a, DM.ktst_a, DM.kas1_a, DM.kas2_a, DM.kts1_a, DM.kts2_a, DM.kav_a, DM.kvl_a, DM.kbl_a, DM.ktr_a, DM.kasg_a, DM.kasT_a, DM.kasI1_a, DM.kasI2_a, DM.kaug_a, DM.kex_a, DM.kif_a, DM.kfor_a, DM.kforT_a, DM.kret_a, DM.kr2_a, DM.klc_a, DM.klc2_a, DM.kmu_a, DM.kcl1_a, DM.kcl2_a, DM.kpre_a, DM.ev_int, DM.ev_bl, DM.ev_str, DM.ev_non, DM.ev_ty, DM.ev_gc, DM.ev_mv, DM.ev_tk, DM.mvO_some, DM.tkO_some, DM.ev_bin, DM.ev_neg, DM.ev_cmp, DM.chnO_some, DM.chn2_ok, DM.chn2_elim, DM.ev_chn, DM.ev_sub, DM.ev_slc, DM.ev_bi, DM.ev_me, DM.ev_tup, DM.ev_lst, DM.ev_call, DM.ev_ite, DM.ev_tst, DM.evA_pk, DM.evA_vl, DM.evPl_sl, DM.oaO_int, DM.evOA_none, DM.evOA_some, DM.evAs_nil, DM.evAs_cons, DM.evTs_nil, DM.evTs_cons, DM.evC_nil, DM.evC_bor, DM.evC_mt, DM.evC_vl, DM.evT_vl, DM.evT_tr, DM.evT_and, DM.evT_or, DM.evT_not, DM.blD_bl, DM.bind_ok', DM.bind_stk', DM.sb_ok', DM.sb_stk', DM.lift_some', DM.lift_none', DM.lift_def, DM.elim_same, ite_self, DM.sub_non, DM.len_non, DM.bind_elim, DM.sb_elim, DM.bind_ite, DM.sb_ite, DM.elim_map, DM.elim_bind, DM.elim_ite, DM.elim_some, DM.elim_none, DM.map_map', DM.map_some', DM.map_ite, DM.andO_ok, DM.andO_elim, DM.and2_ok, DM.and2_elim, DM.and2_ite, DM.and2_t, DM.and2_f, DM.and2_stk, DM.or2_stk, DM.ite2_t, DM.ite2_f, DM.orO_ok, DM.orO_elim, DM.or2_ok, DM.or2_elim, DM.or2_ite, DM.or2_t, DM.or2_f, DM.notO_ok, DM.notO_elim, DM.notO_ite, DM.andO_ite, DM.orO_ite, DM.iteO_ok, DM.iteO_elim, DM.iteO_ite, DM.ite2_int, DM.ite2_bl, DM.ite2_tx, DM.ite2_def, DM.grd_t, DM.grd_tl, DM.grd_tr, DM.b_add, DM.b_sub, DM.b_mul, DM.b_fdiv, DM.b_mod, DM.b_pow, DM.n_neg, DM.b_addL, DM.b_addT, DM.b_addS, DM.b_mulL, DM.s_lst, DM.s_tup, DM.s_str, DM.s_t2i, DM.s_t3i, DM.s_0, DM.s_1, DM.s_2, DM.s_3, DM.s_4, DM.s_5, DM.s_6, DM.s_7, DM.h_0, DM.h_1, DM.h_2, DM.h_3, DM.h_4, DM.h_5, DM.h_6, DM.h_7, DM.sl_lst, DM.sl_tup, DM.sl_str, DM.l_lst, DM.l_tup, DM.l_str, List.length_map, DM.i_int, DM.i_bl, DM.o_bl, DM.o_int, DM.i_abs, DM.i_max, DM.i_min, DM.i_maxL, DM.i_minL, DM.i_sum, DM.i_sorted, DM.i_list, DM.i_listT, DM.i_tuple, DM.i_isi, DM.z_int, DM.z_bl, DM.z_str, DM.z_lst, DM.z_tup, DM.z_non, DM.c_lt, DM.c_le, DM.c_gt, DM.c_ge, DM.c_eq, DM.c_ne, DM.c_is, DM.c_isnot, DM.t_non, DM.t_bl, DM.t_int, DM.t_lst, DM.t_tup, DM.isEmpty_map', DM.in_ints, DM.eqD_int, DM.eqD_bl, DM.eqD_tx, DM.isNon_opt, DM.isNon_enc, DM.n_int, DM.n_bl, DM.n_str, DM.n_lst, DM.n_tup, DM.n_non, DM.notO_stk, DM.orO_stk, DM.andO_stk, DM.iteO_stk, DM.eta_t2, DM.eta_t3, DM.eta_t4, DM.eta_t5, DM.eta_h2, DM.eta_h3, DM.eta_h4, DM.eta_h5, DM.eta_tu, DM.getS_0, DM.getS_s, DM.set_0, DM.set_s, DM.at_0, DM.at_s, DM.wipe_nil, DM.wipe_cons, DM.keep_none, DM.keep_nil, DM.keep_cons, DM.map_none_nil, DM.map_none_cons, DM.pnO_f, DM.an_nx, DM.an_rt, DM.an_bk, DM.an_ct, DM.an_stk, DM.an_el, DM.an_ite, DM.an_rs, DM.nc_nx, DM.nc_ct, DM.nc_bk, DM.nc_rt, DM.nc_stk, DM.nc_el, DM.nc_ite, DM.nc_rs, DM.el_rs, DM.rs_go, DM.rs_rt, DM.ct_nx, DM.ct_bk, DM.ct_rt, DM.ss_nil, DM.ss_cons, DM.st_asg, DM.st_asT, DM.st_asI, DM.st_aug, DM.st_doc, DM.st_ex, DM.st_ite, DM.st_for1, DM.st_forT, DM.st_ret, DM.st_retN, DM.st_brk, DM.st_cnt, DM.st_pas, DM.st_fgt, DM.st_fzs, DM.fzsO_some, DM.someO_some, DM.augO_add, DM.augO_sub, DM.asI_eq, DM.it_sl, DM.it_vl, DM.it_r1, DM.it_r2, DM.r1O_int, DM.r2O_int, DM.walk_lst, DM.walk_tup, DM.walk_str, DM.walk_t2, DM.walk_t3, DM.wlist, DM.seqO_some, DM.wkO_def, DM.ev_lc, DM.lcO_n, DM.ev_lc2, DM.lc2O_n, DM.ev_muO, DM.muO_l, DM.mu2_l, DM.mu_app, DM.mu_pop, DM.mu_rev, DM.mu_clr, DM.callD_eq, DM.res_ok, DM.res_stk, DM.res_el, DM.tkL_nil, DM.tkL_cons, DM.tk1_some, DM.fzL_nil, DM.fzL_cons, DM.fz1_some, DM.mi_nil, DM.mi_m, DM.mi_v, DM.mi_b, DM.bi_nil, DM.bi_m, DM.bi_v, DM.bi_b, DM.ar_nil, DM.ar_v, DM.ar_m, DM.ar_b, DM.pt_nil, DM.pt_cons, DM.pt1_n, DM.atom_int, DM.atom_bl, DM.atom_str, DM.atom_non, DM.atom_lst, DM.atom_tup, DM.atom_enc, DM.selfc_lst, DM.fin_rt, DM.fin_nx, DM.fin_stk, DM.fin_el, DM.fin_ite, DM.fin_rs, DM.ga_nil, DM.ga_cons, DM.ga1_some, DM.kid_l, DM.kid_t, DM.kidO_some, DM.putL_nil, DM.putL_cons, DM.szO_0, DM.szO_1, DM.szO_2, DM.szO_3, DM.szO_4, DM.szO_5, DM.szO_6, DM.szO_7, DM.szO_8, DM.szO_9, DM.szO_10, DM.szO_11, DM.szO_12, DM.szO_13, DM.szO_14, DM.szO_15, DM.szO_16, DM.szO_17, DM.szO_18, DM.szO_19, DM.szO_20, DM.szO_21, DM.szO_22, DM.szO_23, DM.szO_24, DM.szO_25, DS.frz, DS.frzL, DM.frzL_map', DM.frz_enc, DM.rootFz_enc, DS.rootFz, DM.e_int, DM.e_bl, DM.e_tx, DM.e_un, DM.e_non, DM.e_som, DM.e_lst, DM.e_tu, DM.e_t2, DM.e_t3, DM.e_t4, DM.e_t5, DM.e_h2, DM.e_h3, DM.e_h4, DM.e_h5, DS.kAr, DS.kTm, DS.kArs, DS.kOAr, DS.kTms, DS.kCas, DS.kCa, DS.kTs, DS.kOTs, DS.kIt, DM.fz_int, DM.fz_bl, DM.fz_str, DM.fz_non, DM.fz_lst, DM.fz_tup, DM.fz_enc, List.contains_nil, List.contains_cons, List.any_nil, List.any_cons, List.all_nil, List.all_cons, List.length_cons, List.length_nil, Option.isSome_some, Bool.not_true, Bool.not_false, Bool.and_true, Bool.true_and, Bool.and_false, Bool.false_and, Bool.or_true, Bool.true_or, Bool.or_false, Bool.false_or, Bool.false_eq_true, eq_self, if_true, if_false, Option.isNone_none, Option.isNone_some, decide_true, decide_false, Nat.reduceAdd, Nat.reduceEqDiff, Nat.reduceBEq, DM.ty_int_int, DM.ty_int_bool, DM.ty_int_str, DM.ty_int_list, DM.ty_int_tuple, DM.ty_int_dict, DM.ty_bool_int, DM.ty_bool_bool, DM.ty_bool_str, DM.ty_bool_list, DM.ty_bool_tuple, DM.ty_bool_dict, DM.ty_str_int, DM.ty_str_bool, DM.ty_str_str, DM.ty_str_list, DM.ty_str_tuple, DM.ty_str_dict, DM.ty_list_int, DM.ty_list_bool, DM.ty_list_str, DM.ty_list_list, DM.ty_list_tuple, DM.ty_list_dict, DM.ty_tuple_int, DM.ty_tuple_bool, DM.ty_tuple_str, DM.ty_tuple_list, DM.ty_tuple_tuple, DM.ty_tuple_dict, DM.ty_dict_int, DM.ty_dict_bool, DM.ty_dict_str, DM.ty_dict_list, DM.ty_dict_tuple, DM.ty_dict_dict, ↓DM.bind_ok', ↓DM.bind_stk', ↓DM.bind_elim, ↓DM.bind_ite, ↓DM.sb_ok', ↓DM.sb_stk', ↓DM.sb_elim, ↓DM.sb_ite, ↓DM.an_nx, ↓DM.an_rt, ↓DM.an_bk, ↓DM.an_ct, ↓DM.an_stk, ↓DM.an_el, ↓DM.an_ite, ↓DM.an_rs, ↓DM.andO_ok, ↓DM.andO_elim, ↓DM.andO_stk, ↓DM.orO_ok, ↓DM.orO_elim, ↓DM.orO_stk, ↓DM.iteO_ok, ↓DM.iteO_elim, ↓DM.iteO_stk, ↓DM.notO_ok, ↓DM.chnO_some, ↓DM.tkL_nil, ↓DM.tkL_cons, ↓DM.tk1_some, ↓DM.fzL_nil, ↓DM.fzL_cons, ↓DM.fz1_some, ↓DM.elim_some, ↓DM.elim_none, ↓DM.and2_f, ↓DM.or2_t, ↓DM.grd_t, ↓if_true, ↓if_false]
theorem f11_l4_eq (v_actual_0 : Int) (v_actual_1 : Int) (v_due_0 : Int) (v_due_1 : Int) (l : List Int) : forL 2 (evSs SG11 [] f11_L1) (List.map enc l) [some (.tup false [(.int v_actual_0), (.int v_actual_1)]), some (.tup false [(.int v_due_0), (.int v_due_1)]), none] = (forC (f11_l4 (T2.mk v_actual_0 v_actual_1) (T2.mk v_due_0 v_due_1)) l ()).elim .stk fun c => c.el (fun s => .nx [some (.tup false [(.int v_actual_0), (.int v_actual_1)]), some (.tup false [(.int v_due_0), (.int v_due_1)]), none]) (fun r => .rt (.bl r) [none, none, none]) :=
  forL_forC 2 _ (fun s => [some (.tup false [(.int v_actual_0), (.int v_actual_1)]), some (.tup false [(.int v_due_0), (.int v_due_1)]), none]) (fun r => .rt (.bl r) [none, none, none]) (fun _ => ⟨_, _, rfl⟩) (f11_l4 (T2.mk v_actual_0 v_actual_1) (T2.mk v_due_0 v_due_1)) (f11_l4_b (T2.mk v_actual_0 v_actual_1) (T2.mk v_due_0 v_due_1)) l ()
def m11 (v_actual : (Option (T2 Int Int))) (v_due : (Option (T2 Int Int))) : Option Bool :=
  (match v_actual with
  | none => (match v_due with
  | none => if true = true then
  some true
  else
  if (!false) = true then
  some false
  else
  (rng1M (2)).bind fun t1 =>
  (forC (f11_l1 () ()) t1 ()).bind fun t2 =>
  Rs.el t2 (fun t3 =>
  some true) (fun r => some r)
  | some o_due =>
  if false = true then
  some true
  else
  if (!false) = true then
  some false
  else
  (rng1M (2)).bind fun t1 =>
  (forC (f11_l2 () o_due) t1 ()).bind fun t2 =>
  Rs.el t2 (fun t3 =>
  some true) (fun r => some r))
  | some o_actual =>
  (match v_due with
  | none => if true = true then
  some false
  else
  if ((!true) || (!decide (((2 : Nat) : Int) = (2)))) = true then
  some false
  else
  (rng1M (2)).bind fun t1 =>
  (forC (f11_l3 o_actual ()) t1 ()).bind fun t2 =>
  Rs.el t2 (fun t3 =>
  some true) (fun r => some r)
  | some o_due =>
  if false = true then
  some false
  else
  if ((!true) || (!decide (((2 : Nat) : Int) = (2)))) = true then
  some false
  else
  (rng1M (2)).bind fun t1 =>
  (forC (f11_l4 o_actual o_due) t1 ()).bind fun t2 =>
  Rs.el t2 (fun t3 =>
  some true) (fun r => some r)))
theorem e11 (v_actual : (Option (T2 Int Int))) (v_due : (Option (T2 Int Int))) : sem11 [(enc v_actual), (enc v_due)] = (m11 v_actual v_due).elim .stk fun r => .ok (.bl r) [] := by
  refine (def_eq _ _ _ _ _).trans ?_
  show fin [] (evSs SG11 [] b11 [some (enc v_actual), some (enc v_due), none]) = _
  rcases v_actual with _ | o_actual <;>
  rcases v_due with _ | o_due <;>
  simp only [b11, m11, f11_l1_eq, f11_l2_eq, f11_l3_eq, f11_l4_eq, DM.kbin1_a, DM.kbin2_a, DM.kneg_a, DM.kcmp1_a, DM.kcmp2_a, DM.kchn1_a, DM.kchn2_a, DM.kchn3_a, DM.ksub1_a, DM.ksub2_a, DM.kslc1_a, DM.kslc2_a, DM.kslc3_a, DM.kbi_a, DM.kme1_a, DM.kme2_a, DM.ktup_a, DM.klst_a, DM.ktst_a, DM.kas1_a, DM.kas2_a, DM.kts1_a, DM.kts2_a, DM.kav_a, DM.kvl_a, DM.kbl_a, DM.ktr_a, DM.kasg_a, DM.kasT_a, DM.kasI1_a, DM.kasI2_a, DM.kaug_a, DM.kex_a, DM.kif_a, DM.kfor_a, DM.kforT_a, DM.kret_a, DM.kr2_a, DM.klc_a, DM.klc2_a, DM.kmu_a, DM.kcl1_a, DM.kcl2_a, DM.kpre_a, DM.ev_int, DM.ev_bl, DM.ev_str, DM.ev_non, DM.ev_ty, DM.ev_gc, DM.ev_mv, DM.ev_tk, DM.mvO_some, DM.tkO_some, DM.ev_bin, DM.ev_neg, DM.ev_cmp, DM.chnO_some, DM.chn2_ok, DM.chn2_elim, DM.ev_chn, DM.ev_sub, DM.ev_slc, DM.ev_bi, DM.ev_me, DM.ev_tup, DM.ev_lst, DM.ev_call, DM.ev_ite, DM.ev_tst, DM.evA_pk, DM.evA_vl, DM.evPl_sl, DM.oaO_int, DM.evOA_none, DM.evOA_some, DM.evAs_nil, DM.evAs_cons, DM.evTs_nil, DM.evTs_cons, DM.evC_nil, DM.evC_bor, DM.evC_mt, DM.evC_vl, DM.evT_vl, DM.evT_tr, DM.evT_and, DM.evT_or, DM.evT_not, DM.blD_bl, DM.bind_ok', DM.bind_stk', DM.sb_ok', DM.sb_stk', DM.lift_some', DM.lift_none', DM.lift_def, DM.elim_same, ite_self, DM.sub_non, DM.len_non, DM.bind_elim, DM.sb_elim, DM.bind_ite, DM.sb_ite, DM.elim_map, DM.elim_bind, DM.elim_ite, DM.elim_some, DM.elim_none, DM.map_map', DM.map_some', DM.map_ite, DM.andO_ok, DM.andO_elim, DM.and2_ok, DM.and2_elim, DM.and2_ite, DM.and2_t, DM.and2_f, DM.and2_stk, DM.or2_stk, DM.ite2_t, DM.ite2_f, DM.orO_ok, DM.orO_elim, DM.or2_ok, DM.or2_elim, DM.or2_ite, DM.or2_t, DM.or2_f, DM.notO_ok, DM.notO_elim, DM.notO_ite, DM.andO_ite, DM.orO_ite, DM.iteO_ok, DM.iteO_elim, DM.iteO_ite, DM.ite2_int, DM.ite2_bl, DM.ite2_tx, DM.ite2_def, DM.grd_t, DM.grd_tl, DM.grd_tr, DM.b_add, DM.b_sub, DM.b_mul, DM.b_fdiv, DM.b_mod, DM.b_pow, DM.n_neg, DM.b_addL, DM.b_addT, DM.b_addS, DM.b_mulL, DM.s_lst, DM.s_tup, DM.s_str, DM.s_t2i, DM.s_t3i, DM.s_0, DM.s_1, DM.s_2, DM.s_3, DM.s_4, DM.s_5, DM.s_6, DM.s_7, DM.h_0, DM.h_1, DM.h_2, DM.h_3, DM.h_4, DM.h_5, DM.h_6, DM.h_7, DM.sl_lst, DM.sl_tup, DM.sl_str, DM.l_lst, DM.l_tup, DM.l_str, List.length_map, DM.i_int, DM.i_bl, DM.o_bl, DM.o_int, DM.i_abs, DM.i_max, DM.i_min, DM.i_maxL, DM.i_minL, DM.i_sum, DM.i_sorted, DM.i_list, DM.i_listT, DM.i_tuple, DM.i_isi, DM.z_int, DM.z_bl, DM.z_str, DM.z_lst, DM.z_tup, DM.z_non, DM.c_lt, DM.c_le, DM.c_gt, DM.c_ge, DM.c_eq, DM.c_ne, DM.c_is, DM.c_isnot, DM.t_non, DM.t_bl, DM.t_int, DM.t_lst, DM.t_tup, DM.isEmpty_map', DM.in_ints, DM.eqD_int, DM.eqD_bl, DM.eqD_tx, DM.isNon_opt, DM.isNon_enc, DM.n_int, DM.n_bl, DM.n_str, DM.n_lst, DM.n_tup, DM.n_non, DM.notO_stk, DM.orO_stk, DM.andO_stk, DM.iteO_stk, DM.eta_t2, DM.eta_t3, DM.eta_t4, DM.eta_t5, DM.eta_h2, DM.eta_h3, DM.eta_h4, DM.eta_h5, DM.eta_tu, DM.getS_0, DM.getS_s, DM.set_0, DM.set_s, DM.at_0, DM.at_s, DM.wipe_nil, DM.wipe_cons, DM.keep_none, DM.keep_nil, DM.keep_cons, DM.map_none_nil, DM.map_none_cons, DM.pnO_f, DM.an_nx, DM.an_rt, DM.an_bk, DM.an_ct, DM.an_stk, DM.an_el, DM.an_ite, DM.an_rs, DM.nc_nx, DM.nc_ct, DM.nc_bk, DM.nc_rt, DM.nc_stk, DM.nc_el, DM.nc_ite, DM.nc_rs, DM.el_rs, DM.rs_go, DM.rs_rt, DM.ct_nx, DM.ct_bk, DM.ct_rt, DM.ss_nil, DM.ss_cons, DM.st_asg, DM.st_asT, DM.st_asI, DM.st_aug, DM.st_doc, DM.st_ex, DM.st_ite, DM.st_for1, DM.st_forT, DM.st_ret, DM.st_retN, DM.st_brk, DM.st_cnt, DM.st_pas, DM.st_fgt, DM.st_fzs, DM.fzsO_some, DM.someO_some, DM.augO_add, DM.augO_sub, DM.asI_eq, DM.it_sl, DM.it_vl, DM.it_r1, DM.it_r2, DM.r1O_int, DM.r2O_int, DM.walk_lst, DM.walk_tup, DM.walk_str, DM.walk_t2, DM.walk_t3, DM.wlist, DM.seqO_some, DM.wkO_def, DM.ev_lc, DM.lcO_n, DM.ev_lc2, DM.lc2O_n, DM.ev_muO, DM.muO_l, DM.mu2_l, DM.mu_app, DM.mu_pop, DM.mu_rev, DM.mu_clr, DM.callD_eq, DM.res_ok, DM.res_stk, DM.res_el, DM.tkL_nil, DM.tkL_cons, DM.tk1_some, DM.fzL_nil, DM.fzL_cons, DM.fz1_some, DM.mi_nil, DM.mi_m, DM.mi_v, DM.mi_b, DM.bi_nil, DM.bi_m, DM.bi_v, DM.bi_b, DM.ar_nil, DM.ar_v, DM.ar_m, DM.ar_b, DM.pt_nil, DM.pt_cons, DM.pt1_n, DM.atom_int, DM.atom_bl, DM.atom_str, DM.atom_non, DM.atom_lst, DM.atom_tup, DM.atom_enc, DM.selfc_lst, DM.fin_rt, DM.fin_nx, DM.fin_stk, DM.fin_el, DM.fin_ite, DM.fin_rs, DM.ga_nil, DM.ga_cons, DM.ga1_some, DM.kid_l, DM.kid_t, DM.kidO_some, DM.putL_nil, DM.putL_cons, DM.szO_0, DM.szO_1, DM.szO_2, DM.szO_3, DM.szO_4, DM.szO_5, DM.szO_6, DM.szO_7, DM.szO_8, DM.szO_9, DM.szO_10, DM.szO_11, DM.szO_12, DM.szO_13, DM.szO_14, DM.szO_15, DM.szO_16, DM.szO_17, DM.szO_18, DM.szO_19, DM.szO_20, DM.szO_21, DM.szO_22, DM.szO_23, DM.szO_24, DM.szO_25, DS.frz, DS.frzL, DM.frzL_map', DM.frz_enc, DM.rootFz_enc, DS.rootFz, DM.e_int, DM.e_bl, DM.e_tx, DM.e_un, DM.e_non, DM.e_som, DM.e_lst, DM.e_tu, DM.e_t2, DM.e_t3, DM.e_t4, DM.e_t5, DM.e_h2, DM.e_h3, DM.e_h4, DM.e_h5, DS.kAr, DS.kTm, DS.kArs, DS.kOAr, DS.kTms, DS.kCas, DS.kCa, DS.kTs, DS.kOTs, DS.kIt, DM.fz_int, DM.fz_bl, DM.fz_str, DM.fz_non, DM.fz_lst, DM.fz_tup, DM.fz_enc, List.contains_nil, List.contains_cons, List.any_nil, List.any_cons, List.all_nil, List.all_cons, List.length_cons, List.length_nil, Option.isSome_some, Bool.not_true, Bool.not_false, Bool.and_true, Bool.true_and, Bool.and_false, Bool.false_and, Bool.or_true, Bool.true_or, Bool.or_false, Bool.false_or, Bool.false_eq_true, eq_self, if_true, if_false, Option.isNone_none, Option.isNone_some, decide_true, decide_false, Nat.reduceAdd, Nat.reduceEqDiff, Nat.reduceBEq, DM.ty_int_int, DM.ty_int_bool, DM.ty_int_str, DM.ty_int_list, DM.ty_int_tuple, DM.ty_int_dict, DM.ty_bool_int, DM.ty_bool_bool, DM.ty_bool_str, DM.ty_bool_list, DM.ty_bool_tuple, DM.ty_bool_dict, DM.ty_str_int, DM.ty_str_bool, DM.ty_str_str, DM.ty_str_list, DM.ty_str_tuple, DM.ty_str_dict, DM.ty_list_int, DM.ty_list_bool, DM.ty_list_str, DM.ty_list_list, DM.ty_list_tuple, DM.ty_list_dict, DM.ty_tuple_int, DM.ty_tuple_bool, DM.ty_tuple_str, DM.ty_tuple_list, DM.ty_tuple_tuple, DM.ty_tuple_dict, DM.ty_dict_int, DM.ty_dict_bool, DM.ty_dict_str, DM.ty_dict_list, DM.ty_dict_tuple, DM.ty_dict_dict, ↓DM.bind_ok', ↓DM.bind_stk', ↓DM.bind_elim, ↓DM.bind_ite, ↓DM.sb_ok', ↓DM.sb_stk', ↓DM.sb_elim, ↓DM.sb_ite, ↓DM.an_nx, ↓DM.an_rt, ↓DM.an_bk, ↓DM.an_ct, ↓DM.an_stk, ↓DM.an_el, ↓DM.an_ite, ↓DM.an_rs, ↓DM.andO_ok, ↓DM.andO_elim, ↓DM.andO_stk, ↓DM.orO_ok, ↓DM.orO_elim, ↓DM.orO_stk, ↓DM.iteO_ok, ↓DM.iteO_elim, ↓DM.iteO_stk, ↓DM.notO_ok, ↓DM.chnO_some, ↓DM.tkL_nil, ↓DM.tkL_cons, ↓DM.tk1_some, ↓DM.fzL_nil, ↓DM.fzL_cons, ↓DM.fz1_some, ↓DM.elim_some, ↓DM.elim_none, ↓DM.and2_f, ↓DM.or2_t, ↓DM.grd_t, ↓if_true, ↓if_false]
/-! mirror of _law_bool -/
def m12 (v_actual : Bool) (v_due : Bool) : Option Bool :=
  some (true && (decide (v_actual = v_due)))
theorem e12 (v_actual : Bool) (v_due : Bool) : sem12 [(.bl v_actual), (.bl v_due)] = (m12 v_actual v_due).elim .stk fun r => .ok (.bl r) [] := by
  refine (def_eq _ _ _ _ _).trans ?_
  show fin [] (evSs SG12 [] b12 [some (.bl v_actual), some (.bl v_due)]) = _
  simp only [b12, m12, DM.kbin1_a, DM.kbin2_a, DM.kneg_a, DM.kcmp1_a, DM.kcmp2_a, DM.kchn1_a, DM.kchn2_a, DM.kchn3_a, DM.ksub1_a, DM.ksub2_a, DM.kslc1_a, DM.kslc2_a, DM.kslc3_a, DM.kbi_a, DM.kme1_a, DM.kme2_a, DM.ktup_a, DM.klst_a, DM.ktst_a, DM.kas1_a, DM.kas2_a, DM.kts1_a, DM.kts2_a, DM.kav_a, DM.kvl_a, DM.kbl_a, DM.ktr_a, DM.kasg_a, DM.kasT_a, DM.kasI1_a, DM.kasI2_a, DM.kaug_a, DM.kex_a, DM.kif_a, DM.kfor_a, DM.kforT_a, DM.kret_a, DM.kr2_a, DM.klc_a, DM.klc2_a, DM.kmu_a, DM.kcl1_a, DM.kcl2_a, DM.kpre_a, DM.ev_int, DM.ev_bl, DM.ev_str, DM.ev_non, DM.ev_ty, DM.ev_gc, DM.ev_mv, DM.ev_tk, DM.mvO_some, DM.tkO_some, DM.ev_bin, DM.ev_neg, DM.ev_cmp, DM.chnO_some, DM.chn2_ok, DM.chn2_elim, DM.ev_chn, DM.ev_sub, DM.ev_slc, DM.ev_bi, DM.ev_me, DM.ev_tup, DM.ev_lst, DM.ev_call, DM.ev_ite, DM.ev_tst, DM.evA_pk, DM.evA_vl, DM.evPl_sl, DM.oaO_int, DM.evOA_none, DM.evOA_some, DM.evAs_nil, DM.evAs_cons, DM.evTs_nil, DM.evTs_cons, DM.evC_nil, DM.evC_bor, DM.evC_mt, DM.evC_vl, DM.evT_vl, DM.evT_tr, DM.evT_and, DM.evT_or, DM.evT_not, DM.blD_bl, DM.bind_ok', DM.bind_stk', DM.sb_ok', DM.sb_stk', DM.lift_some', DM.lift_none', DM.lift_def, DM.elim_same, ite_self, DM.sub_non, DM.len_non, DM.bind_elim, DM.sb_elim, DM.bind_ite, DM.sb_ite, DM.elim_map, DM.elim_bind, DM.elim_ite, DM.elim_some, DM.elim_none, DM.map_map', DM.map_some', DM.map_ite, DM.andO_ok, DM.andO_elim, DM.and2_ok, DM.and2_elim, DM.and2_ite, DM.and2_t, DM.and2_f, DM.and2_stk, DM.or2_stk, DM.ite2_t, DM.ite2_f, DM.orO_ok, DM.orO_elim, DM.or2_ok, DM.or2_elim, DM.or2_ite, DM.or2_t, DM.or2_f, DM.notO_ok, DM.notO_elim, DM.notO_ite, DM.andO_ite, DM.orO_ite, DM.iteO_ok, DM.iteO_elim, DM.iteO_ite, DM.ite2_int, DM.ite2_bl, DM.ite2_tx, DM.ite2_def, DM.grd_t, DM.grd_tl, DM.grd_tr, DM.b_add, DM.b_sub, DM.b_mul, DM.b_fdiv, DM.b_mod, DM.b_pow, DM.n_neg, DM.b_addL, DM.b_addT, DM.b_addS, DM.b_mulL, DM.s_lst, DM.s_tup, DM.s_str, DM.s_t2i, DM.s_t3i, DM.s_0, DM.s_1, DM.s_2, DM.s_3, DM.s_4, DM.s_5, DM.s_6, DM.s_7, DM.h_0, DM.h_1, DM.h_2, DM.h_3, DM.h_4, DM.h_5, DM.h_6, DM.h_7, DM.sl_lst, DM.sl_tup, DM.sl_str, DM.l_lst, DM.l_tup, DM.l_str, List.length_map, DM.i_int, DM.i_bl, DM.o_bl, DM.o_int, DM.i_abs, DM.i_max, DM.i_min, DM.i_maxL, DM.i_minL, DM.i_sum, DM.i_sorted, DM.i_list, DM.i_listT, DM.i_tuple, DM.i_isi, DM.z_int, DM.z_bl, DM.z_str, DM.z_lst, DM.z_tup, DM.z_non, DM.c_lt, DM.c_le, DM.c_gt, DM.c_ge, DM.c_eq, DM.c_ne, DM.c_is, DM.c_isnot, DM.t_non, DM.t_bl, DM.t_int, DM.t_lst, DM.t_tup, DM.isEmpty_map', DM.in_ints, DM.eqD_int, DM.eqD_bl, DM.eqD_tx, DM.isNon_opt, DM.isNon_enc, DM.n_int, DM.n_bl, DM.n_str, DM.n_lst, DM.n_tup, DM.n_non, DM.notO_stk, DM.orO_stk, DM.andO_stk, DM.iteO_stk, DM.eta_t2, DM.eta_t3, DM.eta_t4, DM.eta_t5, DM.eta_h2, DM.eta_h3, DM.eta_h4, DM.eta_h5, DM.eta_tu, DM.getS_0, DM.getS_s, DM.set_0, DM.set_s, DM.at_0, DM.at_s, DM.wipe_nil, DM.wipe_cons, DM.keep_none, DM.keep_nil, DM.keep_cons, DM.map_none_nil, DM.map_none_cons, DM.pnO_f, DM.an_nx, DM.an_rt, DM.an_bk, DM.an_ct, DM.an_stk, DM.an_el, DM.an_ite, DM.an_rs, DM.nc_nx, DM.nc_ct, DM.nc_bk, DM.nc_rt, DM.nc_stk, DM.nc_el, DM.nc_ite, DM.nc_rs, DM.el_rs, DM.rs_go, DM.rs_rt, DM.ct_nx, DM.ct_bk, DM.ct_rt, DM.ss_nil, DM.ss_cons, DM.st_asg, DM.st_asT, DM.st_asI, DM.st_aug, DM.st_doc, DM.st_ex, DM.st_ite, DM.st_for1, DM.st_forT, DM.st_ret, DM.st_retN, DM.st_brk, DM.st_cnt, DM.st_pas, DM.st_fgt, DM.st_fzs, DM.fzsO_some, DM.someO_some, DM.augO_add, DM.augO_sub, DM.asI_eq, DM.it_sl, DM.it_vl, DM.it_r1, DM.it_r2, DM.r1O_int, DM.r2O_int, DM.walk_lst, DM.walk_tup, DM.walk_str, DM.walk_t2, DM.walk_t3, DM.wlist, DM.seqO_some, DM.wkO_def, DM.ev_lc, DM.lcO_n, DM.ev_lc2, DM.lc2O_n, DM.ev_muO, DM.muO_l, DM.mu2_l, DM.mu_app, DM.mu_pop, DM.mu_rev, DM.mu_clr, DM.callD_eq, DM.res_ok, DM.res_stk, DM.res_el, DM.tkL_nil, DM.tkL_cons, DM.tk1_some, DM.fzL_nil, DM.fzL_cons, DM.fz1_some, DM.mi_nil, DM.mi_m, DM.mi_v, DM.mi_b, DM.bi_nil, DM.bi_m, DM.bi_v, DM.bi_b, DM.ar_nil, DM.ar_v, DM.ar_m, DM.ar_b, DM.pt_nil, DM.pt_cons, DM.pt1_n, DM.atom_int, DM.atom_bl, DM.atom_str, DM.atom_non, DM.atom_lst, DM.atom_tup, DM.atom_enc, DM.selfc_lst, DM.fin_rt, DM.fin_nx, DM.fin_stk, DM.fin_el, DM.fin_ite, DM.fin_rs, DM.ga_nil, DM.ga_cons, DM.ga1_some, DM.kid_l, DM.kid_t, DM.kidO_some, DM.putL_nil, DM.putL_cons, DM.szO_0, DM.szO_1, DM.szO_2, DM.szO_3, DM.szO_4, DM.szO_5, DM.szO_6, DM.szO_7, DM.szO_8, DM.szO_9, DM.szO_10, DM.szO_11, DM.szO_12, DM.szO_13, DM.szO_14, DM.szO_15, DM.szO_16, DM.szO_17, DM.szO_18, DM.szO_19, DM.szO_20, DM.szO_21, DM.szO_22, DM.szO_23, DM.szO_24, DM.szO_25, DS.frz, DS.frzL, DM.frzL_map', DM.frz_enc, DM.rootFz_enc, DS.rootFz, DM.e_int, DM.e_bl, DM.e_tx, DM.e_un, DM.e_non, DM.e_som, DM.e_lst, DM.e_tu, DM.e_t2, DM.e_t3, DM.e_t4, DM.e_t5, DM.e_h2, DM.e_h3, DM.e_h4, DM.e_h5, DS.kAr, DS.kTm, DS.kArs, DS.kOAr, DS.kTms, DS.kCas, DS.kCa, DS.kTs, DS.kOTs, DS.kIt, DM.fz_int, DM.fz_bl, DM.fz_str, DM.fz_non, DM.fz_lst, DM.fz_tup, DM.fz_enc, List.contains_nil, List.contains_cons, List.any_nil, List.any_cons, List.all_nil, List.all_cons, List.length_cons, List.length_nil, Option.isSome_some, Bool.not_true, Bool.not_false, Bool.and_true, Bool.true_and, Bool.and_false, Bool.false_and, Bool.or_true, Bool.true_or, Bool.or_false, Bool.false_or, Bool.false_eq_true, eq_self, if_true, if_false, Option.isNone_none, Option.isNone_some, decide_true, decide_false, Nat.reduceAdd, Nat.reduceEqDiff, Nat.reduceBEq, DM.ty_int_int, DM.ty_int_bool, DM.ty_int_str, DM.ty_int_list, DM.ty_int_tuple, DM.ty_int_dict, DM.ty_bool_int, DM.ty_bool_bool, DM.ty_bool_str, DM.ty_bool_list, DM.ty_bool_tuple, DM.ty_bool_dict, DM.ty_str_int, DM.ty_str_bool, DM.ty_str_str, DM.ty_str_list, DM.ty_str_tuple, DM.ty_str_dict, DM.ty_list_int, DM.ty_list_bool, DM.ty_list_str, DM.ty_list_list, DM.ty_list_tuple, DM.ty_list_dict, DM.ty_tuple_int, DM.ty_tuple_bool, DM.ty_tuple_str, DM.ty_tuple_list, DM.ty_tuple_tuple, DM.ty_tuple_dict, DM.ty_dict_int, DM.ty_dict_bool, DM.ty_dict_str, DM.ty_dict_list, DM.ty_dict_tuple, DM.ty_dict_dict, ↓DM.bind_ok', ↓DM.bind_stk', ↓DM.bind_elim, ↓DM.bind_ite, ↓DM.sb_ok', ↓DM.sb_stk', ↓DM.sb_elim, ↓DM.sb_ite, ↓DM.an_nx, ↓DM.an_rt, ↓DM.an_bk, ↓DM.an_ct, ↓DM.an_stk, ↓DM.an_el, ↓DM.an_ite, ↓DM.an_rs, ↓DM.andO_ok, ↓DM.andO_elim, ↓DM.andO_stk, ↓DM.orO_ok, ↓DM.orO_elim, ↓DM.orO_stk, ↓DM.iteO_ok, ↓DM.iteO_elim, ↓DM.iteO_stk, ↓DM.notO_ok, ↓DM.chnO_some, ↓DM.tkL_nil, ↓DM.tkL_cons, ↓DM.tk1_some, ↓DM.fzL_nil, ↓DM.fzL_cons, ↓DM.fz1_some, ↓DM.elim_some, ↓DM.elim_none, ↓DM.and2_f, ↓DM.or2_t, ↓DM.grd_t, ↓if_true, ↓if_false]
/-! mirror of _law_cut -/
def m13 (v_low : Int) (v_high : Int) : Option (T2 Int Int) :=
  if ((decide (v_low < (-(9223372036854775808)))) || (decide ((9223372036854775807) < v_high))) = true then
  some (T2.mk (-(9223372036854775808)) (9223372036854775807))
  else
  some (T2.mk v_low v_high)
theorem e13 (v_low : Int) (v_high : Int) : sem13 [(.int v_low), (.int v_high)] = (m13 v_low v_high).elim .stk fun r => .ok (.tup false [(.int r.a0), (.int r.a1)]) [] := by
  refine (def_eq _ _ _ _ _).trans ?_
  show fin [] (evSs SG13 [] b13 [some (.int v_low), some (.int v_high)]) = _
  simp only [b13, m13, DM.kbin1_a, DM.kbin2_a, DM.kneg_a, DM.kcmp1_a, DM.kcmp2_a, DM.kchn1_a, DM.kchn2_a, DM.kchn3_a, DM.ksub1_a, DM.ksub2_a, DM.kslc1_a, DM.kslc2_a, DM.kslc3_a, DM.kbi_a, DM.kme1_a, DM.kme2_a, DM.ktup_a, DM.klst_a, DM.ktst_a, DM.kas1_a, DM.kas2_a, DM.kts1_a, DM.kts2_a, DM.kav_a, DM.kvl_a, DM.kbl_a, DM.ktr_a, DM.kasg_a, DM.kasT_a, DM.kasI1_a, DM.kasI2_a, DM.kaug_a, DM.kex_a, DM.kif_a, DM.kfor_a, DM.kforT_a, DM.kret_a, DM.kr2_a, DM.klc_a, DM.klc2_a, DM.kmu_a, DM.kcl1_a, DM.kcl2_a, DM.kpre_a, DM.ev_int, DM.ev_bl, DM.ev_str, DM.ev_non, DM.ev_ty, DM.ev_gc, DM.ev_mv, DM.ev_tk, DM.mvO_some, DM.tkO_some, DM.ev_bin, DM.ev_neg, DM.ev_cmp, DM.chnO_some, DM.chn2_ok, DM.chn2_elim, DM.ev_chn, DM.ev_sub, DM.ev_slc, DM.ev_bi, DM.ev_me, DM.ev_tup, DM.ev_lst, DM.ev_call, DM.ev_ite, DM.ev_tst, DM.evA_pk, DM.evA_vl, DM.evPl_sl, DM.oaO_int, DM.evOA_none, DM.evOA_some, DM.evAs_nil, DM.evAs_cons, DM.evTs_nil, DM.evTs_cons, DM.evC_nil, DM.evC_bor, DM.evC_mt, DM.evC_vl, DM.evT_vl, DM.evT_tr, DM.evT_and, DM.evT_or, DM.evT_not, DM.blD_bl, DM.bind_ok', DM.bind_stk', DM.sb_ok', DM.sb_stk', DM.lift_some', DM.lift_none', DM.lift_def, DM.elim_same, ite_self, DM.sub_non, DM.len_non, DM.bind_elim, DM.sb_elim, DM.bind_ite, DM.sb_ite, DM.elim_map, DM.elim_bind, DM.elim_ite, DM.elim_some, DM.elim_none, DM.map_map', DM.map_some', DM.map_ite, DM.andO_ok, DM.andO_elim, DM.and2_ok, DM.and2_elim, DM.and2_ite, DM.and2_t, DM.and2_f, DM.and2_stk, DM.or2_stk, DM.ite2_t, DM.ite2_f, DM.orO_ok, DM.orO_elim, DM.or2_ok, DM.or2_elim, DM.or2_ite, DM.or2_t, DM.or2_f, DM.notO_ok, DM.notO_elim, DM.notO_ite, DM.andO_ite, DM.orO_ite, DM.iteO_ok, DM.iteO_elim, DM.iteO_ite, DM.ite2_int, DM.ite2_bl, DM.ite2_tx, DM.ite2_def, DM.grd_t, DM.grd_tl, DM.grd_tr, DM.b_add, DM.b_sub, DM.b_mul, DM.b_fdiv, DM.b_mod, DM.b_pow, DM.n_neg, DM.b_addL, DM.b_addT, DM.b_addS, DM.b_mulL, DM.s_lst, DM.s_tup, DM.s_str, DM.s_t2i, DM.s_t3i, DM.s_0, DM.s_1, DM.s_2, DM.s_3, DM.s_4, DM.s_5, DM.s_6, DM.s_7, DM.h_0, DM.h_1, DM.h_2, DM.h_3, DM.h_4, DM.h_5, DM.h_6, DM.h_7, DM.sl_lst, DM.sl_tup, DM.sl_str, DM.l_lst, DM.l_tup, DM.l_str, List.length_map, DM.i_int, DM.i_bl, DM.o_bl, DM.o_int, DM.i_abs, DM.i_max, DM.i_min, DM.i_maxL, DM.i_minL, DM.i_sum, DM.i_sorted, DM.i_list, DM.i_listT, DM.i_tuple, DM.i_isi, DM.z_int, DM.z_bl, DM.z_str, DM.z_lst, DM.z_tup, DM.z_non, DM.c_lt, DM.c_le, DM.c_gt, DM.c_ge, DM.c_eq, DM.c_ne, DM.c_is, DM.c_isnot, DM.t_non, DM.t_bl, DM.t_int, DM.t_lst, DM.t_tup, DM.isEmpty_map', DM.in_ints, DM.eqD_int, DM.eqD_bl, DM.eqD_tx, DM.isNon_opt, DM.isNon_enc, DM.n_int, DM.n_bl, DM.n_str, DM.n_lst, DM.n_tup, DM.n_non, DM.notO_stk, DM.orO_stk, DM.andO_stk, DM.iteO_stk, DM.eta_t2, DM.eta_t3, DM.eta_t4, DM.eta_t5, DM.eta_h2, DM.eta_h3, DM.eta_h4, DM.eta_h5, DM.eta_tu, DM.getS_0, DM.getS_s, DM.set_0, DM.set_s, DM.at_0, DM.at_s, DM.wipe_nil, DM.wipe_cons, DM.keep_none, DM.keep_nil, DM.keep_cons, DM.map_none_nil, DM.map_none_cons, DM.pnO_f, DM.an_nx, DM.an_rt, DM.an_bk, DM.an_ct, DM.an_stk, DM.an_el, DM.an_ite, DM.an_rs, DM.nc_nx, DM.nc_ct, DM.nc_bk, DM.nc_rt, DM.nc_stk, DM.nc_el, DM.nc_ite, DM.nc_rs, DM.el_rs, DM.rs_go, DM.rs_rt, DM.ct_nx, DM.ct_bk, DM.ct_rt, DM.ss_nil, DM.ss_cons, DM.st_asg, DM.st_asT, DM.st_asI, DM.st_aug, DM.st_doc, DM.st_ex, DM.st_ite, DM.st_for1, DM.st_forT, DM.st_ret, DM.st_retN, DM.st_brk, DM.st_cnt, DM.st_pas, DM.st_fgt, DM.st_fzs, DM.fzsO_some, DM.someO_some, DM.augO_add, DM.augO_sub, DM.asI_eq, DM.it_sl, DM.it_vl, DM.it_r1, DM.it_r2, DM.r1O_int, DM.r2O_int, DM.walk_lst, DM.walk_tup, DM.walk_str, DM.walk_t2, DM.walk_t3, DM.wlist, DM.seqO_some, DM.wkO_def, DM.ev_lc, DM.lcO_n, DM.ev_lc2, DM.lc2O_n, DM.ev_muO, DM.muO_l, DM.mu2_l, DM.mu_app, DM.mu_pop, DM.mu_rev, DM.mu_clr, DM.callD_eq, DM.res_ok, DM.res_stk, DM.res_el, DM.tkL_nil, DM.tkL_cons, DM.tk1_some, DM.fzL_nil, DM.fzL_cons, DM.fz1_some, DM.mi_nil, DM.mi_m, DM.mi_v, DM.mi_b, DM.bi_nil, DM.bi_m, DM.bi_v, DM.bi_b, DM.ar_nil, DM.ar_v, DM.ar_m, DM.ar_b, DM.pt_nil, DM.pt_cons, DM.pt1_n, DM.atom_int, DM.atom_bl, DM.atom_str, DM.atom_non, DM.atom_lst, DM.atom_tup, DM.atom_enc, DM.selfc_lst, DM.fin_rt, DM.fin_nx, DM.fin_stk, DM.fin_el, DM.fin_ite, DM.fin_rs, DM.ga_nil, DM.ga_cons, DM.ga1_some, DM.kid_l, DM.kid_t, DM.kidO_some, DM.putL_nil, DM.putL_cons, DM.szO_0, DM.szO_1, DM.szO_2, DM.szO_3, DM.szO_4, DM.szO_5, DM.szO_6, DM.szO_7, DM.szO_8, DM.szO_9, DM.szO_10, DM.szO_11, DM.szO_12, DM.szO_13, DM.szO_14, DM.szO_15, DM.szO_16, DM.szO_17, DM.szO_18, DM.szO_19, DM.szO_20, DM.szO_21, DM.szO_22, DM.szO_23, DM.szO_24, DM.szO_25, DS.frz, DS.frzL, DM.frzL_map', DM.frz_enc, DM.rootFz_enc, DS.rootFz, DM.e_int, DM.e_bl, DM.e_tx, DM.e_un, DM.e_non, DM.e_som, DM.e_lst, DM.e_tu, DM.e_t2, DM.e_t3, DM.e_t4, DM.e_t5, DM.e_h2, DM.e_h3, DM.e_h4, DM.e_h5, DS.kAr, DS.kTm, DS.kArs, DS.kOAr, DS.kTms, DS.kCas, DS.kCa, DS.kTs, DS.kOTs, DS.kIt, DM.fz_int, DM.fz_bl, DM.fz_str, DM.fz_non, DM.fz_lst, DM.fz_tup, DM.fz_enc, List.contains_nil, List.contains_cons, List.any_nil, List.any_cons, List.all_nil, List.all_cons, List.length_cons, List.length_nil, Option.isSome_some, Bool.not_true, Bool.not_false, Bool.and_true, Bool.true_and, Bool.and_false, Bool.false_and, Bool.or_true, Bool.true_or, Bool.or_false, Bool.false_or, Bool.false_eq_true, eq_self, if_true, if_false, Option.isNone_none, Option.isNone_some, decide_true, decide_false, Nat.reduceAdd, Nat.reduceEqDiff, Nat.reduceBEq, DM.ty_int_int, DM.ty_int_bool, DM.ty_int_str, DM.ty_int_list, DM.ty_int_tuple, DM.ty_int_dict, DM.ty_bool_int, DM.ty_bool_bool, DM.ty_bool_str, DM.ty_bool_list, DM.ty_bool_tuple, DM.ty_bool_dict, DM.ty_str_int, DM.ty_str_bool, DM.ty_str_str, DM.ty_str_list, DM.ty_str_tuple, DM.ty_str_dict, DM.ty_list_int, DM.ty_list_bool, DM.ty_list_str, DM.ty_list_list, DM.ty_list_tuple, DM.ty_list_dict, DM.ty_tuple_int, DM.ty_tuple_bool, DM.ty_tuple_str, DM.ty_tuple_list, DM.ty_tuple_tuple, DM.ty_tuple_dict, DM.ty_dict_int, DM.ty_dict_bool, DM.ty_dict_str, DM.ty_dict_list, DM.ty_dict_tuple, DM.ty_dict_dict, ↓DM.bind_ok', ↓DM.bind_stk', ↓DM.bind_elim, ↓DM.bind_ite, ↓DM.sb_ok', ↓DM.sb_stk', ↓DM.sb_elim, ↓DM.sb_ite, ↓DM.an_nx, ↓DM.an_rt, ↓DM.an_bk, ↓DM.an_ct, ↓DM.an_stk, ↓DM.an_el, ↓DM.an_ite, ↓DM.an_rs, ↓DM.andO_ok, ↓DM.andO_elim, ↓DM.andO_stk, ↓DM.orO_ok, ↓DM.orO_elim, ↓DM.orO_stk, ↓DM.iteO_ok, ↓DM.iteO_elim, ↓DM.iteO_stk, ↓DM.notO_ok, ↓DM.chnO_some, ↓DM.tkL_nil, ↓DM.tkL_cons, ↓DM.tk1_some, ↓DM.fzL_nil, ↓DM.fzL_cons, ↓DM.fz1_some, ↓DM.elim_some, ↓DM.elim_none, ↓DM.and2_f, ↓DM.or2_t, ↓DM.grd_t, ↓if_true, ↓if_false]
/-! mirror of _law_numbers -/
theorem f14_d1 (v_a_0 : Int) (v_a_1 : Int) (v_b_0 : Int) (v_b_1 : Int) (v_great : Int) : ev SG14 f14_D1 [some (.tup false [(.int v_a_0), (.int v_a_1)]), some (.tup false [(.int v_b_0), (.int v_b_1)]), some (.int v_great)] = ((mulM v_a_0 v_b_0).bind fun t3 => (mulM v_a_1 v_b_1).bind fun t4 => some [v_a_0, v_a_1, v_b_0, (v_a_0 + v_b_0), (v_a_1 + v_b_1), (v_a_0 - v_b_1), (v_a_1 - v_b_0), t3, t4, v_great, (v_a_0 - (1)), (v_a_1 + (1))] : Option (List Int)).elim .stk fun z => .ok (.lst true (List.map enc z)) [some (.tup false [(.int v_a_0), (.int v_a_1)]), some (.tup false [(.int v_b_0), (.int v_b_1)]), some (.int v_great)] := by
  simp only [f14_D1, List.map_cons, List.map_nil, DM.kbin1_a, DM.kbin2_a, DM.kneg_a, DM.kcmp1_a, DM.kcmp2_a, DM.kchn1_a, DM.kchn2_a, DM.kchn3_a, DM.ksub1_a, DM.ksub2_a, DM.kslc1_a, DM.kslc2_a, DM.kslc3_a, DM.kbi_a, DM.kme1_a, DM.kme2_a, DM.ktup_a, DM.klst_a, DM.ktst_a, DM.kas1_a, DM.kas2_a, DM.kts1_a, DM.kts2_a, DM.kav_a, DM.kvl_a, DM.kbl_a, DM.ktr_a, DM.kasg_a, DM.kasT_a, DM.kasI1_a, DM.kasI2_a, DM.kaug_a, DM.kex_a, DM.kif_a, DM.kfor_a, DM.kforT_a, DM.kret_a, DM.kr2_a, DM.klc_a, DM.klc2_a, DM.kmu_a, DM.kcl1_a, DM.kcl2_a, DM.kpre_a, DM.ev_int, DM.ev_bl, DM.ev_str, DM.ev_non, DM.ev_ty, DM.ev_gc, DM.ev_mv, DM.ev_tk, DM.mvO_some, DM.tkO_some, DM.ev_bin, DM.ev_neg, DM.ev_cmp, DM.chnO_some, DM.chn2_ok, DM.chn2_elim, DM.ev_chn, DM.ev_sub, DM.ev_slc, DM.ev_bi, DM.ev_me, DM.ev_tup, DM.ev_lst, DM.ev_call, DM.ev_ite, DM.ev_tst, DM.evA_pk, DM.evA_vl, DM.evPl_sl, DM.oaO_int, DM.evOA_none, DM.evOA_some, DM.evAs_nil, DM.evAs_cons, DM.evTs_nil, DM.evTs_cons, DM.evC_nil, DM.evC_bor, DM.evC_mt, DM.evC_vl, DM.evT_vl, DM.evT_tr, DM.evT_and, DM.evT_or, DM.evT_not, DM.blD_bl, DM.bind_ok', DM.bind_stk', DM.sb_ok', DM.sb_stk', DM.lift_some', DM.lift_none', DM.lift_def, DM.elim_same, ite_self, DM.sub_non, DM.len_non, DM.bind_elim, DM.sb_elim, DM.bind_ite, DM.sb_ite, DM.elim_map, DM.elim_bind, DM.elim_ite, DM.elim_some, DM.elim_none, DM.map_map', DM.map_some', DM.map_ite, DM.andO_ok, DM.andO_elim, DM.and2_ok, DM.and2_elim, DM.and2_ite, DM.and2_t, DM.and2_f, DM.and2_stk, DM.or2_stk, DM.ite2_t, DM.ite2_f, DM.orO_ok, DM.orO_elim, DM.or2_ok, DM.or2_elim, DM.or2_ite, DM.or2_t, DM.or2_f, DM.notO_ok, DM.notO_elim, DM.notO_ite, DM.andO_ite, DM.orO_ite, DM.iteO_ok, DM.iteO_elim, DM.iteO_ite, DM.ite2_int, DM.ite2_bl, DM.ite2_tx, DM.ite2_def, DM.grd_t, DM.grd_tl, DM.grd_tr, DM.b_add, DM.b_sub, DM.b_mul, DM.b_fdiv, DM.b_mod, DM.b_pow, DM.n_neg, DM.b_addL, DM.b_addT, DM.b_addS, DM.b_mulL, DM.s_lst, DM.s_tup, DM.s_str, DM.s_t2i, DM.s_t3i, DM.s_0, DM.s_1, DM.s_2, DM.s_3, DM.s_4, DM.s_5, DM.s_6, DM.s_7, DM.h_0, DM.h_1, DM.h_2, DM.h_3, DM.h_4, DM.h_5, DM.h_6, DM.h_7, DM.sl_lst, DM.sl_tup, DM.sl_str, DM.l_lst, DM.l_tup, DM.l_str, List.length_map, DM.i_int, DM.i_bl, DM.o_bl, DM.o_int, DM.i_abs, DM.i_max, DM.i_min, DM.i_maxL, DM.i_minL, DM.i_sum, DM.i_sorted, DM.i_list, DM.i_listT, DM.i_tuple, DM.i_isi, DM.z_int, DM.z_bl, DM.z_str, DM.z_lst, DM.z_tup, DM.z_non, DM.c_lt, DM.c_le, DM.c_gt, DM.c_ge, DM.c_eq, DM.c_ne, DM.c_is, DM.c_isnot, DM.t_non, DM.t_bl, DM.t_int, DM.t_lst, DM.t_tup, DM.isEmpty_map', DM.in_ints, DM.eqD_int, DM.eqD_bl, DM.eqD_tx, DM.isNon_opt, DM.isNon_enc, DM.n_int, DM.n_bl, DM.n_str, DM.n_lst, DM.n_tup, DM.n_non, DM.notO_stk, DM.orO_stk, DM.andO_stk, DM.iteO_stk, DM.eta_t2, DM.eta_t3, DM.eta_t4, DM.eta_t5, DM.eta_h2, DM.eta_h3, DM.eta_h4, DM.eta_h5, DM.eta_tu, DM.getS_0, DM.getS_s, DM.set_0, DM.set_s, DM.at_0, DM.at_s, DM.wipe_nil, DM.wipe_cons, DM.keep_none, DM.keep_nil, DM.keep_cons, DM.map_none_nil, DM.map_none_cons, DM.pnO_f, DM.an_nx, DM.an_rt, DM.an_bk, DM.an_ct, DM.an_stk, DM.an_el, DM.an_ite, DM.an_rs, DM.nc_nx, DM.nc_ct, DM.nc_bk, DM.nc_rt, DM.nc_stk, DM.nc_el, DM.nc_ite, DM.nc_rs, DM.el_rs, DM.rs_go, DM.rs_rt, DM.ct_nx, DM.ct_bk, DM.ct_rt, DM.ss_nil, DM.ss_cons, DM.st_asg, DM.st_asT, DM.st_asI, DM.st_aug, DM.st_doc, DM.st_ex, DM.st_ite, DM.st_for1, DM.st_forT, DM.st_ret, DM.st_retN, DM.st_brk, DM.st_cnt, DM.st_pas, DM.st_fgt, DM.st_fzs, DM.fzsO_some, DM.someO_some, DM.augO_add, DM.augO_sub, DM.asI_eq, DM.it_sl, DM.it_vl, DM.it_r1, DM.it_r2, DM.r1O_int, DM.r2O_int, DM.walk_lst, DM.walk_tup, DM.walk_str, DM.walk_t2, DM.walk_t3, DM.wlist, DM.seqO_some, DM.wkO_def, DM.ev_lc, DM.lcO_n, DM.ev_lc2, DM.lc2O_n, DM.ev_muO, DM.muO_l, DM.mu2_l, DM.mu_app, DM.mu_pop, DM.mu_rev, DM.mu_clr, DM.callD_eq, DM.res_ok, DM.res_stk, DM.res_el, DM.tkL_nil, DM.tkL_cons, DM.tk1_some, DM.fzL_nil, DM.fzL_cons, DM.fz1_some, DM.mi_nil, DM.mi_m, DM.mi_v, DM.mi_b, DM.bi_nil, DM.bi_m, DM.bi_v, DM.bi_b, DM.ar_nil, DM.ar_v, DM.ar_m, DM.ar_b, DM.pt_nil, DM.pt_cons, DM.pt1_n, DM.atom_int, DM.atom_bl, DM.atom_str, DM.atom_non, DM.atom_lst, DM.atom_tup, DM.atom_enc, DM.selfc_lst, DM.fin_rt, DM.fin_nx, DM.fin_stk, DM.fin_el, DM.fin_ite, DM.fin_rs, DM.ga_nil, DM.ga_cons, DM.ga1_some, DM.kid_l, DM.kid_t, DM.kidO_some, DM.putL_nil, DM.putL_cons, DM.szO_0, DM.szO_1, DM.szO_2, DM.szO_3, DM.szO_4, DM.szO_5, DM.szO_6, DM.szO_7, DM.szO_8, DM.szO_9, DM.szO_10, DM.szO_11, DM.szO_12, DM.szO_13, DM.szO_14, DM.szO_15, DM.szO_16, DM.szO_17, DM.szO_18, DM.szO_19, DM.szO_20, DM.szO_21, DM.szO_22, DM.szO_23, DM.szO_24, DM.szO_25, DS.frz, DS.frzL, DM.frzL_map', DM.frz_enc, DM.rootFz_enc, DS.rootFz, DM.e_int, DM.e_bl, DM.e_tx, DM.e_un, DM.e_non, DM.e_som, DM.e_lst, DM.e_tu, DM.e_t2, DM.e_t3, DM.e_t4, DM.e_t5, DM.e_h2, DM.e_h3, DM.e_h4, DM.e_h5, DS.kAr, DS.kTm, DS.kArs, DS.kOAr, DS.kTms, DS.kCas, DS.kCa, DS.kTs, DS.kOTs, DS.kIt, DM.fz_int, DM.fz_bl, DM.fz_str, DM.fz_non, DM.fz_lst, DM.fz_tup, DM.fz_enc, List.contains_nil, List.contains_cons, List.any_nil, List.any_cons, List.all_nil, List.all_cons, List.length_cons, List.length_nil, Option.isSome_some, Bool.not_true, Bool.not_false, Bool.and_true, Bool.true_and, Bool.and_false, Bool.false_and, Bool.or_true, Bool.true_or, Bool.or_false, Bool.false_or, Bool.false_eq_true, eq_self, if_true, if_false, Option.isNone_none, Option.isNone_some, decide_true, decide_false, Nat.reduceAdd, Nat.reduceEqDiff, Nat.reduceBEq, DM.ty_int_int, DM.ty_int_bool, DM.ty_int_str, DM.ty_int_list, DM.ty_int_tuple, DM.ty_int_dict, DM.ty_bool_int, DM.ty_bool_bool, DM.ty_bool_str, DM.ty_bool_list, DM.ty_bool_tuple, DM.ty_bool_dict, DM.ty_str_int, DM.ty_str_bool, DM.ty_str_str, DM.ty_str_list, DM.ty_str_tuple, DM.ty_str_dict, DM.ty_list_int, DM.ty_list_bool, DM.ty_list_str, DM.ty_list_list, DM.ty_list_tuple, DM.ty_list_dict, DM.ty_tuple_int, DM.ty_tuple_bool, DM.ty_tuple_str, DM.ty_tuple_list, DM.ty_tuple_tuple, DM.ty_tuple_dict, DM.ty_dict_int, DM.ty_dict_bool, DM.ty_dict_str, DM.ty_dict_list, DM.ty_dict_tuple, DM.ty_dict_dict, ↓DM.bind_ok', ↓DM.bind_stk', ↓DM.bind_elim, ↓DM.bind_ite, ↓DM.sb_ok', ↓DM.sb_stk', ↓DM.sb_elim, ↓DM.sb_ite, ↓DM.an_nx, ↓DM.an_rt, ↓DM.an_bk, ↓DM.an_ct, ↓DM.an_stk, ↓DM.an_el, ↓DM.an_ite, ↓DM.an_rs, ↓DM.andO_ok, ↓DM.andO_elim, ↓DM.andO_stk, ↓DM.orO_ok, ↓DM.orO_elim, ↓DM.orO_stk, ↓DM.iteO_ok, ↓DM.iteO_elim, ↓DM.iteO_stk, ↓DM.notO_ok, ↓DM.chnO_some, ↓DM.tkL_nil, ↓DM.tkL_cons, ↓DM.tk1_some, ↓DM.fzL_nil, ↓DM.fzL_cons, ↓DM.fz1_some, ↓DM.elim_some, ↓DM.elim_none, ↓DM.and2_f, ↓DM.or2_t, ↓DM.grd_t, ↓if_true, ↓if_false]
def m14 (v_a : (T2 Int Int)) (v_b : (T2 Int Int)) (v_great : Int) : Option (List Int) :=
  (mulM v_a.a0 v_b.a0).bind fun t1 =>
  (mulM v_a.a1 v_b.a1).bind fun t2 =>
  some ([v_a.a0, v_a.a1, v_b.a0, (v_a.a0 + v_b.a0), (v_a.a1 + v_b.a1), (v_a.a0 - v_b.a1), (v_a.a1 - v_b.a0), t1, t2, v_great, (v_a.a0 - (1)), (v_a.a1 + (1))])
theorem e14 (v_a_0 : Int) (v_a_1 : Int) (v_b_0 : Int) (v_b_1 : Int) (v_great : Int) : sem14 [(.tup false [(.int v_a_0), (.int v_a_1)]), (.tup false [(.int v_b_0), (.int v_b_1)]), (.int v_great)] = (m14 (T2.mk v_a_0 v_a_1) (T2.mk v_b_0 v_b_1) v_great).elim .stk fun r => .ok (.lst true (List.map enc r)) [] := by
  refine (def_eq _ _ _ _ _).trans ?_
  show fin [] (evSs SG14 [] b14 [some (.tup false [(.int v_a_0), (.int v_a_1)]), some (.tup false [(.int v_b_0), (.int v_b_1)]), some (.int v_great)]) = _
  simp only [b14, m14, f14_d1, DM.kbin1_a, DM.kbin2_a, DM.kneg_a, DM.kcmp1_a, DM.kcmp2_a, DM.kchn1_a, DM.kchn2_a, DM.kchn3_a, DM.ksub1_a, DM.ksub2_a, DM.kslc1_a, DM.kslc2_a, DM.kslc3_a, DM.kbi_a, DM.kme1_a, DM.kme2_a, DM.ktup_a, DM.klst_a, DM.ktst_a, DM.kas1_a, DM.kas2_a, DM.kts1_a, DM.kts2_a, DM.kav_a, DM.kvl_a, DM.kbl_a, DM.ktr_a, DM.kasg_a, DM.kasT_a, DM.kasI1_a, DM.kasI2_a, DM.kaug_a, DM.kex_a, DM.kif_a, DM.kfor_a, DM.kforT_a, DM.kret_a, DM.kr2_a, DM.klc_a, DM.klc2_a, DM.kmu_a, DM.kcl1_a, DM.kcl2_a, DM.kpre_a, DM.ev_int, DM.ev_bl, DM.ev_str, DM.ev_non, DM.ev_ty, DM.ev_gc, DM.ev_mv, DM.ev_tk, DM.mvO_some, DM.tkO_some, DM.ev_bin, DM.ev_neg, DM.ev_cmp, DM.chnO_some, DM.chn2_ok, DM.chn2_elim, DM.ev_chn, DM.ev_sub, DM.ev_slc, DM.ev_bi, DM.ev_me, DM.ev_tup, DM.ev_lst, DM.ev_call, DM.ev_ite, DM.ev_tst, DM.evA_pk, DM.evA_vl, DM.evPl_sl, DM.oaO_int, DM.evOA_none, DM.evOA_some, DM.evAs_nil, DM.evAs_cons, DM.evTs_nil, DM.evTs_cons, DM.evC_nil, DM.evC_bor, DM.evC_mt, DM.evC_vl, DM.evT_vl, DM.evT_tr, DM.evT_and, DM.evT_or, DM.evT_not, DM.blD_bl, DM.bind_ok', DM.bind_stk', DM.sb_ok', DM.sb_stk', DM.lift_some', DM.lift_none', DM.lift_def, DM.elim_same, ite_self, DM.sub_non, DM.len_non, DM.bind_elim, DM.sb_elim, DM.bind_ite, DM.sb_ite, DM.elim_map, DM.elim_bind, DM.elim_ite, DM.elim_some, DM.elim_none, DM.map_map', DM.map_some', DM.map_ite, DM.andO_ok, DM.andO_elim, DM.and2_ok, DM.and2_elim, DM.and2_ite, DM.and2_t, DM.and2_f, DM.and2_stk, DM.or2_stk, DM.ite2_t, DM.ite2_f, DM.orO_ok, DM.orO_elim, DM.or2_ok, DM.or2_elim, DM.or2_ite, DM.or2_t, DM.or2_f, DM.notO_ok, DM.notO_elim, DM.notO_ite, DM.andO_ite, DM.orO_ite, DM.iteO_ok, DM.iteO_elim, DM.iteO_ite, DM.ite2_int, DM.ite2_bl, DM.ite2_tx, DM.ite2_def, DM.grd_t, DM.grd_tl, DM.grd_tr, DM.b_add, DM.b_sub, DM.b_mul, DM.b_fdiv, DM.b_mod, DM.b_pow, DM.n_neg, DM.b_addL, DM.b_addT, DM.b_addS, DM.b_mulL, DM.s_lst, DM.s_tup, DM.s_str, DM.s_t2i, DM.s_t3i, DM.s_0, DM.s_1, DM.s_2, DM.s_3, DM.s_4, DM.s_5, DM.s_6, DM.s_7, DM.h_0, DM.h_1, DM.h_2, DM.h_3, DM.h_4, DM.h_5, DM.h_6, DM.h_7, DM.sl_lst, DM.sl_tup, DM.sl_str, DM.l_lst, DM.l_tup, DM.l_str, List.length_map, DM.i_int, DM.i_bl, DM.o_bl, DM.o_int, DM.i_abs, DM.i_max, DM.i_min, DM.i_maxL, DM.i_minL, DM.i_sum, DM.i_sorted, DM.i_list, DM.i_listT, DM.i_tuple, DM.i_isi, DM.z_int, DM.z_bl, DM.z_str, DM.z_lst, DM.z_tup, DM.z_non, DM.c_lt, DM.c_le, DM.c_gt, DM.c_ge, DM.c_eq, DM.c_ne, DM.c_is, DM.c_isnot, DM.t_non, DM.t_bl, DM.t_int, DM.t_lst, DM.t_tup, DM.isEmpty_map', DM.in_ints, DM.eqD_int, DM.eqD_bl, DM.eqD_tx, DM.isNon_opt, DM.isNon_enc, DM.n_int, DM.n_bl, DM.n_str, DM.n_lst, DM.n_tup, DM.n_non, DM.notO_stk, DM.orO_stk, DM.andO_stk, DM.iteO_stk, DM.eta_t2, DM.eta_t3, DM.eta_t4, DM.eta_t5, DM.eta_h2, DM.eta_h3, DM.eta_h4, DM.eta_h5, DM.eta_tu, DM.getS_0, DM.getS_s, DM.set_0, DM.set_s, DM.at_0, DM.at_s, DM.wipe_nil, DM.wipe_cons, DM.keep_none, DM.keep_nil, DM.keep_cons, DM.map_none_nil, DM.map_none_cons, DM.pnO_f, DM.an_nx, DM.an_rt, DM.an_bk, DM.an_ct, DM.an_stk, DM.an_el, DM.an_ite, DM.an_rs, DM.nc_nx, DM.nc_ct, DM.nc_bk, DM.nc_rt, DM.nc_stk, DM.nc_el, DM.nc_ite, DM.nc_rs, DM.el_rs, DM.rs_go, DM.rs_rt, DM.ct_nx, DM.ct_bk, DM.ct_rt, DM.ss_nil, DM.ss_cons, DM.st_asg, DM.st_asT, DM.st_asI, DM.st_aug, DM.st_doc, DM.st_ex, DM.st_ite, DM.st_for1, DM.st_forT, DM.st_ret, DM.st_retN, DM.st_brk, DM.st_cnt, DM.st_pas, DM.st_fgt, DM.st_fzs, DM.fzsO_some, DM.someO_some, DM.augO_add, DM.augO_sub, DM.asI_eq, DM.it_sl, DM.it_vl, DM.it_r1, DM.it_r2, DM.r1O_int, DM.r2O_int, DM.walk_lst, DM.walk_tup, DM.walk_str, DM.walk_t2, DM.walk_t3, DM.wlist, DM.seqO_some, DM.wkO_def, DM.ev_lc, DM.lcO_n, DM.ev_lc2, DM.lc2O_n, DM.ev_muO, DM.muO_l, DM.mu2_l, DM.mu_app, DM.mu_pop, DM.mu_rev, DM.mu_clr, DM.callD_eq, DM.res_ok, DM.res_stk, DM.res_el, DM.tkL_nil, DM.tkL_cons, DM.tk1_some, DM.fzL_nil, DM.fzL_cons, DM.fz1_some, DM.mi_nil, DM.mi_m, DM.mi_v, DM.mi_b, DM.bi_nil, DM.bi_m, DM.bi_v, DM.bi_b, DM.ar_nil, DM.ar_v, DM.ar_m, DM.ar_b, DM.pt_nil, DM.pt_cons, DM.pt1_n, DM.atom_int, DM.atom_bl, DM.atom_str, DM.atom_non, DM.atom_lst, DM.atom_tup, DM.atom_enc, DM.selfc_lst, DM.fin_rt, DM.fin_nx, DM.fin_stk, DM.fin_el, DM.fin_ite, DM.fin_rs, DM.ga_nil, DM.ga_cons, DM.ga1_some, DM.kid_l, DM.kid_t, DM.kidO_some, DM.putL_nil, DM.putL_cons, DM.szO_0, DM.szO_1, DM.szO_2, DM.szO_3, DM.szO_4, DM.szO_5, DM.szO_6, DM.szO_7, DM.szO_8, DM.szO_9, DM.szO_10, DM.szO_11, DM.szO_12, DM.szO_13, DM.szO_14, DM.szO_15, DM.szO_16, DM.szO_17, DM.szO_18, DM.szO_19, DM.szO_20, DM.szO_21, DM.szO_22, DM.szO_23, DM.szO_24, DM.szO_25, DS.frz, DS.frzL, DM.frzL_map', DM.frz_enc, DM.rootFz_enc, DS.rootFz, DM.e_int, DM.e_bl, DM.e_tx, DM.e_un, DM.e_non, DM.e_som, DM.e_lst, DM.e_tu, DM.e_t2, DM.e_t3, DM.e_t4, DM.e_t5, DM.e_h2, DM.e_h3, DM.e_h4, DM.e_h5, DS.kAr, DS.kTm, DS.kArs, DS.kOAr, DS.kTms, DS.kCas, DS.kCa, DS.kTs, DS.kOTs, DS.kIt, DM.fz_int, DM.fz_bl, DM.fz_str, DM.fz_non, DM.fz_lst, DM.fz_tup, DM.fz_enc, List.contains_nil, List.contains_cons, List.any_nil, List.any_cons, List.all_nil, List.all_cons, List.length_cons, List.length_nil, Option.isSome_some, Bool.not_true, Bool.not_false, Bool.and_true, Bool.true_and, Bool.and_false, Bool.false_and, Bool.or_true, Bool.true_or, Bool.or_false, Bool.false_or, Bool.false_eq_true, eq_self, if_true, if_false, Option.isNone_none, Option.isNone_some, decide_true, decide_false, Nat.reduceAdd, Nat.reduceEqDiff, Nat.reduceBEq, DM.ty_int_int, DM.ty_int_bool, DM.ty_int_str, DM.ty_int_list, DM.ty_int_tuple, DM.ty_int_dict, DM.ty_bool_int, DM.ty_bool_bool, DM.ty_bool_str, DM.ty_bool_list, DM.ty_bool_tuple, DM.ty_bool_dict, DM.ty_str_int, DM.ty_str_bool, DM.ty_str_str, DM.ty_str_list, DM.ty_str_tuple, DM.ty_str_dict, DM.ty_list_int, DM.ty_list_bool, DM.ty_list_str, DM.ty_list_list, DM.ty_list_tuple, DM.ty_list_dict, DM.ty_tuple_int, DM.ty_tuple_bool, DM.ty_tuple_str, DM.ty_tuple_list, DM.ty_tuple_tuple, DM.ty_tuple_dict, DM.ty_dict_int, DM.ty_dict_bool, DM.ty_dict_str, DM.ty_dict_list, DM.ty_dict_tuple, DM.ty_dict_dict, ↓DM.bind_ok', ↓DM.bind_stk', ↓DM.bind_elim, ↓DM.bind_ite, ↓DM.sb_ok', ↓DM.sb_stk', ↓DM.sb_elim, ↓DM.sb_ite, ↓DM.an_nx, ↓DM.an_rt, ↓DM.an_bk, ↓DM.an_ct, ↓DM.an_stk, ↓DM.an_el, ↓DM.an_ite, ↓DM.an_rs, ↓DM.andO_ok, ↓DM.andO_elim, ↓DM.andO_stk, ↓DM.orO_ok, ↓DM.orO_elim, ↓DM.orO_stk, ↓DM.iteO_ok, ↓DM.iteO_elim, ↓DM.iteO_stk, ↓DM.notO_ok, ↓DM.chnO_some, ↓DM.tkL_nil, ↓DM.tkL_cons, ↓DM.tk1_some, ↓DM.fzL_nil, ↓DM.fzL_cons, ↓DM.fz1_some, ↓DM.elim_some, ↓DM.elim_none, ↓DM.and2_f, ↓DM.or2_t, ↓DM.grd_t, ↓if_true, ↓if_false]
/-! mirror of _law_words -/
theorem fn15_0 : SG15.fn 0 = sem0 := rfl
theorem fn15_1 : SG15.fn 1 = sem1 := rfl
theorem fn15_12 : SG15.fn 12 = sem12 := rfl
theorem fn15_14 : SG15.fn 14 = sem14 := rfl
def f15_l1 (v_a : (T2 Int Int)) (v_b : (T2 Int Int)) (v_great : Int) (x : Int) (s : Unit) : Option (Ct Unit Bool) :=
  (fdivM (x + (9223372036854775808)) (18446744073709551616)).bind fun t1 =>
  (mulM t1 (18446744073709551616)).bind fun t2 =>
  (m0 x).bind fun t3 =>
  if ((!true) || (false || (!decide (t3 = (x - t2))))) = true then
  some (.rt false)
  else
  (m1 x).bind fun t4 =>
  (m12 t4 (decide (t1 = (0)))).bind fun t5 =>
  if (!t5) = true then
  some (.rt false)
  else
  some (.nx ())
theorem f15_l1_b (v_a : (T2 Int Int)) (v_b : (T2 Int Int)) (v_great : Int) (x : Int) (s : Unit) : nxct (evSs SG15 [] f15_L1 [some (.tup false [(.int v_a.a0), (.int v_a.a1)]), some (.tup false [(.int v_b.a0), (.int v_b.a1)]), some (.int v_great), some (.int x), none, none, none]) = (f15_l1 v_a v_b v_great x s).elim .stk fun c => c.el (fun s => .nx [some (.tup false [(.int v_a.a0), (.int v_a.a1)]), some (.tup false [(.int v_b.a0), (.int v_b.a1)]), some (.int v_great), none, none, none, none]) (fun s => .bk [some (.tup false [(.int v_a.a0), (.int v_a.a1)]), some (.tup false [(.int v_b.a0), (.int v_b.a1)]), some (.int v_great), none, none, none, none]) (fun r => .rt (.bl r) [none, none, none, none, none, none, none]) := by
  simp only [f15_L1, f15_l1, fn15_0, e0, fn15_1, e1, fn15_12, e12, fn15_14, e14,
  DM.kbin1_a, DM.kbin2_a, DM.kneg_a, DM.kcmp1_a, DM.kcmp2_a, DM.kchn1_a, DM.kchn2_a, DM.kchn3_a, DM.ksub1_a, DM.ksub2_a, DM.kslc1_a, DM.kslc2_a, DM.kslc3_a, DM.kbi_a, DM.kme1_a, DM.kme2_a, DM.ktup_a, DM.klst_a, DM.ktst_a, DM.kas1_a, DM.kas2_a, DM.kts1_a, DM.kts2_a, DM.kav_a, DM.kvl_a, DM.kbl_a, DM.ktr_a, DM.kasg_a, DM.kasT_a, DM.kasI1_a, DM.kasI2_a, DM.kaug_a, DM.kex_a, DM.kif_a, DM.kfor_a, DM.kforT_a, DM.kret_a, DM.kr2_a, DM.klc_a, DM.klc2_a, DM.kmu_a, DM.kcl1_a, DM.kcl2_a, DM.kpre_a, DM.ev_int, DM.ev_bl, DM.ev_str, DM.ev_non, DM.ev_ty, DM.ev_gc, DM.ev_mv, DM.ev_tk, DM.mvO_some, DM.tkO_some, DM.ev_bin, DM.ev_neg, DM.ev_cmp, DM.chnO_some, DM.chn2_ok, DM.chn2_elim, DM.ev_chn, DM.ev_sub, DM.ev_slc, DM.ev_bi, DM.ev_me, DM.ev_tup, DM.ev_lst, DM.ev_call, DM.ev_ite, DM.ev_tst, DM.evA_pk, DM.evA_vl, DM.evPl_sl, DM.oaO_int, DM.evOA_none, DM.evOA_some, DM.evAs_nil, DM.evAs_cons, DM.evTs_nil, DM.evTs_cons, DM.evC_nil, DM.evC_bor, DM.evC_mt, DM.evC_vl, DM.evT_vl, DM.evT_tr, DM.evT_and, DM.evT_or, DM.evT_not, DM.blD_bl, DM.bind_ok', DM.bind_stk', DM.sb_ok', DM.sb_stk', DM.lift_some', DM.lift_none', DM.lift_def, DM.elim_same, ite_self, DM.sub_non, DM.len_non, DM.bind_elim, DM.sb_elim, DM.bind_ite, DM.sb_ite, DM.elim_map, DM.elim_bind, DM.elim_ite, DM.elim_some, DM.elim_none, DM.map_map', DM.map_some', DM.map_ite, DM.andO_ok, DM.andO_elim, DM.and2_ok, DM.and2_elim, DM.and2_ite, DM.and2_t, DM.and2_f, DM.and2_stk, DM.or2_stk, DM.ite2_t, DM.ite2_f, DM.orO_ok, DM.orO_elim, DM.or2_ok, DM.or2_elim, DM.or2_ite, DM.or2_t, DM.or2_f, DM.notO_ok, DM.notO_elim, DM.notO_ite, DM.andO_ite, DM.orO_ite, DM.iteO_ok, DM.iteO_elim, DM.iteO_ite, DM.ite2_int, DM.ite2_bl, DM.ite2_tx, DM.ite2_def, DM.grd_t, DM.grd_tl, DM.grd_tr, DM.b_add, DM.b_sub, DM.b_mul, DM.b_fdiv, DM.b_mod, DM.b_pow, DM.n_neg, DM.b_addL, DM.b_addT, DM.b_addS, DM.b_mulL, DM.s_lst, DM.s_tup, DM.s_str, DM.s_t2i, DM.s_t3i, DM.s_0, DM.s_1, DM.s_2, DM.s_3, DM.s_4, DM.s_5, DM.s_6, DM.s_7, DM.h_0, DM.h_1, DM.h_2, DM.h_3, DM.h_4, DM.h_5, DM.h_6, DM.h_7, DM.sl_lst, DM.sl_tup, DM.sl_str, DM.l_lst, DM.l_tup, DM.l_str, List.length_map, DM.i_int, DM.i_bl, DM.o_bl, DM.o_int, DM.i_abs, DM.i_max, DM.i_min, DM.i_maxL, DM.i_minL, DM.i_sum, DM.i_sorted, DM.i_list, DM.i_listT, DM.i_tuple, DM.i_isi, DM.z_int, DM.z_bl, DM.z_str, DM.z_lst, DM.z_tup, DM.z_non, DM.c_lt, DM.c_le, DM.c_gt, DM.c_ge, DM.c_eq, DM.c_ne, DM.c_is, DM.c_isnot, DM.t_non, DM.t_bl, DM.t_int, DM.t_lst, DM.t_tup, DM.isEmpty_map', DM.in_ints, DM.eqD_int, DM.eqD_bl, DM.eqD_tx, DM.isNon_opt, DM.isNon_enc, DM.n_int, DM.n_bl, DM.n_str, DM.n_lst, DM.n_tup, DM.n_non, DM.notO_stk, DM.orO_stk, DM.andO_stk, DM.iteO_stk, DM.eta_t2, DM.eta_t3, DM.eta_t4, DM.eta_t5, DM.eta_h2, DM.eta_h3, DM.eta_h4, DM.eta_h5, DM.eta_tu, DM.getS_0, DM.getS_s, DM.set_0, DM.set_s, DM.at_0, DM.at_s, DM.wipe_nil, DM.wipe_cons, DM.keep_none, DM.keep_nil, DM.keep_cons, DM.map_none_nil, DM.map_none_cons, DM.pnO_f, DM.an_nx, DM.an_rt, DM.an_bk, DM.an_ct, DM.an_stk, DM.an_el, DM.an_ite, DM.an_rs, DM.nc_nx, DM.nc_ct, DM.nc_bk, DM.nc_rt, DM.nc_stk, DM.nc_el, DM.nc_ite, DM.nc_rs, DM.el_rs, DM.rs_go, DM.rs_rt, DM.ct_nx, DM.ct_bk, DM.ct_rt, DM.ss_nil, DM.ss_cons, DM.st_asg, DM.st_asT, DM.st_asI, DM.st_aug, DM.st_doc, DM.st_ex, DM.st_ite, DM.st_for1, DM.st_forT, DM.st_ret, DM.st_retN, DM.st_brk, DM.st_cnt, DM.st_pas, DM.st_fgt, DM.st_fzs, DM.fzsO_some, DM.someO_some, DM.augO_add, DM.augO_sub, DM.asI_eq, DM.it_sl, DM.it_vl, DM.it_r1, DM.it_r2, DM.r1O_int, DM.r2O_int, DM.walk_lst, DM.walk_tup, DM.walk_str, DM.walk_t2, DM.walk_t3, DM.wlist, DM.seqO_some, DM.wkO_def, DM.ev_lc, DM.lcO_n, DM.ev_lc2, DM.lc2O_n, DM.ev_muO, DM.muO_l, DM.mu2_l, DM.mu_app, DM.mu_pop, DM.mu_rev, DM.mu_clr, DM.callD_eq, DM.res_ok, DM.res_stk, DM.res_el, DM.tkL_nil, DM.tkL_cons, DM.tk1_some, DM.fzL_nil, DM.fzL_cons, DM.fz1_some, DM.mi_nil, DM.mi_m, DM.mi_v, DM.mi_b, DM.bi_nil, DM.bi_m, DM.bi_v, DM.bi_b, DM.ar_nil, DM.ar_v, DM.ar_m, DM.ar_b, DM.pt_nil, DM.pt_cons, DM.pt1_n, DM.atom_int, DM.atom_bl, DM.atom_str, DM.atom_non, DM.atom_lst, DM.atom_tup, DM.atom_enc, DM.selfc_lst, DM.fin_rt, DM.fin_nx, DM.fin_stk, DM.fin_el, DM.fin_ite, DM.fin_rs, DM.ga_nil, DM.ga_cons, DM.ga1_some, DM.kid_l, DM.kid_t, DM.kidO_some, DM.putL_nil, DM.putL_cons, DM.szO_0, DM.szO_1, DM.szO_2, DM.szO_3, DM.szO_4, DM.szO_5, DM.szO_6, DM.szO_7, DM.szO_8, DM.szO_9, DM.szO_10, DM.szO_11, DM.szO_12, DM.szO_13, DM.szO_14, DM.szO_15, DM.szO_16, DM.szO_17, DM.szO_18, DM.szO_19, DM.szO_20, DM.szO_21, DM.szO_22, DM.szO_23, DM.szO_24, DM.szO_25, DS.frz, DS.frzL, DM.frzL_map', DM.frz_enc, DM.rootFz_enc, DS.rootFz, DM.e_int, DM.e_bl, DM.e_tx, DM.e_un, DM.e_non, DM.e_som, DM.e_lst, DM.e_tu, DM.e_t2, DM.e_t3, DM.e_t4, DM.e_t5, DM.e_h2, DM.e_h3, DM.e_h4, DM.e_h5, DS.kAr, DS.kTm, DS.kArs, DS.kOAr, DS.kTms, DS.kCas, DS.kCa, DS.kTs, DS.kOTs, DS.kIt, DM.fz_int, DM.fz_bl, DM.fz_str, DM.fz_non, DM.fz_lst, DM.fz_tup, DM.fz_enc, List.contains_nil, List.contains_cons, List.any_nil, List.any_cons, List.all_nil, List.all_cons, List.length_cons, List.length_nil, Option.isSome_some, Bool.not_true, Bool.not_false, Bool.and_true, Bool.true_and, Bool.and_false, Bool.false_and, Bool.or_true, Bool.true_or, Bool.or_false, Bool.false_or, Bool.false_eq_true, eq_self, if_true, if_false, Option.isNone_none, Option.isNone_some, decide_true, decide_false, Nat.reduceAdd, Nat.reduceEqDiff, Nat.reduceBEq, DM.ty_int_int, DM.ty_int_bool, DM.ty_int_str, DM.ty_int_list, DM.ty_int_tuple, DM.ty_int_dict, DM.ty_bool_int, DM.ty_bool_bool, DM.ty_bool_str, DM.ty_bool_list, DM.ty_bool_tuple, DM.ty_bool_dict, DM.ty_str_int, DM.ty_str_bool, DM.ty_str_str, DM.ty_str_list, DM.ty_str_tuple, DM.ty_str_dict, DM.ty_list_int, DM.ty_list_bool, DM.ty_list_str, DM.ty_list_list, DM.ty_list_tuple, DM.ty_list_dict, DM.ty_tuple_int, DM.ty_tuple_bool, DM.ty_tuple_str, DM.ty_tuple_list, DM.ty_tuple_tuple, DM.ty_tuple_dict, DM.ty_dict_int, DM.ty_dict_bool, DM.ty_dict_str, DM.ty_dict_list, DM.ty_dict_tuple, DM.ty_dict_dict, ↓DM.bind_ok', ↓DM.bind_stk', ↓DM.bind_elim, ↓DM.bind_ite, ↓DM.sb_ok', ↓DM.sb_stk', ↓DM.sb_elim, ↓DM.sb_ite, ↓DM.an_nx, ↓DM.an_rt, ↓DM.an_bk, ↓DM.an_ct, ↓DM.an_stk, ↓DM.an_el, ↓DM.an_ite, ↓DM.an_rs, ↓DM.andO_ok, ↓DM.andO_elim, ↓DM.andO_stk, ↓DM.orO_ok, ↓DM.orO_elim, ↓DM.orO_stk, ↓DM.iteO_ok, ↓DM.iteO_elim, ↓DM.iteO_stk, ↓DM.notO_ok, ↓DM.chnO_some, ↓DM.tkL_nil, ↓DM.tkL_cons, ↓DM.tk1_some, ↓DM.fzL_nil, ↓DM.fzL_cons, ↓DM.fz1_some, ↓DM.elim_some, ↓DM.elim_none, ↓DM.and2_f, ↓DM.or2_t, ↓DM.grd_t, ↓if_true, ↓if_false]
theorem f15_l1_eq (v_a_0 : Int) (v_a_1 : Int) (v_b_0 : Int) (v_b_1 : Int) (v_great : Int) (l : List Int) : forL 3 (evSs SG15 [] f15_L1) (List.map enc l) [some (.tup false [(.int v_a_0), (.int v_a_1)]), some (.tup false [(.int v_b_0), (.int v_b_1)]), some (.int v_great), none, none, none, none] = (forC (f15_l1 (T2.mk v_a_0 v_a_1) (T2.mk v_b_0 v_b_1) v_great) l ()).elim .stk fun c => c.el (fun s => .nx [some (.tup false [(.int v_a_0), (.int v_a_1)]), some (.tup false [(.int v_b_0), (.int v_b_1)]), some (.int v_great), none, none, none, none]) (fun r => .rt (.bl r) [none, none, none, none, none, none, none]) :=
  forL_forC 3 _ (fun s => [some (.tup false [(.int v_a_0), (.int v_a_1)]), some (.tup false [(.int v_b_0), (.int v_b_1)]), some (.int v_great), none, none, none, none]) (fun r => .rt (.bl r) [none, none, none, none, none, none, none]) (fun _ => ⟨_, _, rfl⟩) (f15_l1 (T2.mk v_a_0 v_a_1) (T2.mk v_b_0 v_b_1) v_great) (f15_l1_b (T2.mk v_a_0 v_a_1) (T2.mk v_b_0 v_b_1) v_great) l ()
def m15 (v_a : (T2 Int Int)) (v_b : (T2 Int Int)) (v_great : Int) : Option Bool :=
  (m14 v_a v_b v_great).bind fun t1 =>
  (forC (f15_l1 v_a v_b v_great) t1 ()).bind fun t2 =>
  Rs.el t2 (fun t3 =>
  some true) (fun r => some r)
theorem e15 (v_a_0 : Int) (v_a_1 : Int) (v_b_0 : Int) (v_b_1 : Int) (v_great : Int) : sem15 [(.tup false [(.int v_a_0), (.int v_a_1)]), (.tup false [(.int v_b_0), (.int v_b_1)]), (.int v_great)] = (m15 (T2.mk v_a_0 v_a_1) (T2.mk v_b_0 v_b_1) v_great).elim .stk fun r => .ok (.bl r) [] := by
  refine (def_eq _ _ _ _ _).trans ?_
  show fin [] (evSs SG15 [] b15 [some (.tup false [(.int v_a_0), (.int v_a_1)]), some (.tup false [(.int v_b_0), (.int v_b_1)]), some (.int v_great), none, none, none, none]) = _
  simp only [b15, m15, f15_l1_eq, fn15_0, e0, fn15_1, e1, fn15_12, e12, fn15_14, e14,
  DM.kbin1_a, DM.kbin2_a, DM.kneg_a, DM.kcmp1_a, DM.kcmp2_a, DM.kchn1_a, DM.kchn2_a, DM.kchn3_a, DM.ksub1_a, DM.ksub2_a, DM.kslc1_a, DM.kslc2_a, DM.kslc3_a, DM.kbi_a, DM.kme1_a, DM.kme2_a, DM.ktup_a, DM.klst_a, DM.ktst_a, DM.kas1_a, DM.kas2_a, DM.kts1_a, DM.kts2_a, DM.kav_a, DM.kvl_a, DM.kbl_a, DM.ktr_a, DM.kasg_a, DM.kasT_a, DM.kasI1_a, DM.kasI2_a, DM.kaug_a, DM.kex_a, DM.kif_a, DM.kfor_a, DM.kforT_a, DM.kret_a, DM.kr2_a, DM.klc_a, DM.klc2_a, DM.kmu_a, DM.kcl1_a, DM.kcl2_a, DM.kpre_a, DM.ev_int, DM.ev_bl, DM.ev_str, DM.ev_non, DM.ev_ty, DM.ev_gc, DM.ev_mv, DM.ev_tk, DM.mvO_some, DM.tkO_some, DM.ev_bin, DM.ev_neg, DM.ev_cmp, DM.chnO_some, DM.chn2_ok, DM.chn2_elim, DM.ev_chn, DM.ev_sub, DM.ev_slc, DM.ev_bi, DM.ev_me, DM.ev_tup, DM.ev_lst, DM.ev_call, DM.ev_ite, DM.ev_tst, DM.evA_pk, DM.evA_vl, DM.evPl_sl, DM.oaO_int, DM.evOA_none, DM.evOA_some, DM.evAs_nil, DM.evAs_cons, DM.evTs_nil, DM.evTs_cons, DM.evC_nil, DM.evC_bor, DM.evC_mt, DM.evC_vl, DM.evT_vl, DM.evT_tr, DM.evT_and, DM.evT_or, DM.evT_not, DM.blD_bl, DM.bind_ok', DM.bind_stk', DM.sb_ok', DM.sb_stk', DM.lift_some', DM.lift_none', DM.lift_def, DM.elim_same, ite_self, DM.sub_non, DM.len_non, DM.bind_elim, DM.sb_elim, DM.bind_ite, DM.sb_ite, DM.elim_map, DM.elim_bind, DM.elim_ite, DM.elim_some, DM.elim_none, DM.map_map', DM.map_some', DM.map_ite, DM.andO_ok, DM.andO_elim, DM.and2_ok, DM.and2_elim, DM.and2_ite, DM.and2_t, DM.and2_f, DM.and2_stk, DM.or2_stk, DM.ite2_t, DM.ite2_f, DM.orO_ok, DM.orO_elim, DM.or2_ok, DM.or2_elim, DM.or2_ite, DM.or2_t, DM.or2_f, DM.notO_ok, DM.notO_elim, DM.notO_ite, DM.andO_ite, DM.orO_ite, DM.iteO_ok, DM.iteO_elim, DM.iteO_ite, DM.ite2_int, DM.ite2_bl, DM.ite2_tx, DM.ite2_def, DM.grd_t, DM.grd_tl, DM.grd_tr, DM.b_add, DM.b_sub, DM.b_mul, DM.b_fdiv, DM.b_mod, DM.b_pow, DM.n_neg, DM.b_addL, DM.b_addT, DM.b_addS, DM.b_mulL, DM.s_lst, DM.s_tup, DM.s_str, DM.s_t2i, DM.s_t3i, DM.s_0, DM.s_1, DM.s_2, DM.s_3, DM.s_4, DM.s_5, DM.s_6, DM.s_7, DM.h_0, DM.h_1, DM.h_2, DM.h_3, DM.h_4, DM.h_5, DM.h_6, DM.h_7, DM.sl_lst, DM.sl_tup, DM.sl_str, DM.l_lst, DM.l_tup, DM.l_str, List.length_map, DM.i_int, DM.i_bl, DM.o_bl, DM.o_int, DM.i_abs, DM.i_max, DM.i_min, DM.i_maxL, DM.i_minL, DM.i_sum, DM.i_sorted, DM.i_list, DM.i_listT, DM.i_tuple, DM.i_isi, DM.z_int, DM.z_bl, DM.z_str, DM.z_lst, DM.z_tup, DM.z_non, DM.c_lt, DM.c_le, DM.c_gt, DM.c_ge, DM.c_eq, DM.c_ne, DM.c_is, DM.c_isnot, DM.t_non, DM.t_bl, DM.t_int, DM.t_lst, DM.t_tup, DM.isEmpty_map', DM.in_ints, DM.eqD_int, DM.eqD_bl, DM.eqD_tx, DM.isNon_opt, DM.isNon_enc, DM.n_int, DM.n_bl, DM.n_str, DM.n_lst, DM.n_tup, DM.n_non, DM.notO_stk, DM.orO_stk, DM.andO_stk, DM.iteO_stk, DM.eta_t2, DM.eta_t3, DM.eta_t4, DM.eta_t5, DM.eta_h2, DM.eta_h3, DM.eta_h4, DM.eta_h5, DM.eta_tu, DM.getS_0, DM.getS_s, DM.set_0, DM.set_s, DM.at_0, DM.at_s, DM.wipe_nil, DM.wipe_cons, DM.keep_none, DM.keep_nil, DM.keep_cons, DM.map_none_nil, DM.map_none_cons, DM.pnO_f, DM.an_nx, DM.an_rt, DM.an_bk, DM.an_ct, DM.an_stk, DM.an_el, DM.an_ite, DM.an_rs, DM.nc_nx, DM.nc_ct, DM.nc_bk, DM.nc_rt, DM.nc_stk, DM.nc_el, DM.nc_ite, DM.nc_rs, DM.el_rs, DM.rs_go, DM.rs_rt, DM.ct_nx, DM.ct_bk, DM.ct_rt, DM.ss_nil, DM.ss_cons, DM.st_asg, DM.st_asT, DM.st_asI, DM.st_aug, DM.st_doc, DM.st_ex, DM.st_ite, DM.st_for1, DM.st_forT, DM.st_ret, DM.st_retN, DM.st_brk, DM.st_cnt, DM.st_pas, DM.st_fgt, DM.st_fzs, DM.fzsO_some, DM.someO_some, DM.augO_add, DM.augO_sub, DM.asI_eq, DM.it_sl, DM.it_vl, DM.it_r1, DM.it_r2, DM.r1O_int, DM.r2O_int, DM.walk_lst, DM.walk_tup, DM.walk_str, DM.walk_t2, DM.walk_t3, DM.wlist, DM.seqO_some, DM.wkO_def, DM.ev_lc, DM.lcO_n, DM.ev_lc2, DM.lc2O_n, DM.ev_muO, DM.muO_l, DM.mu2_l, DM.mu_app, DM.mu_pop, DM.mu_rev, DM.mu_clr, DM.callD_eq, DM.res_ok, DM.res_stk, DM.res_el, DM.tkL_nil, DM.tkL_cons, DM.tk1_some, DM.fzL_nil, DM.fzL_cons, DM.fz1_some, DM.mi_nil, DM.mi_m, DM.mi_v, DM.mi_b, DM.bi_nil, DM.bi_m, DM.bi_v, DM.bi_b, DM.ar_nil, DM.ar_v, DM.ar_m, DM.ar_b, DM.pt_nil, DM.pt_cons, DM.pt1_n, DM.atom_int, DM.atom_bl, DM.atom_str, DM.atom_non, DM.atom_lst, DM.atom_tup, DM.atom_enc, DM.selfc_lst, DM.fin_rt, DM.fin_nx, DM.fin_stk, DM.fin_el, DM.fin_ite, DM.fin_rs, DM.ga_nil, DM.ga_cons, DM.ga1_some, DM.kid_l, DM.kid_t, DM.kidO_some, DM.putL_nil, DM.putL_cons, DM.szO_0, DM.szO_1, DM.szO_2, DM.szO_3, DM.szO_4, DM.szO_5, DM.szO_6, DM.szO_7, DM.szO_8, DM.szO_9, DM.szO_10, DM.szO_11, DM.szO_12, DM.szO_13, DM.szO_14, DM.szO_15, DM.szO_16, DM.szO_17, DM.szO_18, DM.szO_19, DM.szO_20, DM.szO_21, DM.szO_22, DM.szO_23, DM.szO_24, DM.szO_25, DS.frz, DS.frzL, DM.frzL_map', DM.frz_enc, DM.rootFz_enc, DS.rootFz, DM.e_int, DM.e_bl, DM.e_tx, DM.e_un, DM.e_non, DM.e_som, DM.e_lst, DM.e_tu, DM.e_t2, DM.e_t3, DM.e_t4, DM.e_t5, DM.e_h2, DM.e_h3, DM.e_h4, DM.e_h5, DS.kAr, DS.kTm, DS.kArs, DS.kOAr, DS.kTms, DS.kCas, DS.kCa, DS.kTs, DS.kOTs, DS.kIt, DM.fz_int, DM.fz_bl, DM.fz_str, DM.fz_non, DM.fz_lst, DM.fz_tup, DM.fz_enc, List.contains_nil, List.contains_cons, List.any_nil, List.any_cons, List.all_nil, List.all_cons, List.length_cons, List.length_nil, Option.isSome_some, Bool.not_true, Bool.not_false, Bool.and_true, Bool.true_and, Bool.and_false, Bool.false_and, Bool.or_true, Bool.true_or, Bool.or_false, Bool.false_or, Bool.false_eq_true, eq_self, if_true, if_false, Option.isNone_none, Option.isNone_some, decide_true, decide_false, Nat.reduceAdd, Nat.reduceEqDiff, Nat.reduceBEq, DM.ty_int_int, DM.ty_int_bool, DM.ty_int_str, DM.ty_int_list, DM.ty_int_tuple, DM.ty_int_dict, DM.ty_bool_int, DM.ty_bool_bool, DM.ty_bool_str, DM.ty_bool_list, DM.ty_bool_tuple, DM.ty_bool_dict, DM.ty_str_int, DM.ty_str_bool, DM.ty_str_str, DM.ty_str_list, DM.ty_str_tuple, DM.ty_str_dict, DM.ty_list_int, DM.ty_list_bool, DM.ty_list_str, DM.ty_list_list, DM.ty_list_tuple, DM.ty_list_dict, DM.ty_tuple_int, DM.ty_tuple_bool, DM.ty_tuple_str, DM.ty_tuple_list, DM.ty_tuple_tuple, DM.ty_tuple_dict, DM.ty_dict_int, DM.ty_dict_bool, DM.ty_dict_str, DM.ty_dict_list, DM.ty_dict_tuple, DM.ty_dict_dict, ↓DM.bind_ok', ↓DM.bind_stk', ↓DM.bind_elim, ↓DM.bind_ite, ↓DM.sb_ok', ↓DM.sb_stk', ↓DM.sb_elim, ↓DM.sb_ite, ↓DM.an_nx, ↓DM.an_rt, ↓DM.an_bk, ↓DM.an_ct, ↓DM.an_stk, ↓DM.an_el, ↓DM.an_ite, ↓DM.an_rs, ↓DM.andO_ok, ↓DM.andO_elim, ↓DM.andO_stk, ↓DM.orO_ok, ↓DM.orO_elim, ↓DM.orO_stk, ↓DM.iteO_ok, ↓DM.iteO_elim, ↓DM.iteO_stk, ↓DM.notO_ok, ↓DM.chnO_some, ↓DM.tkL_nil, ↓DM.tkL_cons, ↓DM.tk1_some, ↓DM.fzL_nil, ↓DM.fzL_cons, ↓DM.fz1_some, ↓DM.elim_some, ↓DM.elim_none, ↓DM.and2_f, ↓DM.or2_t, ↓DM.grd_t, ↓if_true, ↓if_false]
/-! mirror of _law_sums -/
theorem fn16_6 : SG16.fn 6 = sem6 := rfl
theorem fn16_7 : SG16.fn 7 = sem7 := rfl
theorem fn16_8 : SG16.fn 8 = sem8 := rfl
theorem fn16_11 : SG16.fn 11 = sem11 := rfl
theorem fn16_13 : SG16.fn 13 = sem13 := rfl
theorem e11_sTvvesTvve (v_actual_0 : Int) (v_actual_1 : Int) (v_due_0 : Int) (v_due_1 : Int) : sem11 [(.tup false [(.int v_actual_0), (.int v_actual_1)]), (.tup false [(.int v_due_0), (.int v_due_1)])] = (m11 (some (T2.mk v_actual_0 v_actual_1)) (some (T2.mk v_due_0 v_due_1))).elim .stk fun r => .ok (.bl r) [] :=
  e11 (some (T2.mk v_actual_0 v_actual_1)) (some (T2.mk v_due_0 v_due_1))
theorem f16_d1 (v_a_0 : Int) (v_a_1 : Int) (v_b_0 : Int) (v_b_1 : Int) : ev SG16 f16_D1 [some (.tup false [(.int v_a_0), (.int v_a_1)]), some (.tup false [(.int v_b_0), (.int v_b_1)]), none] = ((mulM v_a_0 v_b_0).bind fun t11 => (mulM v_a_0 v_b_1).bind fun t12 => (mulM v_a_1 v_b_0).bind fun t13 => (mulM v_a_1 v_b_1).bind fun t14 => some [t11, t12, t13, t14] : Option (List Int)).elim .stk fun z => .ok (.lst true (List.map enc z)) [some (.tup false [(.int v_a_0), (.int v_a_1)]), some (.tup false [(.int v_b_0), (.int v_b_1)]), none] := by
  simp only [f16_D1, List.map_cons, List.map_nil, e11_sTvvesTvve, fn16_6, e6, fn16_7, e7, fn16_8, e8, fn16_11, e11, fn16_13, e13,
  DM.kbin1_a, DM.kbin2_a, DM.kneg_a, DM.kcmp1_a, DM.kcmp2_a, DM.kchn1_a, DM.kchn2_a, DM.kchn3_a, DM.ksub1_a, DM.ksub2_a, DM.kslc1_a, DM.kslc2_a, DM.kslc3_a, DM.kbi_a, DM.kme1_a, DM.kme2_a, DM.ktup_a, DM.klst_a, DM.ktst_a, DM.kas1_a, DM.kas2_a, DM.kts1_a, DM.kts2_a, DM.kav_a, DM.kvl_a, DM.kbl_a, DM.ktr_a, DM.kasg_a, DM.kasT_a, DM.kasI1_a, DM.kasI2_a, DM.kaug_a, DM.kex_a, DM.kif_a, DM.kfor_a, DM.kforT_a, DM.kret_a, DM.kr2_a, DM.klc_a, DM.klc2_a, DM.kmu_a, DM.kcl1_a, DM.kcl2_a, DM.kpre_a, DM.ev_int, DM.ev_bl, DM.ev_str, DM.ev_non, DM.ev_ty, DM.ev_gc, DM.ev_mv, DM.ev_tk, DM.mvO_some, DM.tkO_some, DM.ev_bin, DM.ev_neg, DM.ev_cmp, DM.chnO_some, DM.chn2_ok, DM.chn2_elim, DM.ev_chn, DM.ev_sub, DM.ev_slc, DM.ev_bi, DM.ev_me, DM.ev_tup, DM.ev_lst, DM.ev_call, DM.ev_ite, DM.ev_tst, DM.evA_pk, DM.evA_vl, DM.evPl_sl, DM.oaO_int, DM.evOA_none, DM.evOA_some, DM.evAs_nil, DM.evAs_cons, DM.evTs_nil, DM.evTs_cons, DM.evC_nil, DM.evC_bor, DM.evC_mt, DM.evC_vl, DM.evT_vl, DM.evT_tr, DM.evT_and, DM.evT_or, DM.evT_not, DM.blD_bl, DM.bind_ok', DM.bind_stk', DM.sb_ok', DM.sb_stk', DM.lift_some', DM.lift_none', DM.lift_def, DM.elim_same, ite_self, DM.sub_non, DM.len_non, DM.bind_elim, DM.sb_elim, DM.bind_ite, DM.sb_ite, DM.elim_map, DM.elim_bind, DM.elim_ite, DM.elim_some, DM.elim_none, DM.map_map', DM.map_some', DM.map_ite, DM.andO_ok, DM.andO_elim, DM.and2_ok, DM.and2_elim, DM.and2_ite, DM.and2_t, DM.and2_f, DM.and2_stk, DM.or2_stk, DM.ite2_t, DM.ite2_f, DM.orO_ok, DM.orO_elim, DM.or2_ok, DM.or2_elim, DM.or2_ite, DM.or2_t, DM.or2_f, DM.notO_ok, DM.notO_elim, DM.notO_ite, DM.andO_ite, DM.orO_ite, DM.iteO_ok, DM.iteO_elim, DM.iteO_ite, DM.ite2_int, DM.ite2_bl, DM.ite2_tx, DM.ite2_def, DM.grd_t, DM.grd_tl, DM.grd_tr, DM.b_add, DM.b_sub, DM.b_mul, DM.b_fdiv, DM.b_mod, DM.b_pow, DM.n_neg, DM.b_addL, DM.b_addT, DM.b_addS, DM.b_mulL, DM.s_lst, DM.s_tup, DM.s_str, DM.s_t2i, DM.s_t3i, DM.s_0, DM.s_1, DM.s_2, DM.s_3, DM.s_4, DM.s_5, DM.s_6, DM.s_7, DM.h_0, DM.h_1, DM.h_2, DM.h_3, DM.h_4, DM.h_5, DM.h_6, DM.h_7, DM.sl_lst, DM.sl_tup, DM.sl_str, DM.l_lst, DM.l_tup, DM.l_str, List.length_map, DM.i_int, DM.i_bl, DM.o_bl, DM.o_int, DM.i_abs, DM.i_max, DM.i_min, DM.i_maxL, DM.i_minL, DM.i_sum, DM.i_sorted, DM.i_list, DM.i_listT, DM.i_tuple, DM.i_isi, DM.z_int, DM.z_bl, DM.z_str, DM.z_lst, DM.z_tup, DM.z_non, DM.c_lt, DM.c_le, DM.c_gt, DM.c_ge, DM.c_eq, DM.c_ne, DM.c_is, DM.c_isnot, DM.t_non, DM.t_bl, DM.t_int, DM.t_lst, DM.t_tup, DM.isEmpty_map', DM.in_ints, DM.eqD_int, DM.eqD_bl, DM.eqD_tx, DM.isNon_opt, DM.isNon_enc, DM.n_int, DM.n_bl, DM.n_str, DM.n_lst, DM.n_tup, DM.n_non, DM.notO_stk, DM.orO_stk, DM.andO_stk, DM.iteO_stk, DM.eta_t2, DM.eta_t3, DM.eta_t4, DM.eta_t5, DM.eta_h2, DM.eta_h3, DM.eta_h4, DM.eta_h5, DM.eta_tu, DM.getS_0, DM.getS_s, DM.set_0, DM.set_s, DM.at_0, DM.at_s, DM.wipe_nil, DM.wipe_cons, DM.keep_none, DM.keep_nil, DM.keep_cons, DM.map_none_nil, DM.map_none_cons, DM.pnO_f, DM.an_nx, DM.an_rt, DM.an_bk, DM.an_ct, DM.an_stk, DM.an_el, DM.an_ite, DM.an_rs, DM.nc_nx, DM.nc_ct, DM.nc_bk, DM.nc_rt, DM.nc_stk, DM.nc_el, DM.nc_ite, DM.nc_rs, DM.el_rs, DM.rs_go, DM.rs_rt, DM.ct_nx, DM.ct_bk, DM.ct_rt, DM.ss_nil, DM.ss_cons, DM.st_asg, DM.st_asT, DM.st_asI, DM.st_aug, DM.st_doc, DM.st_ex, DM.st_ite, DM.st_for1, DM.st_forT, DM.st_ret, DM.st_retN, DM.st_brk, DM.st_cnt, DM.st_pas, DM.st_fgt, DM.st_fzs, DM.fzsO_some, DM.someO_some, DM.augO_add, DM.augO_sub, DM.asI_eq, DM.it_sl, DM.it_vl, DM.it_r1, DM.it_r2, DM.r1O_int, DM.r2O_int, DM.walk_lst, DM.walk_tup, DM.walk_str, DM.walk_t2, DM.walk_t3, DM.wlist, DM.seqO_some, DM.wkO_def, DM.ev_lc, DM.lcO_n, DM.ev_lc2, DM.lc2O_n, DM.ev_muO, DM.muO_l, DM.mu2_l, DM.mu_app, DM.mu_pop, DM.mu_rev, DM.mu_clr, DM.callD_eq, DM.res_ok, DM.res_stk, DM.res_el, DM.tkL_nil, DM.tkL_cons, DM.tk1_some, DM.fzL_nil, DM.fzL_cons, DM.fz1_some, DM.mi_nil, DM.mi_m, DM.mi_v, DM.mi_b, DM.bi_nil, DM.bi_m, DM.bi_v, DM.bi_b, DM.ar_nil, DM.ar_v, DM.ar_m, DM.ar_b, DM.pt_nil, DM.pt_cons, DM.pt1_n, DM.atom_int, DM.atom_bl, DM.atom_str, DM.atom_non, DM.atom_lst, DM.atom_tup, DM.atom_enc, DM.selfc_lst, DM.fin_rt, DM.fin_nx, DM.fin_stk, DM.fin_el, DM.fin_ite, DM.fin_rs, DM.ga_nil, DM.ga_cons, DM.ga1_some, DM.kid_l, DM.kid_t, DM.kidO_some, DM.putL_nil, DM.putL_cons, DM.szO_0, DM.szO_1, DM.szO_2, DM.szO_3, DM.szO_4, DM.szO_5, DM.szO_6, DM.szO_7, DM.szO_8, DM.szO_9, DM.szO_10, DM.szO_11, DM.szO_12, DM.szO_13, DM.szO_14, DM.szO_15, DM.szO_16, DM.szO_17, DM.szO_18, DM.szO_19, DM.szO_20, DM.szO_21, DM.szO_22, DM.szO_23, DM.szO_24, DM.szO_25, DS.frz, DS.frzL, DM.frzL_map', DM.frz_enc, DM.rootFz_enc, DS.rootFz, DM.e_int, DM.e_bl, DM.e_tx, DM.e_un, DM.e_non, DM.e_som, DM.e_lst, DM.e_tu, DM.e_t2, DM.e_t3, DM.e_t4, DM.e_t5, DM.e_h2, DM.e_h3, DM.e_h4, DM.e_h5, DS.kAr, DS.kTm, DS.kArs, DS.kOAr, DS.kTms, DS.kCas, DS.kCa, DS.kTs, DS.kOTs, DS.kIt, DM.fz_int, DM.fz_bl, DM.fz_str, DM.fz_non, DM.fz_lst, DM.fz_tup, DM.fz_enc, List.contains_nil, List.contains_cons, List.any_nil, List.any_cons, List.all_nil, List.all_cons, List.length_cons, List.length_nil, Option.isSome_some, Bool.not_true, Bool.not_false, Bool.and_true, Bool.true_and, Bool.and_false, Bool.false_and, Bool.or_true, Bool.true_or, Bool.or_false, Bool.false_or, Bool.false_eq_true, eq_self, if_true, if_false, Option.isNone_none, Option.isNone_some, decide_true, decide_false, Nat.reduceAdd, Nat.reduceEqDiff, Nat.reduceBEq, DM.ty_int_int, DM.ty_int_bool, DM.ty_int_str, DM.ty_int_list, DM.ty_int_tuple, DM.ty_int_dict, DM.ty_bool_int, DM.ty_bool_bool, DM.ty_bool_str, DM.ty_bool_list, DM.ty_bool_tuple, DM.ty_bool_dict, DM.ty_str_int, DM.ty_str_bool, DM.ty_str_str, DM.ty_str_list, DM.ty_str_tuple, DM.ty_str_dict, DM.ty_list_int, DM.ty_list_bool, DM.ty_list_str, DM.ty_list_list, DM.ty_list_tuple, DM.ty_list_dict, DM.ty_tuple_int, DM.ty_tuple_bool, DM.ty_tuple_str, DM.ty_tuple_list, DM.ty_tuple_tuple, DM.ty_tuple_dict, DM.ty_dict_int, DM.ty_dict_bool, DM.ty_dict_str, DM.ty_dict_list, DM.ty_dict_tuple, DM.ty_dict_dict, ↓DM.bind_ok', ↓DM.bind_stk', ↓DM.bind_elim, ↓DM.bind_ite, ↓DM.sb_ok', ↓DM.sb_stk', ↓DM.sb_elim, ↓DM.sb_ite, ↓DM.an_nx, ↓DM.an_rt, ↓DM.an_bk, ↓DM.an_ct, ↓DM.an_stk, ↓DM.an_el, ↓DM.an_ite, ↓DM.an_rs, ↓DM.andO_ok, ↓DM.andO_elim, ↓DM.andO_stk, ↓DM.orO_ok, ↓DM.orO_elim, ↓DM.orO_stk, ↓DM.iteO_ok, ↓DM.iteO_elim, ↓DM.iteO_stk, ↓DM.notO_ok, ↓DM.chnO_some, ↓DM.tkL_nil, ↓DM.tkL_cons, ↓DM.tk1_some, ↓DM.fzL_nil, ↓DM.fzL_cons, ↓DM.fz1_some, ↓DM.elim_some, ↓DM.elim_none, ↓DM.and2_f, ↓DM.or2_t, ↓DM.grd_t, ↓if_true, ↓if_false]
def m16 (v_a : (T2 Int Int)) (v_b : (T2 Int Int)) : Option Bool :=
  (m6 v_a v_b).bind fun t1 =>
  (m13 (v_a.a0 + v_b.a0) (v_a.a1 + v_b.a1)).bind fun t2 =>
  (m11 (some t1) (some t2)).bind fun t3 =>
  if (!t3) = true then
  some false
  else
  (m7 v_a v_b).bind fun t4 =>
  (m13 (v_a.a0 - v_b.a1) (v_a.a1 - v_b.a0)).bind fun t5 =>
  (m11 (some t4) (some t5)).bind fun t6 =>
  if (!t6) = true then
  some false
  else
  (mulM v_a.a0 v_b.a0).bind fun t7 =>
  (mulM v_a.a0 v_b.a1).bind fun t8 =>
  (mulM v_a.a1 v_b.a0).bind fun t9 =>
  (mulM v_a.a1 v_b.a1).bind fun t10 =>
  (m8 v_a v_b).bind fun t11 =>
  (subM (sortI ([t7, t8, t9, t10])) (0)).bind fun t12 =>
  (subM (sortI ([t7, t8, t9, t10])) (3)).bind fun t13 =>
  (m13 t12 t13).bind fun t14 =>
  (m11 (some t11) (some t14)).bind fun t15 =>
  some t15
theorem e16 (v_a_0 : Int) (v_a_1 : Int) (v_b_0 : Int) (v_b_1 : Int) : sem16 [(.tup false [(.int v_a_0), (.int v_a_1)]), (.tup false [(.int v_b_0), (.int v_b_1)])] = (m16 (T2.mk v_a_0 v_a_1) (T2.mk v_b_0 v_b_1)).elim .stk fun r => .ok (.bl r) [] := by
  refine (def_eq _ _ _ _ _).trans ?_
  show fin [] (evSs SG16 [] b16 [some (.tup false [(.int v_a_0), (.int v_a_1)]), some (.tup false [(.int v_b_0), (.int v_b_1)]), none]) = _
  simp only [b16, m16, e11_sTvvesTvve, f16_d1, fn16_6, e6, fn16_7, e7, fn16_8, e8, fn16_11, e11, fn16_13, e13,
  DM.kbin1_a, DM.kbin2_a, DM.kneg_a, DM.kcmp1_a, DM.kcmp2_a, DM.kchn1_a, DM.kchn2_a, DM.kchn3_a, DM.ksub1_a, DM.ksub2_a, DM.kslc1_a, DM.kslc2_a, DM.kslc3_a, DM.kbi_a, DM.kme1_a, DM.kme2_a, DM.ktup_a, DM.klst_a, DM.ktst_a, DM.kas1_a, DM.kas2_a, DM.kts1_a, DM.kts2_a, DM.kav_a, DM.kvl_a, DM.kbl_a, DM.ktr_a, DM.kasg_a, DM.kasT_a, DM.kasI1_a, DM.kasI2_a, DM.kaug_a, DM.kex_a, DM.kif_a, DM.kfor_a, DM.kforT_a, DM.kret_a, DM.kr2_a, DM.klc_a, DM.klc2_a, DM.kmu_a, DM.kcl1_a, DM.kcl2_a, DM.kpre_a, DM.ev_int, DM.ev_bl, DM.ev_str, DM.ev_non, DM.ev_ty, DM.ev_gc, DM.ev_mv, DM.ev_tk, DM.mvO_some, DM.tkO_some, DM.ev_bin, DM.ev_neg, DM.ev_cmp, DM.chnO_some, DM.chn2_ok, DM.chn2_elim, DM.ev_chn, DM.ev_sub, DM.ev_slc, DM.ev_bi, DM.ev_me, DM.ev_tup, DM.ev_lst, DM.ev_call, DM.ev_ite, DM.ev_tst, DM.evA_pk, DM.evA_vl, DM.evPl_sl, DM.oaO_int, DM.evOA_none, DM.evOA_some, DM.evAs_nil, DM.evAs_cons, DM.evTs_nil, DM.evTs_cons, DM.evC_nil, DM.evC_bor, DM.evC_mt, DM.evC_vl, DM.evT_vl, DM.evT_tr, DM.evT_and, DM.evT_or, DM.evT_not, DM.blD_bl, DM.bind_ok', DM.bind_stk', DM.sb_ok', DM.sb_stk', DM.lift_some', DM.lift_none', DM.lift_def, DM.elim_same, ite_self, DM.sub_non, DM.len_non, DM.bind_elim, DM.sb_elim, DM.bind_ite, DM.sb_ite, DM.elim_map, DM.elim_bind, DM.elim_ite, DM.elim_some, DM.elim_none, DM.map_map', DM.map_some', DM.map_ite, DM.andO_ok, DM.andO_elim, DM.and2_ok, DM.and2_elim, DM.and2_ite, DM.and2_t, DM.and2_f, DM.and2_stk, DM.or2_stk, DM.ite2_t, DM.ite2_f, DM.orO_ok, DM.orO_elim, DM.or2_ok, DM.or2_elim, DM.or2_ite, DM.or2_t, DM.or2_f, DM.notO_ok, DM.notO_elim, DM.notO_ite, DM.andO_ite, DM.orO_ite, DM.iteO_ok, DM.iteO_elim, DM.iteO_ite, DM.ite2_int, DM.ite2_bl, DM.ite2_tx, DM.ite2_def, DM.grd_t, DM.grd_tl, DM.grd_tr, DM.b_add, DM.b_sub, DM.b_mul, DM.b_fdiv, DM.b_mod, DM.b_pow, DM.n_neg, DM.b_addL, DM.b_addT, DM.b_addS, DM.b_mulL, DM.s_lst, DM.s_tup, DM.s_str, DM.s_t2i, DM.s_t3i, DM.s_0, DM.s_1, DM.s_2, DM.s_3, DM.s_4, DM.s_5, DM.s_6, DM.s_7, DM.h_0, DM.h_1, DM.h_2, DM.h_3, DM.h_4, DM.h_5, DM.h_6, DM.h_7, DM.sl_lst, DM.sl_tup, DM.sl_str, DM.l_lst, DM.l_tup, DM.l_str, List.length_map, DM.i_int, DM.i_bl, DM.o_bl, DM.o_int, DM.i_abs, DM.i_max, DM.i_min, DM.i_maxL, DM.i_minL, DM.i_sum, DM.i_sorted, DM.i_list, DM.i_listT, DM.i_tuple, DM.i_isi, DM.z_int, DM.z_bl, DM.z_str, DM.z_lst, DM.z_tup, DM.z_non, DM.c_lt, DM.c_le, DM.c_gt, DM.c_ge, DM.c_eq, DM.c_ne, DM.c_is, DM.c_isnot, DM.t_non, DM.t_bl, DM.t_int, DM.t_lst, DM.t_tup, DM.isEmpty_map', DM.in_ints, DM.eqD_int, DM.eqD_bl, DM.eqD_tx, DM.isNon_opt, DM.isNon_enc, DM.n_int, DM.n_bl, DM.n_str, DM.n_lst, DM.n_tup, DM.n_non, DM.notO_stk, DM.orO_stk, DM.andO_stk, DM.iteO_stk, DM.eta_t2, DM.eta_t3, DM.eta_t4, DM.eta_t5, DM.eta_h2, DM.eta_h3, DM.eta_h4, DM.eta_h5, DM.eta_tu, DM.getS_0, DM.getS_s, DM.set_0, DM.set_s, DM.at_0, DM.at_s, DM.wipe_nil, DM.wipe_cons, DM.keep_none, DM.keep_nil, DM.keep_cons, DM.map_none_nil, DM.map_none_cons, DM.pnO_f, DM.an_nx, DM.an_rt, DM.an_bk, DM.an_ct, DM.an_stk, DM.an_el, DM.an_ite, DM.an_rs, DM.nc_nx, DM.nc_ct, DM.nc_bk, DM.nc_rt, DM.nc_stk, DM.nc_el, DM.nc_ite, DM.nc_rs, DM.el_rs, DM.rs_go, DM.rs_rt, DM.ct_nx, DM.ct_bk, DM.ct_rt, DM.ss_nil, DM.ss_cons, DM.st_asg, DM.st_asT, DM.st_asI, DM.st_aug, DM.st_doc, DM.st_ex, DM.st_ite, DM.st_for1, DM.st_forT, DM.st_ret, DM.st_retN, DM.st_brk, DM.st_cnt, DM.st_pas, DM.st_fgt, DM.st_fzs, DM.fzsO_some, DM.someO_some, DM.augO_add, DM.augO_sub, DM.asI_eq, DM.it_sl, DM.it_vl, DM.it_r1, DM.it_r2, DM.r1O_int, DM.r2O_int, DM.walk_lst, DM.walk_tup, DM.walk_str, DM.walk_t2, DM.walk_t3, DM.wlist, DM.seqO_some, DM.wkO_def, DM.ev_lc, DM.lcO_n, DM.ev_lc2, DM.lc2O_n, DM.ev_muO, DM.muO_l, DM.mu2_l, DM.mu_app, DM.mu_pop, DM.mu_rev, DM.mu_clr, DM.callD_eq, DM.res_ok, DM.res_stk, DM.res_el, DM.tkL_nil, DM.tkL_cons, DM.tk1_some, DM.fzL_nil, DM.fzL_cons, DM.fz1_some, DM.mi_nil, DM.mi_m, DM.mi_v, DM.mi_b, DM.bi_nil, DM.bi_m, DM.bi_v, DM.bi_b, DM.ar_nil, DM.ar_v, DM.ar_m, DM.ar_b, DM.pt_nil, DM.pt_cons, DM.pt1_n, DM.atom_int, DM.atom_bl, DM.atom_str, DM.atom_non, DM.atom_lst, DM.atom_tup, DM.atom_enc, DM.selfc_lst, DM.fin_rt, DM.fin_nx, DM.fin_stk, DM.fin_el, DM.fin_ite, DM.fin_rs, DM.ga_nil, DM.ga_cons, DM.ga1_some, DM.kid_l, DM.kid_t, DM.kidO_some, DM.putL_nil, DM.putL_cons, DM.szO_0, DM.szO_1, DM.szO_2, DM.szO_3, DM.szO_4, DM.szO_5, DM.szO_6, DM.szO_7, DM.szO_8, DM.szO_9, DM.szO_10, DM.szO_11, DM.szO_12, DM.szO_13, DM.szO_14, DM.szO_15, DM.szO_16, DM.szO_17, DM.szO_18, DM.szO_19, DM.szO_20, DM.szO_21, DM.szO_22, DM.szO_23, DM.szO_24, DM.szO_25, DS.frz, DS.frzL, DM.frzL_map', DM.frz_enc, DM.rootFz_enc, DS.rootFz, DM.e_int, DM.e_bl, DM.e_tx, DM.e_un, DM.e_non, DM.e_som, DM.e_lst, DM.e_tu, DM.e_t2, DM.e_t3, DM.e_t4, DM.e_t5, DM.e_h2, DM.e_h3, DM.e_h4, DM.e_h5, DS.kAr, DS.kTm, DS.kArs, DS.kOAr, DS.kTms, DS.kCas, DS.kCa, DS.kTs, DS.kOTs, DS.kIt, DM.fz_int, DM.fz_bl, DM.fz_str, DM.fz_non, DM.fz_lst, DM.fz_tup, DM.fz_enc, List.contains_nil, List.contains_cons, List.any_nil, List.any_cons, List.all_nil, List.all_cons, List.length_cons, List.length_nil, Option.isSome_some, Bool.not_true, Bool.not_false, Bool.and_true, Bool.true_and, Bool.and_false, Bool.false_and, Bool.or_true, Bool.true_or, Bool.or_false, Bool.false_or, Bool.false_eq_true, eq_self, if_true, if_false, Option.isNone_none, Option.isNone_some, decide_true, decide_false, Nat.reduceAdd, Nat.reduceEqDiff, Nat.reduceBEq, DM.ty_int_int, DM.ty_int_bool, DM.ty_int_str, DM.ty_int_list, DM.ty_int_tuple, DM.ty_int_dict, DM.ty_bool_int, DM.ty_bool_bool, DM.ty_bool_str, DM.ty_bool_list, DM.ty_bool_tuple, DM.ty_bool_dict, DM.ty_str_int, DM.ty_str_bool, DM.ty_str_str, DM.ty_str_list, DM.ty_str_tuple, DM.ty_str_dict, DM.ty_list_int, DM.ty_list_bool, DM.ty_list_str, DM.ty_list_list, DM.ty_list_tuple, DM.ty_list_dict, DM.ty_tuple_int, DM.ty_tuple_bool, DM.ty_tuple_str, DM.ty_tuple_list, DM.ty_tuple_tuple, DM.ty_tuple_dict, DM.ty_dict_int, DM.ty_dict_bool, DM.ty_dict_str, DM.ty_dict_list, DM.ty_dict_tuple, DM.ty_dict_dict, ↓DM.bind_ok', ↓DM.bind_stk', ↓DM.bind_elim, ↓DM.bind_ite, ↓DM.sb_ok', ↓DM.sb_stk', ↓DM.sb_elim, ↓DM.sb_ite, ↓DM.an_nx, ↓DM.an_rt, ↓DM.an_bk, ↓DM.an_ct, ↓DM.an_stk, ↓DM.an_el, ↓DM.an_ite, ↓DM.an_rs, ↓DM.andO_ok, ↓DM.andO_elim, ↓DM.andO_stk, ↓DM.orO_ok, ↓DM.orO_elim, ↓DM.orO_stk, ↓DM.iteO_ok, ↓DM.iteO_elim, ↓DM.iteO_stk, ↓DM.notO_ok, ↓DM.chnO_some, ↓DM.tkL_nil, ↓DM.tkL_cons, ↓DM.tk1_some, ↓DM.fzL_nil, ↓DM.fzL_cons, ↓DM.fz1_some, ↓DM.elim_some, ↓DM.elim_none, ↓DM.and2_f, ↓DM.or2_t, ↓DM.grd_t, ↓if_true, ↓if_false]
/-! mirror of law -/
theorem fn17_2 : SG17.fn 2 = sem2 := rfl
theorem fn17_3 : SG17.fn 3 = sem3 := rfl
theorem fn17_4 : SG17.fn 4 = sem4 := rfl
theorem fn17_9 : SG17.fn 9 = sem9 := rfl
theorem fn17_10 : SG17.fn 10 = sem10 := rfl
theorem fn17_11 : SG17.fn 11 = sem11 := rfl
theorem fn17_12 : SG17.fn 12 = sem12 := rfl
theorem fn17_15 : SG17.fn 15 = sem15 := rfl
theorem fn17_16 : SG17.fn 16 = sem16 := rfl
theorem cd17_0 : SG17.cd 0 = .int (-9223372036854775808) := rfl
theorem cd17_1 : SG17.cd 1 = .int (9223372036854775807) := rfl
theorem cd17_2 : SG17.cd 2 = .tup false [.int (-9223372036854775808), .int (9223372036854775807)] := rfl
def f17_c1_c (v_script : (List Int)) (v_k : Int) : Option Bool := some true
def f17_c1_m (v_script : (List Int)) (v_k : Int) : Option Int := (m9 v_script v_k).bind fun t2 => (m10 t2).bind fun t3 => some t3
theorem f17_c1_hc (v_script : (List Int)) (v_k : Int) : (evOT SG17 .none) [some (.lst false (List.map enc v_script)), none, some (.int v_k), none, none, none, none, none, none] = (f17_c1_c v_script v_k).elim .stk fun t => .ok t [some (.lst false (List.map enc v_script)), none, some (.int v_k), none, none, none, none, none, none] := by
  simp only [f17_c1_c, DM.ot_none, DM.ot_some, fn17_2, e2, fn17_3, e3, fn17_4, e4, fn17_9, e9, fn17_10, e10, fn17_11, e11, fn17_12, e12, fn17_15, e15, fn17_16, e16, cd17_0, cd17_1, cd17_2,
  DM.kbin1_a, DM.kbin2_a, DM.kneg_a, DM.kcmp1_a, DM.kcmp2_a, DM.kchn1_a, DM.kchn2_a, DM.kchn3_a, DM.ksub1_a, DM.ksub2_a, DM.kslc1_a, DM.kslc2_a, DM.kslc3_a, DM.kbi_a, DM.kme1_a, DM.kme2_a, DM.ktup_a, DM.klst_a, DM.ktst_a, DM.kas1_a, DM.kas2_a, DM.kts1_a, DM.kts2_a, DM.kav_a, DM.kvl_a, DM.kbl_a, DM.ktr_a, DM.kasg_a, DM.kasT_a, DM.kasI1_a, DM.kasI2_a, DM.kaug_a, DM.kex_a, DM.kif_a, DM.kfor_a, DM.kforT_a, DM.kret_a, DM.kr2_a, DM.klc_a, DM.klc2_a, DM.kmu_a, DM.kcl1_a, DM.kcl2_a, DM.kpre_a, DM.ev_int, DM.ev_bl, DM.ev_str, DM.ev_non, DM.ev_ty, DM.ev_gc, DM.ev_mv, DM.ev_tk, DM.mvO_some, DM.tkO_some, DM.ev_bin, DM.ev_neg, DM.ev_cmp, DM.chnO_some, DM.chn2_ok, DM.chn2_elim, DM.ev_chn, DM.ev_sub, DM.ev_slc, DM.ev_bi, DM.ev_me, DM.ev_tup, DM.ev_lst, DM.ev_call, DM.ev_ite, DM.ev_tst, DM.evA_pk, DM.evA_vl, DM.evPl_sl, DM.oaO_int, DM.evOA_none, DM.evOA_some, DM.evAs_nil, DM.evAs_cons, DM.evTs_nil, DM.evTs_cons, DM.evC_nil, DM.evC_bor, DM.evC_mt, DM.evC_vl, DM.evT_vl, DM.evT_tr, DM.evT_and, DM.evT_or, DM.evT_not, DM.blD_bl, DM.bind_ok', DM.bind_stk', DM.sb_ok', DM.sb_stk', DM.lift_some', DM.lift_none', DM.lift_def, DM.elim_same, ite_self, DM.sub_non, DM.len_non, DM.bind_elim, DM.sb_elim, DM.bind_ite, DM.sb_ite, DM.elim_map, DM.elim_bind, DM.elim_ite, DM.elim_some, DM.elim_none, DM.map_map', DM.map_some', DM.map_ite, DM.andO_ok, DM.andO_elim, DM.and2_ok, DM.and2_elim, DM.and2_ite, DM.and2_t, DM.and2_f, DM.and2_stk, DM.or2_stk, DM.ite2_t, DM.ite2_f, DM.orO_ok, DM.orO_elim, DM.or2_ok, DM.or2_elim, DM.or2_ite, DM.or2_t, DM.or2_f, DM.notO_ok, DM.notO_elim, DM.notO_ite, DM.andO_ite, DM.orO_ite, DM.iteO_ok, DM.iteO_elim, DM.iteO_ite, DM.ite2_int, DM.ite2_bl, DM.ite2_tx, DM.ite2_def, DM.grd_t, DM.grd_tl, DM.grd_tr, DM.b_add, DM.b_sub, DM.b_mul, DM.b_fdiv, DM.b_mod, DM.b_pow, DM.n_neg, DM.b_addL, DM.b_addT, DM.b_addS, DM.b_mulL, DM.s_lst, DM.s_tup, DM.s_str, DM.s_t2i, DM.s_t3i, DM.s_0, DM.s_1, DM.s_2, DM.s_3, DM.s_4, DM.s_5, DM.s_6, DM.s_7, DM.h_0, DM.h_1, DM.h_2, DM.h_3, DM.h_4, DM.h_5, DM.h_6, DM.h_7, DM.sl_lst, DM.sl_tup, DM.sl_str, DM.l_lst, DM.l_tup, DM.l_str, List.length_map, DM.i_int, DM.i_bl, DM.o_bl, DM.o_int, DM.i_abs, DM.i_max, DM.i_min, DM.i_maxL, DM.i_minL, DM.i_sum, DM.i_sorted, DM.i_list, DM.i_listT, DM.i_tuple, DM.i_isi, DM.z_int, DM.z_bl, DM.z_str, DM.z_lst, DM.z_tup, DM.z_non, DM.c_lt, DM.c_le, DM.c_gt, DM.c_ge, DM.c_eq, DM.c_ne, DM.c_is, DM.c_isnot, DM.t_non, DM.t_bl, DM.t_int, DM.t_lst, DM.t_tup, DM.isEmpty_map', DM.in_ints, DM.eqD_int, DM.eqD_bl, DM.eqD_tx, DM.isNon_opt, DM.isNon_enc, DM.n_int, DM.n_bl, DM.n_str, DM.n_lst, DM.n_tup, DM.n_non, DM.notO_stk, DM.orO_stk, DM.andO_stk, DM.iteO_stk, DM.eta_t2, DM.eta_t3, DM.eta_t4, DM.eta_t5, DM.eta_h2, DM.eta_h3, DM.eta_h4, DM.eta_h5, DM.eta_tu, DM.getS_0, DM.getS_s, DM.set_0, DM.set_s, DM.at_0, DM.at_s, DM.wipe_nil, DM.wipe_cons, DM.keep_none, DM.keep_nil, DM.keep_cons, DM.map_none_nil, DM.map_none_cons, DM.pnO_f, DM.an_nx, DM.an_rt, DM.an_bk, DM.an_ct, DM.an_stk, DM.an_el, DM.an_ite, DM.an_rs, DM.nc_nx, DM.nc_ct, DM.nc_bk, DM.nc_rt, DM.nc_stk, DM.nc_el, DM.nc_ite, DM.nc_rs, DM.el_rs, DM.rs_go, DM.rs_rt, DM.ct_nx, DM.ct_bk, DM.ct_rt, DM.ss_nil, DM.ss_cons, DM.st_asg, DM.st_asT, DM.st_asI, DM.st_aug, DM.st_doc, DM.st_ex, DM.st_ite, DM.st_for1, DM.st_forT, DM.st_ret, DM.st_retN, DM.st_brk, DM.st_cnt, DM.st_pas, DM.st_fgt, DM.st_fzs, DM.fzsO_some, DM.someO_some, DM.augO_add, DM.augO_sub, DM.asI_eq, DM.it_sl, DM.it_vl, DM.it_r1, DM.it_r2, DM.r1O_int, DM.r2O_int, DM.walk_lst, DM.walk_tup, DM.walk_str, DM.walk_t2, DM.walk_t3, DM.wlist, DM.seqO_some, DM.wkO_def, DM.ev_lc, DM.lcO_n, DM.ev_lc2, DM.lc2O_n, DM.ev_muO, DM.muO_l, DM.mu2_l, DM.mu_app, DM.mu_pop, DM.mu_rev, DM.mu_clr, DM.callD_eq, DM.res_ok, DM.res_stk, DM.res_el, DM.tkL_nil, DM.tkL_cons, DM.tk1_some, DM.fzL_nil, DM.fzL_cons, DM.fz1_some, DM.mi_nil, DM.mi_m, DM.mi_v, DM.mi_b, DM.bi_nil, DM.bi_m, DM.bi_v, DM.bi_b, DM.ar_nil, DM.ar_v, DM.ar_m, DM.ar_b, DM.pt_nil, DM.pt_cons, DM.pt1_n, DM.atom_int, DM.atom_bl, DM.atom_str, DM.atom_non, DM.atom_lst, DM.atom_tup, DM.atom_enc, DM.selfc_lst, DM.fin_rt, DM.fin_nx, DM.fin_stk, DM.fin_el, DM.fin_ite, DM.fin_rs, DM.ga_nil, DM.ga_cons, DM.ga1_some, DM.kid_l, DM.kid_t, DM.kidO_some, DM.putL_nil, DM.putL_cons, DM.szO_0, DM.szO_1, DM.szO_2, DM.szO_3, DM.szO_4, DM.szO_5, DM.szO_6, DM.szO_7, DM.szO_8, DM.szO_9, DM.szO_10, DM.szO_11, DM.szO_12, DM.szO_13, DM.szO_14, DM.szO_15, DM.szO_16, DM.szO_17, DM.szO_18, DM.szO_19, DM.szO_20, DM.szO_21, DM.szO_22, DM.szO_23, DM.szO_24, DM.szO_25, DS.frz, DS.frzL, DM.frzL_map', DM.frz_enc, DM.rootFz_enc, DS.rootFz, DM.e_int, DM.e_bl, DM.e_tx, DM.e_un, DM.e_non, DM.e_som, DM.e_lst, DM.e_tu, DM.e_t2, DM.e_t3, DM.e_t4, DM.e_t5, DM.e_h2, DM.e_h3, DM.e_h4, DM.e_h5, DS.kAr, DS.kTm, DS.kArs, DS.kOAr, DS.kTms, DS.kCas, DS.kCa, DS.kTs, DS.kOTs, DS.kIt, DM.fz_int, DM.fz_bl, DM.fz_str, DM.fz_non, DM.fz_lst, DM.fz_tup, DM.fz_enc, List.contains_nil, List.contains_cons, List.any_nil, List.any_cons, List.all_nil, List.all_cons, List.length_cons, List.length_nil, Option.isSome_some, Bool.not_true, Bool.not_false, Bool.and_true, Bool.true_and, Bool.and_false, Bool.false_and, Bool.or_true, Bool.true_or, Bool.or_false, Bool.false_or, Bool.false_eq_true, eq_self, if_true, if_false, Option.isNone_none, Option.isNone_some, decide_true, decide_false, Nat.reduceAdd, Nat.reduceEqDiff, Nat.reduceBEq, DM.ty_int_int, DM.ty_int_bool, DM.ty_int_str, DM.ty_int_list, DM.ty_int_tuple, DM.ty_int_dict, DM.ty_bool_int, DM.ty_bool_bool, DM.ty_bool_str, DM.ty_bool_list, DM.ty_bool_tuple, DM.ty_bool_dict, DM.ty_str_int, DM.ty_str_bool, DM.ty_str_str, DM.ty_str_list, DM.ty_str_tuple, DM.ty_str_dict, DM.ty_list_int, DM.ty_list_bool, DM.ty_list_str, DM.ty_list_list, DM.ty_list_tuple, DM.ty_list_dict, DM.ty_tuple_int, DM.ty_tuple_bool, DM.ty_tuple_str, DM.ty_tuple_list, DM.ty_tuple_tuple, DM.ty_tuple_dict, DM.ty_dict_int, DM.ty_dict_bool, DM.ty_dict_str, DM.ty_dict_list, DM.ty_dict_tuple, DM.ty_dict_dict, ↓DM.bind_ok', ↓DM.bind_stk', ↓DM.bind_elim, ↓DM.bind_ite, ↓DM.sb_ok', ↓DM.sb_stk', ↓DM.sb_elim, ↓DM.sb_ite, ↓DM.an_nx, ↓DM.an_rt, ↓DM.an_bk, ↓DM.an_ct, ↓DM.an_stk, ↓DM.an_el, ↓DM.an_ite, ↓DM.an_rs, ↓DM.andO_ok, ↓DM.andO_elim, ↓DM.andO_stk, ↓DM.orO_ok, ↓DM.orO_elim, ↓DM.orO_stk, ↓DM.iteO_ok, ↓DM.iteO_elim, ↓DM.iteO_stk, ↓DM.notO_ok, ↓DM.chnO_some, ↓DM.tkL_nil, ↓DM.tkL_cons, ↓DM.tk1_some, ↓DM.fzL_nil, ↓DM.fzL_cons, ↓DM.fz1_some, ↓DM.elim_some, ↓DM.elim_none, ↓DM.and2_f, ↓DM.or2_t, ↓DM.grd_t, ↓if_true, ↓if_false]
theorem f17_c1_he (v_script : (List Int)) (v_k : Int) : ev SG17 f17_C1 [some (.lst false (List.map enc v_script)), none, some (.int v_k), none, none, none, none, none, none] = (f17_c1_m v_script v_k).elim .stk fun y => .ok (.int y) [some (.lst false (List.map enc v_script)), none, some (.int v_k), none, none, none, none, none, none] := by
  simp only [f17_C1, f17_c1_m, fn17_2, e2, fn17_3, e3, fn17_4, e4, fn17_9, e9, fn17_10, e10, fn17_11, e11, fn17_12, e12, fn17_15, e15, fn17_16, e16, cd17_0, cd17_1, cd17_2,
  DM.kbin1_a, DM.kbin2_a, DM.kneg_a, DM.kcmp1_a, DM.kcmp2_a, DM.kchn1_a, DM.kchn2_a, DM.kchn3_a, DM.ksub1_a, DM.ksub2_a, DM.kslc1_a, DM.kslc2_a, DM.kslc3_a, DM.kbi_a, DM.kme1_a, DM.kme2_a, DM.ktup_a, DM.klst_a, DM.ktst_a, DM.kas1_a, DM.kas2_a, DM.kts1_a, DM.kts2_a, DM.kav_a, DM.kvl_a, DM.kbl_a, DM.ktr_a, DM.kasg_a, DM.kasT_a, DM.kasI1_a, DM.kasI2_a, DM.kaug_a, DM.kex_a, DM.kif_a, DM.kfor_a, DM.kforT_a, DM.kret_a, DM.kr2_a, DM.klc_a, DM.klc2_a, DM.kmu_a, DM.kcl1_a, DM.kcl2_a, DM.kpre_a, DM.ev_int, DM.ev_bl, DM.ev_str, DM.ev_non, DM.ev_ty, DM.ev_gc, DM.ev_mv, DM.ev_tk, DM.mvO_some, DM.tkO_some, DM.ev_bin, DM.ev_neg, DM.ev_cmp, DM.chnO_some, DM.chn2_ok, DM.chn2_elim, DM.ev_chn, DM.ev_sub, DM.ev_slc, DM.ev_bi, DM.ev_me, DM.ev_tup, DM.ev_lst, DM.ev_call, DM.ev_ite, DM.ev_tst, DM.evA_pk, DM.evA_vl, DM.evPl_sl, DM.oaO_int, DM.evOA_none, DM.evOA_some, DM.evAs_nil, DM.evAs_cons, DM.evTs_nil, DM.evTs_cons, DM.evC_nil, DM.evC_bor, DM.evC_mt, DM.evC_vl, DM.evT_vl, DM.evT_tr, DM.evT_and, DM.evT_or, DM.evT_not, DM.blD_bl, DM.bind_ok', DM.bind_stk', DM.sb_ok', DM.sb_stk', DM.lift_some', DM.lift_none', DM.lift_def, DM.elim_same, ite_self, DM.sub_non, DM.len_non, DM.bind_elim, DM.sb_elim, DM.bind_ite, DM.sb_ite, DM.elim_map, DM.elim_bind, DM.elim_ite, DM.elim_some, DM.elim_none, DM.map_map', DM.map_some', DM.map_ite, DM.andO_ok, DM.andO_elim, DM.and2_ok, DM.and2_elim, DM.and2_ite, DM.and2_t, DM.and2_f, DM.and2_stk, DM.or2_stk, DM.ite2_t, DM.ite2_f, DM.orO_ok, DM.orO_elim, DM.or2_ok, DM.or2_elim, DM.or2_ite, DM.or2_t, DM.or2_f, DM.notO_ok, DM.notO_elim, DM.notO_ite, DM.andO_ite, DM.orO_ite, DM.iteO_ok, DM.iteO_elim, DM.iteO_ite, DM.ite2_int, DM.ite2_bl, DM.ite2_tx, DM.ite2_def, DM.grd_t, DM.grd_tl, DM.grd_tr, DM.b_add, DM.b_sub, DM.b_mul, DM.b_fdiv, DM.b_mod, DM.b_pow, DM.n_neg, DM.b_addL, DM.b_addT, DM.b_addS, DM.b_mulL, DM.s_lst, DM.s_tup, DM.s_str, DM.s_t2i, DM.s_t3i, DM.s_0, DM.s_1, DM.s_2, DM.s_3, DM.s_4, DM.s_5, DM.s_6, DM.s_7, DM.h_0, DM.h_1, DM.h_2, DM.h_3, DM.h_4, DM.h_5, DM.h_6, DM.h_7, DM.sl_lst, DM.sl_tup, DM.sl_str, DM.l_lst, DM.l_tup, DM.l_str, List.length_map, DM.i_int, DM.i_bl, DM.o_bl, DM.o_int, DM.i_abs, DM.i_max, DM.i_min, DM.i_maxL, DM.i_minL, DM.i_sum, DM.i_sorted, DM.i_list, DM.i_listT, DM.i_tuple, DM.i_isi, DM.z_int, DM.z_bl, DM.z_str, DM.z_lst, DM.z_tup, DM.z_non, DM.c_lt, DM.c_le, DM.c_gt, DM.c_ge, DM.c_eq, DM.c_ne, DM.c_is, DM.c_isnot, DM.t_non, DM.t_bl, DM.t_int, DM.t_lst, DM.t_tup, DM.isEmpty_map', DM.in_ints, DM.eqD_int, DM.eqD_bl, DM.eqD_tx, DM.isNon_opt, DM.isNon_enc, DM.n_int, DM.n_bl, DM.n_str, DM.n_lst, DM.n_tup, DM.n_non, DM.notO_stk, DM.orO_stk, DM.andO_stk, DM.iteO_stk, DM.eta_t2, DM.eta_t3, DM.eta_t4, DM.eta_t5, DM.eta_h2, DM.eta_h3, DM.eta_h4, DM.eta_h5, DM.eta_tu, DM.getS_0, DM.getS_s, DM.set_0, DM.set_s, DM.at_0, DM.at_s, DM.wipe_nil, DM.wipe_cons, DM.keep_none, DM.keep_nil, DM.keep_cons, DM.map_none_nil, DM.map_none_cons, DM.pnO_f, DM.an_nx, DM.an_rt, DM.an_bk, DM.an_ct, DM.an_stk, DM.an_el, DM.an_ite, DM.an_rs, DM.nc_nx, DM.nc_ct, DM.nc_bk, DM.nc_rt, DM.nc_stk, DM.nc_el, DM.nc_ite, DM.nc_rs, DM.el_rs, DM.rs_go, DM.rs_rt, DM.ct_nx, DM.ct_bk, DM.ct_rt, DM.ss_nil, DM.ss_cons, DM.st_asg, DM.st_asT, DM.st_asI, DM.st_aug, DM.st_doc, DM.st_ex, DM.st_ite, DM.st_for1, DM.st_forT, DM.st_ret, DM.st_retN, DM.st_brk, DM.st_cnt, DM.st_pas, DM.st_fgt, DM.st_fzs, DM.fzsO_some, DM.someO_some, DM.augO_add, DM.augO_sub, DM.asI_eq, DM.it_sl, DM.it_vl, DM.it_r1, DM.it_r2, DM.r1O_int, DM.r2O_int, DM.walk_lst, DM.walk_tup, DM.walk_str, DM.walk_t2, DM.walk_t3, DM.wlist, DM.seqO_some, DM.wkO_def, DM.ev_lc, DM.lcO_n, DM.ev_lc2, DM.lc2O_n, DM.ev_muO, DM.muO_l, DM.mu2_l, DM.mu_app, DM.mu_pop, DM.mu_rev, DM.mu_clr, DM.callD_eq, DM.res_ok, DM.res_stk, DM.res_el, DM.tkL_nil, DM.tkL_cons, DM.tk1_some, DM.fzL_nil, DM.fzL_cons, DM.fz1_some, DM.mi_nil, DM.mi_m, DM.mi_v, DM.mi_b, DM.bi_nil, DM.bi_m, DM.bi_v, DM.bi_b, DM.ar_nil, DM.ar_v, DM.ar_m, DM.ar_b, DM.pt_nil, DM.pt_cons, DM.pt1_n, DM.atom_int, DM.atom_bl, DM.atom_str, DM.atom_non, DM.atom_lst, DM.atom_tup, DM.atom_enc, DM.selfc_lst, DM.fin_rt, DM.fin_nx, DM.fin_stk, DM.fin_el, DM.fin_ite, DM.fin_rs, DM.ga_nil, DM.ga_cons, DM.ga1_some, DM.kid_l, DM.kid_t, DM.kidO_some, DM.putL_nil, DM.putL_cons, DM.szO_0, DM.szO_1, DM.szO_2, DM.szO_3, DM.szO_4, DM.szO_5, DM.szO_6, DM.szO_7, DM.szO_8, DM.szO_9, DM.szO_10, DM.szO_11, DM.szO_12, DM.szO_13, DM.szO_14, DM.szO_15, DM.szO_16, DM.szO_17, DM.szO_18, DM.szO_19, DM.szO_20, DM.szO_21, DM.szO_22, DM.szO_23, DM.szO_24, DM.szO_25, DS.frz, DS.frzL, DM.frzL_map', DM.frz_enc, DM.rootFz_enc, DS.rootFz, DM.e_int, DM.e_bl, DM.e_tx, DM.e_un, DM.e_non, DM.e_som, DM.e_lst, DM.e_tu, DM.e_t2, DM.e_t3, DM.e_t4, DM.e_t5, DM.e_h2, DM.e_h3, DM.e_h4, DM.e_h5, DS.kAr, DS.kTm, DS.kArs, DS.kOAr, DS.kTms, DS.kCas, DS.kCa, DS.kTs, DS.kOTs, DS.kIt, DM.fz_int, DM.fz_bl, DM.fz_str, DM.fz_non, DM.fz_lst, DM.fz_tup, DM.fz_enc, List.contains_nil, List.contains_cons, List.any_nil, List.any_cons, List.all_nil, List.all_cons, List.length_cons, List.length_nil, Option.isSome_some, Bool.not_true, Bool.not_false, Bool.and_true, Bool.true_and, Bool.and_false, Bool.false_and, Bool.or_true, Bool.true_or, Bool.or_false, Bool.false_or, Bool.false_eq_true, eq_self, if_true, if_false, Option.isNone_none, Option.isNone_some, decide_true, decide_false, Nat.reduceAdd, Nat.reduceEqDiff, Nat.reduceBEq, DM.ty_int_int, DM.ty_int_bool, DM.ty_int_str, DM.ty_int_list, DM.ty_int_tuple, DM.ty_int_dict, DM.ty_bool_int, DM.ty_bool_bool, DM.ty_bool_str, DM.ty_bool_list, DM.ty_bool_tuple, DM.ty_bool_dict, DM.ty_str_int, DM.ty_str_bool, DM.ty_str_str, DM.ty_str_list, DM.ty_str_tuple, DM.ty_str_dict, DM.ty_list_int, DM.ty_list_bool, DM.ty_list_str, DM.ty_list_list, DM.ty_list_tuple, DM.ty_list_dict, DM.ty_tuple_int, DM.ty_tuple_bool, DM.ty_tuple_str, DM.ty_tuple_list, DM.ty_tuple_tuple, DM.ty_tuple_dict, DM.ty_dict_int, DM.ty_dict_bool, DM.ty_dict_str, DM.ty_dict_list, DM.ty_dict_tuple, DM.ty_dict_dict, ↓DM.bind_ok', ↓DM.bind_stk', ↓DM.bind_elim, ↓DM.bind_ite, ↓DM.sb_ok', ↓DM.sb_stk', ↓DM.sb_elim, ↓DM.sb_ite, ↓DM.an_nx, ↓DM.an_rt, ↓DM.an_bk, ↓DM.an_ct, ↓DM.an_stk, ↓DM.an_el, ↓DM.an_ite, ↓DM.an_rs, ↓DM.andO_ok, ↓DM.andO_elim, ↓DM.andO_stk, ↓DM.orO_ok, ↓DM.orO_elim, ↓DM.orO_stk, ↓DM.iteO_ok, ↓DM.iteO_elim, ↓DM.iteO_stk, ↓DM.notO_ok, ↓DM.chnO_some, ↓DM.tkL_nil, ↓DM.tkL_cons, ↓DM.tk1_some, ↓DM.fzL_nil, ↓DM.fzL_cons, ↓DM.fz1_some, ↓DM.elim_some, ↓DM.elim_none, ↓DM.and2_f, ↓DM.or2_t, ↓DM.grd_t, ↓if_true, ↓if_false]
theorem f17_c1_eq (v_script : (List Int)) (l : List Int) : lcL 2 (evOT SG17 .none) (ev SG17 f17_C1) (List.map enc l) [] [some (.lst false (List.map enc v_script)), none, none, none, none, none, none, none, none] = (lcM (f17_c1_c v_script) (f17_c1_m v_script) l []).elim Out.stk fun z => Out.ok (D.lst true (List.map enc z)) [some (.lst false (List.map enc v_script)), none, none, none, none, none, none, none, none] :=
  lc_eq 2 _ _ [some (.lst false (List.map enc v_script)), none, none, none, none, none, none, none, none] _ _ (f17_c1_hc v_script) (f17_c1_he v_script) l [] _ (.inl rfl)
theorem f17_d1 (v_script : (List Int)) (v_one : (List Int)) (v_two : (List Int)) : ev SG17 f17_D1 [some (.lst false (List.map enc v_script)), none, none, some (.lst true (List.map enc v_one)), some (.lst true (List.map enc v_two)), none, none, none, none] = ((subM v_one (1)).bind fun t6 => (subM v_one (1)).bind fun t7 => (subM v_two (1)).bind fun t8 => some [t6, (maxI t7 t8)] : Option (List Int)).elim .stk fun z => .ok (.lst true (List.map enc z)) [some (.lst false (List.map enc v_script)), none, none, some (.lst true (List.map enc v_one)), some (.lst true (List.map enc v_two)), none, none, none, none] := by
  simp only [f17_D1, List.map_cons, List.map_nil, f17_c1_eq, fn17_2, e2, fn17_3, e3, fn17_4, e4, fn17_9, e9, fn17_10, e10, fn17_11, e11, fn17_12, e12, fn17_15, e15, fn17_16, e16, cd17_0, cd17_1, cd17_2,
  DM.kbin1_a, DM.kbin2_a, DM.kneg_a, DM.kcmp1_a, DM.kcmp2_a, DM.kchn1_a, DM.kchn2_a, DM.kchn3_a, DM.ksub1_a, DM.ksub2_a, DM.kslc1_a, DM.kslc2_a, DM.kslc3_a, DM.kbi_a, DM.kme1_a, DM.kme2_a, DM.ktup_a, DM.klst_a, DM.ktst_a, DM.kas1_a, DM.kas2_a, DM.kts1_a, DM.kts2_a, DM.kav_a, DM.kvl_a, DM.kbl_a, DM.ktr_a, DM.kasg_a, DM.kasT_a, DM.kasI1_a, DM.kasI2_a, DM.kaug_a, DM.kex_a, DM.kif_a, DM.kfor_a, DM.kforT_a, DM.kret_a, DM.kr2_a, DM.klc_a, DM.klc2_a, DM.kmu_a, DM.kcl1_a, DM.kcl2_a, DM.kpre_a, DM.ev_int, DM.ev_bl, DM.ev_str, DM.ev_non, DM.ev_ty, DM.ev_gc, DM.ev_mv, DM.ev_tk, DM.mvO_some, DM.tkO_some, DM.ev_bin, DM.ev_neg, DM.ev_cmp, DM.chnO_some, DM.chn2_ok, DM.chn2_elim, DM.ev_chn, DM.ev_sub, DM.ev_slc, DM.ev_bi, DM.ev_me, DM.ev_tup, DM.ev_lst, DM.ev_call, DM.ev_ite, DM.ev_tst, DM.evA_pk, DM.evA_vl, DM.evPl_sl, DM.oaO_int, DM.evOA_none, DM.evOA_some, DM.evAs_nil, DM.evAs_cons, DM.evTs_nil, DM.evTs_cons, DM.evC_nil, DM.evC_bor, DM.evC_mt, DM.evC_vl, DM.evT_vl, DM.evT_tr, DM.evT_and, DM.evT_or, DM.evT_not, DM.blD_bl, DM.bind_ok', DM.bind_stk', DM.sb_ok', DM.sb_stk', DM.lift_some', DM.lift_none', DM.lift_def, DM.elim_same, ite_self, DM.sub_non, DM.len_non, DM.bind_elim, DM.sb_elim, DM.bind_ite, DM.sb_ite, DM.elim_map, DM.elim_bind, DM.elim_ite, DM.elim_some, DM.elim_none, DM.map_map', DM.map_some', DM.map_ite, DM.andO_ok, DM.andO_elim, DM.and2_ok, DM.and2_elim, DM.and2_ite, DM.and2_t, DM.and2_f, DM.and2_stk, DM.or2_stk, DM.ite2_t, DM.ite2_f, DM.orO_ok, DM.orO_elim, DM.or2_ok, DM.or2_elim, DM.or2_ite, DM.or2_t, DM.or2_f, DM.notO_ok, DM.notO_elim, DM.notO_ite, DM.andO_ite, DM.orO_ite, DM.iteO_ok, DM.iteO_elim, DM.iteO_ite, DM.ite2_int, DM.ite2_bl, DM.ite2_tx, DM.ite2_def, DM.grd_t, DM.grd_tl, DM.grd_tr, DM.b_add, DM.b_sub, DM.b_mul, DM.b_fdiv, DM.b_mod, DM.b_pow, DM.n_neg, DM.b_addL, DM.b_addT, DM.b_addS, DM.b_mulL, DM.s_lst, DM.s_tup, DM.s_str, DM.s_t2i, DM.s_t3i, DM.s_0, DM.s_1, DM.s_2, DM.s_3, DM.s_4, DM.s_5, DM.s_6, DM.s_7, DM.h_0, DM.h_1, DM.h_2, DM.h_3, DM.h_4, DM.h_5, DM.h_6, DM.h_7, DM.sl_lst, DM.sl_tup, DM.sl_str, DM.l_lst, DM.l_tup, DM.l_str, List.length_map, DM.i_int, DM.i_bl, DM.o_bl, DM.o_int, DM.i_abs, DM.i_max, DM.i_min, DM.i_maxL, DM.i_minL, DM.i_sum, DM.i_sorted, DM.i_list, DM.i_listT, DM.i_tuple, DM.i_isi, DM.z_int, DM.z_bl, DM.z_str, DM.z_lst, DM.z_tup, DM.z_non, DM.c_lt, DM.c_le, DM.c_gt, DM.c_ge, DM.c_eq, DM.c_ne, DM.c_is, DM.c_isnot, DM.t_non, DM.t_bl, DM.t_int, DM.t_lst, DM.t_tup, DM.isEmpty_map', DM.in_ints, DM.eqD_int, DM.eqD_bl, DM.eqD_tx, DM.isNon_opt, DM.isNon_enc, DM.n_int, DM.n_bl, DM.n_str, DM.n_lst, DM.n_tup, DM.n_non, DM.notO_stk, DM.orO_stk, DM.andO_stk, DM.iteO_stk, DM.eta_t2, DM.eta_t3, DM.eta_t4, DM.eta_t5, DM.eta_h2, DM.eta_h3, DM.eta_h4, DM.eta_h5, DM.eta_tu, DM.getS_0, DM.getS_s, DM.set_0, DM.set_s, DM.at_0, DM.at_s, DM.wipe_nil, DM.wipe_cons, DM.keep_none, DM.keep_nil, DM.keep_cons, DM.map_none_nil, DM.map_none_cons, DM.pnO_f, DM.an_nx, DM.an_rt, DM.an_bk, DM.an_ct, DM.an_stk, DM.an_el, DM.an_ite, DM.an_rs, DM.nc_nx, DM.nc_ct, DM.nc_bk, DM.nc_rt, DM.nc_stk, DM.nc_el, DM.nc_ite, DM.nc_rs, DM.el_rs, DM.rs_go, DM.rs_rt, DM.ct_nx, DM.ct_bk, DM.ct_rt, DM.ss_nil, DM.ss_cons, DM.st_asg, DM.st_asT, DM.st_asI, DM.st_aug, DM.st_doc, DM.st_ex, DM.st_ite, DM.st_for1, DM.st_forT, DM.st_ret, DM.st_retN, DM.st_brk, DM.st_cnt, DM.st_pas, DM.st_fgt, DM.st_fzs, DM.fzsO_some, DM.someO_some, DM.augO_add, DM.augO_sub, DM.asI_eq, DM.it_sl, DM.it_vl, DM.it_r1, DM.it_r2, DM.r1O_int, DM.r2O_int, DM.walk_lst, DM.walk_tup, DM.walk_str, DM.walk_t2, DM.walk_t3, DM.wlist, DM.seqO_some, DM.wkO_def, DM.ev_lc, DM.lcO_n, DM.ev_lc2, DM.lc2O_n, DM.ev_muO, DM.muO_l, DM.mu2_l, DM.mu_app, DM.mu_pop, DM.mu_rev, DM.mu_clr, DM.callD_eq, DM.res_ok, DM.res_stk, DM.res_el, DM.tkL_nil, DM.tkL_cons, DM.tk1_some, DM.fzL_nil, DM.fzL_cons, DM.fz1_some, DM.mi_nil, DM.mi_m, DM.mi_v, DM.mi_b, DM.bi_nil, DM.bi_m, DM.bi_v, DM.bi_b, DM.ar_nil, DM.ar_v, DM.ar_m, DM.ar_b, DM.pt_nil, DM.pt_cons, DM.pt1_n, DM.atom_int, DM.atom_bl, DM.atom_str, DM.atom_non, DM.atom_lst, DM.atom_tup, DM.atom_enc, DM.selfc_lst, DM.fin_rt, DM.fin_nx, DM.fin_stk, DM.fin_el, DM.fin_ite, DM.fin_rs, DM.ga_nil, DM.ga_cons, DM.ga1_some, DM.kid_l, DM.kid_t, DM.kidO_some, DM.putL_nil, DM.putL_cons, DM.szO_0, DM.szO_1, DM.szO_2, DM.szO_3, DM.szO_4, DM.szO_5, DM.szO_6, DM.szO_7, DM.szO_8, DM.szO_9, DM.szO_10, DM.szO_11, DM.szO_12, DM.szO_13, DM.szO_14, DM.szO_15, DM.szO_16, DM.szO_17, DM.szO_18, DM.szO_19, DM.szO_20, DM.szO_21, DM.szO_22, DM.szO_23, DM.szO_24, DM.szO_25, DS.frz, DS.frzL, DM.frzL_map', DM.frz_enc, DM.rootFz_enc, DS.rootFz, DM.e_int, DM.e_bl, DM.e_tx, DM.e_un, DM.e_non, DM.e_som, DM.e_lst, DM.e_tu, DM.e_t2, DM.e_t3, DM.e_t4, DM.e_t5, DM.e_h2, DM.e_h3, DM.e_h4, DM.e_h5, DS.kAr, DS.kTm, DS.kArs, DS.kOAr, DS.kTms, DS.kCas, DS.kCa, DS.kTs, DS.kOTs, DS.kIt, DM.fz_int, DM.fz_bl, DM.fz_str, DM.fz_non, DM.fz_lst, DM.fz_tup, DM.fz_enc, List.contains_nil, List.contains_cons, List.any_nil, List.any_cons, List.all_nil, List.all_cons, List.length_cons, List.length_nil, Option.isSome_some, Bool.not_true, Bool.not_false, Bool.and_true, Bool.true_and, Bool.and_false, Bool.false_and, Bool.or_true, Bool.true_or, Bool.or_false, Bool.false_or, Bool.false_eq_true, eq_self, if_true, if_false, Option.isNone_none, Option.isNone_some, decide_true, decide_false, Nat.reduceAdd, Nat.reduceEqDiff, Nat.reduceBEq, DM.ty_int_int, DM.ty_int_bool, DM.ty_int_str, DM.ty_int_list, DM.ty_int_tuple, DM.ty_int_dict, DM.ty_bool_int, DM.ty_bool_bool, DM.ty_bool_str, DM.ty_bool_list, DM.ty_bool_tuple, DM.ty_bool_dict, DM.ty_str_int, DM.ty_str_bool, DM.ty_str_str, DM.ty_str_list, DM.ty_str_tuple, DM.ty_str_dict, DM.ty_list_int, DM.ty_list_bool, DM.ty_list_str, DM.ty_list_list, DM.ty_list_tuple, DM.ty_list_dict, DM.ty_tuple_int, DM.ty_tuple_bool, DM.ty_tuple_str, DM.ty_tuple_list, DM.ty_tuple_tuple, DM.ty_tuple_dict, DM.ty_dict_int, DM.ty_dict_bool, DM.ty_dict_str, DM.ty_dict_list, DM.ty_dict_tuple, DM.ty_dict_dict, ↓DM.bind_ok', ↓DM.bind_stk', ↓DM.bind_elim, ↓DM.bind_ite, ↓DM.sb_ok', ↓DM.sb_stk', ↓DM.sb_elim, ↓DM.sb_ite, ↓DM.an_nx, ↓DM.an_rt, ↓DM.an_bk, ↓DM.an_ct, ↓DM.an_stk, ↓DM.an_el, ↓DM.an_ite, ↓DM.an_rs, ↓DM.andO_ok, ↓DM.andO_elim, ↓DM.andO_stk, ↓DM.orO_ok, ↓DM.orO_elim, ↓DM.orO_stk, ↓DM.iteO_ok, ↓DM.iteO_elim, ↓DM.iteO_stk, ↓DM.notO_ok, ↓DM.chnO_some, ↓DM.tkL_nil, ↓DM.tkL_cons, ↓DM.tk1_some, ↓DM.fzL_nil, ↓DM.fzL_cons, ↓DM.fz1_some, ↓DM.elim_some, ↓DM.elim_none, ↓DM.and2_f, ↓DM.or2_t, ↓DM.grd_t, ↓if_true, ↓if_false]
def f17_i1 (v_script : (List Int)) (v_one : (List Int)) (v_two : (List Int)) : Option (List Int) :=
  (m9 v_script (4)).bind fun t1 =>
  (modM t1 (5)).bind fun t2 =>
  if (decide (t2 = (1))) = true then
  (subM v_one (1)).bind fun t3 =>
  (subM v_one (1)).bind fun t4 =>
  (subM v_two (1)).bind fun t5 =>
  some [t3, (maxI t4 t5)]
  else
  some v_two
theorem f17_i1_eq (v_script : (List Int)) (v_one : (List Int)) (v_two : (List Int)) : evS SG17 [] f17_I1 [some (.lst false (List.map enc v_script)), none, none, some (.lst true (List.map enc v_one)), some (.lst true (List.map enc v_two)), none, none, none, none] = (f17_i1 v_script v_one v_two).elim .stk fun s => .nx [some (.lst false (List.map enc v_script)), none, none, some (.lst true (List.map enc v_one)), some (.lst true (List.map enc s)), none, none, none, none] := by
  simp only [f17_I1, f17_i1, f17_c1_eq, f17_d1, fn17_2, e2, fn17_3, e3, fn17_4, e4, fn17_9, e9, fn17_10, e10, fn17_11, e11, fn17_12, e12, fn17_15, e15, fn17_16, e16, cd17_0, cd17_1, cd17_2,
  DM.kbin1_a, DM.kbin2_a, DM.kneg_a, DM.kcmp1_a, DM.kcmp2_a, DM.kchn1_a, DM.kchn2_a, DM.kchn3_a, DM.ksub1_a, DM.ksub2_a, DM.kslc1_a, DM.kslc2_a, DM.kslc3_a, DM.kbi_a, DM.kme1_a, DM.kme2_a, DM.ktup_a, DM.klst_a, DM.ktst_a, DM.kas1_a, DM.kas2_a, DM.kts1_a, DM.kts2_a, DM.kav_a, DM.kvl_a, DM.kbl_a, DM.ktr_a, DM.kasg_a, DM.kasT_a, DM.kasI1_a, DM.kasI2_a, DM.kaug_a, DM.kex_a, DM.kif_a, DM.kfor_a, DM.kforT_a, DM.kret_a, DM.kr2_a, DM.klc_a, DM.klc2_a, DM.kmu_a, DM.kcl1_a, DM.kcl2_a, DM.kpre_a, DM.ev_int, DM.ev_bl, DM.ev_str, DM.ev_non, DM.ev_ty, DM.ev_gc, DM.ev_mv, DM.ev_tk, DM.mvO_some, DM.tkO_some, DM.ev_bin, DM.ev_neg, DM.ev_cmp, DM.chnO_some, DM.chn2_ok, DM.chn2_elim, DM.ev_chn, DM.ev_sub, DM.ev_slc, DM.ev_bi, DM.ev_me, DM.ev_tup, DM.ev_lst, DM.ev_call, DM.ev_ite, DM.ev_tst, DM.evA_pk, DM.evA_vl, DM.evPl_sl, DM.oaO_int, DM.evOA_none, DM.evOA_some, DM.evAs_nil, DM.evAs_cons, DM.evTs_nil, DM.evTs_cons, DM.evC_nil, DM.evC_bor, DM.evC_mt, DM.evC_vl, DM.evT_vl, DM.evT_tr, DM.evT_and, DM.evT_or, DM.evT_not, DM.blD_bl, DM.bind_ok', DM.bind_stk', DM.sb_ok', DM.sb_stk', DM.lift_some', DM.lift_none', DM.lift_def, DM.elim_same, ite_self, DM.sub_non, DM.len_non, DM.bind_elim, DM.sb_elim, DM.bind_ite, DM.sb_ite, DM.elim_map, DM.elim_bind, DM.elim_ite, DM.elim_some, DM.elim_none, DM.map_map', DM.map_some', DM.map_ite, DM.andO_ok, DM.andO_elim, DM.and2_ok, DM.and2_elim, DM.and2_ite, DM.and2_t, DM.and2_f, DM.and2_stk, DM.or2_stk, DM.ite2_t, DM.ite2_f, DM.orO_ok, DM.orO_elim, DM.or2_ok, DM.or2_elim, DM.or2_ite, DM.or2_t, DM.or2_f, DM.notO_ok, DM.notO_elim, DM.notO_ite, DM.andO_ite, DM.orO_ite, DM.iteO_ok, DM.iteO_elim, DM.iteO_ite, DM.ite2_int, DM.ite2_bl, DM.ite2_tx, DM.ite2_def, DM.grd_t, DM.grd_tl, DM.grd_tr, DM.b_add, DM.b_sub, DM.b_mul, DM.b_fdiv, DM.b_mod, DM.b_pow, DM.n_neg, DM.b_addL, DM.b_addT, DM.b_addS, DM.b_mulL, DM.s_lst, DM.s_tup, DM.s_str, DM.s_t2i, DM.s_t3i, DM.s_0, DM.s_1, DM.s_2, DM.s_3, DM.s_4, DM.s_5, DM.s_6, DM.s_7, DM.h_0, DM.h_1, DM.h_2, DM.h_3, DM.h_4, DM.h_5, DM.h_6, DM.h_7, DM.sl_lst, DM.sl_tup, DM.sl_str, DM.l_lst, DM.l_tup, DM.l_str, List.length_map, DM.i_int, DM.i_bl, DM.o_bl, DM.o_int, DM.i_abs, DM.i_max, DM.i_min, DM.i_maxL, DM.i_minL, DM.i_sum, DM.i_sorted, DM.i_list, DM.i_listT, DM.i_tuple, DM.i_isi, DM.z_int, DM.z_bl, DM.z_str, DM.z_lst, DM.z_tup, DM.z_non, DM.c_lt, DM.c_le, DM.c_gt, DM.c_ge, DM.c_eq, DM.c_ne, DM.c_is, DM.c_isnot, DM.t_non, DM.t_bl, DM.t_int, DM.t_lst, DM.t_tup, DM.isEmpty_map', DM.in_ints, DM.eqD_int, DM.eqD_bl, DM.eqD_tx, DM.isNon_opt, DM.isNon_enc, DM.n_int, DM.n_bl, DM.n_str, DM.n_lst, DM.n_tup, DM.n_non, DM.notO_stk, DM.orO_stk, DM.andO_stk, DM.iteO_stk, DM.eta_t2, DM.eta_t3, DM.eta_t4, DM.eta_t5, DM.eta_h2, DM.eta_h3, DM.eta_h4, DM.eta_h5, DM.eta_tu, DM.getS_0, DM.getS_s, DM.set_0, DM.set_s, DM.at_0, DM.at_s, DM.wipe_nil, DM.wipe_cons, DM.keep_none, DM.keep_nil, DM.keep_cons, DM.map_none_nil, DM.map_none_cons, DM.pnO_f, DM.an_nx, DM.an_rt, DM.an_bk, DM.an_ct, DM.an_stk, DM.an_el, DM.an_ite, DM.an_rs, DM.nc_nx, DM.nc_ct, DM.nc_bk, DM.nc_rt, DM.nc_stk, DM.nc_el, DM.nc_ite, DM.nc_rs, DM.el_rs, DM.rs_go, DM.rs_rt, DM.ct_nx, DM.ct_bk, DM.ct_rt, DM.ss_nil, DM.ss_cons, DM.st_asg, DM.st_asT, DM.st_asI, DM.st_aug, DM.st_doc, DM.st_ex, DM.st_ite, DM.st_for1, DM.st_forT, DM.st_ret, DM.st_retN, DM.st_brk, DM.st_cnt, DM.st_pas, DM.st_fgt, DM.st_fzs, DM.fzsO_some, DM.someO_some, DM.augO_add, DM.augO_sub, DM.asI_eq, DM.it_sl, DM.it_vl, DM.it_r1, DM.it_r2, DM.r1O_int, DM.r2O_int, DM.walk_lst, DM.walk_tup, DM.walk_str, DM.walk_t2, DM.walk_t3, DM.wlist, DM.seqO_some, DM.wkO_def, DM.ev_lc, DM.lcO_n, DM.ev_lc2, DM.lc2O_n, DM.ev_muO, DM.muO_l, DM.mu2_l, DM.mu_app, DM.mu_pop, DM.mu_rev, DM.mu_clr, DM.callD_eq, DM.res_ok, DM.res_stk, DM.res_el, DM.tkL_nil, DM.tkL_cons, DM.tk1_some, DM.fzL_nil, DM.fzL_cons, DM.fz1_some, DM.mi_nil, DM.mi_m, DM.mi_v, DM.mi_b, DM.bi_nil, DM.bi_m, DM.bi_v, DM.bi_b, DM.ar_nil, DM.ar_v, DM.ar_m, DM.ar_b, DM.pt_nil, DM.pt_cons, DM.pt1_n, DM.atom_int, DM.atom_bl, DM.atom_str, DM.atom_non, DM.atom_lst, DM.atom_tup, DM.atom_enc, DM.selfc_lst, DM.fin_rt, DM.fin_nx, DM.fin_stk, DM.fin_el, DM.fin_ite, DM.fin_rs, DM.ga_nil, DM.ga_cons, DM.ga1_some, DM.kid_l, DM.kid_t, DM.kidO_some, DM.putL_nil, DM.putL_cons, DM.szO_0, DM.szO_1, DM.szO_2, DM.szO_3, DM.szO_4, DM.szO_5, DM.szO_6, DM.szO_7, DM.szO_8, DM.szO_9, DM.szO_10, DM.szO_11, DM.szO_12, DM.szO_13, DM.szO_14, DM.szO_15, DM.szO_16, DM.szO_17, DM.szO_18, DM.szO_19, DM.szO_20, DM.szO_21, DM.szO_22, DM.szO_23, DM.szO_24, DM.szO_25, DS.frz, DS.frzL, DM.frzL_map', DM.frz_enc, DM.rootFz_enc, DS.rootFz, DM.e_int, DM.e_bl, DM.e_tx, DM.e_un, DM.e_non, DM.e_som, DM.e_lst, DM.e_tu, DM.e_t2, DM.e_t3, DM.e_t4, DM.e_t5, DM.e_h2, DM.e_h3, DM.e_h4, DM.e_h5, DS.kAr, DS.kTm, DS.kArs, DS.kOAr, DS.kTms, DS.kCas, DS.kCa, DS.kTs, DS.kOTs, DS.kIt, DM.fz_int, DM.fz_bl, DM.fz_str, DM.fz_non, DM.fz_lst, DM.fz_tup, DM.fz_enc, List.contains_nil, List.contains_cons, List.any_nil, List.any_cons, List.all_nil, List.all_cons, List.length_cons, List.length_nil, Option.isSome_some, Bool.not_true, Bool.not_false, Bool.and_true, Bool.true_and, Bool.and_false, Bool.false_and, Bool.or_true, Bool.true_or, Bool.or_false, Bool.false_or, Bool.false_eq_true, eq_self, if_true, if_false, Option.isNone_none, Option.isNone_some, decide_true, decide_false, Nat.reduceAdd, Nat.reduceEqDiff, Nat.reduceBEq, DM.ty_int_int, DM.ty_int_bool, DM.ty_int_str, DM.ty_int_list, DM.ty_int_tuple, DM.ty_int_dict, DM.ty_bool_int, DM.ty_bool_bool, DM.ty_bool_str, DM.ty_bool_list, DM.ty_bool_tuple, DM.ty_bool_dict, DM.ty_str_int, DM.ty_str_bool, DM.ty_str_str, DM.ty_str_list, DM.ty_str_tuple, DM.ty_str_dict, DM.ty_list_int, DM.ty_list_bool, DM.ty_list_str, DM.ty_list_list, DM.ty_list_tuple, DM.ty_list_dict, DM.ty_tuple_int, DM.ty_tuple_bool, DM.ty_tuple_str, DM.ty_tuple_list, DM.ty_tuple_tuple, DM.ty_tuple_dict, DM.ty_dict_int, DM.ty_dict_bool, DM.ty_dict_str, DM.ty_dict_list, DM.ty_dict_tuple, DM.ty_dict_dict, ↓DM.bind_ok', ↓DM.bind_stk', ↓DM.bind_elim, ↓DM.bind_ite, ↓DM.sb_ok', ↓DM.sb_stk', ↓DM.sb_elim, ↓DM.sb_ite, ↓DM.an_nx, ↓DM.an_rt, ↓DM.an_bk, ↓DM.an_ct, ↓DM.an_stk, ↓DM.an_el, ↓DM.an_ite, ↓DM.an_rs, ↓DM.andO_ok, ↓DM.andO_elim, ↓DM.andO_stk, ↓DM.orO_ok, ↓DM.orO_elim, ↓DM.orO_stk, ↓DM.iteO_ok, ↓DM.iteO_elim, ↓DM.iteO_stk, ↓DM.notO_ok, ↓DM.chnO_some, ↓DM.tkL_nil, ↓DM.tkL_cons, ↓DM.tk1_some, ↓DM.fzL_nil, ↓DM.fzL_cons, ↓DM.fz1_some, ↓DM.elim_some, ↓DM.elim_none, ↓DM.and2_f, ↓DM.or2_t, ↓DM.grd_t, ↓if_true, ↓if_false]
theorem f17_d2 (v_script : (List Int)) (v_one : (List Int)) (v_two : (List Int)) : ev SG17 f17_D2 [some (.lst false (List.map enc v_script)), none, none, some (.lst true (List.map enc v_one)), some (.lst true (List.map enc v_two)), none, none, none, none] = ((subM v_one (0)).bind fun t5 => (subM v_one (1)).bind fun t6 => some [t5, t6] : Option (List Int)).elim .stk fun z => .ok (.lst true (List.map enc z)) [some (.lst false (List.map enc v_script)), none, none, some (.lst true (List.map enc v_one)), some (.lst true (List.map enc v_two)), none, none, none, none] := by
  simp only [f17_D2, List.map_cons, List.map_nil, f17_c1_eq, f17_d1, f17_i1_eq, fn17_2, e2, fn17_3, e3, fn17_4, e4, fn17_9, e9, fn17_10, e10, fn17_11, e11, fn17_12, e12, fn17_15, e15, fn17_16, e16, cd17_0, cd17_1, cd17_2,
  DM.kbin1_a, DM.kbin2_a, DM.kneg_a, DM.kcmp1_a, DM.kcmp2_a, DM.kchn1_a, DM.kchn2_a, DM.kchn3_a, DM.ksub1_a, DM.ksub2_a, DM.kslc1_a, DM.kslc2_a, DM.kslc3_a, DM.kbi_a, DM.kme1_a, DM.kme2_a, DM.ktup_a, DM.klst_a, DM.ktst_a, DM.kas1_a, DM.kas2_a, DM.kts1_a, DM.kts2_a, DM.kav_a, DM.kvl_a, DM.kbl_a, DM.ktr_a, DM.kasg_a, DM.kasT_a, DM.kasI1_a, DM.kasI2_a, DM.kaug_a, DM.kex_a, DM.kif_a, DM.kfor_a, DM.kforT_a, DM.kret_a, DM.kr2_a, DM.klc_a, DM.klc2_a, DM.kmu_a, DM.kcl1_a, DM.kcl2_a, DM.kpre_a, DM.ev_int, DM.ev_bl, DM.ev_str, DM.ev_non, DM.ev_ty, DM.ev_gc, DM.ev_mv, DM.ev_tk, DM.mvO_some, DM.tkO_some, DM.ev_bin, DM.ev_neg, DM.ev_cmp, DM.chnO_some, DM.chn2_ok, DM.chn2_elim, DM.ev_chn, DM.ev_sub, DM.ev_slc, DM.ev_bi, DM.ev_me, DM.ev_tup, DM.ev_lst, DM.ev_call, DM.ev_ite, DM.ev_tst, DM.evA_pk, DM.evA_vl, DM.evPl_sl, DM.oaO_int, DM.evOA_none, DM.evOA_some, DM.evAs_nil, DM.evAs_cons, DM.evTs_nil, DM.evTs_cons, DM.evC_nil, DM.evC_bor, DM.evC_mt, DM.evC_vl, DM.evT_vl, DM.evT_tr, DM.evT_and, DM.evT_or, DM.evT_not, DM.blD_bl, DM.bind_ok', DM.bind_stk', DM.sb_ok', DM.sb_stk', DM.lift_some', DM.lift_none', DM.lift_def, DM.elim_same, ite_self, DM.sub_non, DM.len_non, DM.bind_elim, DM.sb_elim, DM.bind_ite, DM.sb_ite, DM.elim_map, DM.elim_bind, DM.elim_ite, DM.elim_some, DM.elim_none, DM.map_map', DM.map_some', DM.map_ite, DM.andO_ok, DM.andO_elim, DM.and2_ok, DM.and2_elim, DM.and2_ite, DM.and2_t, DM.and2_f, DM.and2_stk, DM.or2_stk, DM.ite2_t, DM.ite2_f, DM.orO_ok, DM.orO_elim, DM.or2_ok, DM.or2_elim, DM.or2_ite, DM.or2_t, DM.or2_f, DM.notO_ok, DM.notO_elim, DM.notO_ite, DM.andO_ite, DM.orO_ite, DM.iteO_ok, DM.iteO_elim, DM.iteO_ite, DM.ite2_int, DM.ite2_bl, DM.ite2_tx, DM.ite2_def, DM.grd_t, DM.grd_tl, DM.grd_tr, DM.b_add, DM.b_sub, DM.b_mul, DM.b_fdiv, DM.b_mod, DM.b_pow, DM.n_neg, DM.b_addL, DM.b_addT, DM.b_addS, DM.b_mulL, DM.s_lst, DM.s_tup, DM.s_str, DM.s_t2i, DM.s_t3i, DM.s_0, DM.s_1, DM.s_2, DM.s_3, DM.s_4, DM.s_5, DM.s_6, DM.s_7, DM.h_0, DM.h_1, DM.h_2, DM.h_3, DM.h_4, DM.h_5, DM.h_6, DM.h_7, DM.sl_lst, DM.sl_tup, DM.sl_str, DM.l_lst, DM.l_tup, DM.l_str, List.length_map, DM.i_int, DM.i_bl, DM.o_bl, DM.o_int, DM.i_abs, DM.i_max, DM.i_min, DM.i_maxL, DM.i_minL, DM.i_sum, DM.i_sorted, DM.i_list, DM.i_listT, DM.i_tuple, DM.i_isi, DM.z_int, DM.z_bl, DM.z_str, DM.z_lst, DM.z_tup, DM.z_non, DM.c_lt, DM.c_le, DM.c_gt, DM.c_ge, DM.c_eq, DM.c_ne, DM.c_is, DM.c_isnot, DM.t_non, DM.t_bl, DM.t_int, DM.t_lst, DM.t_tup, DM.isEmpty_map', DM.in_ints, DM.eqD_int, DM.eqD_bl, DM.eqD_tx, DM.isNon_opt, DM.isNon_enc, DM.n_int, DM.n_bl, DM.n_str, DM.n_lst, DM.n_tup, DM.n_non, DM.notO_stk, DM.orO_stk, DM.andO_stk, DM.iteO_stk, DM.eta_t2, DM.eta_t3, DM.eta_t4, DM.eta_t5, DM.eta_h2, DM.eta_h3, DM.eta_h4, DM.eta_h5, DM.eta_tu, DM.getS_0, DM.getS_s, DM.set_0, DM.set_s, DM.at_0, DM.at_s, DM.wipe_nil, DM.wipe_cons, DM.keep_none, DM.keep_nil, DM.keep_cons, DM.map_none_nil, DM.map_none_cons, DM.pnO_f, DM.an_nx, DM.an_rt, DM.an_bk, DM.an_ct, DM.an_stk, DM.an_el, DM.an_ite, DM.an_rs, DM.nc_nx, DM.nc_ct, DM.nc_bk, DM.nc_rt, DM.nc_stk, DM.nc_el, DM.nc_ite, DM.nc_rs, DM.el_rs, DM.rs_go, DM.rs_rt, DM.ct_nx, DM.ct_bk, DM.ct_rt, DM.ss_nil, DM.ss_cons, DM.st_asg, DM.st_asT, DM.st_asI, DM.st_aug, DM.st_doc, DM.st_ex, DM.st_ite, DM.st_for1, DM.st_forT, DM.st_ret, DM.st_retN, DM.st_brk, DM.st_cnt, DM.st_pas, DM.st_fgt, DM.st_fzs, DM.fzsO_some, DM.someO_some, DM.augO_add, DM.augO_sub, DM.asI_eq, DM.it_sl, DM.it_vl, DM.it_r1, DM.it_r2, DM.r1O_int, DM.r2O_int, DM.walk_lst, DM.walk_tup, DM.walk_str, DM.walk_t2, DM.walk_t3, DM.wlist, DM.seqO_some, DM.wkO_def, DM.ev_lc, DM.lcO_n, DM.ev_lc2, DM.lc2O_n, DM.ev_muO, DM.muO_l, DM.mu2_l, DM.mu_app, DM.mu_pop, DM.mu_rev, DM.mu_clr, DM.callD_eq, DM.res_ok, DM.res_stk, DM.res_el, DM.tkL_nil, DM.tkL_cons, DM.tk1_some, DM.fzL_nil, DM.fzL_cons, DM.fz1_some, DM.mi_nil, DM.mi_m, DM.mi_v, DM.mi_b, DM.bi_nil, DM.bi_m, DM.bi_v, DM.bi_b, DM.ar_nil, DM.ar_v, DM.ar_m, DM.ar_b, DM.pt_nil, DM.pt_cons, DM.pt1_n, DM.atom_int, DM.atom_bl, DM.atom_str, DM.atom_non, DM.atom_lst, DM.atom_tup, DM.atom_enc, DM.selfc_lst, DM.fin_rt, DM.fin_nx, DM.fin_stk, DM.fin_el, DM.fin_ite, DM.fin_rs, DM.ga_nil, DM.ga_cons, DM.ga1_some, DM.kid_l, DM.kid_t, DM.kidO_some, DM.putL_nil, DM.putL_cons, DM.szO_0, DM.szO_1, DM.szO_2, DM.szO_3, DM.szO_4, DM.szO_5, DM.szO_6, DM.szO_7, DM.szO_8, DM.szO_9, DM.szO_10, DM.szO_11, DM.szO_12, DM.szO_13, DM.szO_14, DM.szO_15, DM.szO_16, DM.szO_17, DM.szO_18, DM.szO_19, DM.szO_20, DM.szO_21, DM.szO_22, DM.szO_23, DM.szO_24, DM.szO_25, DS.frz, DS.frzL, DM.frzL_map', DM.frz_enc, DM.rootFz_enc, DS.rootFz, DM.e_int, DM.e_bl, DM.e_tx, DM.e_un, DM.e_non, DM.e_som, DM.e_lst, DM.e_tu, DM.e_t2, DM.e_t3, DM.e_t4, DM.e_t5, DM.e_h2, DM.e_h3, DM.e_h4, DM.e_h5, DS.kAr, DS.kTm, DS.kArs, DS.kOAr, DS.kTms, DS.kCas, DS.kCa, DS.kTs, DS.kOTs, DS.kIt, DM.fz_int, DM.fz_bl, DM.fz_str, DM.fz_non, DM.fz_lst, DM.fz_tup, DM.fz_enc, List.contains_nil, List.contains_cons, List.any_nil, List.any_cons, List.all_nil, List.all_cons, List.length_cons, List.length_nil, Option.isSome_some, Bool.not_true, Bool.not_false, Bool.and_true, Bool.true_and, Bool.and_false, Bool.false_and, Bool.or_true, Bool.true_or, Bool.or_false, Bool.false_or, Bool.false_eq_true, eq_self, if_true, if_false, Option.isNone_none, Option.isNone_some, decide_true, decide_false, Nat.reduceAdd, Nat.reduceEqDiff, Nat.reduceBEq, DM.ty_int_int, DM.ty_int_bool, DM.ty_int_str, DM.ty_int_list, DM.ty_int_tuple, DM.ty_int_dict, DM.ty_bool_int, DM.ty_bool_bool, DM.ty_bool_str, DM.ty_bool_list, DM.ty_bool_tuple, DM.ty_bool_dict, DM.ty_str_int, DM.ty_str_bool, DM.ty_str_str, DM.ty_str_list, DM.ty_str_tuple, DM.ty_str_dict, DM.ty_list_int, DM.ty_list_bool, DM.ty_list_str, DM.ty_list_list, DM.ty_list_tuple, DM.ty_list_dict, DM.ty_tuple_int, DM.ty_tuple_bool, DM.ty_tuple_str, DM.ty_tuple_list, DM.ty_tuple_tuple, DM.ty_tuple_dict, DM.ty_dict_int, DM.ty_dict_bool, DM.ty_dict_str, DM.ty_dict_list, DM.ty_dict_tuple, DM.ty_dict_dict, ↓DM.bind_ok', ↓DM.bind_stk', ↓DM.bind_elim, ↓DM.bind_ite, ↓DM.sb_ok', ↓DM.sb_stk', ↓DM.sb_elim, ↓DM.sb_ite, ↓DM.an_nx, ↓DM.an_rt, ↓DM.an_bk, ↓DM.an_ct, ↓DM.an_stk, ↓DM.an_el, ↓DM.an_ite, ↓DM.an_rs, ↓DM.andO_ok, ↓DM.andO_elim, ↓DM.andO_stk, ↓DM.orO_ok, ↓DM.orO_elim, ↓DM.orO_stk, ↓DM.iteO_ok, ↓DM.iteO_elim, ↓DM.iteO_stk, ↓DM.notO_ok, ↓DM.chnO_some, ↓DM.tkL_nil, ↓DM.tkL_cons, ↓DM.tk1_some, ↓DM.fzL_nil, ↓DM.fzL_cons, ↓DM.fz1_some, ↓DM.elim_some, ↓DM.elim_none, ↓DM.and2_f, ↓DM.or2_t, ↓DM.grd_t, ↓if_true, ↓if_false]
def f17_i2 (v_script : (List Int)) (v_one : (List Int)) (v_two : (List Int)) : Option (List Int) :=
  (m9 v_script (4)).bind fun t1 =>
  (modM t1 (5)).bind fun t2 =>
  if (decide (t2 = (2))) = true then
  (subM v_one (0)).bind fun t3 =>
  (subM v_one (1)).bind fun t4 =>
  some [t3, t4]
  else
  some v_two
theorem f17_i2_eq (v_script : (List Int)) (v_one : (List Int)) (v_two : (List Int)) : evS SG17 [] f17_I2 [some (.lst false (List.map enc v_script)), none, none, some (.lst true (List.map enc v_one)), some (.lst true (List.map enc v_two)), none, none, none, none] = (f17_i2 v_script v_one v_two).elim .stk fun s => .nx [some (.lst false (List.map enc v_script)), none, none, some (.lst true (List.map enc v_one)), some (.lst true (List.map enc s)), none, none, none, none] := by
  simp only [f17_I2, f17_i2, f17_c1_eq, f17_d1, f17_i1_eq, f17_d2, fn17_2, e2, fn17_3, e3, fn17_4, e4, fn17_9, e9, fn17_10, e10, fn17_11, e11, fn17_12, e12, fn17_15, e15, fn17_16, e16, cd17_0, cd17_1, cd17_2,
  DM.kbin1_a, DM.kbin2_a, DM.kneg_a, DM.kcmp1_a, DM.kcmp2_a, DM.kchn1_a, DM.kchn2_a, DM.kchn3_a, DM.ksub1_a, DM.ksub2_a, DM.kslc1_a, DM.kslc2_a, DM.kslc3_a, DM.kbi_a, DM.kme1_a, DM.kme2_a, DM.ktup_a, DM.klst_a, DM.ktst_a, DM.kas1_a, DM.kas2_a, DM.kts1_a, DM.kts2_a, DM.kav_a, DM.kvl_a, DM.kbl_a, DM.ktr_a, DM.kasg_a, DM.kasT_a, DM.kasI1_a, DM.kasI2_a, DM.kaug_a, DM.kex_a, DM.kif_a, DM.kfor_a, DM.kforT_a, DM.kret_a, DM.kr2_a, DM.klc_a, DM.klc2_a, DM.kmu_a, DM.kcl1_a, DM.kcl2_a, DM.kpre_a, DM.ev_int, DM.ev_bl, DM.ev_str, DM.ev_non, DM.ev_ty, DM.ev_gc, DM.ev_mv, DM.ev_tk, DM.mvO_some, DM.tkO_some, DM.ev_bin, DM.ev_neg, DM.ev_cmp, DM.chnO_some, DM.chn2_ok, DM.chn2_elim, DM.ev_chn, DM.ev_sub, DM.ev_slc, DM.ev_bi, DM.ev_me, DM.ev_tup, DM.ev_lst, DM.ev_call, DM.ev_ite, DM.ev_tst, DM.evA_pk, DM.evA_vl, DM.evPl_sl, DM.oaO_int, DM.evOA_none, DM.evOA_some, DM.evAs_nil, DM.evAs_cons, DM.evTs_nil, DM.evTs_cons, DM.evC_nil, DM.evC_bor, DM.evC_mt, DM.evC_vl, DM.evT_vl, DM.evT_tr, DM.evT_and, DM.evT_or, DM.evT_not, DM.blD_bl, DM.bind_ok', DM.bind_stk', DM.sb_ok', DM.sb_stk', DM.lift_some', DM.lift_none', DM.lift_def, DM.elim_same, ite_self, DM.sub_non, DM.len_non, DM.bind_elim, DM.sb_elim, DM.bind_ite, DM.sb_ite, DM.elim_map, DM.elim_bind, DM.elim_ite, DM.elim_some, DM.elim_none, DM.map_map', DM.map_some', DM.map_ite, DM.andO_ok, DM.andO_elim, DM.and2_ok, DM.and2_elim, DM.and2_ite, DM.and2_t, DM.and2_f, DM.and2_stk, DM.or2_stk, DM.ite2_t, DM.ite2_f, DM.orO_ok, DM.orO_elim, DM.or2_ok, DM.or2_elim, DM.or2_ite, DM.or2_t, DM.or2_f, DM.notO_ok, DM.notO_elim, DM.notO_ite, DM.andO_ite, DM.orO_ite, DM.iteO_ok, DM.iteO_elim, DM.iteO_ite, DM.ite2_int, DM.ite2_bl, DM.ite2_tx, DM.ite2_def, DM.grd_t, DM.grd_tl, DM.grd_tr, DM.b_add, DM.b_sub, DM.b_mul, DM.b_fdiv, DM.b_mod, DM.b_pow, DM.n_neg, DM.b_addL, DM.b_addT, DM.b_addS, DM.b_mulL, DM.s_lst, DM.s_tup, DM.s_str, DM.s_t2i, DM.s_t3i, DM.s_0, DM.s_1, DM.s_2, DM.s_3, DM.s_4, DM.s_5, DM.s_6, DM.s_7, DM.h_0, DM.h_1, DM.h_2, DM.h_3, DM.h_4, DM.h_5, DM.h_6, DM.h_7, DM.sl_lst, DM.sl_tup, DM.sl_str, DM.l_lst, DM.l_tup, DM.l_str, List.length_map, DM.i_int, DM.i_bl, DM.o_bl, DM.o_int, DM.i_abs, DM.i_max, DM.i_min, DM.i_maxL, DM.i_minL, DM.i_sum, DM.i_sorted, DM.i_list, DM.i_listT, DM.i_tuple, DM.i_isi, DM.z_int, DM.z_bl, DM.z_str, DM.z_lst, DM.z_tup, DM.z_non, DM.c_lt, DM.c_le, DM.c_gt, DM.c_ge, DM.c_eq, DM.c_ne, DM.c_is, DM.c_isnot, DM.t_non, DM.t_bl, DM.t_int, DM.t_lst, DM.t_tup, DM.isEmpty_map', DM.in_ints, DM.eqD_int, DM.eqD_bl, DM.eqD_tx, DM.isNon_opt, DM.isNon_enc, DM.n_int, DM.n_bl, DM.n_str, DM.n_lst, DM.n_tup, DM.n_non, DM.notO_stk, DM.orO_stk, DM.andO_stk, DM.iteO_stk, DM.eta_t2, DM.eta_t3, DM.eta_t4, DM.eta_t5, DM.eta_h2, DM.eta_h3, DM.eta_h4, DM.eta_h5, DM.eta_tu, DM.getS_0, DM.getS_s, DM.set_0, DM.set_s, DM.at_0, DM.at_s, DM.wipe_nil, DM.wipe_cons, DM.keep_none, DM.keep_nil, DM.keep_cons, DM.map_none_nil, DM.map_none_cons, DM.pnO_f, DM.an_nx, DM.an_rt, DM.an_bk, DM.an_ct, DM.an_stk, DM.an_el, DM.an_ite, DM.an_rs, DM.nc_nx, DM.nc_ct, DM.nc_bk, DM.nc_rt, DM.nc_stk, DM.nc_el, DM.nc_ite, DM.nc_rs, DM.el_rs, DM.rs_go, DM.rs_rt, DM.ct_nx, DM.ct_bk, DM.ct_rt, DM.ss_nil, DM.ss_cons, DM.st_asg, DM.st_asT, DM.st_asI, DM.st_aug, DM.st_doc, DM.st_ex, DM.st_ite, DM.st_for1, DM.st_forT, DM.st_ret, DM.st_retN, DM.st_brk, DM.st_cnt, DM.st_pas, DM.st_fgt, DM.st_fzs, DM.fzsO_some, DM.someO_some, DM.augO_add, DM.augO_sub, DM.asI_eq, DM.it_sl, DM.it_vl, DM.it_r1, DM.it_r2, DM.r1O_int, DM.r2O_int, DM.walk_lst, DM.walk_tup, DM.walk_str, DM.walk_t2, DM.walk_t3, DM.wlist, DM.seqO_some, DM.wkO_def, DM.ev_lc, DM.lcO_n, DM.ev_lc2, DM.lc2O_n, DM.ev_muO, DM.muO_l, DM.mu2_l, DM.mu_app, DM.mu_pop, DM.mu_rev, DM.mu_clr, DM.callD_eq, DM.res_ok, DM.res_stk, DM.res_el, DM.tkL_nil, DM.tkL_cons, DM.tk1_some, DM.fzL_nil, DM.fzL_cons, DM.fz1_some, DM.mi_nil, DM.mi_m, DM.mi_v, DM.mi_b, DM.bi_nil, DM.bi_m, DM.bi_v, DM.bi_b, DM.ar_nil, DM.ar_v, DM.ar_m, DM.ar_b, DM.pt_nil, DM.pt_cons, DM.pt1_n, DM.atom_int, DM.atom_bl, DM.atom_str, DM.atom_non, DM.atom_lst, DM.atom_tup, DM.atom_enc, DM.selfc_lst, DM.fin_rt, DM.fin_nx, DM.fin_stk, DM.fin_el, DM.fin_ite, DM.fin_rs, DM.ga_nil, DM.ga_cons, DM.ga1_some, DM.kid_l, DM.kid_t, DM.kidO_some, DM.putL_nil, DM.putL_cons, DM.szO_0, DM.szO_1, DM.szO_2, DM.szO_3, DM.szO_4, DM.szO_5, DM.szO_6, DM.szO_7, DM.szO_8, DM.szO_9, DM.szO_10, DM.szO_11, DM.szO_12, DM.szO_13, DM.szO_14, DM.szO_15, DM.szO_16, DM.szO_17, DM.szO_18, DM.szO_19, DM.szO_20, DM.szO_21, DM.szO_22, DM.szO_23, DM.szO_24, DM.szO_25, DS.frz, DS.frzL, DM.frzL_map', DM.frz_enc, DM.rootFz_enc, DS.rootFz, DM.e_int, DM.e_bl, DM.e_tx, DM.e_un, DM.e_non, DM.e_som, DM.e_lst, DM.e_tu, DM.e_t2, DM.e_t3, DM.e_t4, DM.e_t5, DM.e_h2, DM.e_h3, DM.e_h4, DM.e_h5, DS.kAr, DS.kTm, DS.kArs, DS.kOAr, DS.kTms, DS.kCas, DS.kCa, DS.kTs, DS.kOTs, DS.kIt, DM.fz_int, DM.fz_bl, DM.fz_str, DM.fz_non, DM.fz_lst, DM.fz_tup, DM.fz_enc, List.contains_nil, List.contains_cons, List.any_nil, List.any_cons, List.all_nil, List.all_cons, List.length_cons, List.length_nil, Option.isSome_some, Bool.not_true, Bool.not_false, Bool.and_true, Bool.true_and, Bool.and_false, Bool.false_and, Bool.or_true, Bool.true_or, Bool.or_false, Bool.false_or, Bool.false_eq_true, eq_self, if_true, if_false, Option.isNone_none, Option.isNone_some, decide_true, decide_false, Nat.reduceAdd, Nat.reduceEqDiff, Nat.reduceBEq, DM.ty_int_int, DM.ty_int_bool, DM.ty_int_str, DM.ty_int_list, DM.ty_int_tuple, DM.ty_int_dict, DM.ty_bool_int, DM.ty_bool_bool, DM.ty_bool_str, DM.ty_bool_list, DM.ty_bool_tuple, DM.ty_bool_dict, DM.ty_str_int, DM.ty_str_bool, DM.ty_str_str, DM.ty_str_list, DM.ty_str_tuple, DM.ty_str_dict, DM.ty_list_int, DM.ty_list_bool, DM.ty_list_str, DM.ty_list_list, DM.ty_list_tuple, DM.ty_list_dict, DM.ty_tuple_int, DM.ty_tuple_bool, DM.ty_tuple_str, DM.ty_tuple_list, DM.ty_tuple_tuple, DM.ty_tuple_dict, DM.ty_dict_int, DM.ty_dict_bool, DM.ty_dict_str, DM.ty_dict_list, DM.ty_dict_tuple, DM.ty_dict_dict, ↓DM.bind_ok', ↓DM.bind_stk', ↓DM.bind_elim, ↓DM.bind_ite, ↓DM.sb_ok', ↓DM.sb_stk', ↓DM.sb_elim, ↓DM.sb_ite, ↓DM.an_nx, ↓DM.an_rt, ↓DM.an_bk, ↓DM.an_ct, ↓DM.an_stk, ↓DM.an_el, ↓DM.an_ite, ↓DM.an_rs, ↓DM.andO_ok, ↓DM.andO_elim, ↓DM.andO_stk, ↓DM.orO_ok, ↓DM.orO_elim, ↓DM.orO_stk, ↓DM.iteO_ok, ↓DM.iteO_elim, ↓DM.iteO_stk, ↓DM.notO_ok, ↓DM.chnO_some, ↓DM.tkL_nil, ↓DM.tkL_cons, ↓DM.tk1_some, ↓DM.fzL_nil, ↓DM.fzL_cons, ↓DM.fz1_some, ↓DM.elim_some, ↓DM.elim_none, ↓DM.and2_f, ↓DM.or2_t, ↓DM.grd_t, ↓if_true, ↓if_false]
theorem f17_i3_eq (v_a_0 : Int) (v_a_1 : Int) (v_b_0 : Int) (v_b_1 : Int) (v_great : Int) : evS SG17 [] f17_I3 [none, none, none, none, none, some (.tup false [(.int v_a_0), (.int v_a_1)]), some (.tup false [(.int v_b_0), (.int v_b_1)]), some (.int v_great), some .non] = .stk := by
  simp only [f17_I3, f17_c1_eq, f17_d1, f17_i1_eq, f17_d2, f17_i2_eq, e11_sTvvesTvve, fn17_2, e2, fn17_3, e3, fn17_4, e4, fn17_9, e9, fn17_10, e10, fn17_11, e11, fn17_12, e12, fn17_15, e15, fn17_16, e16, cd17_0, cd17_1, cd17_2,
  DM.kbin1_a, DM.kbin2_a, DM.kneg_a, DM.kcmp1_a, DM.kcmp2_a, DM.kchn1_a, DM.kchn2_a, DM.kchn3_a, DM.ksub1_a, DM.ksub2_a, DM.kslc1_a, DM.kslc2_a, DM.kslc3_a, DM.kbi_a, DM.kme1_a, DM.kme2_a, DM.ktup_a, DM.klst_a, DM.ktst_a, DM.kas1_a, DM.kas2_a, DM.kts1_a, DM.kts2_a, DM.kav_a, DM.kvl_a, DM.kbl_a, DM.ktr_a, DM.kasg_a, DM.kasT_a, DM.kasI1_a, DM.kasI2_a, DM.kaug_a, DM.kex_a, DM.kif_a, DM.kfor_a, DM.kforT_a, DM.kret_a, DM.kr2_a, DM.klc_a, DM.klc2_a, DM.kmu_a, DM.kcl1_a, DM.kcl2_a, DM.kpre_a, DM.ev_int, DM.ev_bl, DM.ev_str, DM.ev_non, DM.ev_ty, DM.ev_gc, DM.ev_mv, DM.ev_tk, DM.mvO_some, DM.tkO_some, DM.ev_bin, DM.ev_neg, DM.ev_cmp, DM.chnO_some, DM.chn2_ok, DM.chn2_elim, DM.ev_chn, DM.ev_sub, DM.ev_slc, DM.ev_bi, DM.ev_me, DM.ev_tup, DM.ev_lst, DM.ev_call, DM.ev_ite, DM.ev_tst, DM.evA_pk, DM.evA_vl, DM.evPl_sl, DM.oaO_int, DM.evOA_none, DM.evOA_some, DM.evAs_nil, DM.evAs_cons, DM.evTs_nil, DM.evTs_cons, DM.evC_nil, DM.evC_bor, DM.evC_mt, DM.evC_vl, DM.evT_vl, DM.evT_tr, DM.evT_and, DM.evT_or, DM.evT_not, DM.blD_bl, DM.bind_ok', DM.bind_stk', DM.sb_ok', DM.sb_stk', DM.lift_some', DM.lift_none', DM.lift_def, DM.elim_same, ite_self, DM.sub_non, DM.len_non, DM.bind_elim, DM.sb_elim, DM.bind_ite, DM.sb_ite, DM.elim_map, DM.elim_bind, DM.elim_ite, DM.elim_some, DM.elim_none, DM.map_map', DM.map_some', DM.map_ite, DM.andO_ok, DM.andO_elim, DM.and2_ok, DM.and2_elim, DM.and2_ite, DM.and2_t, DM.and2_f, DM.and2_stk, DM.or2_stk, DM.ite2_t, DM.ite2_f, DM.orO_ok, DM.orO_elim, DM.or2_ok, DM.or2_elim, DM.or2_ite, DM.or2_t, DM.or2_f, DM.notO_ok, DM.notO_elim, DM.notO_ite, DM.andO_ite, DM.orO_ite, DM.iteO_ok, DM.iteO_elim, DM.iteO_ite, DM.ite2_int, DM.ite2_bl, DM.ite2_tx, DM.ite2_def, DM.grd_t, DM.grd_tl, DM.grd_tr, DM.b_add, DM.b_sub, DM.b_mul, DM.b_fdiv, DM.b_mod, DM.b_pow, DM.n_neg, DM.b_addL, DM.b_addT, DM.b_addS, DM.b_mulL, DM.s_lst, DM.s_tup, DM.s_str, DM.s_t2i, DM.s_t3i, DM.s_0, DM.s_1, DM.s_2, DM.s_3, DM.s_4, DM.s_5, DM.s_6, DM.s_7, DM.h_0, DM.h_1, DM.h_2, DM.h_3, DM.h_4, DM.h_5, DM.h_6, DM.h_7, DM.sl_lst, DM.sl_tup, DM.sl_str, DM.l_lst, DM.l_tup, DM.l_str, List.length_map, DM.i_int, DM.i_bl, DM.o_bl, DM.o_int, DM.i_abs, DM.i_max, DM.i_min, DM.i_maxL, DM.i_minL, DM.i_sum, DM.i_sorted, DM.i_list, DM.i_listT, DM.i_tuple, DM.i_isi, DM.z_int, DM.z_bl, DM.z_str, DM.z_lst, DM.z_tup, DM.z_non, DM.c_lt, DM.c_le, DM.c_gt, DM.c_ge, DM.c_eq, DM.c_ne, DM.c_is, DM.c_isnot, DM.t_non, DM.t_bl, DM.t_int, DM.t_lst, DM.t_tup, DM.isEmpty_map', DM.in_ints, DM.eqD_int, DM.eqD_bl, DM.eqD_tx, DM.isNon_opt, DM.isNon_enc, DM.n_int, DM.n_bl, DM.n_str, DM.n_lst, DM.n_tup, DM.n_non, DM.notO_stk, DM.orO_stk, DM.andO_stk, DM.iteO_stk, DM.eta_t2, DM.eta_t3, DM.eta_t4, DM.eta_t5, DM.eta_h2, DM.eta_h3, DM.eta_h4, DM.eta_h5, DM.eta_tu, DM.getS_0, DM.getS_s, DM.set_0, DM.set_s, DM.at_0, DM.at_s, DM.wipe_nil, DM.wipe_cons, DM.keep_none, DM.keep_nil, DM.keep_cons, DM.map_none_nil, DM.map_none_cons, DM.pnO_f, DM.an_nx, DM.an_rt, DM.an_bk, DM.an_ct, DM.an_stk, DM.an_el, DM.an_ite, DM.an_rs, DM.nc_nx, DM.nc_ct, DM.nc_bk, DM.nc_rt, DM.nc_stk, DM.nc_el, DM.nc_ite, DM.nc_rs, DM.el_rs, DM.rs_go, DM.rs_rt, DM.ct_nx, DM.ct_bk, DM.ct_rt, DM.ss_nil, DM.ss_cons, DM.st_asg, DM.st_asT, DM.st_asI, DM.st_aug, DM.st_doc, DM.st_ex, DM.st_ite, DM.st_for1, DM.st_forT, DM.st_ret, DM.st_retN, DM.st_brk, DM.st_cnt, DM.st_pas, DM.st_fgt, DM.st_fzs, DM.fzsO_some, DM.someO_some, DM.augO_add, DM.augO_sub, DM.asI_eq, DM.it_sl, DM.it_vl, DM.it_r1, DM.it_r2, DM.r1O_int, DM.r2O_int, DM.walk_lst, DM.walk_tup, DM.walk_str, DM.walk_t2, DM.walk_t3, DM.wlist, DM.seqO_some, DM.wkO_def, DM.ev_lc, DM.lcO_n, DM.ev_lc2, DM.lc2O_n, DM.ev_muO, DM.muO_l, DM.mu2_l, DM.mu_app, DM.mu_pop, DM.mu_rev, DM.mu_clr, DM.callD_eq, DM.res_ok, DM.res_stk, DM.res_el, DM.tkL_nil, DM.tkL_cons, DM.tk1_some, DM.fzL_nil, DM.fzL_cons, DM.fz1_some, DM.mi_nil, DM.mi_m, DM.mi_v, DM.mi_b, DM.bi_nil, DM.bi_m, DM.bi_v, DM.bi_b, DM.ar_nil, DM.ar_v, DM.ar_m, DM.ar_b, DM.pt_nil, DM.pt_cons, DM.pt1_n, DM.atom_int, DM.atom_bl, DM.atom_str, DM.atom_non, DM.atom_lst, DM.atom_tup, DM.atom_enc, DM.selfc_lst, DM.fin_rt, DM.fin_nx, DM.fin_stk, DM.fin_el, DM.fin_ite, DM.fin_rs, DM.ga_nil, DM.ga_cons, DM.ga1_some, DM.kid_l, DM.kid_t, DM.kidO_some, DM.putL_nil, DM.putL_cons, DM.szO_0, DM.szO_1, DM.szO_2, DM.szO_3, DM.szO_4, DM.szO_5, DM.szO_6, DM.szO_7, DM.szO_8, DM.szO_9, DM.szO_10, DM.szO_11, DM.szO_12, DM.szO_13, DM.szO_14, DM.szO_15, DM.szO_16, DM.szO_17, DM.szO_18, DM.szO_19, DM.szO_20, DM.szO_21, DM.szO_22, DM.szO_23, DM.szO_24, DM.szO_25, DS.frz, DS.frzL, DM.frzL_map', DM.frz_enc, DM.rootFz_enc, DS.rootFz, DM.e_int, DM.e_bl, DM.e_tx, DM.e_un, DM.e_non, DM.e_som, DM.e_lst, DM.e_tu, DM.e_t2, DM.e_t3, DM.e_t4, DM.e_t5, DM.e_h2, DM.e_h3, DM.e_h4, DM.e_h5, DS.kAr, DS.kTm, DS.kArs, DS.kOAr, DS.kTms, DS.kCas, DS.kCa, DS.kTs, DS.kOTs, DS.kIt, DM.fz_int, DM.fz_bl, DM.fz_str, DM.fz_non, DM.fz_lst, DM.fz_tup, DM.fz_enc, List.contains_nil, List.contains_cons, List.any_nil, List.any_cons, List.all_nil, List.all_cons, List.length_cons, List.length_nil, Option.isSome_some, Bool.not_true, Bool.not_false, Bool.and_true, Bool.true_and, Bool.and_false, Bool.false_and, Bool.or_true, Bool.true_or, Bool.or_false, Bool.false_or, Bool.false_eq_true, eq_self, if_true, if_false, Option.isNone_none, Option.isNone_some, decide_true, decide_false, Nat.reduceAdd, Nat.reduceEqDiff, Nat.reduceBEq, DM.ty_int_int, DM.ty_int_bool, DM.ty_int_str, DM.ty_int_list, DM.ty_int_tuple, DM.ty_int_dict, DM.ty_bool_int, DM.ty_bool_bool, DM.ty_bool_str, DM.ty_bool_list, DM.ty_bool_tuple, DM.ty_bool_dict, DM.ty_str_int, DM.ty_str_bool, DM.ty_str_str, DM.ty_str_list, DM.ty_str_tuple, DM.ty_str_dict, DM.ty_list_int, DM.ty_list_bool, DM.ty_list_str, DM.ty_list_list, DM.ty_list_tuple, DM.ty_list_dict, DM.ty_tuple_int, DM.ty_tuple_bool, DM.ty_tuple_str, DM.ty_tuple_list, DM.ty_tuple_tuple, DM.ty_tuple_dict, DM.ty_dict_int, DM.ty_dict_bool, DM.ty_dict_str, DM.ty_dict_list, DM.ty_dict_tuple, DM.ty_dict_dict, ↓DM.bind_ok', ↓DM.bind_stk', ↓DM.bind_elim, ↓DM.bind_ite, ↓DM.sb_ok', ↓DM.sb_stk', ↓DM.sb_elim, ↓DM.sb_ite, ↓DM.an_nx, ↓DM.an_rt, ↓DM.an_bk, ↓DM.an_ct, ↓DM.an_stk, ↓DM.an_el, ↓DM.an_ite, ↓DM.an_rs, ↓DM.andO_ok, ↓DM.andO_elim, ↓DM.andO_stk, ↓DM.orO_ok, ↓DM.orO_elim, ↓DM.orO_stk, ↓DM.iteO_ok, ↓DM.iteO_elim, ↓DM.iteO_stk, ↓DM.notO_ok, ↓DM.chnO_some, ↓DM.tkL_nil, ↓DM.tkL_cons, ↓DM.tk1_some, ↓DM.fzL_nil, ↓DM.fzL_cons, ↓DM.fz1_some, ↓DM.elim_some, ↓DM.elim_none, ↓DM.and2_f, ↓DM.or2_t, ↓DM.grd_t, ↓if_true, ↓if_false]
def f17_i4 (v_a : (T2 Int Int)) (v_b : (T2 Int Int)) (v_great : Int) (v_due : (T2 Int Int)) : Option (Option (T2 Int Int)) :=
  if (decide (v_due.a1 < v_due.a0)) = true then
  some (none : (Option (T2 Int Int)))
  else
  some (some v_due)
theorem f17_i4_eq (v_a_0 : Int) (v_a_1 : Int) (v_b_0 : Int) (v_b_1 : Int) (v_great : Int) (v_due_0 : Int) (v_due_1 : Int) : evS SG17 [] f17_I3 [none, none, none, none, none, some (.tup false [(.int v_a_0), (.int v_a_1)]), some (.tup false [(.int v_b_0), (.int v_b_1)]), some (.int v_great), some (.tup false [(.int v_due_0), (.int v_due_1)])] = (f17_i4 (T2.mk v_a_0 v_a_1) (T2.mk v_b_0 v_b_1) v_great (T2.mk v_due_0 v_due_1)).elim .stk fun s => .nx [none, none, none, none, none, some (.tup false [(.int v_a_0), (.int v_a_1)]), some (.tup false [(.int v_b_0), (.int v_b_1)]), some (.int v_great), some (enc s)] := by
  simp only [f17_I3, f17_i4, f17_c1_eq, f17_d1, f17_i1_eq, f17_d2, f17_i2_eq, e11_sTvvesTvve, f17_i3_eq, fn17_2, e2, fn17_3, e3, fn17_4, e4, fn17_9, e9, fn17_10, e10, fn17_11, e11, fn17_12, e12, fn17_15, e15, fn17_16, e16, cd17_0, cd17_1, cd17_2,
  DM.kbin1_a, DM.kbin2_a, DM.kneg_a, DM.kcmp1_a, DM.kcmp2_a, DM.kchn1_a, DM.kchn2_a, DM.kchn3_a, DM.ksub1_a, DM.ksub2_a, DM.kslc1_a, DM.kslc2_a, DM.kslc3_a, DM.kbi_a, DM.kme1_a, DM.kme2_a, DM.ktup_a, DM.klst_a, DM.ktst_a, DM.kas1_a, DM.kas2_a, DM.kts1_a, DM.kts2_a, DM.kav_a, DM.kvl_a, DM.kbl_a, DM.ktr_a, DM.kasg_a, DM.kasT_a, DM.kasI1_a, DM.kasI2_a, DM.kaug_a, DM.kex_a, DM.kif_a, DM.kfor_a, DM.kforT_a, DM.kret_a, DM.kr2_a, DM.klc_a, DM.klc2_a, DM.kmu_a, DM.kcl1_a, DM.kcl2_a, DM.kpre_a, DM.ev_int, DM.ev_bl, DM.ev_str, DM.ev_non, DM.ev_ty, DM.ev_gc, DM.ev_mv, DM.ev_tk, DM.mvO_some, DM.tkO_some, DM.ev_bin, DM.ev_neg, DM.ev_cmp, DM.chnO_some, DM.chn2_ok, DM.chn2_elim, DM.ev_chn, DM.ev_sub, DM.ev_slc, DM.ev_bi, DM.ev_me, DM.ev_tup, DM.ev_lst, DM.ev_call, DM.ev_ite, DM.ev_tst, DM.evA_pk, DM.evA_vl, DM.evPl_sl, DM.oaO_int, DM.evOA_none, DM.evOA_some, DM.evAs_nil, DM.evAs_cons, DM.evTs_nil, DM.evTs_cons, DM.evC_nil, DM.evC_bor, DM.evC_mt, DM.evC_vl, DM.evT_vl, DM.evT_tr, DM.evT_and, DM.evT_or, DM.evT_not, DM.blD_bl, DM.bind_ok', DM.bind_stk', DM.sb_ok', DM.sb_stk', DM.lift_some', DM.lift_none', DM.lift_def, DM.elim_same, ite_self, DM.sub_non, DM.len_non, DM.bind_elim, DM.sb_elim, DM.bind_ite, DM.sb_ite, DM.elim_map, DM.elim_bind, DM.elim_ite, DM.elim_some, DM.elim_none, DM.map_map', DM.map_some', DM.map_ite, DM.andO_ok, DM.andO_elim, DM.and2_ok, DM.and2_elim, DM.and2_ite, DM.and2_t, DM.and2_f, DM.and2_stk, DM.or2_stk, DM.ite2_t, DM.ite2_f, DM.orO_ok, DM.orO_elim, DM.or2_ok, DM.or2_elim, DM.or2_ite, DM.or2_t, DM.or2_f, DM.notO_ok, DM.notO_elim, DM.notO_ite, DM.andO_ite, DM.orO_ite, DM.iteO_ok, DM.iteO_elim, DM.iteO_ite, DM.ite2_int, DM.ite2_bl, DM.ite2_tx, DM.ite2_def, DM.grd_t, DM.grd_tl, DM.grd_tr, DM.b_add, DM.b_sub, DM.b_mul, DM.b_fdiv, DM.b_mod, DM.b_pow, DM.n_neg, DM.b_addL, DM.b_addT, DM.b_addS, DM.b_mulL, DM.s_lst, DM.s_tup, DM.s_str, DM.s_t2i, DM.s_t3i, DM.s_0, DM.s_1, DM.s_2, DM.s_3, DM.s_4, DM.s_5, DM.s_6, DM.s_7, DM.h_0, DM.h_1, DM.h_2, DM.h_3, DM.h_4, DM.h_5, DM.h_6, DM.h_7, DM.sl_lst, DM.sl_tup, DM.sl_str, DM.l_lst, DM.l_tup, DM.l_str, List.length_map, DM.i_int, DM.i_bl, DM.o_bl, DM.o_int, DM.i_abs, DM.i_max, DM.i_min, DM.i_maxL, DM.i_minL, DM.i_sum, DM.i_sorted, DM.i_list, DM.i_listT, DM.i_tuple, DM.i_isi, DM.z_int, DM.z_bl, DM.z_str, DM.z_lst, DM.z_tup, DM.z_non, DM.c_lt, DM.c_le, DM.c_gt, DM.c_ge, DM.c_eq, DM.c_ne, DM.c_is, DM.c_isnot, DM.t_non, DM.t_bl, DM.t_int, DM.t_lst, DM.t_tup, DM.isEmpty_map', DM.in_ints, DM.eqD_int, DM.eqD_bl, DM.eqD_tx, DM.isNon_opt, DM.isNon_enc, DM.n_int, DM.n_bl, DM.n_str, DM.n_lst, DM.n_tup, DM.n_non, DM.notO_stk, DM.orO_stk, DM.andO_stk, DM.iteO_stk, DM.eta_t2, DM.eta_t3, DM.eta_t4, DM.eta_t5, DM.eta_h2, DM.eta_h3, DM.eta_h4, DM.eta_h5, DM.eta_tu, DM.getS_0, DM.getS_s, DM.set_0, DM.set_s, DM.at_0, DM.at_s, DM.wipe_nil, DM.wipe_cons, DM.keep_none, DM.keep_nil, DM.keep_cons, DM.map_none_nil, DM.map_none_cons, DM.pnO_f, DM.an_nx, DM.an_rt, DM.an_bk, DM.an_ct, DM.an_stk, DM.an_el, DM.an_ite, DM.an_rs, DM.nc_nx, DM.nc_ct, DM.nc_bk, DM.nc_rt, DM.nc_stk, DM.nc_el, DM.nc_ite, DM.nc_rs, DM.el_rs, DM.rs_go, DM.rs_rt, DM.ct_nx, DM.ct_bk, DM.ct_rt, DM.ss_nil, DM.ss_cons, DM.st_asg, DM.st_asT, DM.st_asI, DM.st_aug, DM.st_doc, DM.st_ex, DM.st_ite, DM.st_for1, DM.st_forT, DM.st_ret, DM.st_retN, DM.st_brk, DM.st_cnt, DM.st_pas, DM.st_fgt, DM.st_fzs, DM.fzsO_some, DM.someO_some, DM.augO_add, DM.augO_sub, DM.asI_eq, DM.it_sl, DM.it_vl, DM.it_r1, DM.it_r2, DM.r1O_int, DM.r2O_int, DM.walk_lst, DM.walk_tup, DM.walk_str, DM.walk_t2, DM.walk_t3, DM.wlist, DM.seqO_some, DM.wkO_def, DM.ev_lc, DM.lcO_n, DM.ev_lc2, DM.lc2O_n, DM.ev_muO, DM.muO_l, DM.mu2_l, DM.mu_app, DM.mu_pop, DM.mu_rev, DM.mu_clr, DM.callD_eq, DM.res_ok, DM.res_stk, DM.res_el, DM.tkL_nil, DM.tkL_cons, DM.tk1_some, DM.fzL_nil, DM.fzL_cons, DM.fz1_some, DM.mi_nil, DM.mi_m, DM.mi_v, DM.mi_b, DM.bi_nil, DM.bi_m, DM.bi_v, DM.bi_b, DM.ar_nil, DM.ar_v, DM.ar_m, DM.ar_b, DM.pt_nil, DM.pt_cons, DM.pt1_n, DM.atom_int, DM.atom_bl, DM.atom_str, DM.atom_non, DM.atom_lst, DM.atom_tup, DM.atom_enc, DM.selfc_lst, DM.fin_rt, DM.fin_nx, DM.fin_stk, DM.fin_el, DM.fin_ite, DM.fin_rs, DM.ga_nil, DM.ga_cons, DM.ga1_some, DM.kid_l, DM.kid_t, DM.kidO_some, DM.putL_nil, DM.putL_cons, DM.szO_0, DM.szO_1, DM.szO_2, DM.szO_3, DM.szO_4, DM.szO_5, DM.szO_6, DM.szO_7, DM.szO_8, DM.szO_9, DM.szO_10, DM.szO_11, DM.szO_12, DM.szO_13, DM.szO_14, DM.szO_15, DM.szO_16, DM.szO_17, DM.szO_18, DM.szO_19, DM.szO_20, DM.szO_21, DM.szO_22, DM.szO_23, DM.szO_24, DM.szO_25, DS.frz, DS.frzL, DM.frzL_map', DM.frz_enc, DM.rootFz_enc, DS.rootFz, DM.e_int, DM.e_bl, DM.e_tx, DM.e_un, DM.e_non, DM.e_som, DM.e_lst, DM.e_tu, DM.e_t2, DM.e_t3, DM.e_t4, DM.e_t5, DM.e_h2, DM.e_h3, DM.e_h4, DM.e_h5, DS.kAr, DS.kTm, DS.kArs, DS.kOAr, DS.kTms, DS.kCas, DS.kCa, DS.kTs, DS.kOTs, DS.kIt, DM.fz_int, DM.fz_bl, DM.fz_str, DM.fz_non, DM.fz_lst, DM.fz_tup, DM.fz_enc, List.contains_nil, List.contains_cons, List.any_nil, List.any_cons, List.all_nil, List.all_cons, List.length_cons, List.length_nil, Option.isSome_some, Bool.not_true, Bool.not_false, Bool.and_true, Bool.true_and, Bool.and_false, Bool.false_and, Bool.or_true, Bool.true_or, Bool.or_false, Bool.false_or, Bool.false_eq_true, eq_self, if_true, if_false, Option.isNone_none, Option.isNone_some, decide_true, decide_false, Nat.reduceAdd, Nat.reduceEqDiff, Nat.reduceBEq, DM.ty_int_int, DM.ty_int_bool, DM.ty_int_str, DM.ty_int_list, DM.ty_int_tuple, DM.ty_int_dict, DM.ty_bool_int, DM.ty_bool_bool, DM.ty_bool_str, DM.ty_bool_list, DM.ty_bool_tuple, DM.ty_bool_dict, DM.ty_str_int, DM.ty_str_bool, DM.ty_str_str, DM.ty_str_list, DM.ty_str_tuple, DM.ty_str_dict, DM.ty_list_int, DM.ty_list_bool, DM.ty_list_str, DM.ty_list_list, DM.ty_list_tuple, DM.ty_list_dict, DM.ty_tuple_int, DM.ty_tuple_bool, DM.ty_tuple_str, DM.ty_tuple_list, DM.ty_tuple_tuple, DM.ty_tuple_dict, DM.ty_dict_int, DM.ty_dict_bool, DM.ty_dict_str, DM.ty_dict_list, DM.ty_dict_tuple, DM.ty_dict_dict, ↓DM.bind_ok', ↓DM.bind_stk', ↓DM.bind_elim, ↓DM.bind_ite, ↓DM.sb_ok', ↓DM.sb_stk', ↓DM.sb_elim, ↓DM.sb_ite, ↓DM.an_nx, ↓DM.an_rt, ↓DM.an_bk, ↓DM.an_ct, ↓DM.an_stk, ↓DM.an_el, ↓DM.an_ite, ↓DM.an_rs, ↓DM.andO_ok, ↓DM.andO_elim, ↓DM.andO_stk, ↓DM.orO_ok, ↓DM.orO_elim, ↓DM.orO_stk, ↓DM.iteO_ok, ↓DM.iteO_elim, ↓DM.iteO_stk, ↓DM.notO_ok, ↓DM.chnO_some, ↓DM.tkL_nil, ↓DM.tkL_cons, ↓DM.tk1_some, ↓DM.fzL_nil, ↓DM.fzL_cons, ↓DM.fz1_some, ↓DM.elim_some, ↓DM.elim_none, ↓DM.and2_f, ↓DM.or2_t, ↓DM.grd_t, ↓if_true, ↓if_false]
theorem e11_on (v_actual : (Option (T2 Int Int))) : sem11 [(enc v_actual), .non] = (m11 v_actual (none : (Option (T2 Int Int)))).elim .stk fun r => .ok (.bl r) [] :=
  e11 v_actual (none : (Option (T2 Int Int)))
theorem e11_osTvve (v_actual : (Option (T2 Int Int))) (v_due_0 : Int) (v_due_1 : Int) : sem11 [(enc v_actual), (.tup false [(.int v_due_0), (.int v_due_1)])] = (m11 v_actual (some (T2.mk v_due_0 v_due_1))).elim .stk fun r => .ok (.bl r) [] :=
  e11 v_actual (some (T2.mk v_due_0 v_due_1))
def f17_k2 (v_a : (T2 Int Int)) (v_b : (T2 Int Int)) (v_great : Int) (v_due : (Option (T2 Int Int))) : Option Bool :=
  (match v_due with
  | none => (m3 v_a v_b).bind fun t1 =>
  (m11 t1 (none : (Option (T2 Int Int)))).bind fun t2 =>
  (if (!t2) = true then some true else (m2 v_a v_b).bind fun t3 => (m11 (some t3) (some (T2.mk (minI v_a.a0 v_b.a0) (maxI v_a.a1 v_b.a1)))).bind fun t4 => some (!t4)).bind fun t5 =>
  if t5 = true then
  some false
  else
  (m4 v_a v_b).bind fun t6 =>
  (m12 t6 ((decide (v_b.a0 ≤ v_a.a0)) && (decide (v_a.a1 ≤ v_b.a1)))).bind fun t7 =>
  (if (!t7) = true then some true else (m4 v_b v_a).bind fun t8 => (m12 t8 ((decide (v_a.a0 ≤ v_b.a0)) && (decide (v_b.a1 ≤ v_a.a1)))).bind fun t9 => some (!t9)).bind fun t10 =>
  if t10 = true then
  some false
  else
  (m15 v_a v_b v_great).bind fun t11 =>
  (if t11 = true then (m16 v_a v_b).bind fun t12 => (if t12 = true then (m16 v_b v_a).bind fun t13 => some t13 else some false).bind fun t14 => some t14 else some false).bind fun t15 =>
  some t15
  | some o_due =>
  (m3 v_a v_b).bind fun t1 =>
  (m11 t1 (some o_due)).bind fun t2 =>
  (if (!t2) = true then some true else (m2 v_a v_b).bind fun t3 => (m11 (some t3) (some (T2.mk (minI v_a.a0 v_b.a0) (maxI v_a.a1 v_b.a1)))).bind fun t4 => some (!t4)).bind fun t5 =>
  if t5 = true then
  some false
  else
  (m4 v_a v_b).bind fun t6 =>
  (m12 t6 ((decide (v_b.a0 ≤ v_a.a0)) && (decide (v_a.a1 ≤ v_b.a1)))).bind fun t7 =>
  (if (!t7) = true then some true else (m4 v_b v_a).bind fun t8 => (m12 t8 ((decide (v_a.a0 ≤ v_b.a0)) && (decide (v_b.a1 ≤ v_a.a1)))).bind fun t9 => some (!t9)).bind fun t10 =>
  if t10 = true then
  some false
  else
  (m15 v_a v_b v_great).bind fun t11 =>
  (if t11 = true then (m16 v_a v_b).bind fun t12 => (if t12 = true then (m16 v_b v_a).bind fun t13 => some t13 else some false).bind fun t14 => some t14 else some false).bind fun t15 =>
  some t15)
theorem f17_k2_eq (v_a_0 : Int) (v_a_1 : Int) (v_b_0 : Int) (v_b_1 : Int) (v_great : Int) (v_due : (Option (T2 Int Int))) : fin [] (evSs SG17 [] f17_K2 [none, none, none, none, none, some (.tup false [(.int v_a_0), (.int v_a_1)]), some (.tup false [(.int v_b_0), (.int v_b_1)]), some (.int v_great), some (enc v_due)]) = (f17_k2 (T2.mk v_a_0 v_a_1) (T2.mk v_b_0 v_b_1) v_great v_due).elim .stk fun r => .ok (.bl r) [] := by
  rcases v_due with _ | o_due <;>
  simp only [f17_K2, f17_k2, f17_c1_eq, f17_d1, f17_i1_eq, f17_d2, f17_i2_eq, e11_sTvvesTvve, f17_i3_eq, f17_i4_eq, e11_on, e11_osTvve, fn17_2, e2, fn17_3, e3, fn17_4, e4, fn17_9, e9, fn17_10, e10, fn17_11, e11, fn17_12, e12, fn17_15, e15, fn17_16, e16, cd17_0, cd17_1, cd17_2,
  DM.kbin1_a, DM.kbin2_a, DM.kneg_a, DM.kcmp1_a, DM.kcmp2_a, DM.kchn1_a, DM.kchn2_a, DM.kchn3_a, DM.ksub1_a, DM.ksub2_a, DM.kslc1_a, DM.kslc2_a, DM.kslc3_a, DM.kbi_a, DM.kme1_a, DM.kme2_a, DM.ktup_a, DM.klst_a, DM.ktst_a, DM.kas1_a, DM.kas2_a, DM.kts1_a, DM.kts2_a, DM.kav_a, DM.kvl_a, DM.kbl_a, DM.ktr_a, DM.kasg_a, DM.kasT_a, DM.kasI1_a, DM.kasI2_a, DM.kaug_a, DM.kex_a, DM.kif_a, DM.kfor_a, DM.kforT_a, DM.kret_a, DM.kr2_a, DM.klc_a, DM.klc2_a, DM.kmu_a, DM.kcl1_a, DM.kcl2_a, DM.kpre_a, DM.ev_int, DM.ev_bl, DM.ev_str, DM.ev_non, DM.ev_ty, DM.ev_gc, DM.ev_mv, DM.ev_tk, DM.mvO_some, DM.tkO_some, DM.ev_bin, DM.ev_neg, DM.ev_cmp, DM.chnO_some, DM.chn2_ok, DM.chn2_elim, DM.ev_chn, DM.ev_sub, DM.ev_slc, DM.ev_bi, DM.ev_me, DM.ev_tup, DM.ev_lst, DM.ev_call, DM.ev_ite, DM.ev_tst, DM.evA_pk, DM.evA_vl, DM.evPl_sl, DM.oaO_int, DM.evOA_none, DM.evOA_some, DM.evAs_nil, DM.evAs_cons, DM.evTs_nil, DM.evTs_cons, DM.evC_nil, DM.evC_bor, DM.evC_mt, DM.evC_vl, DM.evT_vl, DM.evT_tr, DM.evT_and, DM.evT_or, DM.evT_not, DM.blD_bl, DM.bind_ok', DM.bind_stk', DM.sb_ok', DM.sb_stk', DM.lift_some', DM.lift_none', DM.lift_def, DM.elim_same, ite_self, DM.sub_non, DM.len_non, DM.bind_elim, DM.sb_elim, DM.bind_ite, DM.sb_ite, DM.elim_map, DM.elim_bind, DM.elim_ite, DM.elim_some, DM.elim_none, DM.map_map', DM.map_some', DM.map_ite, DM.andO_ok, DM.andO_elim, DM.and2_ok, DM.and2_elim, DM.and2_ite, DM.and2_t, DM.and2_f, DM.and2_stk, DM.or2_stk, DM.ite2_t, DM.ite2_f, DM.orO_ok, DM.orO_elim, DM.or2_ok, DM.or2_elim, DM.or2_ite, DM.or2_t, DM.or2_f, DM.notO_ok, DM.notO_elim, DM.notO_ite, DM.andO_ite, DM.orO_ite, DM.iteO_ok, DM.iteO_elim, DM.iteO_ite, DM.ite2_int, DM.ite2_bl, DM.ite2_tx, DM.ite2_def, DM.grd_t, DM.grd_tl, DM.grd_tr, DM.b_add, DM.b_sub, DM.b_mul, DM.b_fdiv, DM.b_mod, DM.b_pow, DM.n_neg, DM.b_addL, DM.b_addT, DM.b_addS, DM.b_mulL, DM.s_lst, DM.s_tup, DM.s_str, DM.s_t2i, DM.s_t3i, DM.s_0, DM.s_1, DM.s_2, DM.s_3, DM.s_4, DM.s_5, DM.s_6, DM.s_7, DM.h_0, DM.h_1, DM.h_2, DM.h_3, DM.h_4, DM.h_5, DM.h_6, DM.h_7, DM.sl_lst, DM.sl_tup, DM.sl_str, DM.l_lst, DM.l_tup, DM.l_str, List.length_map, DM.i_int, DM.i_bl, DM.o_bl, DM.o_int, DM.i_abs, DM.i_max, DM.i_min, DM.i_maxL, DM.i_minL, DM.i_sum, DM.i_sorted, DM.i_list, DM.i_listT, DM.i_tuple, DM.i_isi, DM.z_int, DM.z_bl, DM.z_str, DM.z_lst, DM.z_tup, DM.z_non, DM.c_lt, DM.c_le, DM.c_gt, DM.c_ge, DM.c_eq, DM.c_ne, DM.c_is, DM.c_isnot, DM.t_non, DM.t_bl, DM.t_int, DM.t_lst, DM.t_tup, DM.isEmpty_map', DM.in_ints, DM.eqD_int, DM.eqD_bl, DM.eqD_tx, DM.isNon_opt, DM.isNon_enc, DM.n_int, DM.n_bl, DM.n_str, DM.n_lst, DM.n_tup, DM.n_non, DM.notO_stk, DM.orO_stk, DM.andO_stk, DM.iteO_stk, DM.eta_t2, DM.eta_t3, DM.eta_t4, DM.eta_t5, DM.eta_h2, DM.eta_h3, DM.eta_h4, DM.eta_h5, DM.eta_tu, DM.getS_0, DM.getS_s, DM.set_0, DM.set_s, DM.at_0, DM.at_s, DM.wipe_nil, DM.wipe_cons, DM.keep_none, DM.keep_nil, DM.keep_cons, DM.map_none_nil, DM.map_none_cons, DM.pnO_f, DM.an_nx, DM.an_rt, DM.an_bk, DM.an_ct, DM.an_stk, DM.an_el, DM.an_ite, DM.an_rs, DM.nc_nx, DM.nc_ct, DM.nc_bk, DM.nc_rt, DM.nc_stk, DM.nc_el, DM.nc_ite, DM.nc_rs, DM.el_rs, DM.rs_go, DM.rs_rt, DM.ct_nx, DM.ct_bk, DM.ct_rt, DM.ss_nil, DM.ss_cons, DM.st_asg, DM.st_asT, DM.st_asI, DM.st_aug, DM.st_doc, DM.st_ex, DM.st_ite, DM.st_for1, DM.st_forT, DM.st_ret, DM.st_retN, DM.st_brk, DM.st_cnt, DM.st_pas, DM.st_fgt, DM.st_fzs, DM.fzsO_some, DM.someO_some, DM.augO_add, DM.augO_sub, DM.asI_eq, DM.it_sl, DM.it_vl, DM.it_r1, DM.it_r2, DM.r1O_int, DM.r2O_int, DM.walk_lst, DM.walk_tup, DM.walk_str, DM.walk_t2, DM.walk_t3, DM.wlist, DM.seqO_some, DM.wkO_def, DM.ev_lc, DM.lcO_n, DM.ev_lc2, DM.lc2O_n, DM.ev_muO, DM.muO_l, DM.mu2_l, DM.mu_app, DM.mu_pop, DM.mu_rev, DM.mu_clr, DM.callD_eq, DM.res_ok, DM.res_stk, DM.res_el, DM.tkL_nil, DM.tkL_cons, DM.tk1_some, DM.fzL_nil, DM.fzL_cons, DM.fz1_some, DM.mi_nil, DM.mi_m, DM.mi_v, DM.mi_b, DM.bi_nil, DM.bi_m, DM.bi_v, DM.bi_b, DM.ar_nil, DM.ar_v, DM.ar_m, DM.ar_b, DM.pt_nil, DM.pt_cons, DM.pt1_n, DM.atom_int, DM.atom_bl, DM.atom_str, DM.atom_non, DM.atom_lst, DM.atom_tup, DM.atom_enc, DM.selfc_lst, DM.fin_rt, DM.fin_nx, DM.fin_stk, DM.fin_el, DM.fin_ite, DM.fin_rs, DM.ga_nil, DM.ga_cons, DM.ga1_some, DM.kid_l, DM.kid_t, DM.kidO_some, DM.putL_nil, DM.putL_cons, DM.szO_0, DM.szO_1, DM.szO_2, DM.szO_3, DM.szO_4, DM.szO_5, DM.szO_6, DM.szO_7, DM.szO_8, DM.szO_9, DM.szO_10, DM.szO_11, DM.szO_12, DM.szO_13, DM.szO_14, DM.szO_15, DM.szO_16, DM.szO_17, DM.szO_18, DM.szO_19, DM.szO_20, DM.szO_21, DM.szO_22, DM.szO_23, DM.szO_24, DM.szO_25, DS.frz, DS.frzL, DM.frzL_map', DM.frz_enc, DM.rootFz_enc, DS.rootFz, DM.e_int, DM.e_bl, DM.e_tx, DM.e_un, DM.e_non, DM.e_som, DM.e_lst, DM.e_tu, DM.e_t2, DM.e_t3, DM.e_t4, DM.e_t5, DM.e_h2, DM.e_h3, DM.e_h4, DM.e_h5, DS.kAr, DS.kTm, DS.kArs, DS.kOAr, DS.kTms, DS.kCas, DS.kCa, DS.kTs, DS.kOTs, DS.kIt, DM.fz_int, DM.fz_bl, DM.fz_str, DM.fz_non, DM.fz_lst, DM.fz_tup, DM.fz_enc, List.contains_nil, List.contains_cons, List.any_nil, List.any_cons, List.all_nil, List.all_cons, List.length_cons, List.length_nil, Option.isSome_some, Bool.not_true, Bool.not_false, Bool.and_true, Bool.true_and, Bool.and_false, Bool.false_and, Bool.or_true, Bool.true_or, Bool.or_false, Bool.false_or, Bool.false_eq_true, eq_self, if_true, if_false, Option.isNone_none, Option.isNone_some, decide_true, decide_false, Nat.reduceAdd, Nat.reduceEqDiff, Nat.reduceBEq, DM.ty_int_int, DM.ty_int_bool, DM.ty_int_str, DM.ty_int_list, DM.ty_int_tuple, DM.ty_int_dict, DM.ty_bool_int, DM.ty_bool_bool, DM.ty_bool_str, DM.ty_bool_list, DM.ty_bool_tuple, DM.ty_bool_dict, DM.ty_str_int, DM.ty_str_bool, DM.ty_str_str, DM.ty_str_list, DM.ty_str_tuple, DM.ty_str_dict, DM.ty_list_int, DM.ty_list_bool, DM.ty_list_str, DM.ty_list_list, DM.ty_list_tuple, DM.ty_list_dict, DM.ty_tuple_int, DM.ty_tuple_bool, DM.ty_tuple_str, DM.ty_tuple_list, DM.ty_tuple_tuple, DM.ty_tuple_dict, DM.ty_dict_int, DM.ty_dict_bool, DM.ty_dict_str, DM.ty_dict_list, DM.ty_dict_tuple, DM.ty_dict_dict, ↓DM.bind_ok', ↓DM.bind_stk', ↓DM.bind_elim, ↓DM.bind_ite, ↓DM.sb_ok', ↓DM.sb_stk', ↓DM.sb_elim, ↓DM.sb_ite, ↓DM.an_nx, ↓DM.an_rt, ↓DM.an_bk, ↓DM.an_ct, ↓DM.an_stk, ↓DM.an_el, ↓DM.an_ite, ↓DM.an_rs, ↓DM.andO_ok, ↓DM.andO_elim, ↓DM.andO_stk, ↓DM.orO_ok, ↓DM.orO_elim, ↓DM.orO_stk, ↓DM.iteO_ok, ↓DM.iteO_elim, ↓DM.iteO_stk, ↓DM.notO_ok, ↓DM.chnO_some, ↓DM.tkL_nil, ↓DM.tkL_cons, ↓DM.tk1_some, ↓DM.fzL_nil, ↓DM.fzL_cons, ↓DM.fz1_some, ↓DM.elim_some, ↓DM.elim_none, ↓DM.and2_f, ↓DM.or2_t, ↓DM.grd_t, ↓if_true, ↓if_false]
def f17_k1 (v_a : (T2 Int Int)) (v_b : (T2 Int Int)) (v_great : Int) (v_due : (Option (T2 Int Int))) : Option Bool :=
  (match v_due with
  | none => none
  | some o_due =>
  (f17_i4 v_a v_b v_great o_due).bind fun t1 =>
  f17_k2 v_a v_b v_great t1)
theorem f17_k1_eq (v_a_0 : Int) (v_a_1 : Int) (v_b_0 : Int) (v_b_1 : Int) (v_great : Int) (v_due : (Option (T2 Int Int))) : fin [] (evSs SG17 [] f17_K1 [none, none, none, none, none, some (.tup false [(.int v_a_0), (.int v_a_1)]), some (.tup false [(.int v_b_0), (.int v_b_1)]), some (.int v_great), some (enc v_due)]) = (f17_k1 (T2.mk v_a_0 v_a_1) (T2.mk v_b_0 v_b_1) v_great v_due).elim .stk fun r => .ok (.bl r) [] := by
  rcases v_due with _ | o_due <;>
  simp only [f17_K1, f17_k1, f17_c1_eq, f17_d1, f17_i1_eq, f17_d2, f17_i2_eq, e11_sTvvesTvve, f17_i3_eq, f17_i4_eq, e11_on, e11_osTvve, f17_k2_eq, fn17_2, e2, fn17_3, e3, fn17_4, e4, fn17_9, e9, fn17_10, e10, fn17_11, e11, fn17_12, e12, fn17_15, e15, fn17_16, e16, cd17_0, cd17_1, cd17_2,
  DM.kbin1_a, DM.kbin2_a, DM.kneg_a, DM.kcmp1_a, DM.kcmp2_a, DM.kchn1_a, DM.kchn2_a, DM.kchn3_a, DM.ksub1_a, DM.ksub2_a, DM.kslc1_a, DM.kslc2_a, DM.kslc3_a, DM.kbi_a, DM.kme1_a, DM.kme2_a, DM.ktup_a, DM.klst_a, DM.ktst_a, DM.kas1_a, DM.kas2_a, DM.kts1_a, DM.kts2_a, DM.kav_a, DM.kvl_a, DM.kbl_a, DM.ktr_a, DM.kasg_a, DM.kasT_a, DM.kasI1_a, DM.kasI2_a, DM.kaug_a, DM.kex_a, DM.kif_a, DM.kfor_a, DM.kforT_a, DM.kret_a, DM.kr2_a, DM.klc_a, DM.klc2_a, DM.kmu_a, DM.kcl1_a, DM.kcl2_a, DM.kpre_a, DM.ev_int, DM.ev_bl, DM.ev_str, DM.ev_non, DM.ev_ty, DM.ev_gc, DM.ev_mv, DM.ev_tk, DM.mvO_some, DM.tkO_some, DM.ev_bin, DM.ev_neg, DM.ev_cmp, DM.chnO_some, DM.chn2_ok, DM.chn2_elim, DM.ev_chn, DM.ev_sub, DM.ev_slc, DM.ev_bi, DM.ev_me, DM.ev_tup, DM.ev_lst, DM.ev_call, DM.ev_ite, DM.ev_tst, DM.evA_pk, DM.evA_vl, DM.evPl_sl, DM.oaO_int, DM.evOA_none, DM.evOA_some, DM.evAs_nil, DM.evAs_cons, DM.evTs_nil, DM.evTs_cons, DM.evC_nil, DM.evC_bor, DM.evC_mt, DM.evC_vl, DM.evT_vl, DM.evT_tr, DM.evT_and, DM.evT_or, DM.evT_not, DM.blD_bl, DM.bind_ok', DM.bind_stk', DM.sb_ok', DM.sb_stk', DM.lift_some', DM.lift_none', DM.lift_def, DM.elim_same, ite_self, DM.sub_non, DM.len_non, DM.bind_elim, DM.sb_elim, DM.bind_ite, DM.sb_ite, DM.elim_map, DM.elim_bind, DM.elim_ite, DM.elim_some, DM.elim_none, DM.map_map', DM.map_some', DM.map_ite, DM.andO_ok, DM.andO_elim, DM.and2_ok, DM.and2_elim, DM.and2_ite, DM.and2_t, DM.and2_f, DM.and2_stk, DM.or2_stk, DM.ite2_t, DM.ite2_f, DM.orO_ok, DM.orO_elim, DM.or2_ok, DM.or2_elim, DM.or2_ite, DM.or2_t, DM.or2_f, DM.notO_ok, DM.notO_elim, DM.notO_ite, DM.andO_ite, DM.orO_ite, DM.iteO_ok, DM.iteO_elim, DM.iteO_ite, DM.ite2_int, DM.ite2_bl, DM.ite2_tx, DM.ite2_def, DM.grd_t, DM.grd_tl, DM.grd_tr, DM.b_add, DM.b_sub, DM.b_mul, DM.b_fdiv, DM.b_mod, DM.b_pow, DM.n_neg, DM.b_addL, DM.b_addT, DM.b_addS, DM.b_mulL, DM.s_lst, DM.s_tup, DM.s_str, DM.s_t2i, DM.s_t3i, DM.s_0, DM.s_1, DM.s_2, DM.s_3, DM.s_4, DM.s_5, DM.s_6, DM.s_7, DM.h_0, DM.h_1, DM.h_2, DM.h_3, DM.h_4, DM.h_5, DM.h_6, DM.h_7, DM.sl_lst, DM.sl_tup, DM.sl_str, DM.l_lst, DM.l_tup, DM.l_str, List.length_map, DM.i_int, DM.i_bl, DM.o_bl, DM.o_int, DM.i_abs, DM.i_max, DM.i_min, DM.i_maxL, DM.i_minL, DM.i_sum, DM.i_sorted, DM.i_list, DM.i_listT, DM.i_tuple, DM.i_isi, DM.z_int, DM.z_bl, DM.z_str, DM.z_lst, DM.z_tup, DM.z_non, DM.c_lt, DM.c_le, DM.c_gt, DM.c_ge, DM.c_eq, DM.c_ne, DM.c_is, DM.c_isnot, DM.t_non, DM.t_bl, DM.t_int, DM.t_lst, DM.t_tup, DM.isEmpty_map', DM.in_ints, DM.eqD_int, DM.eqD_bl, DM.eqD_tx, DM.isNon_opt, DM.isNon_enc, DM.n_int, DM.n_bl, DM.n_str, DM.n_lst, DM.n_tup, DM.n_non, DM.notO_stk, DM.orO_stk, DM.andO_stk, DM.iteO_stk, DM.eta_t2, DM.eta_t3, DM.eta_t4, DM.eta_t5, DM.eta_h2, DM.eta_h3, DM.eta_h4, DM.eta_h5, DM.eta_tu, DM.getS_0, DM.getS_s, DM.set_0, DM.set_s, DM.at_0, DM.at_s, DM.wipe_nil, DM.wipe_cons, DM.keep_none, DM.keep_nil, DM.keep_cons, DM.map_none_nil, DM.map_none_cons, DM.pnO_f, DM.an_nx, DM.an_rt, DM.an_bk, DM.an_ct, DM.an_stk, DM.an_el, DM.an_ite, DM.an_rs, DM.nc_nx, DM.nc_ct, DM.nc_bk, DM.nc_rt, DM.nc_stk, DM.nc_el, DM.nc_ite, DM.nc_rs, DM.el_rs, DM.rs_go, DM.rs_rt, DM.ct_nx, DM.ct_bk, DM.ct_rt, DM.ss_nil, DM.ss_cons, DM.st_asg, DM.st_asT, DM.st_asI, DM.st_aug, DM.st_doc, DM.st_ex, DM.st_ite, DM.st_for1, DM.st_forT, DM.st_ret, DM.st_retN, DM.st_brk, DM.st_cnt, DM.st_pas, DM.st_fgt, DM.st_fzs, DM.fzsO_some, DM.someO_some, DM.augO_add, DM.augO_sub, DM.asI_eq, DM.it_sl, DM.it_vl, DM.it_r1, DM.it_r2, DM.r1O_int, DM.r2O_int, DM.walk_lst, DM.walk_tup, DM.walk_str, DM.walk_t2, DM.walk_t3, DM.wlist, DM.seqO_some, DM.wkO_def, DM.ev_lc, DM.lcO_n, DM.ev_lc2, DM.lc2O_n, DM.ev_muO, DM.muO_l, DM.mu2_l, DM.mu_app, DM.mu_pop, DM.mu_rev, DM.mu_clr, DM.callD_eq, DM.res_ok, DM.res_stk, DM.res_el, DM.tkL_nil, DM.tkL_cons, DM.tk1_some, DM.fzL_nil, DM.fzL_cons, DM.fz1_some, DM.mi_nil, DM.mi_m, DM.mi_v, DM.mi_b, DM.bi_nil, DM.bi_m, DM.bi_v, DM.bi_b, DM.ar_nil, DM.ar_v, DM.ar_m, DM.ar_b, DM.pt_nil, DM.pt_cons, DM.pt1_n, DM.atom_int, DM.atom_bl, DM.atom_str, DM.atom_non, DM.atom_lst, DM.atom_tup, DM.atom_enc, DM.selfc_lst, DM.fin_rt, DM.fin_nx, DM.fin_stk, DM.fin_el, DM.fin_ite, DM.fin_rs, DM.ga_nil, DM.ga_cons, DM.ga1_some, DM.kid_l, DM.kid_t, DM.kidO_some, DM.putL_nil, DM.putL_cons, DM.szO_0, DM.szO_1, DM.szO_2, DM.szO_3, DM.szO_4, DM.szO_5, DM.szO_6, DM.szO_7, DM.szO_8, DM.szO_9, DM.szO_10, DM.szO_11, DM.szO_12, DM.szO_13, DM.szO_14, DM.szO_15, DM.szO_16, DM.szO_17, DM.szO_18, DM.szO_19, DM.szO_20, DM.szO_21, DM.szO_22, DM.szO_23, DM.szO_24, DM.szO_25, DS.frz, DS.frzL, DM.frzL_map', DM.frz_enc, DM.rootFz_enc, DS.rootFz, DM.e_int, DM.e_bl, DM.e_tx, DM.e_un, DM.e_non, DM.e_som, DM.e_lst, DM.e_tu, DM.e_t2, DM.e_t3, DM.e_t4, DM.e_t5, DM.e_h2, DM.e_h3, DM.e_h4, DM.e_h5, DS.kAr, DS.kTm, DS.kArs, DS.kOAr, DS.kTms, DS.kCas, DS.kCa, DS.kTs, DS.kOTs, DS.kIt, DM.fz_int, DM.fz_bl, DM.fz_str, DM.fz_non, DM.fz_lst, DM.fz_tup, DM.fz_enc, List.contains_nil, List.contains_cons, List.any_nil, List.any_cons, List.all_nil, List.all_cons, List.length_cons, List.length_nil, Option.isSome_some, Bool.not_true, Bool.not_false, Bool.and_true, Bool.true_and, Bool.and_false, Bool.false_and, Bool.or_true, Bool.true_or, Bool.or_false, Bool.false_or, Bool.false_eq_true, eq_self, if_true, if_false, Option.isNone_none, Option.isNone_some, decide_true, decide_false, Nat.reduceAdd, Nat.reduceEqDiff, Nat.reduceBEq, DM.ty_int_int, DM.ty_int_bool, DM.ty_int_str, DM.ty_int_list, DM.ty_int_tuple, DM.ty_int_dict, DM.ty_bool_int, DM.ty_bool_bool, DM.ty_bool_str, DM.ty_bool_list, DM.ty_bool_tuple, DM.ty_bool_dict, DM.ty_str_int, DM.ty_str_bool, DM.ty_str_str, DM.ty_str_list, DM.ty_str_tuple, DM.ty_str_dict, DM.ty_list_int, DM.ty_list_bool, DM.ty_list_str, DM.ty_list_list, DM.ty_list_tuple, DM.ty_list_dict, DM.ty_tuple_int, DM.ty_tuple_bool, DM.ty_tuple_str, DM.ty_tuple_list, DM.ty_tuple_tuple, DM.ty_tuple_dict, DM.ty_dict_int, DM.ty_dict_bool, DM.ty_dict_str, DM.ty_dict_list, DM.ty_dict_tuple, DM.ty_dict_dict, ↓DM.bind_ok', ↓DM.bind_stk', ↓DM.bind_elim, ↓DM.bind_ite, ↓DM.sb_ok', ↓DM.sb_stk', ↓DM.sb_elim, ↓DM.sb_ite, ↓DM.an_nx, ↓DM.an_rt, ↓DM.an_bk, ↓DM.an_ct, ↓DM.an_stk, ↓DM.an_el, ↓DM.an_ite, ↓DM.an_rs, ↓DM.andO_ok, ↓DM.andO_elim, ↓DM.andO_stk, ↓DM.orO_ok, ↓DM.orO_elim, ↓DM.orO_stk, ↓DM.iteO_ok, ↓DM.iteO_elim, ↓DM.iteO_stk, ↓DM.notO_ok, ↓DM.chnO_some, ↓DM.tkL_nil, ↓DM.tkL_cons, ↓DM.tk1_some, ↓DM.fzL_nil, ↓DM.fzL_cons, ↓DM.fz1_some, ↓DM.elim_some, ↓DM.elim_none, ↓DM.and2_f, ↓DM.or2_t, ↓DM.grd_t, ↓if_true, ↓if_false]
theorem f17_k1_eq_TvveTvvevsTvve (v_a_0 : Int) (v_a_1 : Int) (v_b_0 : Int) (v_b_1 : Int) (v_great : Int) (v_due_0 : Int) (v_due_1 : Int) : fin [] (evSs SG17 [] f17_K1 [none, none, none, none, none, some (.tup false [(.int v_a_0), (.int v_a_1)]), some (.tup false [(.int v_b_0), (.int v_b_1)]), some (.int v_great), some (.tup false [(.int v_due_0), (.int v_due_1)])]) = (f17_k1 (T2.mk v_a_0 v_a_1) (T2.mk v_b_0 v_b_1) v_great (some (T2.mk v_due_0 v_due_1))).elim .stk fun r => .ok (.bl r) [] :=
  f17_k1_eq v_a_0 v_a_1 v_b_0 v_b_1 v_great (some (T2.mk v_due_0 v_due_1))
def m17 (v_script : (List Int)) : Option Bool :=
  (rng1M (4)).bind fun t1 =>
  (lcM (f17_c1_c v_script) (f17_c1_m v_script) t1 []).bind fun t2 =>
  (f17_i1 v_script (sortI (slcM t2 none (some (2)))) (sortI (slcM t2 (some (2)) none))).bind fun t3 =>
  (f17_i2 v_script (sortI (slcM t2 none (some (2)))) t3).bind fun t4 =>
  (subM (sortI (slcM t2 none (some (2)))) (0)).bind fun t5 =>
  (subM (sortI (slcM t2 none (some (2)))) (1)).bind fun t6 =>
  (subM t4 (0)).bind fun t7 =>
  (subM t4 (1)).bind fun t8 =>
  (m9 v_script (5)).bind fun t9 =>
  (modM t9 (2000000000000000000000000000000000000000000007)).bind fun t10 =>
  (if (!true) = true then some true else (if (!true) = true then some true else (m11 (some (T2.mk (-9223372036854775808) (9223372036854775807))) (some (T2.mk (-9223372036854775808) (9223372036854775807)))).bind fun t11 => some (!t11)).bind fun t12 => some t12).bind fun t13 =>
  if t13 = true then
  some false
  else
  f17_k1 (T2.mk t5 t6) (T2.mk t7 t8) (t10 - (1000000000000000000000000000000000000000000003)) (some (T2.mk (maxI t5 t7) (minI t6 t8)))
theorem e17 (v_script : (List Int)) : sem17 [(.lst false (List.map enc v_script))] = (m17 v_script).elim .stk fun r => .ok (.bl r) [] := by
  refine (def_eq _ _ _ _ _).trans ?_
  show fin [] (evSs SG17 [] b17 [some (.lst false (List.map enc v_script)), none, none, none, none, none, none, none, none]) = _
  simp only [b17, m17, f17_c1_eq, f17_d1, f17_i1_eq, f17_d2, f17_i2_eq, e11_sTvvesTvve, f17_i3_eq, f17_i4_eq, e11_on, e11_osTvve, f17_k2_eq, f17_k1_eq, f17_k1_eq_TvveTvvevsTvve, fn17_2, e2, fn17_3, e3, fn17_4, e4, fn17_9, e9, fn17_10, e10, fn17_11, e11, fn17_12, e12, fn17_15, e15, fn17_16, e16, cd17_0, cd17_1, cd17_2,
  DM.kbin1_a, DM.kbin2_a, DM.kneg_a, DM.kcmp1_a, DM.kcmp2_a, DM.kchn1_a, DM.kchn2_a, DM.kchn3_a, DM.ksub1_a, DM.ksub2_a, DM.kslc1_a, DM.kslc2_a, DM.kslc3_a, DM.kbi_a, DM.kme1_a, DM.kme2_a, DM.ktup_a, DM.klst_a, DM.ktst_a, DM.kas1_a, DM.kas2_a, DM.kts1_a, DM.kts2_a, DM.kav_a, DM.kvl_a, DM.kbl_a, DM.ktr_a, DM.kasg_a, DM.kasT_a, DM.kasI1_a, DM.kasI2_a, DM.kaug_a, DM.kex_a, DM.kif_a, DM.kfor_a, DM.kforT_a, DM.kret_a, DM.kr2_a, DM.klc_a, DM.klc2_a, DM.kmu_a, DM.kcl1_a, DM.kcl2_a, DM.kpre_a, DM.ev_int, DM.ev_bl, DM.ev_str, DM.ev_non, DM.ev_ty, DM.ev_gc, DM.ev_mv, DM.ev_tk, DM.mvO_some, DM.tkO_some, DM.ev_bin, DM.ev_neg, DM.ev_cmp, DM.chnO_some, DM.chn2_ok, DM.chn2_elim, DM.ev_chn, DM.ev_sub, DM.ev_slc, DM.ev_bi, DM.ev_me, DM.ev_tup, DM.ev_lst, DM.ev_call, DM.ev_ite, DM.ev_tst, DM.evA_pk, DM.evA_vl, DM.evPl_sl, DM.oaO_int, DM.evOA_none, DM.evOA_some, DM.evAs_nil, DM.evAs_cons, DM.evTs_nil, DM.evTs_cons, DM.evC_nil, DM.evC_bor, DM.evC_mt, DM.evC_vl, DM.evT_vl, DM.evT_tr, DM.evT_and, DM.evT_or, DM.evT_not, DM.blD_bl, DM.bind_ok', DM.bind_stk', DM.sb_ok', DM.sb_stk', DM.lift_some', DM.lift_none', DM.lift_def, DM.elim_same, ite_self, DM.sub_non, DM.len_non, DM.bind_elim, DM.sb_elim, DM.bind_ite, DM.sb_ite, DM.elim_map, DM.elim_bind, DM.elim_ite, DM.elim_some, DM.elim_none, DM.map_map', DM.map_some', DM.map_ite, DM.andO_ok, DM.andO_elim, DM.and2_ok, DM.and2_elim, DM.and2_ite, DM.and2_t, DM.and2_f, DM.and2_stk, DM.or2_stk, DM.ite2_t, DM.ite2_f, DM.orO_ok, DM.orO_elim, DM.or2_ok, DM.or2_elim, DM.or2_ite, DM.or2_t, DM.or2_f, DM.notO_ok, DM.notO_elim, DM.notO_ite, DM.andO_ite, DM.orO_ite, DM.iteO_ok, DM.iteO_elim, DM.iteO_ite, DM.ite2_int, DM.ite2_bl, DM.ite2_tx, DM.ite2_def, DM.grd_t, DM.grd_tl, DM.grd_tr, DM.b_add, DM.b_sub, DM.b_mul, DM.b_fdiv, DM.b_mod, DM.b_pow, DM.n_neg, DM.b_addL, DM.b_addT, DM.b_addS, DM.b_mulL, DM.s_lst, DM.s_tup, DM.s_str, DM.s_t2i, DM.s_t3i, DM.s_0, DM.s_1, DM.s_2, DM.s_3, DM.s_4, DM.s_5, DM.s_6, DM.s_7, DM.h_0, DM.h_1, DM.h_2, DM.h_3, DM.h_4, DM.h_5, DM.h_6, DM.h_7, DM.sl_lst, DM.sl_tup, DM.sl_str, DM.l_lst, DM.l_tup, DM.l_str, List.length_map, DM.i_int, DM.i_bl, DM.o_bl, DM.o_int, DM.i_abs, DM.i_max, DM.i_min, DM.i_maxL, DM.i_minL, DM.i_sum, DM.i_sorted, DM.i_list, DM.i_listT, DM.i_tuple, DM.i_isi, DM.z_int, DM.z_bl, DM.z_str, DM.z_lst, DM.z_tup, DM.z_non, DM.c_lt, DM.c_le, DM.c_gt, DM.c_ge, DM.c_eq, DM.c_ne, DM.c_is, DM.c_isnot, DM.t_non, DM.t_bl, DM.t_int, DM.t_lst, DM.t_tup, DM.isEmpty_map', DM.in_ints, DM.eqD_int, DM.eqD_bl, DM.eqD_tx, DM.isNon_opt, DM.isNon_enc, DM.n_int, DM.n_bl, DM.n_str, DM.n_lst, DM.n_tup, DM.n_non, DM.notO_stk, DM.orO_stk, DM.andO_stk, DM.iteO_stk, DM.eta_t2, DM.eta_t3, DM.eta_t4, DM.eta_t5, DM.eta_h2, DM.eta_h3, DM.eta_h4, DM.eta_h5, DM.eta_tu, DM.getS_0, DM.getS_s, DM.set_0, DM.set_s, DM.at_0, DM.at_s, DM.wipe_nil, DM.wipe_cons, DM.keep_none, DM.keep_nil, DM.keep_cons, DM.map_none_nil, DM.map_none_cons, DM.pnO_f, DM.an_nx, DM.an_rt, DM.an_bk, DM.an_ct, DM.an_stk, DM.an_el, DM.an_ite, DM.an_rs, DM.nc_nx, DM.nc_ct, DM.nc_bk, DM.nc_rt, DM.nc_stk, DM.nc_el, DM.nc_ite, DM.nc_rs, DM.el_rs, DM.rs_go, DM.rs_rt, DM.ct_nx, DM.ct_bk, DM.ct_rt, DM.ss_nil, DM.ss_cons, DM.st_asg, DM.st_asT, DM.st_asI, DM.st_aug, DM.st_doc, DM.st_ex, DM.st_ite, DM.st_for1, DM.st_forT, DM.st_ret, DM.st_retN, DM.st_brk, DM.st_cnt, DM.st_pas, DM.st_fgt, DM.st_fzs, DM.fzsO_some, DM.someO_some, DM.augO_add, DM.augO_sub, DM.asI_eq, DM.it_sl, DM.it_vl, DM.it_r1, DM.it_r2, DM.r1O_int, DM.r2O_int, DM.walk_lst, DM.walk_tup, DM.walk_str, DM.walk_t2, DM.walk_t3, DM.wlist, DM.seqO_some, DM.wkO_def, DM.ev_lc, DM.lcO_n, DM.ev_lc2, DM.lc2O_n, DM.ev_muO, DM.muO_l, DM.mu2_l, DM.mu_app, DM.mu_pop, DM.mu_rev, DM.mu_clr, DM.callD_eq, DM.res_ok, DM.res_stk, DM.res_el, DM.tkL_nil, DM.tkL_cons, DM.tk1_some, DM.fzL_nil, DM.fzL_cons, DM.fz1_some, DM.mi_nil, DM.mi_m, DM.mi_v, DM.mi_b, DM.bi_nil, DM.bi_m, DM.bi_v, DM.bi_b, DM.ar_nil, DM.ar_v, DM.ar_m, DM.ar_b, DM.pt_nil, DM.pt_cons, DM.pt1_n, DM.atom_int, DM.atom_bl, DM.atom_str, DM.atom_non, DM.atom_lst, DM.atom_tup, DM.atom_enc, DM.selfc_lst, DM.fin_rt, DM.fin_nx, DM.fin_stk, DM.fin_el, DM.fin_ite, DM.fin_rs, DM.ga_nil, DM.ga_cons, DM.ga1_some, DM.kid_l, DM.kid_t, DM.kidO_some, DM.putL_nil, DM.putL_cons, DM.szO_0, DM.szO_1, DM.szO_2, DM.szO_3, DM.szO_4, DM.szO_5, DM.szO_6, DM.szO_7, DM.szO_8, DM.szO_9, DM.szO_10, DM.szO_11, DM.szO_12, DM.szO_13, DM.szO_14, DM.szO_15, DM.szO_16, DM.szO_17, DM.szO_18, DM.szO_19, DM.szO_20, DM.szO_21, DM.szO_22, DM.szO_23, DM.szO_24, DM.szO_25, DS.frz, DS.frzL, DM.frzL_map', DM.frz_enc, DM.rootFz_enc, DS.rootFz, DM.e_int, DM.e_bl, DM.e_tx, DM.e_un, DM.e_non, DM.e_som, DM.e_lst, DM.e_tu, DM.e_t2, DM.e_t3, DM.e_t4, DM.e_t5, DM.e_h2, DM.e_h3, DM.e_h4, DM.e_h5, DS.kAr, DS.kTm, DS.kArs, DS.kOAr, DS.kTms, DS.kCas, DS.kCa, DS.kTs, DS.kOTs, DS.kIt, DM.fz_int, DM.fz_bl, DM.fz_str, DM.fz_non, DM.fz_lst, DM.fz_tup, DM.fz_enc, List.contains_nil, List.contains_cons, List.any_nil, List.any_cons, List.all_nil, List.all_cons, List.length_cons, List.length_nil, Option.isSome_some, Bool.not_true, Bool.not_false, Bool.and_true, Bool.true_and, Bool.and_false, Bool.false_and, Bool.or_true, Bool.true_or, Bool.or_false, Bool.false_or, Bool.false_eq_true, eq_self, if_true, if_false, Option.isNone_none, Option.isNone_some, decide_true, decide_false, Nat.reduceAdd, Nat.reduceEqDiff, Nat.reduceBEq, DM.ty_int_int, DM.ty_int_bool, DM.ty_int_str, DM.ty_int_list, DM.ty_int_tuple, DM.ty_int_dict, DM.ty_bool_int, DM.ty_bool_bool, DM.ty_bool_str, DM.ty_bool_list, DM.ty_bool_tuple, DM.ty_bool_dict, DM.ty_str_int, DM.ty_str_bool, DM.ty_str_str, DM.ty_str_list, DM.ty_str_tuple, DM.ty_str_dict, DM.ty_list_int, DM.ty_list_bool, DM.ty_list_str, DM.ty_list_list, DM.ty_list_tuple, DM.ty_list_dict, DM.ty_tuple_int, DM.ty_tuple_bool, DM.ty_tuple_str, DM.ty_tuple_list, DM.ty_tuple_tuple, DM.ty_tuple_dict, DM.ty_dict_int, DM.ty_dict_bool, DM.ty_dict_str, DM.ty_dict_list, DM.ty_dict_tuple, DM.ty_dict_dict, ↓DM.bind_ok', ↓DM.bind_stk', ↓DM.bind_elim, ↓DM.bind_ite, ↓DM.sb_ok', ↓DM.sb_stk', ↓DM.sb_elim, ↓DM.sb_ite, ↓DM.an_nx, ↓DM.an_rt, ↓DM.an_bk, ↓DM.an_ct, ↓DM.an_stk, ↓DM.an_el, ↓DM.an_ite, ↓DM.an_rs, ↓DM.andO_ok, ↓DM.andO_elim, ↓DM.andO_stk, ↓DM.orO_ok, ↓DM.orO_elim, ↓DM.orO_stk, ↓DM.iteO_ok, ↓DM.iteO_elim, ↓DM.iteO_stk, ↓DM.notO_ok, ↓DM.chnO_some, ↓DM.tkL_nil, ↓DM.tkL_cons, ↓DM.tk1_some, ↓DM.fzL_nil, ↓DM.fzL_cons, ↓DM.fz1_some, ↓DM.elim_some, ↓DM.elim_none, ↓DM.and2_f, ↓DM.or2_t, ↓DM.grd_t, ↓if_true, ↓if_false]
end K86

set_option Elab.async false
set_option linter.all false
set_option maxRecDepth 100000
set_option maxHeartbeats 200000
namespace K86
open PySem L2 DS DM
abbrev LO : Int := -9223372036854775808
abbrev HI : Int := 9223372036854775807
def Wd (x : Int) : Prop := LO ≤ x ∧ x ≤ HI
theorem modM_pos {a b : Int} (h : 0 < b) : modM a b = some (a % b) := if_pos h
theorem fdivM_pos {a b : Int} (h : okDiv b) : fdivM a b = some (a / b) := if_pos h
theorem mulM_l {a b : Int} (h : a.natAbs < 2 ^ 64) : mulM a b = some (a * b) := if_pos (.inl (.inl h))
theorem log_lt {n k : Nat} (h : n < 2 ^ k) (hk : 0 < k) : n.log2 < k := by
  by_cases z : n = 0
  · subst z; simpa using hk
  · exact (Nat.log2_lt z).mpr h
theorem mulM_b {a b : Int} {i j : Nat} (h : a.natAbs < 2 ^ i) (h2 : b.natAbs < 2 ^ j) (hi : 0 < i) (hj : 0 < j) (hs : i + j < 1000000) : mulM a b = some (a * b) := by
  refine if_pos (.inr ?_)
  have := log_lt h hi
  have := log_lt h2 hj
  omega
theorem subM_at {α : Type} (l : List α) (k : Nat) (x : α) (h : l[k]? = some x) : subM l (k : Int) = some x := by
  have hl := (List.getElem?_eq_some_iff.mp h).1
  unfold subM atI ixN
  rw [if_pos (by omega), if_pos (by omega)]
  simpa using h
theorem m9_some (ns : List Int) (k : Nat) : ∃ v, m9 ns (k : Int) = some v := by
  unfold m9
  by_cases h : (k : Int) < (ns.length : Int)
  · have hk : k < ns.length := by omega
    exact ⟨ns[k], by rw [if_pos (by simpa using h), subM_at ns k ns[k] (List.getElem?_eq_getElem hk)]; rfl⟩
  · exact ⟨0, by rw [if_neg (by simpa using h)]⟩
theorem ok4 : okDiv 4 := by decide
theorem m10_some (c : Int) : ∃ e, m10 c = some e ∧ Wd e := by
  unfold m10
  rw [fdivM_pos ok4, modM_pos (by decide)]
  simp only [Option.bind_some]
  by_cases h0 : c % 4 = 0
  · rw [if_pos (by simpa using h0), modM_pos (by decide)]
    refine ⟨_, rfl, ?_⟩
    unfold Wd LO HI; omega
  · rw [if_neg (by simpa using h0)]
    by_cases h1 : c % 4 = 1
    · rw [if_pos (by simpa using h1), modM_pos (by decide)]
      refine ⟨_, rfl, ?_⟩
      unfold Wd LO HI; omega
    · rw [if_neg (by simpa using h1)]
      by_cases h2 : c % 4 = 2
      · rw [if_pos (by simpa using h2), modM_pos (by decide)]
        refine ⟨_, rfl, ?_⟩
        unfold Wd LO HI; omega
      · rw [if_neg (by simpa using h2)]
        have : ∃ r, f10_i1 (c / 4) = some r := by
          unfold f10_i1
          by_cases hr : absI (c / 4) < 1000000000000000
          · rw [if_pos (by simpa using hr), mulM_l (by
              unfold absI at hr
              split at hr <;> omega)]
            exact ⟨_, rfl⟩
          · rw [if_neg (by simpa using hr)]; exact ⟨_, rfl⟩
        obtain ⟨r, hr⟩ := this
        rw [hr]
        simp only [Option.bind_some]
        rw [modM_pos (by decide)]
        refine ⟨_, rfl, ?_⟩
        unfold Wd LO HI; omega
theorem ends_some (ns : List Int) : ∃ a b c d, Wd a ∧ Wd b ∧ Wd c ∧ Wd d ∧ lcM (f17_c1_c ns) (f17_c1_m ns) [0, 1, 2, 3] [] = some [a, b, c, d] := by
  have one : ∀ k : Nat, ∃ e, f17_c1_m ns (k : Int) = some e ∧ Wd e := fun k => by
    obtain ⟨v, hv⟩ := m9_some ns k
    obtain ⟨e, he, hw⟩ := m10_some v
    exact ⟨e, by unfold f17_c1_m; rw [hv]; simp only [Option.bind_some]; rw [he]; rfl, hw⟩
  obtain ⟨a, ha, wa⟩ := one 0
  obtain ⟨b, hb, wb⟩ := one 1
  obtain ⟨c, hc, wc⟩ := one 2
  obtain ⟨d, hd, wd⟩ := one 3
  have ha : f17_c1_m ns 0 = some a := ha
  have hb : f17_c1_m ns 1 = some b := hb
  have hc : f17_c1_m ns 2 = some c := hc
  have hd : f17_c1_m ns 3 = some d := hd
  refine ⟨a, b, c, d, wa, wb, wc, wd, ?_⟩
  have s0 : (0 : Nat) < sizeLine := by decide
  have s1 : (1 : Nat) < sizeLine := by decide
  have s2 : (2 : Nat) < sizeLine := by decide
  have s3 : (3 : Nat) < sizeLine := by decide
  simp only [lcM, f17_c1_c, ha, hb, hc, hd, Option.bind_some, if_true, List.length_nil, List.length_cons, List.nil_append, List.cons_append, Nat.zero_add, Nat.reduceAdd, s0, s1, s2, s3]
theorem sort2 (x y : Int) : ∃ p q, sortI [x, y] = [p, q] ∧ p ≤ q ∧ (p = x ∨ p = y) ∧ (q = x ∨ q = y) := by
  have e : sortI [x, y] = if x ≤ y then [x, y] else [y, x] := rfl
  rw [e]
  by_cases h : x ≤ y
  · rw [if_pos h]; exact ⟨x, y, rfl, h, .inl rfl, .inr rfl⟩
  · rw [if_neg h]; exact ⟨y, x, rfl, by omega, .inr rfl, .inl rfl⟩
theorem rng2 : rng1M 2 = some [0, 1] := by decide +kernel
theorem rng4 : rng1M 4 = some [0, 1, 2, 3] := by decide +kernel
theorem m11_same (t : T2 Int Int) : m11 (some t) (some t) = some true := by
  have a0 : ∀ x y : Int, subM [x, y] 0 = some x := fun _ _ => rfl
  have a1 : ∀ x y : Int, subM [x, y] 1 = some y := fun _ _ => rfl
  simp [m11, rng2, forC, f11_l4, a0, a1, Ct.el, Rs.el]
theorem m11_none : m11 none none = some true := rfl
theorem m12_same (p : Bool) : m12 p p = some true := by simp [m12]
theorem m13_eq : m13 = m5 := rfl
end K86

set_option Elab.async false
set_option linter.all false
set_option maxRecDepth 100000
set_option maxHeartbeats 200000
namespace K86
open PySem L2 DS DM
/-! words -/
theorem turn_ok (a b : T2 Int Int) (g x : Int) (h : x.natAbs < 2 ^ 200) : f15_l1 a b g x () = some (.nx ()) := by
  unfold f15_l1 m0 m1
  rw [fdivM_pos (show okDiv 18446744073709551616 by decide +kernel)]
  simp only [Option.bind_some]
  have hm : mulM ((x + 9223372036854775808) / 18446744073709551616) 18446744073709551616 = some (((x + 9223372036854775808) / 18446744073709551616) * 18446744073709551616) := by
    refine mulM_b (i := 201) (j := 65) ?_ (by decide +kernel) (by decide) (by decide) (by decide)
    have e : (2 : Nat) ^ 200 = 1606938044258990275541962092341162602522202993782792835301376 := by decide +kernel
    have e2 : (2 : Nat) ^ 201 = 3213876088517980551083924184682325205044405987565585670602752 := by decide +kernel
    rw [e] at h; rw [e2]; omega
  rw [hm, modM_pos (by decide)]
  simp only [Option.bind_some]
  have e1 : (x - -9223372036854775808) % 18446744073709551616 + -9223372036854775808 = x - (x + 9223372036854775808) / 18446744073709551616 * 18446744073709551616 := by omega
  have e2 : (decide ((-9223372036854775808 : Int) ≤ x) && decide (x ≤ 9223372036854775807)) = decide ((x + 9223372036854775808) / 18446744073709551616 = 0) := by
    rw [← Bool.decide_and]
    exact decide_eq_decide.mpr (by omega)
  rw [e1, e2, m12_same]
  simp
theorem forC_all {α : Type} {f : α → Unit → Option (Ct Unit Bool)} : ∀ (l : List α), (∀ x ∈ l, f x () = some (.nx ())) → forC f l () = some (.go ())
  | [], _ => rfl
  | x :: l, h => by
    unfold forC
    rw [h x List.mem_cons_self]
    exact forC_all l fun y hy => h y (List.mem_cons_of_mem _ hy)
theorem natAbs_mul_lt {a b : Int} (ha : Wd a) (hb : Wd b) : (a * b).natAbs < 2 ^ 128 := by
  have h1 : a.natAbs < 2 ^ 64 := by unfold Wd LO HI at ha; omega
  have h2 : b.natAbs < 2 ^ 64 := by unfold Wd LO HI at hb; omega
  rw [Int.natAbs_mul]
  calc a.natAbs * b.natAbs < 2 ^ 64 * 2 ^ 64 := Nat.mul_lt_mul'' h1 h2
    _ = 2 ^ 128 := by decide +kernel +kernel
theorem mulW {a b : Int} (ha : Wd a) : mulM a b = some (a * b) := mulM_l (by unfold Wd LO HI at ha; omega)
theorem m15_ok (a b : T2 Int Int) (g : Int) (h0 : Wd a.a0) (h1 : Wd a.a1) (h2 : Wd b.a0) (h3 : Wd b.a1) (hg : g.natAbs < 2 ^ 200) : m15 a b g = some true := by
  unfold m15 m14
  rw [mulW h0, mulW h1]
  simp only [Option.bind_some]
  have p1 := natAbs_mul_lt h0 h2
  have p2 := natAbs_mul_lt h1 h3
  have e1 : (2 : Nat) ^ 128 = 340282366920938463463374607431768211456 := by decide +kernel
  have e : (2 : Nat) ^ 200 = 1606938044258990275541962092341162602522202993782792835301376 := by decide +kernel
  rw [forC_all _ fun x hx => turn_ok a b g x ?_]
  · rfl
  · simp only [List.mem_cons, List.not_mem_nil, or_false] at hx
    unfold Wd LO HI at h0 h1 h2 h3
    rw [e1] at p1 p2
    rw [e] at hg ⊢
    rcases hx with rfl | rfl | rfl | rfl | rfl | rfl | rfl | rfl | rfl | rfl | rfl | rfl <;> omega
end K86

set_option Elab.async false
set_option linter.all false
set_option maxRecDepth 100000
set_option maxHeartbeats 200000
namespace K86
open PySem L2 DS DM
theorem sort4 (p q r t : Int) : ∃ s0 s1 s2 s3, sortI [p, q, r, t] = [s0, s1, s2, s3] ∧ s0 = minL p [q, r, t] ∧ s3 = maxL p [q, r, t] := by
  have hp := sortI_perm [p, q, r, t]
  have hs := sortI_sorted [p, q, r, t]
  have hl := hp.length_eq
  match hS : sortI [p, q, r, t], hl with
  | [s0, s1, s2, s3], _ =>
    rw [hS] at hp hs
    refine ⟨s0, s1, s2, s3, rfl, ?_, ?_⟩
    · obtain ⟨l1, l2, l3⟩ := minL_le [q, r, t] p
      have hmem : minL p [q, r, t] ∈ [s0, s1, s2, s3] := hp.mem_iff.mpr (by rcases l3 with z | z <;> simp_all)
      have h0 : s0 ∈ [p, q, r, t] := hp.mem_iff.mp (by simp)
      have hle : minL p [q, r, t] ≤ s0 := by
        rcases List.mem_cons.mp h0 with z | z
        · rw [z]; exact l1
        · exact l2 _ z
      have hge : s0 ≤ minL p [q, r, t] := by
        rcases List.mem_cons.mp hmem with z | z
        · rw [z]; exact Int.le_refl _
        · exact (List.pairwise_cons.mp hs).1 _ z
      omega
    · obtain ⟨l1, l2, l3⟩ := maxL_ge [q, r, t] p
      have hmem : maxL p [q, r, t] ∈ [s0, s1, s2, s3] := hp.mem_iff.mpr (by rcases l3 with z | z <;> simp_all)
      have h3 : s3 ∈ [p, q, r, t] := hp.mem_iff.mp (by simp)
      have hge : s3 ≤ maxL p [q, r, t] := by
        rcases List.mem_cons.mp h3 with z | z
        · rw [z]; exact l1
        · exact l2 _ z
      have hle : maxL p [q, r, t] ≤ s3 := by
        simp only [List.pairwise_cons, List.mem_cons, List.not_mem_nil, or_false, false_implies, implies_true] at hs
        simp only [List.mem_cons, List.not_mem_nil, or_false] at hmem
        obtain ⟨g0, g1, g2, _⟩ := hs
        have := g0 s3 (by simp)
        have := g1 s3 (by simp)
        have := g2 s3 (by simp)
        rcases hmem with z | z | z | z <;> omega
      omega
end K86

set_option Elab.async false
set_option linter.all false
set_option maxRecDepth 100000
set_option maxHeartbeats 200000
namespace K86
open PySem L2 DS DM
theorem m8_eq (a b : T2 Int Int) (h0 : Wd a.a0) (h1 : Wd a.a1) : m8 a b = m5 (minL (a.a0 * b.a0) [a.a0 * b.a1, a.a1 * b.a0, a.a1 * b.a1]) (maxL (a.a0 * b.a0) [a.a0 * b.a1, a.a1 * b.a0, a.a1 * b.a1]) := by
  have s0 : (0 : Nat) < sizeLine := by decide +kernel
  have s1 : (1 : Nat) < sizeLine := by decide +kernel
  have s2 : (2 : Nat) < sizeLine := by decide +kernel
  have s3 : (3 : Nat) < sizeLine := by decide +kernel
  unfold m8
  simp only [lc2M, lciM, f8_c1_i, f8_c1_m, mulW h0, mulW h1, Option.bind_some, List.length_nil, List.length_cons, List.nil_append, List.cons_append, Nat.zero_add, Nat.reduceAdd, s0, s1, s2, s3, if_true, minM, maxM]
  cases m5 (minL (a.a0 * b.a0) [a.a0 * b.a1, a.a1 * b.a0, a.a1 * b.a1]) (maxL (a.a0 * b.a0) [a.a0 * b.a1, a.a1 * b.a0, a.a1 * b.a1]) <;> rfl
end K86

set_option Elab.async false
set_option linter.all false
set_option maxRecDepth 100000
set_option maxHeartbeats 200000
namespace K86
open PySem L2 DS DM
theorem m5_some (x y : Int) : ∃ t, m5 x y = some t := by
  unfold m5
  split
  · exact ⟨_, rfl⟩
  · exact ⟨_, rfl⟩
end K86

set_option Elab.async false
set_option linter.all false
set_option maxRecDepth 100000
set_option maxHeartbeats 200000
namespace K86
open PySem L2 DS DM
theorem m16_ok (a b : T2 Int Int) (h0 : Wd a.a0) (h1 : Wd a.a1) : m16 a b = some true := by
  unfold m16 m6 m7
  rw [m13_eq]
  obtain ⟨t, ht⟩ := m5_some (a.a0 + b.a0) (a.a1 + b.a1)
  obtain ⟨u, hu⟩ := m5_some (a.a0 - b.a1) (a.a1 - b.a0)
  rw [ht, hu]
  simp only [Option.bind_some, m11_same, Bool.not_true, Bool.false_eq_true, if_false, mulW h0, mulW h1]
  obtain ⟨s0, s1, s2, s3, hs, e0, e3⟩ := sort4 (a.a0 * b.a0) (a.a0 * b.a1) (a.a1 * b.a0) (a.a1 * b.a1)
  rw [m8_eq a b h0 h1, hs]
  have z0 : subM [s0, s1, s2, s3] 0 = some s0 := rfl
  have z3 : subM [s0, s1, s2, s3] 3 = some s3 := rfl
  rw [z0, z3, ← e0, ← e3]
  obtain ⟨v, hv⟩ := m5_some s0 s3
  simp only [Option.bind_some, hv, m11_same]
end K86

set_option Elab.async false
set_option linter.all false
set_option maxRecDepth 100000
set_option maxHeartbeats 200000
namespace K86
open PySem L2 DS DM
theorem fin_ok (a b : T2 Int Int) (g : Int) (h0 : Wd a.a0) (h1 : Wd a.a1) (h2 : Wd b.a0) (h3 : Wd b.a1) (hg : g.natAbs < 2 ^ 200) :
    f17_k1 a b g (some (T2.mk (maxI a.a0 b.a0) (minI a.a1 b.a1))) = some true := by
  have w := m15_ok a b g h0 h1 h2 h3 hg
  have s1 := m16_ok a b h0 h1
  have s2 := m16_ok b a h2 h3
  unfold f17_k1 f17_i4
  by_cases h : minI a.a1 b.a1 < maxI a.a0 b.a0
  · simp only [h, decide_true, if_true, Option.bind_some]
    unfold f17_k2
    simp only [m3, m2, m4, h, decide_true, if_true, Option.bind_some, m11_none, m11_same, m12_same, Bool.not_true, Bool.false_eq_true, if_false, w, s1, s2]
  · simp only [h, decide_false, if_false, Option.bind_some, Bool.false_eq_true]
    unfold f17_k2
    simp only [m3, m2, m4, h, decide_false, if_false, if_true, Option.bind_some, m11_same, m12_same, Bool.not_true, Bool.false_eq_true, w, s1, s2]
end K86

set_option Elab.async false
set_option linter.all false
set_option maxRecDepth 100000
set_option maxHeartbeats 200000
namespace K86
open PySem L2 DS DM
theorem m17_true (ns : List Int) : m17 ns = some true := by
  obtain ⟨a, b, c, d, wa, wb, wc, wd, he⟩ := ends_some ns
  unfold m17
  rw [rng4]
  simp only [Option.bind_some]
  rw [he]
  simp only [Option.bind_some]
  have e1 : slcM [a, b, c, d] none (some 2) = [a, b] := rfl
  have e2 : slcM [a, b, c, d] (some 2) none = [c, d] := rfl
  rw [e1, e2]
  obtain ⟨p, q, hpq, lpq, op, oq⟩ := sort2 a b
  obtain ⟨r, s, hrs, lrs, or', os⟩ := sort2 c d
  rw [hpq, hrs]
  have wp : Wd p := by rcases op with rfl | rfl <;> assumption
  have wq : Wd q := by rcases oq with rfl | rfl <;> assumption
  have wr : Wd r := by rcases or' with rfl | rfl <;> assumption
  have ws : Wd s := by rcases os with rfl | rfl <;> assumption
  have a0 : ∀ x y : Int, subM [x, y] 0 = some x := fun _ _ => rfl
  have a1 : ∀ x y : Int, subM [x, y] 1 = some y := fun _ _ => rfl
  obtain ⟨v4, h4⟩ := m9_some ns 4
  obtain ⟨v5, h5⟩ := m9_some ns 5
  have h4 : m9 ns 4 = some v4 := h4
  have h5 : m9 ns 5 = some v5 := h5
  have i1 : ∃ x y, f17_i1 ns [p, q] [r, s] = some [x, y] ∧ Wd x ∧ Wd y := by
    unfold f17_i1
    rw [h4]
    simp only [Option.bind_some, modM_pos (show (0 : Int) < 5 by decide), a0, a1]
    split
    · refine ⟨q, maxI q s, rfl, wq, ?_⟩
      unfold maxI; split <;> assumption
    · exact ⟨r, s, rfl, wr, ws⟩
  obtain ⟨x, y, hx, wx, wy⟩ := i1
  rw [hx]
  simp only [Option.bind_some]
  have i2 : ∃ x' y', f17_i2 ns [p, q] [x, y] = some [x', y'] ∧ Wd x' ∧ Wd y' := by
    unfold f17_i2
    rw [h4]
    simp only [Option.bind_some, modM_pos (show (0 : Int) < 5 by decide), a0, a1]
    split
    · exact ⟨p, q, rfl, wp, wq⟩
    · exact ⟨x, y, rfl, wx, wy⟩
  obtain ⟨x', y', hx', wx', wy'⟩ := i2
  rw [hx', Option.bind_some, a0, Option.bind_some, a1, Option.bind_some, a0, Option.bind_some, a1, Option.bind_some, h5, Option.bind_some, modM_pos (show (0 : Int) < 2000000000000000000000000000000000000000000007 by decide +kernel), Option.bind_some, m11_same, if_neg (show ¬ (!true) = true by decide), if_neg (show ¬ (!true) = true by decide), Option.bind_some, Option.bind_some, Option.bind_some, if_neg (show ¬ (!true) = true by decide)]
  refine fin_ok (T2.mk p q) (T2.mk x' y') _ wp wq wx' wy' ?_
  have e : (2 : Nat) ^ 200 = 1606938044258990275541962092341162602522202993782792835301376 := by decide +kernel
  rw [e]; omega
end K86

set_option Elab.async false
set_option linter.all false
set_option maxRecDepth 100000
set_option maxHeartbeats 200000
namespace K86
open PySem L2 DS DM
theorem law_true : ∀ ns : List Int, ns.length ≤ 63 → (∀ z ∈ ns, PySem.Builtin.Int.intBits z ≤ 1048576) → sem17 [.lst false (ns.map .int)] = .ok (.bl true) [] := by
  intro ns _ _
  have h := e17 ns
  rw [m17_true ns] at h
  exact h
end K86

namespace K86
open PySem PySem.Spec PyProof.Rows L2 DS
theorem all_mk {l : PySem.W.OpenLaw} {w : World} {K : PySem.W.Frag} {h : Heap} {mg : Str → Option Value} {fx : Addr} {f0 f1 f2 f3 f4 f5 f6 f7 f8 f9 f10 f11 f12 f13 f14 f15 f16 f17 : Addr} (X : K.In h) (G : h.Ns mainGlobals mg) (hfa : mg "law" = some (.ref fx))
    {od0 an0 od1 an1 od2 an2 od3 an3 od4 an4 od5 an5 od6 an6 od7 an7 od8 an8 od9 an9 od10 an10 od11 an11 od12 an12 od13 an13 od14 an14 od15 an15 od16 an16 od17 an17 : Option Addr} {sl0 sl1 sl2 sl3 sl4 sl5 sl6 sl7 sl8 sl9 sl10 sl11 sl12 sl13 sl14 sl15 sl16 sl17 : Array (Option Value)} {oc0 kV0 dc0 pm0 cd0 ct0 oc1 kV1 dc1 pm1 cd1 ct1 oc2 kV2 dc2 pm2 cd2 ct2 oc3 kV3 dc3 pm3 cd3 ct3 oc4 kV4 dc4 pm4 cd4 ct4 oc5 kV5 dc5 pm5 cd5 ct5 oc6 kV6 dc6 pm6 cd6 ct6 oc7 kV7 dc7 pm7 cd7 ct7 oc8 kV8 dc8 pm8 cd8 ct8 oc9 kV9 dc9 pm9 cd9 ct9 oc10 kV10 dc10 pm10 cd10 ct10 oc11 kV11 dc11 pm11 cd11 ct11 oc12 kV12 dc12 pm12 cd12 ct12 oc13 kV13 dc13 pm13 cd13 ct13 oc14 kV14 dc14 pm14 cd14 ct14 oc15 kV15 dc15 pm15 cd15 ct15 oc16 kV16 dc16 pm16 cd16 ct16 oc17 kV17 dc17 pm17 cd17 ct17 : Value} {u0 u1 u3 : Value} {g2 : Addr} {go2 : Option Addr} {gi2 : Array Value} {gn2 : Nat} {gs2 : Array (Option Value)}
    (a0 : PySem.W.nsIn K mainGlobals "wrap" = some (some (.ref f0))) (l0 : K.lookup f0 = some ⟨oc0, od0, .func (PySem.W.fnOf "wrap" "wrap" (defArgs s0) (defBody s0) (defScope s0) .none kV0 dc0 pm0 an0 cd0 ct0), sl0⟩) (c0 : PySem.W.codeIn K cd0 "wrap" = true) (k0 : PySem.W.keepIn K (.ref f0) = true)
    (a1 : PySem.W.nsIn K mainGlobals "is_word" = some (some (.ref f1))) (l1 : K.lookup f1 = some ⟨oc1, od1, .func (PySem.W.fnOf "is_word" "is_word" (defArgs s1) (defBody s1) (defScope s1) .none kV1 dc1 pm1 an1 cd1 ct1), sl1⟩) (c1 : PySem.W.codeIn K cd1 "is_word" = true) (k1 : PySem.W.keepIn K (.ref f1) = true)
    (a2 : PySem.W.nsIn K mainGlobals "hull" = some (some (.ref f2))) (l2 : K.lookup f2 = some ⟨oc2, od2, .func (PySem.W.fnOf "hull" "hull" (defArgs s2) (defBody s2) (defScope s2) .none kV2 dc2 pm2 an2 cd2 ct2), sl2⟩) (c2 : PySem.W.codeIn K cd2 "hull" = true) (k2 : PySem.W.keepIn K (.ref f2) = true)
    (a3 : PySem.W.nsIn K mainGlobals "meet" = some (some (.ref f3))) (l3 : K.lookup f3 = some ⟨oc3, od3, .func (PySem.W.fnOf "meet" "meet" (defArgs s3) (defBody s3) (defScope s3) .none kV3 dc3 pm3 an3 cd3 ct3), sl3⟩) (c3 : PySem.W.codeIn K cd3 "meet" = true) (k3 : PySem.W.keepIn K (.ref f3) = true)
    (a4 : PySem.W.nsIn K mainGlobals "inside" = some (some (.ref f4))) (l4 : K.lookup f4 = some ⟨oc4, od4, .func (PySem.W.fnOf "inside" "inside" (defArgs s4) (defBody s4) (defScope s4) .none kV4 dc4 pm4 an4 cd4 ct4), sl4⟩) (c4 : PySem.W.codeIn K cd4 "inside" = true) (k4 : PySem.W.keepIn K (.ref f4) = true)
    (a5 : PySem.W.nsIn K mainGlobals "in_words" = some (some (.ref f5))) (l5 : K.lookup f5 = some ⟨oc5, od5, .func (PySem.W.fnOf "in_words" "in_words" (defArgs s5) (defBody s5) (defScope s5) .none kV5 dc5 pm5 an5 cd5 ct5), sl5⟩) (c5 : PySem.W.codeIn K cd5 "in_words" = true) (k5 : PySem.W.keepIn K (.ref f5) = true)
    (a6 : PySem.W.nsIn K mainGlobals "add_ranges" = some (some (.ref f6))) (l6 : K.lookup f6 = some ⟨oc6, od6, .func (PySem.W.fnOf "add_ranges" "add_ranges" (defArgs s6) (defBody s6) (defScope s6) .none kV6 dc6 pm6 an6 cd6 ct6), sl6⟩) (c6 : PySem.W.codeIn K cd6 "add_ranges" = true) (k6 : PySem.W.keepIn K (.ref f6) = true)
    (a7 : PySem.W.nsIn K mainGlobals "sub_ranges" = some (some (.ref f7))) (l7 : K.lookup f7 = some ⟨oc7, od7, .func (PySem.W.fnOf "sub_ranges" "sub_ranges" (defArgs s7) (defBody s7) (defScope s7) .none kV7 dc7 pm7 an7 cd7 ct7), sl7⟩) (c7 : PySem.W.codeIn K cd7 "sub_ranges" = true) (k7 : PySem.W.keepIn K (.ref f7) = true)
    (a8 : PySem.W.nsIn K mainGlobals "mul_ranges" = some (some (.ref f8))) (l8 : K.lookup f8 = some ⟨oc8, od8, .func (PySem.W.fnOf "mul_ranges" "mul_ranges" (defArgs s8) (defBody s8) (defScope s8) .none kV8 dc8 pm8 an8 cd8 ct8), sl8⟩) (c8 : PySem.W.codeIn K cd8 "mul_ranges" = true) (k8 : PySem.W.keepIn K (.ref f8) = true)
    (a9 : PySem.W.nsIn K mainGlobals "_law_cell" = some (some (.ref f9))) (l9 : K.lookup f9 = some ⟨oc9, od9, .func (PySem.W.fnOf "_law_cell" "_law_cell" (defArgs s9) (defBody s9) (defScope s9) .none kV9 dc9 pm9 an9 cd9 ct9), sl9⟩) (c9 : PySem.W.codeIn K cd9 "_law_cell" = true) (k9 : PySem.W.keepIn K (.ref f9) = true)
    (a10 : PySem.W.nsIn K mainGlobals "_law_end" = some (some (.ref f10))) (l10 : K.lookup f10 = some ⟨oc10, od10, .func (PySem.W.fnOf "_law_end" "_law_end" (defArgs s10) (defBody s10) (defScope s10) .none kV10 dc10 pm10 an10 cd10 ct10), sl10⟩) (c10 : PySem.W.codeIn K cd10 "_law_end" = true) (k10 : PySem.W.keepIn K (.ref f10) = true)
    (a11 : PySem.W.nsIn K mainGlobals "_law_tuple" = some (some (.ref f11))) (l11 : K.lookup f11 = some ⟨oc11, od11, .func (PySem.W.fnOf "_law_tuple" "_law_tuple" (defArgs s11) (defBody s11) (defScope s11) .none kV11 dc11 pm11 an11 cd11 ct11), sl11⟩) (c11 : PySem.W.codeIn K cd11 "_law_tuple" = true) (k11 : PySem.W.keepIn K (.ref f11) = true)
    (a12 : PySem.W.nsIn K mainGlobals "_law_bool" = some (some (.ref f12))) (l12 : K.lookup f12 = some ⟨oc12, od12, .func (PySem.W.fnOf "_law_bool" "_law_bool" (defArgs s12) (defBody s12) (defScope s12) .none kV12 dc12 pm12 an12 cd12 ct12), sl12⟩) (c12 : PySem.W.codeIn K cd12 "_law_bool" = true) (k12 : PySem.W.keepIn K (.ref f12) = true)
    (a13 : PySem.W.nsIn K mainGlobals "_law_cut" = some (some (.ref f13))) (l13 : K.lookup f13 = some ⟨oc13, od13, .func (PySem.W.fnOf "_law_cut" "_law_cut" (defArgs s13) (defBody s13) (defScope s13) .none kV13 dc13 pm13 an13 cd13 ct13), sl13⟩) (c13 : PySem.W.codeIn K cd13 "_law_cut" = true) (k13 : PySem.W.keepIn K (.ref f13) = true)
    (a14 : PySem.W.nsIn K mainGlobals "_law_numbers" = some (some (.ref f14))) (l14 : K.lookup f14 = some ⟨oc14, od14, .func (PySem.W.fnOf "_law_numbers" "_law_numbers" (defArgs s14) (defBody s14) (defScope s14) .none kV14 dc14 pm14 an14 cd14 ct14), sl14⟩) (c14 : PySem.W.codeIn K cd14 "_law_numbers" = true) (k14 : PySem.W.keepIn K (.ref f14) = true)
    (a15 : PySem.W.nsIn K mainGlobals "_law_words" = some (some (.ref f15))) (l15 : K.lookup f15 = some ⟨oc15, od15, .func (PySem.W.fnOf "_law_words" "_law_words" (defArgs s15) (defBody s15) (defScope s15) .none kV15 dc15 pm15 an15 cd15 ct15), sl15⟩) (c15 : PySem.W.codeIn K cd15 "_law_words" = true) (k15 : PySem.W.keepIn K (.ref f15) = true)
    (a16 : PySem.W.nsIn K mainGlobals "_law_sums" = some (some (.ref f16))) (l16 : K.lookup f16 = some ⟨oc16, od16, .func (PySem.W.fnOf "_law_sums" "_law_sums" (defArgs s16) (defBody s16) (defScope s16) .none kV16 dc16 pm16 an16 cd16 ct16), sl16⟩) (c16 : PySem.W.codeIn K cd16 "_law_sums" = true) (k16 : PySem.W.keepIn K (.ref f16) = true)
    (a17 : PySem.W.nsIn K mainGlobals "law" = some (some (.ref f17))) (l17 : K.lookup f17 = some ⟨oc17, od17, .func (PySem.W.fnOf "law" "law" (defArgs s17) (defBody s17) (defScope s17) .none kV17 dc17 pm17 an17 cd17 ct17), sl17⟩) (c17 : PySem.W.codeIn K cd17 "law" = true) (k17 : PySem.W.keepIn K (.ref f17) = true)
    (y0 : PySem.W.nsIn K mainGlobals "LOW" = some (some u0)) (r0 : ∃ v, RelV v u0 ∧ ∀ F, Rep K F v (cds 0))
    (y1 : PySem.W.nsIn K mainGlobals "HIGH" = some (some u1)) (r1 : ∃ v, RelV v u1 ∧ ∀ F, Rep K F v (cds 1))
    (y2 : PySem.W.nsIn K mainGlobals "EVERY" = some (some (.ref g2))) (w2 : K.lookup g2 = some ⟨.type "tuple", go2, .seq gi2 gn2, gs2⟩) (r2 : ∃ vs, gi2.size ≤ sizeLine ∧ Vals vs gi2.toList ∧ ∀ F, RepL K F vs [.int (-9223372036854775808), .int (9223372036854775807)])
    (y3 : PySem.W.nsIn K mainGlobals "COUNT" = some (some u3)) (r3 : ∃ v, RelV v u3 ∧ ∀ F, Rep K F v (cds 3))
    (z_min : PySem.W.nsIn K mainGlobals "min" = some none)
    (z_max : PySem.W.nsIn K mainGlobals "max" = some none)
    (z_len : PySem.W.nsIn K mainGlobals "len" = some none)
    (z_int : PySem.W.nsIn K mainGlobals "int" = some none)
    (z_abs : PySem.W.nsIn K mainGlobals "abs" = some none)
    (z_isinstance : PySem.W.nsIn K mainGlobals "isinstance" = some none)
    (z_tuple : PySem.W.nsIn K mainGlobals "tuple" = some none)
    (z_range : PySem.W.nsIn K mainGlobals "range" = some none)
    (z_bool : PySem.W.nsIn K mainGlobals "bool" = some none)
    (z_sorted : PySem.W.nsIn K mainGlobals "sorted" = some none)
    : ∃ fd : FuncData, (∀ (s : Shared) (v : Value), BindsTo s fd ⟨[v], []⟩ [("script", v)]) ∧ ∀ base : Heap, K.In base → base.Ns mainGlobals mg → FnOk l.prog w K mg base (L2.CX l.prog w) 18 fx fd ["script"] (spLaw K) := by
  have e := hfa.symm.trans (PySem.W.mg_of X G a17)
  cases e
  let fa : Nat → Addr := fun i => match i with | 0 => f0 | 1 => f1 | 2 => f2 | 3 => f3 | 4 => f4 | 5 => f5 | 6 => f6 | 7 => f7 | 8 => f8 | 9 => f9 | 10 => f10 | 11 => f11 | 12 => f12 | 13 => f13 | 14 => f14 | 15 => f15 | 16 => f16 | _ => fx
  let fdd : Nat → FuncData := fun i => match i with | 0 => (PySem.W.fnOf "wrap" "wrap" (defArgs s0) (defBody s0) (defScope s0) .none kV0 dc0 pm0 an0 cd0 ct0) | 1 => (PySem.W.fnOf "is_word" "is_word" (defArgs s1) (defBody s1) (defScope s1) .none kV1 dc1 pm1 an1 cd1 ct1) | 2 => (PySem.W.fnOf "hull" "hull" (defArgs s2) (defBody s2) (defScope s2) .none kV2 dc2 pm2 an2 cd2 ct2) | 3 => (PySem.W.fnOf "meet" "meet" (defArgs s3) (defBody s3) (defScope s3) .none kV3 dc3 pm3 an3 cd3 ct3) | 4 => (PySem.W.fnOf "inside" "inside" (defArgs s4) (defBody s4) (defScope s4) .none kV4 dc4 pm4 an4 cd4 ct4) | 5 => (PySem.W.fnOf "in_words" "in_words" (defArgs s5) (defBody s5) (defScope s5) .none kV5 dc5 pm5 an5 cd5 ct5) | 6 => (PySem.W.fnOf "add_ranges" "add_ranges" (defArgs s6) (defBody s6) (defScope s6) .none kV6 dc6 pm6 an6 cd6 ct6) | 7 => (PySem.W.fnOf "sub_ranges" "sub_ranges" (defArgs s7) (defBody s7) (defScope s7) .none kV7 dc7 pm7 an7 cd7 ct7) | 8 => (PySem.W.fnOf "mul_ranges" "mul_ranges" (defArgs s8) (defBody s8) (defScope s8) .none kV8 dc8 pm8 an8 cd8 ct8) | 9 => (PySem.W.fnOf "_law_cell" "_law_cell" (defArgs s9) (defBody s9) (defScope s9) .none kV9 dc9 pm9 an9 cd9 ct9) | 10 => (PySem.W.fnOf "_law_end" "_law_end" (defArgs s10) (defBody s10) (defScope s10) .none kV10 dc10 pm10 an10 cd10 ct10) | 11 => (PySem.W.fnOf "_law_tuple" "_law_tuple" (defArgs s11) (defBody s11) (defScope s11) .none kV11 dc11 pm11 an11 cd11 ct11) | 12 => (PySem.W.fnOf "_law_bool" "_law_bool" (defArgs s12) (defBody s12) (defScope s12) .none kV12 dc12 pm12 an12 cd12 ct12) | 13 => (PySem.W.fnOf "_law_cut" "_law_cut" (defArgs s13) (defBody s13) (defScope s13) .none kV13 dc13 pm13 an13 cd13 ct13) | 14 => (PySem.W.fnOf "_law_numbers" "_law_numbers" (defArgs s14) (defBody s14) (defScope s14) .none kV14 dc14 pm14 an14 cd14 ct14) | 15 => (PySem.W.fnOf "_law_words" "_law_words" (defArgs s15) (defBody s15) (defScope s15) .none kV15 dc15 pm15 an15 cd15 ct15) | 16 => (PySem.W.fnOf "_law_sums" "_law_sums" (defArgs s16) (defBody s16) (defScope s16) .none kV16 dc16 pm16 an16 cd16 ct16) | _ => (PySem.W.fnOf "law" "law" (defArgs s17) (defBody s17) (defScope s17) .none kV17 dc17 pm17 an17 cd17 ct17)
  have F0 : Fun K "wrap" "wrap" s0 (fa 0) (fdd 0) := fun_mk (st := s0) l0 c0 k0
  have F1 : Fun K "is_word" "is_word" s1 (fa 1) (fdd 1) := fun_mk (st := s1) l1 c1 k1
  have F2 : Fun K "hull" "hull" s2 (fa 2) (fdd 2) := fun_mk (st := s2) l2 c2 k2
  have F3 : Fun K "meet" "meet" s3 (fa 3) (fdd 3) := fun_mk (st := s3) l3 c3 k3
  have F4 : Fun K "inside" "inside" s4 (fa 4) (fdd 4) := fun_mk (st := s4) l4 c4 k4
  have F5 : Fun K "in_words" "in_words" s5 (fa 5) (fdd 5) := fun_mk (st := s5) l5 c5 k5
  have F6 : Fun K "add_ranges" "add_ranges" s6 (fa 6) (fdd 6) := fun_mk (st := s6) l6 c6 k6
  have F7 : Fun K "sub_ranges" "sub_ranges" s7 (fa 7) (fdd 7) := fun_mk (st := s7) l7 c7 k7
  have F8 : Fun K "mul_ranges" "mul_ranges" s8 (fa 8) (fdd 8) := fun_mk (st := s8) l8 c8 k8
  have F9 : Fun K "_law_cell" "_law_cell" s9 (fa 9) (fdd 9) := fun_mk (st := s9) l9 c9 k9
  have F10 : Fun K "_law_end" "_law_end" s10 (fa 10) (fdd 10) := fun_mk (st := s10) l10 c10 k10
  have F11 : Fun K "_law_tuple" "_law_tuple" s11 (fa 11) (fdd 11) := fun_mk (st := s11) l11 c11 k11
  have F12 : Fun K "_law_bool" "_law_bool" s12 (fa 12) (fdd 12) := fun_mk (st := s12) l12 c12 k12
  have F13 : Fun K "_law_cut" "_law_cut" s13 (fa 13) (fdd 13) := fun_mk (st := s13) l13 c13 k13
  have F14 : Fun K "_law_numbers" "_law_numbers" s14 (fa 14) (fdd 14) := fun_mk (st := s14) l14 c14 k14
  have F15 : Fun K "_law_words" "_law_words" s15 (fa 15) (fdd 15) := fun_mk (st := s15) l15 c15 k15
  have F16 : Fun K "_law_sums" "_law_sums" s16 (fa 16) (fdd 16) := fun_mk (st := s16) l16 c16 k16
  have F17 : Fun K "law" "law" s17 (fa 17) (fdd 17) := fun_mk (st := s17) l17 c17 k17
  have B0 : Binds K (fdd 0) (fps 0) [] := F0.binds (ps := fps 0) fun _ _ _ _ _ _ us hl => match us, hl with | [_], _ => rfl
  have B1 : Binds K (fdd 1) (fps 1) [] := F1.binds (ps := fps 1) fun _ _ _ _ _ _ us hl => match us, hl with | [_], _ => rfl
  have B2 : Binds K (fdd 2) (fps 2) [] := F2.binds (ps := fps 2) fun _ _ _ _ _ _ us hl => match us, hl with | [_, _], _ => rfl
  have B3 : Binds K (fdd 3) (fps 3) [] := F3.binds (ps := fps 3) fun _ _ _ _ _ _ us hl => match us, hl with | [_, _], _ => rfl
  have B4 : Binds K (fdd 4) (fps 4) [] := F4.binds (ps := fps 4) fun _ _ _ _ _ _ us hl => match us, hl with | [_, _], _ => rfl
  have B5 : Binds K (fdd 5) (fps 5) [] := F5.binds (ps := fps 5) fun _ _ _ _ _ _ us hl => match us, hl with | [_, _], _ => rfl
  have B6 : Binds K (fdd 6) (fps 6) [] := F6.binds (ps := fps 6) fun _ _ _ _ _ _ us hl => match us, hl with | [_, _], _ => rfl
  have B7 : Binds K (fdd 7) (fps 7) [] := F7.binds (ps := fps 7) fun _ _ _ _ _ _ us hl => match us, hl with | [_, _], _ => rfl
  have B8 : Binds K (fdd 8) (fps 8) [] := F8.binds (ps := fps 8) fun _ _ _ _ _ _ us hl => match us, hl with | [_, _], _ => rfl
  have B9 : Binds K (fdd 9) (fps 9) [] := F9.binds (ps := fps 9) fun _ _ _ _ _ _ us hl => match us, hl with | [_, _], _ => rfl
  have B10 : Binds K (fdd 10) (fps 10) [] := F10.binds (ps := fps 10) fun _ _ _ _ _ _ us hl => match us, hl with | [_], _ => rfl
  have B11 : Binds K (fdd 11) (fps 11) [] := F11.binds (ps := fps 11) fun _ _ _ _ _ _ us hl => match us, hl with | [_, _], _ => rfl
  have B12 : Binds K (fdd 12) (fps 12) [] := F12.binds (ps := fps 12) fun _ _ _ _ _ _ us hl => match us, hl with | [_, _], _ => rfl
  have B13 : Binds K (fdd 13) (fps 13) [] := F13.binds (ps := fps 13) fun _ _ _ _ _ _ us hl => match us, hl with | [_, _], _ => rfl
  have B14 : Binds K (fdd 14) (fps 14) [] := F14.binds (ps := fps 14) fun _ _ _ _ _ _ us hl => match us, hl with | [_, _, _], _ => rfl
  have B15 : Binds K (fdd 15) (fps 15) [] := F15.binds (ps := fps 15) fun _ _ _ _ _ _ us hl => match us, hl with | [_, _, _], _ => rfl
  have B16 : Binds K (fdd 16) (fps 16) [] := F16.binds (ps := fps 16) fun _ _ _ _ _ _ us hl => match us, hl with | [_, _], _ => rfl
  refine ⟨(PySem.W.fnOf "law" "law" (defArgs s17) (defBody s17) (defScope s17) .none kV17 dc17 pm17 an17 cd17 ct17), fun s v => .of_eq rfl, fun base _ _ => ?_⟩
  have r2 : ∃ v, RelV v (.ref g2) ∧ ∀ F, Rep K F v (cds 2) := let ⟨vs, a, b, c⟩ := r2; ⟨.ref g2, rfl, fun F => by
    show Rep K F (.ref g2) (.tup false [.int (-9223372036854775808), .int (9223372036854775807)])
    unfold Rep
    exact ⟨rfl, g2, vs, rfl, .inr ⟨_, gi2, gn2, w2, rfl, rfl, a, b⟩, c F⟩⟩
  have O := all_ok (P := l.prog) (w := w) (K := K) (mg := mg) (base := base) (fa := fa) (fd := fdd) F0 F1 F2 F3 F4 F5 F6 F7 F8 F9 F10 F11 F12 F13 F14 F15 F16 F17 B0 B1 B2 B3 B4 B5 B6 B7 B8 B9 B10 B11 B12 B13 B14 B15 B16 (PySem.W.mg_of X G a0) (PySem.W.mg_of X G a1) (PySem.W.mg_of X G a2) (PySem.W.mg_of X G a3) (PySem.W.mg_of X G a4) (PySem.W.mg_of X G a5) (PySem.W.mg_of X G a6) (PySem.W.mg_of X G a7) (PySem.W.mg_of X G a8) (PySem.W.mg_of X G a9) (PySem.W.mg_of X G a10) (PySem.W.mg_of X G a11) (PySem.W.mg_of X G a12) (PySem.W.mg_of X G a13) (PySem.W.mg_of X G a14) (PySem.W.mg_of X G a15) (PySem.W.mg_of X G a16) ⟨(let ⟨v, p, q⟩ := r0; ⟨u0, v, PySem.W.mg_of X G y0, p, q⟩), ⟨(let ⟨v, p, q⟩ := r1; ⟨u1, v, PySem.W.mg_of X G y1, p, q⟩), ⟨(let ⟨v, p, q⟩ := r2; ⟨.ref g2, v, PySem.W.mg_of X G y2, p, q⟩), ⟨(let ⟨v, p, q⟩ := r3; ⟨u3, v, PySem.W.mg_of X G y3, p, q⟩), True.intro⟩⟩⟩⟩ ⟨PySem.W.mg_none_of X G z_min, ⟨PySem.W.mg_none_of X G z_max, ⟨PySem.W.mg_none_of X G z_len, ⟨PySem.W.mg_none_of X G z_int, ⟨PySem.W.mg_none_of X G z_abs, ⟨PySem.W.mg_none_of X G z_isinstance, ⟨PySem.W.mg_none_of X G z_tuple, ⟨PySem.W.mg_none_of X G z_range, ⟨PySem.W.mg_none_of X G z_bool, ⟨PySem.W.mg_none_of X G z_sorted, True.intro⟩⟩⟩⟩⟩⟩⟩⟩⟩⟩
  exact O.imp (law_imp (C := C17 K mg fa fdd) law_true)
end K86

open PySem PySem.W PyProof.Rows in
set_option maxRecDepth 100000 in
set_option maxHeartbeats 0 in
theorem PySem.Challenge.cw_beatsbounded_k86_words_and_ranges_holds : PySem.Challenge.rw_beatsbounded_k86_words_and_ranges.Holds := by
  w_on; o_law; k_head; (case hw => w_witness2)
  k_fill
  refine DS.law_walk (k := 18) (x := "script") (l := PySem.Challenge.rw_beatsbounded_k86_words_and_ranges) rfl rfl ⟨rfl, by decide, by decide⟩ (fun w h Y => PySem.W.kIn_of Y) ?F
  case F =>
    intro w mg fa h KX G hmg
    refine' K86.all_mk KX G hmg ?a0 ?l0 ?c0 ?k0 ?a1 ?l1 ?c1 ?k1 ?a2 ?l2 ?c2 ?k2 ?a3 ?l3 ?c3 ?k3 ?a4 ?l4 ?c4 ?k4 ?a5 ?l5 ?c5 ?k5 ?a6 ?l6 ?c6 ?k6 ?a7 ?l7 ?c7 ?k7 ?a8 ?l8 ?c8 ?k8 ?a9 ?l9 ?c9 ?k9 ?a10 ?l10 ?c10 ?k10 ?a11 ?l11 ?c11 ?k11 ?a12 ?l12 ?c12 ?k12 ?a13 ?l13 ?c13 ?k13 ?a14 ?l14 ?c14 ?k14 ?a15 ?l15 ?c15 ?k15 ?a16 ?l16 ?c16 ?k16 ?a17 ?l17 ?c17 ?k17 ?y0 ?r0 ?y1 ?r1 ?y2 ?w2 ?r2 ?y3 ?r3 ?z_min ?z_max ?z_len ?z_int ?z_abs ?z_isinstance ?z_tuple ?z_range ?z_bool ?z_sorted
    (case a0 => k_is)
    (case l0 => k_is)
    (case c0 => k_is)
    (case k0 => k_is)
    (case a1 => k_is)
    (case l1 => k_is)
    (case c1 => k_is)
    (case k1 => k_is)
    (case a2 => k_is)
    (case l2 => k_is)
    (case c2 => k_is)
    (case k2 => k_is)
    (case a3 => k_is)
    (case l3 => k_is)
    (case c3 => k_is)
    (case k3 => k_is)
    (case a4 => k_is)
    (case l4 => k_is)
    (case c4 => k_is)
    (case k4 => k_is)
    (case a5 => k_is)
    (case l5 => k_is)
    (case c5 => k_is)
    (case k5 => k_is)
    (case a6 => k_is)
    (case l6 => k_is)
    (case c6 => k_is)
    (case k6 => k_is)
    (case a7 => k_is)
    (case l7 => k_is)
    (case c7 => k_is)
    (case k7 => k_is)
    (case a8 => k_is)
    (case l8 => k_is)
    (case c8 => k_is)
    (case k8 => k_is)
    (case a9 => k_is)
    (case l9 => k_is)
    (case c9 => k_is)
    (case k9 => k_is)
    (case a10 => k_is)
    (case l10 => k_is)
    (case c10 => k_is)
    (case k10 => k_is)
    (case a11 => k_is)
    (case l11 => k_is)
    (case c11 => k_is)
    (case k11 => k_is)
    (case a12 => k_is)
    (case l12 => k_is)
    (case c12 => k_is)
    (case k12 => k_is)
    (case a13 => k_is)
    (case l13 => k_is)
    (case c13 => k_is)
    (case k13 => k_is)
    (case a14 => k_is)
    (case l14 => k_is)
    (case c14 => k_is)
    (case k14 => k_is)
    (case a15 => k_is)
    (case l15 => k_is)
    (case c15 => k_is)
    (case k15 => k_is)
    (case a16 => k_is)
    (case l16 => k_is)
    (case c16 => k_is)
    (case k16 => k_is)
    (case a17 => k_is)
    (case l17 => k_is)
    (case c17 => k_is)
    (case k17 => k_is)
    (case y0 => k_is)
    (case y1 => k_is)
    (case y2 => k_is)
    (case w2 => k_is)
    (case y3 => k_is)
    (case z_min => k_is)
    (case z_max => k_is)
    (case z_len => k_is)
    (case z_int => k_is)
    (case z_abs => k_is)
    (case z_isinstance => k_is)
    (case z_tuple => k_is)
    (case z_range => k_is)
    (case z_bool => k_is)
    (case z_sorted => k_is)
    (case r0 => exact ⟨.int (-9223372036854775808), ⟨_, rfl⟩, fun F => by show DS.Rep _ F _ (.int (-9223372036854775808)); unfold DS.Rep; rfl⟩)
    (case r1 => exact ⟨.int (9223372036854775807), ⟨_, rfl⟩, fun F => by show DS.Rep _ F _ (.int (9223372036854775807)); unfold DS.Rep; rfl⟩)
    (case r2 => exact ⟨[.int (-9223372036854775808), .int (9223372036854775807)], by decide, (.cons ⟨_, rfl⟩ (.cons ⟨_, rfl⟩ .nil)), fun F => (by unfold DS.RepL; exact ⟨_, _, rfl, (by unfold DS.Rep; rfl), (by unfold DS.RepL; exact ⟨_, _, rfl, (by unfold DS.Rep; rfl), (by unfold DS.RepL; rfl)⟩)⟩)⟩)
    (case r3 => exact ⟨.int (18446744073709551616), ⟨_, rfl⟩, fun F => by show DS.Rep _ F _ (.int (18446744073709551616)); unfold DS.Rep; rfl⟩)
#print axioms PySem.Challenge.cw_beatsbounded_k86_words_and_ranges_holds

