import PyProof.Rows.All
import Wide.All
import OpenK.AllK
import Wide.FinOn
import PyProof.EqAt
import PyProof.EqKinds
import PyProof.TupleCall
import HandS.Base
import HandS.Call
import HandS.List
import HandS.Comp
import HandS.Ends
import HandS.Words
import HandS.WordsList
import HandS.Iter
import HandS.IsInst
import HandS.Deep
import HandS.Flow
import HandS.Text
import HandS.Defaults
import HandS.HeadHook1
import HandS.HeadHook2
import HandS.Head0
import HandS.Head1
import HandS.Head2
import HandS.HeadEnd
import PySem.Challenge.RW_quietedits_k02_trees_told_apart
set_option Elab.async false
set_option linter.all false
set_option maxRecDepth 100000
set_option maxHeartbeats 4000000
/-! Qe: a small separation logic over the hand layer: persistent facts, owned lists, data. -/
namespace Qe
open PySem PySem.Spec PyProof.Rows L2

/-- a fact that stays -/
structure Fc where
  P : Hp -> Prop
  mono : ∀ G G', Same G G' -> P G -> P G'
/-- an owned object -/
structure Sx where
  a : Addr
  P : Hp -> HO -> Prop
  mono : ∀ G G' o, Same G G' -> P G o -> P G' o
def Facts (F : List Fc) (G : Hp) : Prop := ∀ f ∈ F, f.P G
theorem Facts.mono {F : List Fc} {G G' : Hp} (e : Same G G') (h : Facts F G) : Facts F G' := fun f hf => f.mono _ _ e (h f hf)
/-- the state: G the part that stays -/
structure S (F : List Fc) (m : List Sx) (H : Hp) : Prop where
  ex : ∃ G, Same G H ∧ Facts F G ∧ (∀ x ∈ m, G x.a = none ∧ ∃ o, H x.a = some o ∧ x.P G o) ∧ (m.map Sx.a).Nodup

theorem same_new {H : Hp} {p : Addr} {o : HO} (h : H p = none) : Same H (upd H p o) := fun a u e => by
  rw [upd_ne (ne_of_none e h)]; exact e
theorem same_free {G H : Hp} {p : Addr} (e : Same G H) (h : H p = none) : G p = none := e.free h

section
variable {F F' : List Fc} {m m' : List Sx} {H : Hp} {p : Addr} {o : HO}
theorem S.facts (h : S F m H) : Facts F H := by
  obtain ⟨G, e, f, _, _⟩ := h.ex
  exact f.mono e
/-- facts dropped, made anew from those that are there -/
theorem S.imp (h : S F m H) (hf : ∀ G, Facts F G -> Facts F' G) : S F' m H := by
  obtain ⟨G, e, f, own, nd⟩ := h.ex
  exact ⟨G, e, hf G f, own, nd⟩
theorem S.add (h : S F m H) {f : Fc} (hf : ∀ G, Facts F G -> f.P G) : S (f :: F) m H := h.imp fun G q g hg => by
  cases hg with
  | head => exact hf G q
  | tail _ hg => exact q g hg
theorem S.pop {f : Fc} (h : S (f :: F) m H) : S F m H := h.imp fun _ q g hg => q g (.tail _ hg)
theorem S.sub (h : S F m H) (hs : m'.Sublist m) : S F m' H := by
  obtain ⟨G, e, f, own, nd⟩ := h.ex
  exact ⟨G, e, f, fun x hx => own x (hs.subset hx), (hs.map Sx.a).nodup nd⟩
theorem S.swap {x y : Sx} (h : S F (x :: y :: m) H) : S F (y :: x :: m) H := by
  obtain ⟨G, e, f, own, nd⟩ := h.ex
  refine ⟨G, e, f, fun z hz => own z ?_, ?_⟩
  · cases hz with
    | head => exact .tail _ (.head _)
    | tail _ hz => cases hz with
      | head => exact .head _
      | tail _ hz => exact .tail _ (.tail _ hz)
  · simp only [List.map_cons, List.nodup_cons, List.mem_cons, not_or] at nd ⊢
    exact ⟨⟨fun q => nd.1.1 q.symm, nd.2.1⟩, nd.1.2, nd.2.2⟩
/-- a new object, owned -/
theorem S.put (h : S F m H) (hp : H p = none) (x : Sx) (hx : x.a = p) (ho : ∀ G, Facts F G -> x.P G o) : S F (x :: m) (upd H p o) := by
  obtain ⟨G, e, f, own, nd⟩ := h.ex
  have gp : G p = none := e.free hp
  have ne : ∀ y ∈ m, y.a ≠ p := fun y hy => by
    obtain ⟨_, u, q, _⟩ := own y hy
    exact ne_of_none q hp
  refine ⟨G, e.trans (same_new hp), f, fun y hy => ?_, ?_⟩
  · cases hy with
    | head => exact ⟨by rw [hx]; exact gp, o, by rw [hx]; exact upd_same, ho G f⟩
    | tail _ hy =>
      obtain ⟨g, u, q, r⟩ := own y hy
      exact ⟨g, u, by rw [upd_ne (ne y hy)]; exact q, r⟩
  · rw [List.map_cons, List.nodup_cons]
    refine ⟨fun hm => ?_, nd⟩
    obtain ⟨y, hy, q⟩ := List.mem_map.mp hm
    exact ne y hy (q.trans hx)
/-- a new object that stays, with what it tells -/
theorem S.putF (h : S F m H) (hp : H p = none) (f : Fc) (ho : ∀ G, Facts F G -> G p = some o -> f.P G) : S (f :: F) m (upd H p o) := by
  obtain ⟨G, e, fs, own, nd⟩ := h.ex
  have gp : G p = none := e.free hp
  have ne : ∀ y ∈ m, y.a ≠ p := fun y hy => by
    obtain ⟨_, u, q, _⟩ := own y hy
    exact ne_of_none q hp
  have f' : Facts F (upd G p o) := fs.mono (same_new gp)
  refine ⟨upd G p o, fun b u q => ?_, fun g hg => ?_, fun y hy => ?_, nd⟩
  · by_cases hb : b = p
    · subst hb
      rw [upd_same] at q ⊢
      exact q
    · rw [upd_ne hb] at q ⊢
      exact e b u q
  · cases hg with
    | head => exact ho _ f' upd_same
    | tail _ hg => exact f' g hg
  · obtain ⟨g, u, q, r⟩ := own y hy
    exact ⟨by rw [upd_ne (ne y hy)]; exact g, u, by rw [upd_ne (ne y hy)]; exact q, y.mono _ _ _ (same_new gp) r⟩
/-- .. told by the part that stays, as it is now -/
theorem putG {G : Hp} (e : Same G H) (fs : Facts F G) (own : ∀ x ∈ m, G x.a = none ∧ ∃ o, H x.a = some o ∧ x.P G o) (nd : (m.map Sx.a).Nodup) (hp : H p = none) (f : Fc) (ho : ∀ G', Same G G' -> G' p = some o -> f.P G') : S (f :: F) m (upd H p o) := by
  have gp : G p = none := e.free hp
  have ne : ∀ y ∈ m, y.a ≠ p := fun y hy => by
    obtain ⟨_, u, q, _⟩ := own y hy
    exact ne_of_none q hp
  have f' : Facts F (upd G p o) := fs.mono (same_new gp)
  refine ⟨upd G p o, fun b u q => ?_, fun g hg => ?_, fun y hy => ?_, nd⟩
  · by_cases hb : b = p
    · subst hb
      rw [upd_same] at q ⊢
      exact q
    · rw [upd_ne hb] at q ⊢
      exact e b u q
  · cases hg with
    | head => exact ho _ (same_new gp) upd_same
    | tail _ hg => exact f' g hg
  · obtain ⟨g, u, q, r⟩ := own y hy
    exact ⟨by rw [upd_ne (ne y hy)]; exact g, u, by rw [upd_ne (ne y hy)]; exact q, y.mono _ _ _ (same_new gp) r⟩
theorem putO {G : Hp} (e : Same G H) (fs : Facts F G) (own : ∀ x ∈ m, G x.a = none ∧ ∃ o, H x.a = some o ∧ x.P G o) (nd : (m.map Sx.a).Nodup) (hp : H p = none) (x : Sx) (hx : x.a = p) (ho : x.P G o) : S F (x :: m) (upd H p o) := by
  have gp : G p = none := e.free hp
  have ne : ∀ y ∈ m, y.a ≠ p := fun y hy => by
    obtain ⟨_, u, q, _⟩ := own y hy
    exact ne_of_none q hp
  refine ⟨G, e.trans (same_new hp), fs, fun y hy => ?_, ?_⟩
  · cases hy with
    | head => exact ⟨by rw [hx]; exact gp, o, by rw [hx]; exact upd_same, ho⟩
    | tail _ hy =>
      obtain ⟨g, u, q, r⟩ := own y hy
      exact ⟨g, u, by rw [upd_ne (ne y hy)]; exact q, r⟩
  · rw [List.map_cons, List.nodup_cons]
    refine ⟨fun hm => ?_, nd⟩
    obtain ⟨y, hy, q⟩ := List.mem_map.mp hm
    exact ne y hy (q.trans hx)
/-- an owned object is given up: it stays as it is -/
theorem S.frz {x : Sx} (h : S F (x :: m) H) (f : Fc) (ho : ∀ G o, Facts F G -> x.P G o -> G x.a = some o -> f.P G) : S (f :: F) m H := by
  obtain ⟨G, e, fs, own, nd⟩ := h.ex
  obtain ⟨gx, o, hx, px⟩ := own x (.head _)
  have s1 : Same G (upd G x.a o) := same_new gx
  have f' := fs.mono s1
  rw [List.map_cons, List.nodup_cons] at nd
  refine ⟨upd G x.a o, fun b u q => ?_, fun g hg => ?_, fun y hy => ?_, nd.2⟩
  · by_cases hb : b = x.a
    · subst hb
      rw [upd_same] at q
      rw [← q]
      exact hx
    · rw [upd_ne hb] at q
      exact e b u q
  · cases hg with
    | head => exact ho _ o f' (x.mono _ _ _ s1 px) upd_same
    | tail _ hg => exact f' g hg
  · obtain ⟨g, u, q, r⟩ := own y (.tail _ hy)
    have ne : y.a ≠ x.a := fun z => nd.1 (List.mem_map.mpr ⟨y, hy, z⟩)
    exact ⟨by rw [upd_ne ne]; exact g, u, q, y.mono _ _ _ s1 r⟩
/-- an owned object: what stands there -/
theorem S.at0 {x : Sx} (h : S F (x :: m) H) : ∃ G o, Same G H ∧ Facts F G ∧ H x.a = some o ∧ x.P G o := by
  obtain ⟨G, e, fs, own, nd⟩ := h.ex
  obtain ⟨_, o, hx, px⟩ := own x (.head _)
  exact ⟨G, o, e, fs, hx, px⟩
/-- .. is written -/
theorem S.set0 {x y : Sx} {o' : HO} (h : S F (x :: m) H) (ha : y.a = x.a) (ho : ∀ G o, Facts F G -> H x.a = some o -> x.P G o -> y.P G o') : S F (y :: m) (upd H x.a o') := by
  obtain ⟨G, e, fs, own, nd⟩ := h.ex
  obtain ⟨gx, o, hx, px⟩ := own x (.head _)
  rw [List.map_cons, List.nodup_cons] at nd
  refine ⟨G, fun b u q => ?_, fs, fun z hz => ?_, ?_⟩
  · have ne : b ≠ x.a := ne_of_none q gx
    rw [upd_ne ne]
    exact e b u q
  · cases hz with
    | head => exact ⟨by rw [ha]; exact gx, o', by rw [ha]; exact upd_same, ho G o fs hx px⟩
    | tail _ hz =>
      obtain ⟨g, u, q, r⟩ := own z (.tail _ hz)
      have ne : z.a ≠ x.a := fun w => nd.1 (List.mem_map.mpr ⟨z, hz, w⟩)
      exact ⟨g, u, by rw [upd_ne ne]; exact q, r⟩
  · rw [List.map_cons, List.nodup_cons, ha]
    exact nd
end

/-! ### data -/
theorem same_rd {G H : Hp} {a : Addr} {u : HO} (e : Same G H) (h : Rd G a u) : Rd H a u := by
  rcases h with h | ⟨o, h⟩
  · exact .inl (e a _ h)
  · exact .inr ⟨o, e a _ h⟩
theorem same_t {K : PySem.W.Frag} {G H : Hp} {a : Addr} {xs : List V} (e : Same G H) (h : SqT K G a xs) : SqT K H a xs := by
  rcases h with h | h
  · exact .inl (same_rd e h)
  · exact .inr h
mutual
theorem dp_mono {K : PySem.W.Frag} {G H : Hp} (e : Same G H) : ∀ (d : PyData) (v : V), Dp K G v d -> Dp K H v d
  | .none, _, h => by cases h; exact .non
  | .bool b, _, h => by cases h; exact .bl b
  | .int i, _, h => by cases h; exact .int i
  | .str x, _, h => by cases h; exact .str x
  | .list ds, _, h => by
    cases h with
    | lst hs ha => exact .lst (e.seq hs) (dps_mono e ds _ ha)
  | .tuple ds, _, h => by
    cases h with
    | tup hs ha => exact .tup (same_t e hs) (dps_mono e ds _ ha)
  | .dict _, _, h => by cases h
theorem dps_mono {K : PySem.W.Frag} {G H : Hp} (e : Same G H) : ∀ (ds : List PyData) (vs : List V), DpAll K G vs ds -> DpAll K H vs ds
  | [], _, h => by cases h; exact .nil
  | d :: ds, _, h => by
    cases h with
    | cons h1 h2 => exact .cons (dp_mono e d _ h1) (dps_mono e ds _ h2)
end
def dat (K : PySem.W.Frag) (v : V) (d : PyData) : Fc := ⟨fun G => Dp K G v d, fun _ _ e h => dp_mono e d v h⟩
def dats (K : PySem.W.Frag) (vs : List V) (ds : List PyData) : Fc := ⟨fun G => DpAll K G vs ds, fun _ _ e h => dps_mono e ds vs h⟩
/-- an owned list of data -/
def Ls (K : PySem.W.Frag) (l : Addr) (ds : List PyData) : Sx := ⟨l, fun G o => ∃ vs, o = .lst vs ∧ DpAll K G vs ds, fun _ _ _ e ⟨vs, h1, h2⟩ => ⟨vs, h1, dps_mono e ds vs h2⟩⟩
/-- an owned object as it is -/
def Raw (a : Addr) (o : HO) : Sx := ⟨a, fun _ u => u = o, fun _ _ _ _ h => h⟩
def Has (K : PySem.W.Frag) (F : List Fc) (v : V) (d : PyData) : Prop := ∀ G, Facts F G -> Dp K G v d
def HasA (K : PySem.W.Frag) (F : List Fc) (vs : List V) (ds : List PyData) : Prop := ∀ G, Facts F G -> DpAll K G vs ds
theorem _root_.L2.DpAll.len {K : PySem.W.Frag} {G : Hp} : ∀ {ds : List PyData} {vs : List V}, DpAll K G vs ds -> vs.length = ds.length
  | [], _, h => by cases h; rfl
  | d :: ds, _, h => by
    cases h with
    | cons h1 h2 => rw [List.length_cons, List.length_cons, L2.DpAll.len h2]
theorem _root_.L2.DpAll.get {K : PySem.W.Frag} {G : Hp} : ∀ {ds : List PyData} {vs : List V} {i : Nat} {d : PyData}, DpAll K G vs ds -> ds[i]? = some d -> ∃ v, vs[i]? = some v ∧ Dp K G v d
  | [], _, i, d, h, e => by simp at e
  | d :: ds, _, 0, _, h, e => by
    cases h with
    | cons h1 h2 =>
      simp only [List.getElem?_cons_zero, Option.some.injEq] at e
      subst e
      exact ⟨_, rfl, h1⟩
  | d :: ds, _, i + 1, _, h, e => by
    cases h with
    | cons h1 h2 =>
      obtain ⟨v, e1, e2⟩ := L2.DpAll.get h2 (i := i) (by simpa using e)
      exact ⟨v, by simpa using e1, e2⟩
theorem _root_.L2.DpAll.getV {K : PySem.W.Frag} {G : Hp} {ds : List PyData} {vs : List V} {i : Nat} {v : V} (h : DpAll K G vs ds) (e : vs[i]? = some v) : ∃ d, ds[i]? = some d ∧ Dp K G v d := by
  have hi : i < ds.length := by
    rw [← h.len]
    exact (List.getElem?_eq_some_iff.mp e).1
  obtain ⟨w, e1, e2⟩ := h.get (List.getElem?_eq_getElem hi)
  rw [e] at e1
  cases e1
  exact ⟨_, List.getElem?_eq_getElem hi, e2⟩
theorem _root_.L2.DpAll.app {K : PySem.W.Frag} {G : Hp} : ∀ {ds es : List PyData} {vs ws : List V}, DpAll K G vs ds -> DpAll K G ws es -> DpAll K G (vs ++ ws) (ds ++ es)
  | [], _, _, _, h, q => by cases h; exact q
  | d :: ds, _, _, _, h, q => by
    cases h with
    | cons h1 h2 => exact .cons h1 (L2.DpAll.app h2 q)
theorem _root_.L2.DpAll.set {K : PySem.W.Frag} {G : Hp} {v : V} {d : PyData} (q : Dp K G v d) : ∀ {ds : List PyData} {vs : List V} (i : Nat), DpAll K G vs ds -> DpAll K G (vs.set i v) (ds.set i d)
  | [], _, _, h => by cases h; exact .nil
  | _ :: _, _, 0, h => by
    cases h with
    | cons h1 h2 => exact .cons q h2
  | _ :: _, _, i + 1, h => by
    cases h with
    | cons h1 h2 => exact .cons h1 (L2.DpAll.set q i h2)
theorem _root_.L2.DpAll.take {K : PySem.W.Frag} {G : Hp} : ∀ {ds : List PyData} {vs : List V} (n : Nat), DpAll K G vs ds -> DpAll K G (vs.take n) (ds.take n)
  | _, _, 0, _ => .nil
  | [], _, n + 1, h => by cases h; exact .nil
  | _ :: _, _, n + 1, h => by
    cases h with
    | cons h1 h2 => exact .cons h1 (L2.DpAll.take n h2)
theorem _root_.L2.DpAll.drop {K : PySem.W.Frag} {G : Hp} : ∀ {ds : List PyData} {vs : List V} (n : Nat), DpAll K G vs ds -> DpAll K G (vs.drop n) (ds.drop n)
  | _, _, 0, h => h
  | [], _, n + 1, h => by cases h; exact .nil
  | _ :: _, _, n + 1, h => by
    cases h with
    | cons h1 h2 => exact L2.DpAll.drop n h2
theorem _root_.L2.DpAll.rev {K : PySem.W.Frag} {G : Hp} : ∀ {ds : List PyData} {vs : List V}, DpAll K G vs ds -> DpAll K G vs.reverse ds.reverse
  | [], _, h => by cases h; exact .nil
  | d :: ds, _, h => by
    cases h with
    | cons h1 h2 =>
      rw [List.reverse_cons, List.reverse_cons]
      exact (L2.DpAll.rev h2).app (.cons h1 .nil)
theorem _root_.L2.DpAll.ints {K : PySem.W.Frag} {G : Hp} : ∀ {ns : List Int} {vs : List V}, DpAll K G vs (ns.map PyData.int) -> vs = ns.map V.int
  | [], _, h => by cases h; rfl
  | n :: ns, _, h => by
    cases h with
    | cons h1 h2 =>
      cases h1
      rw [L2.DpAll.ints h2] <;> rfl

section
variable {K : PySem.W.Frag} {F : List Fc} {f : Fc} {m : List Sx} {H : Hp} {v : V} {d : PyData} {ds : List PyData} {vs : List V}
theorem Has.here : Has K (dat K v d :: F) v d := fun _ h => h _ (.head _)
theorem Has.there (h : Has K F v d) : Has K (f :: F) v d := fun G q => h G fun g hg => q g (.tail _ hg)
theorem Has.non : Has K F .non .none := fun _ _ => .non
theorem Has.bl {b : Bool} : Has K F (.bl b) (.bool b) := fun _ _ => .bl b
theorem Has.int {i : Int} : Has K F (.int i) (.int i) := fun _ _ => .int i
theorem Has.str {x : Str} : Has K F (.str x) (.str x) := fun _ _ => .str x
theorem HasA.nil : HasA K F [] [] := fun _ _ => .nil
theorem HasA.cons (h : Has K F v d) (t : HasA K F vs ds) : HasA K F (v :: vs) (d :: ds) := fun G q => .cons (h G q) (t G q)
theorem HasA.here : HasA K (dats K vs ds :: F) vs ds := fun _ h => h _ (.head _)
theorem HasA.there (h : HasA K F vs ds) : HasA K (f :: F) vs ds := fun G q => h G fun g hg => q g (.tail _ hg)
theorem S.dp (h : S F m H) (q : Has K F v d) : Dp K H v d := q H h.facts
theorem S.addD (h : S F m H) (q : Has K F v d) : S (dat K v d :: F) m H := h.add q
theorem popInt {i : Int} (h : S (dat K v (.int i) :: F) m H) : v = .int i ∧ S F m H := by
  have q : Dp K H v (.int i) := h.dp Has.here
  cases q
  exact ⟨rfl, h.pop⟩
theorem popStr {x : Str} (h : S (dat K v (.str x) :: F) m H) : v = .str x ∧ S F m H := by
  have q : Dp K H v (.str x) := h.dp Has.here
  cases q
  exact ⟨rfl, h.pop⟩
theorem popBl {b : Bool} (h : S (dat K v (.bool b) :: F) m H) : v = .bl b ∧ S F m H := by
  have q : Dp K H v (.bool b) := h.dp Has.here
  cases q
  exact ⟨rfl, h.pop⟩
theorem popNon (h : S (dat K v .none :: F) m H) : v = .non ∧ S F m H := by
  have q : Dp K H v .none := h.dp Has.here
  cases q
  exact ⟨rfl, h.pop⟩
end
end Qe

namespace Qe
section
open PySem PySem.AutoSeq1
/-! ### a list is extended by a tuple -/
theorem list_extend_tuple (l : Addr) (items : Array Value) (n : Nat) (b : Addr) (items2 : Array Value) (n2 : Nat) (dd : Option Addr) (sl : Array (Option Value)) (hs0 : ¬(!items.isEmpty && Builtin.List.listTooLong (items.size + items2.size)) = true) (hs1 : items.size ≤ sizeLine) (hs2 : items.size + items2.size ≤ sizeLine + 1) :
    Meets (Builtin.«list.extend» ⟨[.ref l, .ref b], []⟩) (fun _ R s => s.heap.get? l = some { cls := .type "list", dict := none, data := .seq items n, slots := #[] } ∧ s.heap.get? b = some { cls := .type "tuple", dict := dd, data := .seq items2 n2, slots := sl } ∧ R (.ok (.ret Value.none)) { s with heap := s.heap.update l (Obj.mapSeq fun x => x ++ items2), toks := s.toks }) :=
  .of_wp fun prog w A R s h => by
    obtain ⟨hp, g, d, tk, os⟩ := s; obtain ⟨hl, hb, h⟩ := h; have f1 := idx_int; have f2 := sub_tuple_tuple; have f3 := sub_list_list; have f4 := sub_tuple_list; have f5 := sub_list_tuple;
    have hz' : (items ++ items2).size ≤ sizeLine + 1 := by rw [Array.size_append]; exact hs2
    wp_walk using (wpAny_updateSeq hl rfl (hz := hs1) (_hz' := hz')), wpAny_loadPart' hl, wpAny_loadPart' hb; exact ⟨_, rfl, h⟩
theorem list_extend_list (l : Addr) (items : Array Value) (n : Nat) (b : Addr) (items2 : Array Value) (n2 : Nat) (sl : Array (Option Value)) (hs0 : ¬(!items.isEmpty && Builtin.List.listTooLong (items.size + items2.size)) = true) (hs1 : items.size ≤ sizeLine) (hs2 : items.size + items2.size ≤ sizeLine + 1) :
    Meets (Builtin.«list.extend» ⟨[.ref l, .ref b], []⟩) (fun _ R s => s.heap.get? l = some { cls := .type "list", dict := none, data := .seq items n, slots := #[] } ∧ s.heap.get? b = some { cls := .type "list", dict := none, data := .seq items2 n2, slots := sl } ∧ R (.ok (.ret Value.none)) { s with heap := s.heap.update l (Obj.mapSeq fun x => x ++ items2), toks := s.toks }) :=
  .of_wp fun prog w A R s h => by
    obtain ⟨hp, g, d, tk, os⟩ := s; obtain ⟨hl, hb, h⟩ := h; have f1 := idx_int; have f2 := sub_tuple_tuple; have f3 := sub_list_list; have f4 := sub_tuple_list; have f5 := sub_list_tuple;
    have hz' : (items ++ items2).size ≤ sizeLine + 1 := by rw [Array.size_append]; exact hs2
    wp_walk using (wpAny_updateSeq hl rfl (hz := hs1) (_hz' := hz')), wpAny_loadPart' hl, wpAny_loadPart' hb; exact ⟨_, rfl, h⟩
end
end Qe
namespace Qe
open PySem PySem.Spec PyProof.Rows L2

/-- xs.extend(ys), ys a list or a tuple -/
def rExt (K : PySem.W.Frag) : V → List V → Hp → VK → Prop := fun x vs H Q => ∃ l b xs zs, x = .ref l ∧ vs = [.ref b] ∧ H l = some (.lst xs) ∧ (SqT K H b zs ∨ SqL K H b zs) ∧ xs.length + zs.length ≤ sizeLine ∧ Q .non (upd H l (.lst (xs ++ zs)))
theorem mt_ext {X : Cx} : MtM X "list.extend" (rExt X.K) := by
  intro pins s σ H x vs v us Q I rx rv h
  obtain ⟨l, b, xs, zs, rfl, rfl, hH, hB, hz, q⟩ := h
  cases rx
  obtain ⟨u, rfl, ru⟩ := rv.one
  cases ru
  obtain ⟨z, its, n, r, hl, e⟩ := I.lstM hH
  rcases hB with hB | hB
  · obtain ⟨its2, r2, ⟨o2, h1, h2, n2, h3⟩, hl2⟩ := I.tuple hB
    obtain ⟨c2, d2, t2, s2⟩ := o2
    simp only at h2 h3
    subst h2 h3
    have q1 := r.length
    have q2 := r2.length
    have hsz : its.toArray.size + its2.toArray.size ≤ sizeLine := by rw [List.size_toArray, List.size_toArray]; omega
    have hlong : ¬ (!its.toArray.isEmpty && Builtin.List.listTooLong (its.toArray.size + its2.toArray.size)) = true := by
      rw [notLongL hsz, Bool.and_false]
      exact Bool.false_ne_true
    refine call_meets F.slot_list_extend ⟨_, e, rfl⟩ F.entry_list_extend (F.args_list_extend_2 _ _)
      (list_extend_tuple l its.toArray n b its2.toArray n2 d2 s2 hlong (by rw [List.size_toArray]; omega) (by omega)) ⟨e, h1, ?_⟩
    refine ⟨.non, _, I.lset (its' := its ++ its2) hH e (by simp) (r.append r2) ?_, rfl, q⟩
    rw [List.length_append]
    omega
  · obtain ⟨its2, r2, ⟨o2, n2, h1, h2, h4, h3⟩, hl2⟩ := I.list hB
    obtain ⟨c2, d2, t2, s2⟩ := o2
    simp only at h2 h3 h4
    subst h2 h3 h4
    have q1 := r.length
    have q2 := r2.length
    have hsz : its.toArray.size + its2.toArray.size ≤ sizeLine := by rw [List.size_toArray, List.size_toArray]; omega
    have hlong : ¬ (!its.toArray.isEmpty && Builtin.List.listTooLong (its.toArray.size + its2.toArray.size)) = true := by
      rw [notLongL hsz, Bool.and_false]
      exact Bool.false_ne_true
    refine call_meets F.slot_list_extend ⟨_, e, rfl⟩ F.entry_list_extend (F.args_list_extend_2 _ _)
      (list_extend_list l its.toArray n b its2.toArray n2 s2 hlong (by rw [List.size_toArray]; omega) (by omega)) ⟨e, h1, ?_⟩
    refine ⟨.non, _, I.lset (its' := its ++ its2) hH e (by simp) (r.append r2) ?_, rfl, q⟩
    rw [List.length_append]
    omega
/-! ### in, for lists and tuples of data at any depth -/
def rInU (K : PySem.W.Frag) (neg : Bool) : R2 := fun x y H Q => ∃ d ds, Dp K H x d ∧ (Dp K H y (.list ds) ∨ Dp K H y (.tuple ds)) ∧ SeqAt.shaped d = true ∧ PyData.canLayAll0 ds = true ∧ Q (.bl (if neg then !(ds.any fun z => PyData.eqv z d) else ds.any fun z => PyData.eqv z d)) H
theorem op_inU {X : Cx} (hu : X.A.units + 65 < cLine) : OpR X (compareOp .In) (rInU X.K false) := by
  intro pins s σ H x y v u Q I rx ry h
  obtain ⟨d, ds, hd, he, sd, se, q⟩ := h
  obtain ⟨as, r1⟩ := Dp.reads I d x v hd rx
  rcases he with he | he
  · obtain ⟨bs, r2⟩ := Dp.reads I (.list ds) y u he ry
    exact SeqAt.in_list_reads r2 r1 se (SeqAt.canLay_of_shaped sd) (room_in_shaped sd hu) ⟨.bl _, H, I, rfl, q⟩
  · obtain ⟨bs, r2⟩ := Dp.reads I (.tuple ds) y u he ry
    exact SeqAt.in_tuple_reads r2 r1 se (SeqAt.canLay_of_shaped sd) (room_in_shaped sd hu) ⟨.bl _, H, I, rfl, q⟩
theorem op_niU {X : Cx} (hu : X.A.units + 65 < cLine) : OpR X (compareOp .NotIn) (rInU X.K true) := by
  intro pins s σ H x y v u Q I rx ry h
  obtain ⟨d, ds, hd, he, sd, se, q⟩ := h
  obtain ⟨as, r1⟩ := Dp.reads I d x v hd rx
  rcases he with he | he
  · obtain ⟨bs, r2⟩ := Dp.reads I (.list ds) y u he ry
    exact SeqAt.notIn_list_reads r2 r1 se (SeqAt.canLay_of_shaped sd) (room_in_shaped sd hu) ⟨.bl _, H, I, rfl, q⟩
  · obtain ⟨bs, r2⟩ := Dp.reads I (.tuple ds) y u he ry
    exact SeqAt.notIn_tuple_reads r2 r1 se (SeqAt.canLay_of_shaped sd) (room_in_shaped sd hu) ⟨.bl _, H, I, rfl, q⟩
end Qe

namespace Qe
open PySem PySem.Spec PyProof.Rows L2

/-! ### named readings of what the layer leaves as bare functions -/
def rIsN : R2 := fun x y H Q => y = .non ∧ Q (.bl (decide (x = .non))) H
def rNotN : R2 := fun x y H Q => y = .non ∧ Q (.bl (!decide (x = .non))) H
theorem op_isNq {X : Cx} : OpR X (compareOp .Is) rIsN := op_isN
theorem op_notNq {X : Cx} : OpR X (compareOp .IsNot) rNotN := op_notN
def rLenU (K : PySem.W.Frag) : List V → Hp → VK → Prop := fun xs H Q => ∃ x n, xs = [x] ∧ LenV K x H n ∧ Q (.int n) H
theorem cb_len {X : Cx} : CallR X (.builtin "len") (rLenU X.K) := call_len
def rInt : List V → Hp → VK → Prop := fun xs H Q => (∃ i, xs = [.int i] ∧ Q (.int i) H) ∨ ∃ k, xs = [.bl k] ∧ Q (.int (if k then 1 else 0)) H
theorem cb_int {X : Cx} : CallR X (.type "int") rInt := call_int1
def rList (K : PySem.W.Frag) : List V → Hp → VK → Prop := fun xs H Q => ∃ p ys, xs = [.ref p] ∧ (SqL K H p ys ∨ SqT K H p ys) ∧ ∀ l, H l = none → Q (.ref l) (upd H l (.lst ys))
theorem cb_list {X : Cx} : CallR X (.type "list") (rList X.K) := call_list_of
def rTuple (K : PySem.W.Frag) : List V → Hp → VK → Prop := fun xs H Q => ∃ p ys, xs = [.ref p] ∧ ((SqL K H p ys ∧ ∀ l, H l = none → Q (.ref l) (upd H l (.tup ys))) ∨ (SqT K H p ys ∧ Q (.ref p) H))
theorem cb_tuple {X : Cx} : CallR X (.type "tuple") (rTuple X.K) := call_tuple_of
def rAddI : R2 := rI0 fun i j => .int (i + j)
def rSubI : R2 := rI0 fun i j => .int (i - j)
def rMulI : R2 := rI CMul fun i j => .int (i * j)
def rModI : R2 := rI (fun _ j => 0 < j) fun i j => .int (i % j)
def rDivI : R2 := rI CDiv fun i j => .int (i / j)
def rPowI : R2 := rI CPow fun i j => .int (i ^ j.toNat)
def rLtI : R2 := rI0 fun i j => .bl (decide (i < j))
def rLeI : R2 := rI0 fun i j => .bl (decide (i ≤ j))
def rGtI : R2 := rI0 fun i j => .bl (decide (j < i))
def rGeI : R2 := rI0 fun i j => .bl (decide (j ≤ i))
def rNegI : V → Hp → VK → Prop := rU fun i => .int (-i)
theorem op_addI {X : Cx} : OpR X (binaryOp .Add) rAddI := op_add
theorem op_subI {X : Cx} : OpR X (binaryOp .Sub) rSubI := op_sub
theorem op_mulI {X : Cx} : OpR X (binaryOp .Mult) rMulI := op_mul
theorem op_modI {X : Cx} : OpR X (binaryOp .Mod) rModI := op_mod
theorem op_divI {X : Cx} : OpR X (binaryOp .FloorDiv) rDivI := op_fdiv
theorem op_powI {X : Cx} : OpR X (binaryOp .Pow) rPowI := op_pow
theorem op_ltI {X : Cx} : OpR X (compareOp .Lt) rLtI := op_lt
theorem op_leI {X : Cx} : OpR X (compareOp .LtE) rLeI := op_le
theorem op_gtI {X : Cx} : OpR X (compareOp .Gt) rGtI := op_gt
theorem op_geI {X : Cx} : OpR X (compareOp .GtE) rGeI := op_ge
theorem un_negI {X : Cx} : UnR X (unaryOp .USub) rNegI := un_neg
/-- t + u of tuples, as data -/
def tTruU (K : PySem.W.Frag) (ta : TE) : TT := fun σ H Q => ta σ H fun x H' => ∃ k, TruV K x H' k ∧ Q k H'
theorem pt_tru {X : Cx} {a : Expr} {ta : TE} (ha : PE X a ta) (he : ∀ whole, isTrue a X.env whole = (do let v ← whole; standAt a.pos; holding [v] (truthy v)) := by intro _; rfl) : PT X a (tTruU X.K ta) := pt_truth ha he
/-- what a for walks: a list or a tuple -/
def iSeq (K : PySem.W.Frag) (tl : TE) : TI := fun σ H R => tl σ H fun x H1 => ∃ a, x = .ref a ∧ (((∃ xs, SqL K H1 a xs) ∧ R (Itl K a) H1) ∨ ((∃ xs, SqT K H1 a xs) ∧ R (Itt K a) H1))
theorem pi_seq {X : Cx} {tg l : Expr} {tl : TE} (hl : PE X l tl) : PI X tg l (iSeq X.K tl) := by
  refine ⟨fun pins s σ H R I h => ?_⟩
  refine thn (hl.run pins s σ H _ I h) fun v s1 ⟨x, H1, I1, r1, q1⟩ => ?_
  obtain ⟨a, e, q1⟩ := q1
  subst e
  cases r1
  have fp : ∀ b ∈ [s1.heap.objs.size], FpOk X pins H1 b := fun b hb => by
    have e : b = s1.heap.objs.size := by simpa using hb
    subst e
    exact I1.fpOk (Nat.le_refl _) (I1.hok.fresh (Nat.le_refl _))
  rcases q1 with ⟨⟨xs, hq⟩, q⟩ | ⟨⟨xs, hq⟩, q⟩
  · obtain ⟨its, rv, p, hz⟩ := I1.list hq
    refine wpAny_pyIter_list p.isList ?_
    exact ⟨s1.heap.objs.size, [s1.heap.objs.size], _, _, H1, rfl, I1.kept (t' := s1.toks) fun b o e => Heap.get?_push_of_some _ e, turn_list a _, ⟨_, Heap.get?_push_size _ rfl, rfl, rfl⟩, fp, q⟩
  · obtain ⟨its, rv, p, hz⟩ := I1.tuple hq
    refine wpAny_pyIter_tuple (show s1.heap.IsTuple a its.toArray from p) ?_
    exact ⟨s1.heap.objs.size, [s1.heap.objs.size], _, _, H1, rfl, I1.kept (t' := s1.toks) fun b o e => Heap.get?_push_of_some _ e, turn_tuple a _, ⟨_, Heap.get?_push_size _ rfl, rfl, rfl⟩, fp, q⟩

def rEqU (K : PySem.W.Frag) : R2 := fun x y H Q => rEqD K x y H Q ∨ rEq x y H Q
def rNeU (K : PySem.W.Frag) : R2 := fun x y H Q => rNeD K x y H Q ∨ rNe x y H Q
theorem op_eqU {X : Cx} (hu : X.A.units + 64 < cLine) : OpR X (compareOp .Eq) (rEqU X.K) := OpR.or (op_eqD hu) op_eq
theorem op_neU {X : Cx} (hu : X.A.units + 64 < cLine) : OpR X (compareOp .NotEq) (rNeU X.K) := OpR.or (op_neD hu) op_ne
/-- what comes with its data -/
def Res (K : PySem.W.Frag) (F : List Fc) (m : List Sx) (H : Hp) (d : PyData) (Q : VK) : Prop := ∀ w, S (dat K w d :: F) m H → Q w H
def ResH (K : PySem.W.Frag) (F : List Fc) (m : List Sx) (d : PyData) (Q : VK) : Prop := ∀ w H', S (dat K w d :: F) m H' → Q w H'
/-! ### expressions -/
section
variable {K : PySem.W.Frag} {F : List Fc} {m : List Sx} {H : Hp} {σ : L2.St} {Q : VK} {v x y : V} {d e : PyData} {ds es : List PyData} {ta tb : TE}
theorem g_var {i : Nat} (h : σ[i]? = some (some v)) (q : Q v H) : tVar i σ H Q := ⟨v, h, q⟩
theorem g_c (q : Q v H) : tC v σ H Q := q
theorem g_op {r : R2} (h : ta σ H fun x H1 => tb σ H1 fun y H2 => r x y H2 Q) : tOp r ta tb σ H Q := h
theorem g_un {r : V → Hp → VK → Prop} (h : ta σ H fun x H1 => r x H1 Q) : tUn r ta σ H Q := h
theorem g_addI {i j : Int} (q : Q (.int (i + j)) H) : rAddI (.int i) (.int j) H Q := ⟨i, j, rfl, rfl, q⟩
theorem g_subI {i j : Int} (q : Q (.int (i - j)) H) : rSubI (.int i) (.int j) H Q := ⟨i, j, rfl, rfl, q⟩
theorem g_mulI {i j : Int} (c : CMul i j) (q : Q (.int (i * j)) H) : rMulI (.int i) (.int j) H Q := ⟨i, j, rfl, rfl, c, q⟩
theorem g_modI {i j : Int} (c : 0 < j) (q : Q (.int (i % j)) H) : rModI (.int i) (.int j) H Q := ⟨i, j, rfl, rfl, c, q⟩
theorem g_divI {i j : Int} (c : CDiv i j) (q : Q (.int (i / j)) H) : rDivI (.int i) (.int j) H Q := ⟨i, j, rfl, rfl, c, q⟩
theorem g_powI {i j : Int} (c : CPow i j) (q : Q (.int (i ^ j.toNat)) H) : rPowI (.int i) (.int j) H Q := ⟨i, j, rfl, rfl, c, q⟩
theorem g_ltI {i j : Int} (q : Q (.bl (decide (i < j))) H) : rLtI (.int i) (.int j) H Q := ⟨i, j, rfl, rfl, q⟩
theorem g_leI {i j : Int} (q : Q (.bl (decide (i ≤ j))) H) : rLeI (.int i) (.int j) H Q := ⟨i, j, rfl, rfl, q⟩
theorem g_gtI {i j : Int} (q : Q (.bl (decide (j < i))) H) : rGtI (.int i) (.int j) H Q := ⟨i, j, rfl, rfl, q⟩
theorem g_geI {i j : Int} (q : Q (.bl (decide (j ≤ i))) H) : rGeI (.int i) (.int j) H Q := ⟨i, j, rfl, rfl, q⟩
theorem g_negI {i : Int} (q : Q (.int (-i)) H) : rNegI (.int i) H Q := ⟨i, rfl, q⟩
theorem g_isN (q : Q (.bl (decide (x = .non))) H) : rIsN x .non H Q := ⟨rfl, q⟩
theorem g_notN (q : Q (.bl (!decide (x = .non))) H) : rNotN x .non H Q := ⟨rfl, q⟩
theorem g_eqD (hS : S F m H) (hx : Has K F x d) (hy : Has K F y e) (sd : SeqAt.shaped d = true) (se : SeqAt.shaped e = true) (q : Q (.bl (PyData.eqv d e)) H) : rEqU K x y H Q := .inl ⟨d, e, hS.dp hx, hS.dp hy, sd, se, q⟩
theorem g_neD (hS : S F m H) (hx : Has K F x d) (hy : Has K F y e) (sd : SeqAt.shaped d = true) (se : SeqAt.shaped e = true) (q : Q (.bl (!PyData.eqv d e)) H) : rNeU K x y H Q := .inl ⟨d, e, hS.dp hx, hS.dp hy, sd, se, q⟩
theorem g_eqI {i j : Int} (q : Q (.bl (decide (i = j))) H) : rEqU K (.int i) (.int j) H Q := .inl ⟨.int i, .int j, .int i, .int j, rfl, rfl, by
  have e : PyData.eqv (.int i) (.int j) = decide (i = j) := by simp only [PyData.eqv]; exact Bool.beq_eq_decide_eq _ _
  rw [e]; exact q⟩
theorem g_neI {i j : Int} (q : Q (.bl (!decide (i = j))) H) : rNeU K (.int i) (.int j) H Q := .inl ⟨.int i, .int j, .int i, .int j, rfl, rfl, by
  have e : PyData.eqv (.int i) (.int j) = decide (i = j) := by simp only [PyData.eqv]; exact Bool.beq_eq_decide_eq _ _
  rw [e]; exact q⟩
theorem g_eqB {i j : Bool} (q : Q (.bl (i == j)) H) : rEqU K (.bl i) (.bl j) H Q := .inl ⟨.bool i, .bool j, .bl i, .bl j, rfl, rfl, q⟩
theorem g_neB {i j : Bool} (q : Q (.bl (!(i == j))) H) : rNeU K (.bl i) (.bl j) H Q := .inl ⟨.bool i, .bool j, .bl i, .bl j, rfl, rfl, q⟩
theorem g_eqS {i j : Str} (q : Q (.bl (decide (i = j))) H) : rEqU K (.str i) (.str j) H Q := .inr ⟨rfl, by
  have e : decide (V.str i = V.str j) = decide (i = j) := by
    by_cases h : i = j
    · subst h; simp
    · rw [decide_eq_false h]; exact decide_eq_false fun z => h (V.str.inj z)
  rw [e]; exact q⟩
theorem g_neS {i j : Str} (q : Q (.bl (!decide (i = j))) H) : rNeU K (.str i) (.str j) H Q := .inr ⟨rfl, by
  have e : decide (V.str i = V.str j) = decide (i = j) := by
    by_cases h : i = j
    · subst h; simp
    · rw [decide_eq_false h]; exact decide_eq_false fun z => h (V.str.inj z)
  rw [e]; exact q⟩
theorem g_in {neg : Bool} (hS : S F m H) (hx : Has K F x d) (hy : Has K F y (.list ds) ∨ Has K F y (.tuple ds)) (sd : SeqAt.shaped d = true) (se : PyData.canLayAll0 ds = true)
    (q : Q (.bl (if neg then !(ds.any fun z => PyData.eqv z d) else ds.any fun z => PyData.eqv z d)) H) : rInU K neg x y H Q :=
  ⟨d, ds, hS.dp hx, hy.imp hS.dp hS.dp, sd, se, q⟩
theorem g_if {t : TT} (h : t σ H fun c H1 => if c = true then ta σ H1 Q else tb σ H1 Q) : tIf t ta tb σ H Q := h
theorem g_andV (h : ta σ H fun x H1 => ∃ c, x = .bl c ∧ if c = true then tb σ H1 Q else Q (.bl false) H1) : tAndV ta tb σ H Q := h
theorem g_orV (h : ta σ H fun x H1 => ∃ c, x = .bl c ∧ if c = true then Q (.bl true) H1 else tb σ H1 Q) : tOrV ta tb σ H Q := h
theorem g_notV (h : ta σ H fun x H1 => ∃ c, x = .bl c ∧ Q (.bl (!c)) H1) : tNotV ta σ H Q := h
theorem g_bl {b : Bool} {P : Bool → Prop} (h : P b) : ∃ c, (V.bl b) = .bl c ∧ P c := ⟨b, rfl, h⟩
theorem g_ite {b : Bool} {A B : Prop} (h1 : b = true → A) (h2 : b = false → B) : if b = true then A else B := by
  cases b with
  | true => exact h1 rfl
  | false => exact h2 rfl
/-! ### arguments, displays -/
variable {tr : TA} {QA : List V → Hp → Prop} {vs : List V}
theorem g_nil (q : QA [] H) : tNil σ H QA := q
theorem g_cons (h : ta σ H fun x H1 => tr σ H1 fun xs H2 => QA (x :: xs) H2) : tCons ta tr σ H QA := h
theorem g_cb {r : List V → Hp → VK → Prop} (h : tr σ H fun vs H1 => r vs H1 Q) : tCB r tr σ H Q := h
theorem g_call {sp : Sp} {E : XK} (h : tr σ H fun vs H1 => sp vs H1 Q E) : tCall sp [] E tr σ H Q := by
  show tr σ H fun vs H1 => sp (vs ++ []) H1 Q E
  have e : (fun (vs : List V) (H1 : Hp) => sp (vs ++ []) H1 Q E) = fun vs H1 => sp vs H1 Q E := by
    funext vs H1
    rw [List.append_nil]
  rw [e]
  exact h
def MkT (xs : List V) (H1 : Hp) (Q : VK) : Prop := xs.length ≤ sizeLine ∧ ∀ p, H1 p = none → Q (.ref p) (upd H1 p (.tup xs))
def MkL (xs : List V) (H1 : Hp) (Q : VK) : Prop := xs.length ≤ sizeLine ∧ ∀ p, H1 p = none → Q (.ref p) (upd H1 p (.lst xs))
theorem g_tup (h : tr σ H fun xs H1 => MkT xs H1 Q) : tTup tr σ H Q := h
theorem g_lst (h : tr σ H fun xs H1 => MkL xs H1 Q) : tLst tr σ H Q := h
/-- a tuple is made -/
theorem g_newT (hS : S F m H) (hv : HasA K F vs ds) (hl : vs.length ≤ 1000) (q : ResH K F m (.tuple ds) Q) : MkT vs H Q :=
  ⟨Nat.le_trans hl (by decide), fun p hp => q (.ref p) _ (hS.putF hp _ fun G g e => .tup (SqT.of e) (hv G g))⟩
/-- a list is made: it is owned -/
theorem g_newL (hS : S F m H) (hv : HasA K F vs ds) (hl : vs.length ≤ 1000) (q : ∀ p H', S F (Ls K p ds :: m) H' → Q (.ref p) H') : MkL vs H Q :=
  ⟨Nat.le_trans hl (by decide), fun p hp => q p _ (hS.put hp (Ls K p ds) rfl fun G g => ⟨vs, rfl, hv G g⟩)⟩
/-- .. it stays as it is -/
theorem g_newLF (hS : S F m H) (hv : HasA K F vs ds) (hl : vs.length ≤ 1000) (q : ∀ p H', S (dat K (.ref p) (.list ds) :: F) m H' → Q (.ref p) H') : MkL vs H Q :=
  ⟨Nat.le_trans hl (by decide), fun p hp => q p _ (hS.putF hp _ fun G g e => .lst (SqL.of e) (hv G g))⟩
/-! ### items, lengths -/
theorem ixN_len {α β : Type} {xs : List α} {ys : List β} (h : xs.length = ys.length) (i : Int) : ixN xs.length i = ixN ys.length i := by rw [h]
theorem dps_atI {G : Hp} {i : Int} (h : DpAll K G vs ds) (hi : atI ds i = some d) : ∃ w, atI vs i = some w ∧ Dp K G w d := by
  unfold atI at hi ⊢
  rw [h.len]
  cases q : ixN ds.length i with
  | none => rw [q] at hi; cases hi
  | some j =>
    rw [q] at hi
    exact h.get hi
theorem has_item {i : Int} (h : S F m H) (hv : Has K F v (.tuple ds) ∨ Has K F v (.list ds)) (hi : atI ds i = some d) :
    ∃ a w, v = .ref a ∧ ((∃ xs, SqT K H a xs ∧ atI xs i = some w) ∨ ∃ xs, SqL K H a xs ∧ atI xs i = some w) ∧ S (dat K w d :: F) m H := by
  obtain ⟨G, e, f, own, nd⟩ := h.ex
  rcases hv with hv | hv
  · have q := hv G f
    generalize hz : PyData.tuple ds = z at q
    cases q with
    | tup hs ha =>
      cases hz
      obtain ⟨w, h1, h2⟩ := dps_atI ha hi
      exact ⟨_, w, rfl, .inl ⟨_, same_t e hs, h1⟩, G, e, fun g hg => by cases hg with | head => exact h2 | tail _ hg => exact f g hg, own, nd⟩
    | _ => cases hz
  · have q := hv G f
    generalize hz : PyData.list ds = z at q
    cases q with
    | lst hs ha =>
      cases hz
      obtain ⟨w, h1, h2⟩ := dps_atI ha hi
      exact ⟨_, w, rfl, .inr ⟨_, e.seq hs, h1⟩, G, e, fun g hg => by cases hg with | head => exact h2 | tail _ hg => exact f g hg, own, nd⟩
    | _ => cases hz
theorem g_ix {i : Int} (hS : S F m H) (hv : Has K F v (.tuple ds) ∨ Has K F v (.list ds)) (hi : atI ds i = some d) (q : Res K F m H d Q) : rIx K v (.int i) H Q := by
  obtain ⟨a, w, rfl, h, hS'⟩ := has_item hS hv hi
  rcases h with ⟨xs, h1, h2⟩ | ⟨xs, h1, h2⟩
  · exact .inr (.inl ⟨a, xs, i, w, rfl, rfl, h1, h2, q w hS'⟩)
  · exact .inl ⟨a, xs, i, w, rfl, rfl, h1, h2, q w hS'⟩
/-- of an owned list -/
theorem own_list {l : Addr} (h : S F m H) (hm : Ls K l ds ∈ m) : ∃ vs, H l = some (.lst vs) ∧ vs.length = ds.length ∧ ∀ (i : Nat) (w : V) (d : PyData), vs[i]? = some w → ds[i]? = some d → S (dat K w d :: F) m H := by
  obtain ⟨G, e, f, own, nd⟩ := h.ex
  obtain ⟨_, o, ho, vs, rfl, ha⟩ := own _ hm
  refine ⟨vs, ho, ha.len, fun i w d h1 h2 => ?_⟩
  obtain ⟨w', e1, e2⟩ := ha.get h2
  rw [h1] at e1
  cases e1
  exact ⟨G, e, fun g hg => by cases hg with | head => exact e2 | tail _ hg => exact f g hg, own, nd⟩
theorem g_ixO {l : Addr} {i : Int} (hS : S F m H) (hm : Ls K l ds ∈ m) (hi : atI ds i = some d) (q : Res K F m H d Q) : rIx K (.ref l) (.int i) H Q := by
  obtain ⟨vs, h1, h2, h3⟩ := own_list hS hm
  unfold atI at hi
  cases qj : ixN ds.length i with
  | none => rw [qj] at hi; cases hi
  | some j =>
    rw [qj] at hi
    have hi' : ds[j]? = some d := hi
    have hlt : j < vs.length := by
      rw [h2]
      exact (List.getElem?_eq_some_iff.mp hi').1
    have ew : vs[j]? = some vs[j] := List.getElem?_eq_getElem hlt
    refine .inl ⟨l, vs, i, vs[j], rfl, rfl, SqL.of h1, ?_, q _ (h3 j _ d ew hi')⟩
    unfold atI
    rw [h2, qj]
    exact ew
theorem g_len (hS : S F m H) (hv : Has K F v (.tuple ds) ∨ Has K F v (.list ds)) (q : Q (.int (ds.length : Nat)) H) : rLenU K [v] H Q := by
  rcases hv with hv | hv
  · have z := hS.dp hv
    cases z with
    | tup hs ha => exact ⟨_, ds.length, rfl, .inr ⟨_, hs, ha.len.symm⟩, q⟩
  · have z := hS.dp hv
    cases z with
    | lst hs ha => exact ⟨_, ds.length, rfl, .inl ⟨_, hs, ha.len.symm⟩, q⟩
theorem g_lenO {l : Addr} (hS : S F m H) (hm : Ls K l ds ∈ m) (q : Q (.int (ds.length : Nat)) H) : rLenU K [.ref l] H Q := by
  obtain ⟨vs, h1, h2, _⟩ := own_list hS hm
  exact ⟨_, ds.length, rfl, .inl ⟨vs, SqL.of h1, h2.symm⟩, q⟩
theorem g_lenS {s : Str} (hz : s.length ≤ sizeLine) (q : Q (.int (s.length : Nat)) H) : rLenU K [.str s] H Q := ⟨_, _, rfl, ⟨hz, rfl⟩, q⟩
theorem g_int {i : Int} (q : Q (.int i) H) : rInt [.int i] H Q := .inl ⟨i, rfl, q⟩
/-- tuple(a list or a tuple) -/
theorem g_tuple (hS : S F m H) (hv : Has K F v (.tuple ds) ∨ Has K F v (.list ds)) (q : ResH K F m (.tuple ds) Q) : rTuple K [v] H Q := by
  rcases hv with hv | hv
  · have z := hS.dp hv
    cases z with
    | tup hs ha => exact ⟨_, _, rfl, .inr ⟨hs, q _ _ (hS.addD hv)⟩⟩
  · obtain ⟨G, e, f, own, nd⟩ := hS.ex
    have z := hv G f
    cases z with
    | lst hs ha => exact ⟨_, _, rfl, .inl ⟨e.seq hs, fun l hl => q _ _ (putG e f own nd hl _ fun G' s' e' => .tup (SqT.of e') (dps_mono s' _ _ ha))⟩⟩
/-- tuple(an owned list) -/
theorem g_tupleO {l : Addr} (hS : S F m H) (hm : Ls K l ds ∈ m) (q : ResH K F m (.tuple ds) Q) : rTuple K [.ref l] H Q := by
  obtain ⟨G, e, f, own, nd⟩ := hS.ex
  obtain ⟨_, o, ho, vs, rfl, ha⟩ := own _ hm
  exact ⟨_, _, rfl, .inl ⟨SqL.of ho, fun l hl => q _ _ (putG e f own nd hl _ fun G' s' e' => .tup (SqT.of e') (dps_mono s' _ _ ha))⟩⟩
/-- list(a list or a tuple): a new owned list -/
theorem g_list (hS : S F m H) (hv : Has K F v (.tuple ds) ∨ Has K F v (.list ds)) (q : ∀ p H', S F (Ls K p ds :: m) H' → Q (.ref p) H') : rList K [v] H Q := by
  obtain ⟨G, e, f, own, nd⟩ := hS.ex
  rcases hv with hv | hv
  · have z := hv G f
    cases z with
    | tup hs ha => exact ⟨_, _, rfl, .inr (same_t e hs), fun l hl => q _ _ (putO e f own nd hl (Ls K l ds) rfl ⟨_, rfl, ha⟩)⟩
  · have z := hv G f
    cases z with
    | lst hs ha => exact ⟨_, _, rfl, .inl (e.seq hs), fun l hl => q _ _ (putO e f own nd hl (Ls K l ds) rfl ⟨_, rfl, ha⟩)⟩
theorem g_listO {l : Addr} (hS : S F m H) (hm : Ls K l ds ∈ m) (q : ∀ p H', S F (Ls K p ds :: m) H' → Q (.ref p) H') : rList K [.ref l] H Q := by
  obtain ⟨G, e, f, own, nd⟩ := hS.ex
  obtain ⟨_, o, ho, vs, rfl, ha⟩ := own _ hm
  exact ⟨_, _, rfl, .inl (SqL.of ho), fun l hl => q _ _ (putO e f own nd hl (Ls K l ds) rfl ⟨_, rfl, ha⟩)⟩
end
end Qe

namespace Qe
open PySem PySem.Spec PyProof.Rows L2

section
variable {K : PySem.W.Frag} {F : List Fc} {m : List Sx} {H : Hp} {σ : L2.St} {nx bk ct : L2.St → Hp → Prop} {rt : VK} {v x y : V} {d e : PyData} {ds es : List PyData} {ta tb te : TE} {t u : TS} {g : TG} {c c1 c2 : TT} {QB : Bool → Hp → Prop}
theorem g_seq (h : t ⟨u ⟨nx, rt, bk, ct⟩, rt, bk, ct⟩ σ H) : tSeq t u ⟨nx, rt, bk, ct⟩ σ H := h
theorem g_asg (h : te σ H fun x H1 => g x σ H1 nx) : tAsg te g ⟨nx, rt, bk, ct⟩ σ H := h
theorem g_name {i : Nat} {Q : L2.St → Hp → Prop} (h : Q (σ.set i (some v)) H) : gName i v σ H Q := h
theorem g_drop (h : te σ H fun _ H1 => nx σ H1) : tDrop te ⟨nx, rt, bk, ct⟩ σ H := h
theorem g_ret (h : te σ H rt) : tRet te ⟨nx, rt, bk, ct⟩ σ H := h
theorem g_retN (h : rt .non H) : tRetN ⟨nx, rt, bk, ct⟩ σ H := h
theorem g_next (h : nx σ H) : tNext ⟨nx, rt, bk, ct⟩ σ H := h
theorem g_brk (h : bk σ H) : tBreak ⟨nx, rt, bk, ct⟩ σ H := h
theorem g_cnt (h : ct σ H) : tCont ⟨nx, rt, bk, ct⟩ σ H := h
theorem g_ifS {D : Ends} (h : c σ H fun b H1 => if b = true then t D σ H1 else u D σ H1) : tIfS c t u D σ H := h
theorem g_test (h : ta σ H fun x H1 => ∃ k, x = .bl k ∧ QB k H1) : tTest ta σ H QB := h
theorem g_tB (h : ta σ H fun x H1 => ∃ k, x = .bl k ∧ QB k H1) : tB ta σ H QB := h
theorem g_and (h : c1 σ H fun b H1 => if b = true then c2 σ H1 QB else QB false H1) : tAnd c1 c2 σ H QB := h
theorem g_or (h : c1 σ H fun b H1 => if b = true then QB true H1 else c2 σ H1 QB) : tOr c1 c2 σ H QB := h
theorem g_not (h : c1 σ H fun b H1 => QB (!b) H1) : tNot c1 σ H QB := h
def TruR' (K : PySem.W.Frag) (x : V) (H : Hp) (QB : Bool → Hp → Prop) : Prop := ∃ k, TruV K x H k ∧ QB k H
theorem g_tru (h : ta σ H fun x H1 => TruR' K x H1 QB) : tTruU K ta σ H QB := h
theorem g_truL {l : Addr} (hS : S F m H) (hm : Ls K l ds ∈ m) (q : QB (!ds.isEmpty) H) : TruR' K (.ref l) H QB := by
  obtain ⟨vs, h1, h2, _⟩ := own_list hS hm
  refine ⟨!ds.isEmpty, .inl ⟨vs, SqL.of h1, ?_⟩, q⟩
  cases vs <;> cases ds <;> first | rfl | cases h2
theorem g_truD (hS : S F m H) (hv : Has K F v (.tuple ds) ∨ Has K F v (.list ds)) (q : QB (!ds.isEmpty) H) : TruR' K v H QB := by
  rcases hv with hv | hv
  · have z := hS.dp hv
    cases z with
    | tup hs ha =>
      refine ⟨!ds.isEmpty, .inr (.inl ⟨_, hs, ?_⟩), q⟩
      have h2 := ha.len
      rename_i xs
      cases xs <;> cases ds <;> first | rfl | cases h2
  · have z := hS.dp hv
    cases z with
    | lst hs ha =>
      refine ⟨!ds.isEmpty, .inl ⟨_, hs, ?_⟩, q⟩
      have h2 := ha.len
      rename_i xs
      cases xs <;> cases ds <;> first | rfl | cases h2
theorem g_truB {b : Bool} (q : QB b H) : TruR' K (.bl b) H QB := ⟨b, rfl, q⟩
theorem g_truI {i : Int} (q : QB (i != 0) H) : TruR' K (.int i) H QB := ⟨_, rfl, q⟩
theorem g_truN (q : QB false H) : TruR' K .non H QB := ⟨_, rfl, q⟩
theorem g_augI {f : Int → Int → Int} {i : Nat} {a : Int} (hx : σ[i]? = some (some (.int a))) (h : te σ H fun y H1 => ∃ b, y = .int b ∧ nx (σ.set i (some (.int (f a b)))) H1) : tAug i te (ipI f) ⟨nx, rt, bk, ct⟩ σ H :=
  ⟨_, hx, by
    have e : (fun (y : V) (H1 : Hp) => ipI f (.int a) y H1 fun z H2 => nx (σ.set i (some z)) H2) = fun y H1 => ∃ b, y = .int b ∧ nx (σ.set i (some (.int (f a b)))) H1 := by
      funext y H1
      apply propext
      constructor
      · rintro ⟨i', j, h1, h2, h3⟩
        cases h1
        exact ⟨j, h2, h3⟩
      · rintro ⟨b, h1, h2⟩
        exact ⟨a, b, rfl, h1, h2⟩
    show te σ H fun y H1 => ipI f (.int a) y H1 fun z H2 => nx (σ.set i (some z)) H2
    rw [e]
    exact h⟩
theorem g_isI {b : Int} {P : Int → Prop} (h : P b) : ∃ c, (V.int b) = .int c ∧ P c := ⟨b, rfl, h⟩
/-! ### the methods of a list -/
def MtB (K : PySem.W.Frag) (T : String) (r : V → List V → Hp → VK → Prop) (x : V) (H : Hp) (σ : L2.St) (tr : TA) (Q : VK) : Prop := tyV K T x H ∧ tr σ H fun xs H2 => r x xs H2 Q
theorem g_bm {T : String} {r : V → List V → Hp → VK → Prop} {tr : TA} {Q : VK} (h : ta σ H fun x H1 => MtB K T r x H1 σ tr Q) : tBM K T r ta tr σ H Q := h
def MtB0 (K : PySem.W.Frag) (T : String) (r : V → List V → Hp → VK → Prop) (x : V) (H : Hp) (Q : VK) : Prop := tyV K T x H ∧ r x [] H Q
theorem g_bm0 {T : String} {r : V → List V → Hp → VK → Prop} {Q : VK} (h : ta σ H fun x H1 => MtB0 K T r x H1 Q) : tBM0 K T r ta σ H Q := h
theorem g_tyO {l : Addr} {r : V → List V → Hp → VK → Prop} {tr : TA} {Q : VK} (hS : S F m H) (hm : Ls K l ds ∈ m) (h : tr σ H fun xs H2 => r (.ref l) xs H2 Q) : MtB K "list" r (.ref l) H σ tr Q := by
  obtain ⟨vs, h1, h2, _⟩ := own_list hS hm
  exact ⟨.inl ⟨rfl, vs, SqL.of h1⟩, h⟩
theorem g_tyO0 {l : Addr} {r : V → List V → Hp → VK → Prop} {Q : VK} (hS : S F m H) (hm : Ls K l ds ∈ m) (h : r (.ref l) [] H Q) : MtB0 K "list" r (.ref l) H Q := by
  obtain ⟨vs, h1, h2, _⟩ := own_list hS hm
  exact ⟨.inl ⟨rfl, vs, SqL.of h1⟩, h⟩
theorem S.setAt {x y : Sx} {o' : HO} {i : Nat} (h : S F m H) (hi : m[i]? = some x) (ha : y.a = x.a) (ho : ∀ G o, Facts F G → H x.a = some o → x.P G o → y.P G o') : S F (m.set i y) (upd H x.a o') := by
  obtain ⟨G, e, fs, own, nd⟩ := h.ex
  obtain ⟨hl, hx'⟩ := List.getElem?_eq_some_iff.mp hi
  obtain ⟨gx, o, hx, px⟩ := own x (List.mem_of_getElem? hi)
  refine ⟨G, fun b u q => ?_, fs, fun z hz => ?_, ?_⟩
  · have ne : b ≠ x.a := ne_of_none q gx
    rw [upd_ne ne]
    exact e b u q
  · obtain ⟨j, hj⟩ := List.getElem?_of_mem hz
    by_cases hij : i = j
    · subst hij
      rw [List.getElem?_set_self hl] at hj
      cases hj
      exact ⟨by rw [ha]; exact gx, o', by rw [ha]; exact upd_same, ho G o fs hx px⟩
    · rw [List.getElem?_set_ne hij] at hj
      obtain ⟨g, u, q, r⟩ := own z (List.mem_of_getElem? hj)
      have ne : z.a ≠ x.a := fun w => by
        have nd' := nd
        have h1 : (m.map Sx.a)[i]? = some x.a := by rw [List.getElem?_map, hi]; rfl
        have h2 : (m.map Sx.a)[j]? = some x.a := by rw [List.getElem?_map, hj, ← w]; rfl
        obtain ⟨l1, e1⟩ := List.getElem?_eq_some_iff.mp h1
        obtain ⟨l2, e2⟩ := List.getElem?_eq_some_iff.mp h2
        exact hij ((List.getElem_inj nd).mp (e1.trans e2.symm))
      exact ⟨g, u, by rw [upd_ne ne]; exact q, r⟩
  · have : (m.set i y).map Sx.a = m.map Sx.a := by
      rw [List.map_set, ha]
      refine List.ext_getElem? fun j => ?_
      by_cases hij : i = j
      · subst hij
        rw [List.getElem?_set_self (by simpa using hl), List.getElem?_map, hi] <;> rfl
      · rw [List.getElem?_set_ne hij]
    rw [this]
    exact nd
theorem own_at {l : Addr} {i : Nat} (h : S F m H) (hi : m[i]? = some (Ls K l ds)) : ∃ G vs, Same G H ∧ Facts F G ∧ H l = some (.lst vs) ∧ DpAll K G vs ds := by
  obtain ⟨G, e, f, own, nd⟩ := h.ex
  obtain ⟨_, o, ho, vs, rfl, ha⟩ := own _ (List.mem_of_getElem? hi)
  exact ⟨G, vs, e, f, ho, ha⟩
theorem upd_setAt {l : Addr} {i : Nat} {G : Hp} {vs' : List V} {ds' : List PyData} (h : S F m H) (hi : m[i]? = some (Ls K l ds)) (ho : ∀ G vs, Facts F G → H l = some (.lst vs) → DpAll K G vs ds → DpAll K G vs' ds') :
    S F (m.set i (Ls K l ds')) (upd H l (.lst vs')) :=
  h.setAt (x := Ls K l ds) (y := Ls K l ds') hi rfl fun G o f e ⟨vs, h1, h2⟩ => ⟨vs', rfl, ho G vs f (by rw [← h1]; exact e) h2⟩
/-- l.append(v) -/
theorem g_app {l : Addr} {Q : VK} (i : Nat) (hS : S F m H) (hi : m[i]? = some (Ls K l ds)) (hv : Has K F v d) (hz : ds.length < 1000000) (q : ∀ H', S F (m.set i (Ls K l (ds ++ [d]))) H' → Q .non H') : rAppend (.ref l) [v] H Q := by
  obtain ⟨G, vs, e, f, ho, ha⟩ := own_at hS hi
  refine ⟨l, vs, v, rfl, rfl, ho, by rw [ha.len]; exact Nat.lt_of_lt_of_le hz (by decide), q _ (upd_setAt (G := G) hS hi fun G' vs' f' ho' ha' => ?_)⟩
  rw [ho] at ho'
  cases ho'
  exact ha'.app (.cons (hv G' f') .nil)
/-- l.pop() -/
theorem g_pop {l : Addr} {Q : VK} (i : Nat) (hS : S F m H) (hi : m[i]? = some (Ls K l (ds ++ [d]))) (q : ∀ w H', S (dat K w d :: F) (m.set i (Ls K l ds)) H' → Q w H') : rPop (.ref l) [] H Q := by
  obtain ⟨G, vs, e, f, ho, ha⟩ := own_at hS hi
  have hl := ha.len
  rw [List.length_append, List.length_singleton] at hl
  obtain ⟨w, h1, h2⟩ := ha.get (i := ds.length) (d := d) (by simp)
  have hS2 : S (dat K w d :: F) m H := by
    obtain ⟨G2, e2, f2, own, nd⟩ := hS.ex
    obtain ⟨_, o, ho2, vs2, ho3, ha2⟩ := own _ (List.mem_of_getElem? hi)
    have ho2' : H l = some o := ho2
    rw [ho] at ho2'
    cases ho2'
    cases ho3
    obtain ⟨w2, q1, q2⟩ := ha2.get (i := ds.length) (d := d) (by simp)
    rw [h1] at q1
    cases q1
    exact ⟨G2, e2, fun g hg => by cases hg with | head => exact q2 | tail _ hg => exact f2 g hg, own, nd⟩
  refine ⟨l, vs, w, rfl, rfl, ho, by rw [hl]; exact h1, q w _ (upd_setAt (G := G) hS2 hi fun G' vs' f' ho' ha' => ?_)⟩
  rw [ho] at ho'
  cases ho'
  have z := ha'.take ds.length
  rw [List.take_left] at z
  rw [List.dropLast_eq_take, hl]
  exact z
/-- l.extend(t), t a tuple or a list that stays -/
theorem g_ext {l : Addr} {Q : VK} (i : Nat) (hS : S F m H) (hi : m[i]? = some (Ls K l ds)) (hv : Has K F v (.tuple es) ∨ Has K F v (.list es)) (hz : ds.length + es.length < 1000000) (q : ∀ H', S F (m.set i (Ls K l (ds ++ es))) H' → Q .non H') : rExt K (.ref l) [v] H Q := by
  obtain ⟨G, vs, e, f, ho, ha⟩ := own_at hS hi
  have key : ∃ b zs, v = .ref b ∧ (SqT K H b zs ∨ SqL K H b zs) ∧ zs.length = es.length ∧ ∀ H', (H' = upd H l (.lst (vs ++ zs))) → S F (m.set i (Ls K l (ds ++ es))) H' := by
    obtain ⟨G2, e2, f2, own, nd⟩ := id hS.ex
    rcases hv with hv | hv
    · have z := hv G2 f2
      generalize hz : PyData.tuple es = zz at z
      cases z with
      | tup hs hb =>
        cases hz
        refine ⟨_, _, rfl, .inl (same_t e2 hs), hb.len, fun H' hH => ?_⟩
        subst hH
        obtain ⟨_, o, ho2, vs2, ho3, ha2⟩ := own _ (List.mem_of_getElem? hi)
        have ho2' : H l = some o := ho2
        rw [ho] at ho2'
        cases ho2'
        cases ho3
        have hS3 : S (dats K _ es :: F) m H := ⟨G2, e2, fun g hg => by cases hg with | head => exact hb | tail _ hg => exact f2 g hg, own, nd⟩
        refine S.pop (upd_setAt (G := G) hS3 hi fun G' vs' f' ho' ha' => ?_)
        rw [ho] at ho'
        cases ho'
        exact ha'.app (f' _ (.head _))
      | _ => cases hz
    · have z := hv G2 f2
      generalize hz : PyData.list es = zz at z
      cases z with
      | lst hs hb =>
        cases hz
        refine ⟨_, _, rfl, .inr (e2.seq hs), hb.len, fun H' hH => ?_⟩
        subst hH
        obtain ⟨_, o, ho2, vs2, ho3, ha2⟩ := own _ (List.mem_of_getElem? hi)
        have ho2' : H l = some o := ho2
        rw [ho] at ho2'
        cases ho2'
        cases ho3
        have hS3 : S (dats K _ es :: F) m H := ⟨G2, e2, fun g hg => by cases hg with | head => exact hb | tail _ hg => exact f2 g hg, own, nd⟩
        refine S.pop (upd_setAt (G := G) hS3 hi fun G' vs' f' ho' ha' => ?_)
        rw [ho] at ho'
        cases ho'
        exact ha'.app (f' _ (.head _))
      | _ => cases hz
  obtain ⟨b, zs, rfl, hb, hl, hq⟩ := key
  refine ⟨l, b, vs, zs, rfl, rfl, ho, hb, ?_, q _ (hq _ rfl)⟩
  rw [ha.len, hl]
  exact Nat.le_of_lt (Nat.lt_of_lt_of_le hz (by decide))
/-- l[j] = v -/
theorem g_gsub {to ti : TE} {r : TSet} {Q : L2.St → Hp → Prop} (h : to σ H fun o H1 => ti σ H1 fun i H2 => r o i v H2 fun H3 => Q σ H3) : gSub to ti r v σ H Q := h
theorem g_setL {l : Addr} {j : Nat} {k : Int} {Q : Hp → Prop} (i : Nat) (hS : S F m H) (hi : m[i]? = some (Ls K l ds)) (hv : Has K F v d) (hj : ixN ds.length k = some j) (q : ∀ H', S F (m.set i (Ls K l (ds.set j d))) H' → Q H') : rSetL (.ref l) (.int k) v H Q := by
  obtain ⟨G, vs, e, f, ho, ha⟩ := own_at hS hi
  refine ⟨l, vs, k, j, rfl, rfl, ho, by rw [ha.len]; exact hj, q _ (upd_setAt (G := G) hS hi fun G' vs' f' ho' ha' => ?_)⟩
  rw [ho] at ho'
  cases ho'
  exact ha'.set (hv G' f') j
end
section
variable {K : PySem.W.Frag} {F : List Fc} {m : List Sx} {H : Hp} {v : V} {d : PyData} {ds es : List PyData} {Q : VK} {l : Addr} {QH : Hp → Prop}
theorem g_app0 (hS : S F (Ls K l ds :: m) H) (hv : Has K F v d) (hz : ds.length < 1000000) (q : ∀ H', S F (Ls K l (ds ++ [d]) :: m) H' → Q .non H') : rAppend (.ref l) [v] H Q := g_app 0 hS rfl hv hz q
theorem g_pop0 (hS : S F (Ls K l (ds ++ [d]) :: m) H) (q : ∀ w H', S (dat K w d :: F) (Ls K l ds :: m) H' → Q w H') : rPop (.ref l) [] H Q := g_pop 0 hS rfl q
theorem g_ext0 (hS : S F (Ls K l ds :: m) H) (hv : Has K F v (.tuple es) ∨ Has K F v (.list es)) (hz : ds.length + es.length < 1000000) (q : ∀ H', S F (Ls K l (ds ++ es) :: m) H' → Q .non H') : rExt K (.ref l) [v] H Q := g_ext 0 hS rfl hv hz q
theorem g_setL0 {j : Nat} {k : Int} (hS : S F (Ls K l ds :: m) H) (hv : Has K F v d) (hj : ixN ds.length k = some j) (q : ∀ H', S F (Ls K l (ds.set j d) :: m) H' → QH H') : rSetL (.ref l) (.int k) v H QH := g_setL 0 hS rfl hv hj q
theorem g_app1 {x0 : Sx} (hS : S F (x0 :: Ls K l ds :: m) H) (hv : Has K F v d) (hz : ds.length < 1000000) (q : ∀ H', S F (x0 :: Ls K l (ds ++ [d]) :: m) H' → Q .non H') : rAppend (.ref l) [v] H Q := g_app 1 hS rfl hv hz q
theorem g_pop1 {x0 : Sx} (hS : S F (x0 :: Ls K l (ds ++ [d]) :: m) H) (q : ∀ w H', S (dat K w d :: F) (x0 :: Ls K l ds :: m) H' → Q w H') : rPop (.ref l) [] H Q := g_pop 1 hS rfl q
theorem g_ext1 {x0 : Sx} (hS : S F (x0 :: Ls K l ds :: m) H) (hv : Has K F v (.tuple es) ∨ Has K F v (.list es)) (hz : ds.length + es.length < 1000000) (q : ∀ H', S F (x0 :: Ls K l (ds ++ es) :: m) H' → Q .non H') : rExt K (.ref l) [v] H Q := g_ext 1 hS rfl hv hz q
theorem g_setL1 {x0 : Sx} {j : Nat} {k : Int} (hS : S F (x0 :: Ls K l ds :: m) H) (hv : Has K F v d) (hj : ixN ds.length k = some j) (q : ∀ H', S F (x0 :: Ls K l (ds.set j d) :: m) H' → QH H') : rSetL (.ref l) (.int k) v H QH := g_setL 1 hS rfl hv hj q
theorem g_app2 {x0 x1 : Sx} (hS : S F (x0 :: x1 :: Ls K l ds :: m) H) (hv : Has K F v d) (hz : ds.length < 1000000) (q : ∀ H', S F (x0 :: x1 :: Ls K l (ds ++ [d]) :: m) H' → Q .non H') : rAppend (.ref l) [v] H Q := g_app 2 hS rfl hv hz q
theorem g_pop2 {x0 x1 : Sx} (hS : S F (x0 :: x1 :: Ls K l (ds ++ [d]) :: m) H) (q : ∀ w H', S (dat K w d :: F) (x0 :: x1 :: Ls K l ds :: m) H' → Q w H') : rPop (.ref l) [] H Q := g_pop 2 hS rfl q
theorem g_ext2 {x0 x1 : Sx} (hS : S F (x0 :: x1 :: Ls K l ds :: m) H) (hv : Has K F v (.tuple es) ∨ Has K F v (.list es)) (hz : ds.length + es.length < 1000000) (q : ∀ H', S F (x0 :: x1 :: Ls K l (ds ++ es) :: m) H' → Q .non H') : rExt K (.ref l) [v] H Q := g_ext 2 hS rfl hv hz q
theorem g_setL2 {x0 x1 : Sx} {j : Nat} {k : Int} (hS : S F (x0 :: x1 :: Ls K l ds :: m) H) (hv : Has K F v d) (hj : ixN ds.length k = some j) (q : ∀ H', S F (x0 :: x1 :: Ls K l (ds.set j d) :: m) H' → QH H') : rSetL (.ref l) (.int k) v H QH := g_setL 2 hS rfl hv hj q
theorem g_app3 {x0 x1 x2 : Sx} (hS : S F (x0 :: x1 :: x2 :: Ls K l ds :: m) H) (hv : Has K F v d) (hz : ds.length < 1000000) (q : ∀ H', S F (x0 :: x1 :: x2 :: Ls K l (ds ++ [d]) :: m) H' → Q .non H') : rAppend (.ref l) [v] H Q := g_app 3 hS rfl hv hz q
theorem g_pop3 {x0 x1 x2 : Sx} (hS : S F (x0 :: x1 :: x2 :: Ls K l (ds ++ [d]) :: m) H) (q : ∀ w H', S (dat K w d :: F) (x0 :: x1 :: x2 :: Ls K l ds :: m) H' → Q w H') : rPop (.ref l) [] H Q := g_pop 3 hS rfl q
theorem g_ext3 {x0 x1 x2 : Sx} (hS : S F (x0 :: x1 :: x2 :: Ls K l ds :: m) H) (hv : Has K F v (.tuple es) ∨ Has K F v (.list es)) (hz : ds.length + es.length < 1000000) (q : ∀ H', S F (x0 :: x1 :: x2 :: Ls K l (ds ++ es) :: m) H' → Q .non H') : rExt K (.ref l) [v] H Q := g_ext 3 hS rfl hv hz q
theorem g_setL3 {x0 x1 x2 : Sx} {j : Nat} {k : Int} (hS : S F (x0 :: x1 :: x2 :: Ls K l ds :: m) H) (hv : Has K F v d) (hj : ixN ds.length k = some j) (q : ∀ H', S F (x0 :: x1 :: x2 :: Ls K l (ds.set j d) :: m) H' → QH H') : rSetL (.ref l) (.int k) v H QH := g_setL 3 hS rfl hv hj q
theorem g_app4 {x0 x1 x2 x3 : Sx} (hS : S F (x0 :: x1 :: x2 :: x3 :: Ls K l ds :: m) H) (hv : Has K F v d) (hz : ds.length < 1000000) (q : ∀ H', S F (x0 :: x1 :: x2 :: x3 :: Ls K l (ds ++ [d]) :: m) H' → Q .non H') : rAppend (.ref l) [v] H Q := g_app 4 hS rfl hv hz q
theorem g_pop4 {x0 x1 x2 x3 : Sx} (hS : S F (x0 :: x1 :: x2 :: x3 :: Ls K l (ds ++ [d]) :: m) H) (q : ∀ w H', S (dat K w d :: F) (x0 :: x1 :: x2 :: x3 :: Ls K l ds :: m) H' → Q w H') : rPop (.ref l) [] H Q := g_pop 4 hS rfl q
theorem g_ext4 {x0 x1 x2 x3 : Sx} (hS : S F (x0 :: x1 :: x2 :: x3 :: Ls K l ds :: m) H) (hv : Has K F v (.tuple es) ∨ Has K F v (.list es)) (hz : ds.length + es.length < 1000000) (q : ∀ H', S F (x0 :: x1 :: x2 :: x3 :: Ls K l (ds ++ es) :: m) H' → Q .non H') : rExt K (.ref l) [v] H Q := g_ext 4 hS rfl hv hz q
theorem g_setL4 {x0 x1 x2 x3 : Sx} {j : Nat} {k : Int} (hS : S F (x0 :: x1 :: x2 :: x3 :: Ls K l ds :: m) H) (hv : Has K F v d) (hj : ixN ds.length k = some j) (q : ∀ H', S F (x0 :: x1 :: x2 :: x3 :: Ls K l (ds.set j d) :: m) H' → QH H') : rSetL (.ref l) (.int k) v H QH := g_setL 4 hS rfl hv hj q
end
end Qe

namespace Qe
open PySem PySem.Spec PyProof.Rows L2

section
variable {K : PySem.W.Frag} {F : List Fc} {m : List Sx} {H : Hp} {σ : L2.St} {nx bk ct : L2.St → Hp → Prop} {rt : VK} {v x y : V} {d e : PyData} {ds es : List PyData} {ta tb te : TE} {t u : TS} {g : TG} {c : TT}
/-- the loop's end of a turn -/
abbrev At (F : List Fc) (Inv : L2.St → List Sx → Prop) : L2.St → Hp → Prop := fun σ H => ∃ m, Inv σ m ∧ S F m H
def ForJ (J : It) (g : TG) (tb : TS) (D : Ends) (σ : L2.St) (H : Hp) : Prop := ∃ W : Nat → Nat → L2.St → Hp → Prop, (∃ m, W 0 m σ H) ∧ ∀ i m σ H, W i m σ H →
  (J.stop i H ∧ D.nx σ H) ∨ (J.go i H ∧ ∃ N : L2.St → Hp → Prop, (∀ σ' H', N σ' H' → ∃ m', m' < m ∧ W (i + 1) m' σ' H') ∧ ∀ x H', J.yld i H x H' → g x σ H' fun σ2 H2 => tb { D with nx := N, ct := N, bk := D.nx } σ2 H2)
def SeqJ (K : PySem.W.Frag) (x : V) (H1 : Hp) (R : It → Prop) : Prop := ∃ a, x = .ref a ∧ (((∃ xs, SqL K H1 a xs) ∧ R (Itl K a)) ∨ ((∃ xs, SqT K H1 a xs) ∧ R (Itt K a)))
def ForS (K : PySem.W.Frag) (x : V) (g : TG) (tb : TS) (D : Ends) (σ : L2.St) (H : Hp) : Prop := SeqJ K x H fun J => ForJ J g tb D σ H
theorem g_forS {tl : TE} {D : Ends} (h : tl σ H fun x H1 => ForS K x g t D σ H1) : tFor (iSeq K tl) g t D σ H := h
/-- the source: data that stays -/
theorem src_seq {R : It → Prop} (hS : S F m H) (hv : Has K F v (.tuple ds) ∨ Has K F v (.list ds)) :
    ∃ a, v = .ref a ∧ ((∀ m' H', S F m' H' → ∃ xs, SqT K H' a xs ∧ xs.length = ds.length ∧ ∀ (i : Nat) (w : V) (d : PyData), xs[i]? = some w → ds[i]? = some d → S (dat K w d :: F) m' H') ∨
      (∀ m' H', S F m' H' → ∃ xs, SqL K H' a xs ∧ xs.length = ds.length ∧ ∀ (i : Nat) (w : V) (d : PyData), xs[i]? = some w → ds[i]? = some d → S (dat K w d :: F) m' H')) := by
  rcases hv with hv | hv
  · have z := hS.dp hv
    generalize hz : PyData.tuple ds = zz at z
    cases z with
    | tup hs ha =>
      cases hz
      refine ⟨_, rfl, .inl fun m' H' h' => ?_⟩
      obtain ⟨G, e, f, own, nd⟩ := h'.ex
      have z := hv G f
      cases z with
      | tup hs' ha' =>
        refine ⟨_, same_t e hs', ha'.len, fun i w d h1 h2 => ?_⟩
        obtain ⟨w', e1, e2⟩ := ha'.get h2
        rw [h1] at e1
        cases e1
        exact ⟨G, e, fun g hg => by cases hg with | head => exact e2 | tail _ hg => exact f g hg, own, nd⟩
    | _ => cases hz
  · have z := hS.dp hv
    generalize hz : PyData.list ds = zz at z
    cases z with
    | lst hs ha =>
      cases hz
      refine ⟨_, rfl, .inr fun m' H' h' => ?_⟩
      obtain ⟨G, e, f, own, nd⟩ := h'.ex
      have z := hv G f
      cases z with
      | lst hs' ha' =>
        refine ⟨_, e.seq hs', ha'.len, fun i w d h1 h2 => ?_⟩
        obtain ⟨w', e1, e2⟩ := ha'.get h2
        rw [h1] at e1
        cases e1
        exact ⟨G, e, fun g hg => by cases hg with | head => exact e2 | tail _ hg => exact f g hg, own, nd⟩
    | _ => cases hz
theorem g_for (hS : S F m H) (hv : Has K F v (.tuple ds) ∨ Has K F v (.list ds)) (Inv : Nat → L2.St → List Sx → Prop) (h0 : Inv 0 σ m)
    (hs : ∀ i d w σ' m' H', ds[i]? = some d → Inv i σ' m' → S (dat K w d :: F) m' H' → g w σ' H' fun σ2 H2 => t ⟨At F (Inv (i + 1)), rt, nx, At F (Inv (i + 1))⟩ σ2 H2)
    (hd : ∀ σ' m' H', Inv ds.length σ' m' → S F m' H' → nx σ' H') : ForS K v g t ⟨nx, rt, bk, ct⟩ σ H := by
  obtain ⟨a, rfl, h⟩ := src_seq (R := fun _ => True) hS hv
  rcases h with h | h
  · obtain ⟨xs, hx, hl, hw⟩ := h m H hS
    refine ⟨a, rfl, .inr ⟨⟨xs, hx⟩, ?_⟩⟩
    refine ⟨fun i k σ' H' => k = ds.length - i ∧ i ≤ ds.length ∧ At F (Inv i) σ' H', ⟨_, rfl, Nat.zero_le _, m, h0, hS⟩, ?_⟩
    rintro i k σ' H' ⟨rfl, hi, m', p, hS'⟩
    obtain ⟨ys, hy, hyl, hyw⟩ := h m' H' hS'
    by_cases hlt : i < ds.length
    · have e1 : ys[i]? = some ys[i] := List.getElem?_eq_getElem (by omega)
      have e2 : ds[i]? = some ds[i] := List.getElem?_eq_getElem hlt
      refine .inr ⟨⟨ys, ys[i], hy, e1⟩, At F (Inv (i + 1)), fun σ2 H2 p2 => ⟨_, by omega, rfl, hlt, p2⟩, fun x H2 y => ?_⟩
      obtain ⟨rfl, y⟩ := y
      have ex : x = ys[i] := by
        have z := y ys hy
        rw [e1] at z
        exact (Option.some.inj z).symm
      subst ex
      exact hs i _ _ σ' m' _ e2 p (hyw i _ _ e1 e2)
    · have e : i = ds.length := by omega
      subst e
      exact .inl ⟨⟨ys, hy, by omega⟩, hd σ' m' H' p hS'⟩
  · obtain ⟨xs, hx, hl, hw⟩ := h m H hS
    refine ⟨a, rfl, .inl ⟨⟨xs, hx⟩, ?_⟩⟩
    refine ⟨fun i k σ' H' => k = ds.length - i ∧ i ≤ ds.length ∧ At F (Inv i) σ' H', ⟨_, rfl, Nat.zero_le _, m, h0, hS⟩, ?_⟩
    rintro i k σ' H' ⟨rfl, hi, m', p, hS'⟩
    obtain ⟨ys, hy, hyl, hyw⟩ := h m' H' hS'
    by_cases hlt : i < ds.length
    · have e1 : ys[i]? = some ys[i] := List.getElem?_eq_getElem (by omega)
      have e2 : ds[i]? = some ds[i] := List.getElem?_eq_getElem hlt
      refine .inr ⟨⟨ys, ys[i], hy, e1⟩, At F (Inv (i + 1)), fun σ2 H2 p2 => ⟨_, by omega, rfl, hlt, p2⟩, fun x H2 y => ?_⟩
      obtain ⟨rfl, y⟩ := y
      have ex : x = ys[i] := by
        have z := y ys hy
        rw [e1] at z
        exact (Option.some.inj z).symm
      subst ex
      exact hs i _ _ σ' m' _ e2 p (hyw i _ _ e1 e2)
    · have e : i = ds.length := by omega
      subst e
      exact .inl ⟨⟨ys, hy, by omega⟩, hd σ' m' H' p hS'⟩
/-- over an owned list that stays owned, as it is -/
theorem g_forO {l : Addr} (hS : S F m H) (Inv : Nat → L2.St → List Sx → Prop) (h0 : Inv 0 σ m) (hm : ∀ i σ' m', Inv i σ' m' → Ls K l ds ∈ m')
    (hs : ∀ i d w σ' m' H', ds[i]? = some d → Inv i σ' m' → S (dat K w d :: F) m' H' → g w σ' H' fun σ2 H2 => t ⟨At F (Inv (i + 1)), rt, nx, At F (Inv (i + 1))⟩ σ2 H2)
    (hd : ∀ σ' m' H', Inv ds.length σ' m' → S F m' H' → nx σ' H') : ForS K (.ref l) g t ⟨nx, rt, bk, ct⟩ σ H := by
  obtain ⟨xs, hx, hl, hw⟩ := own_list hS (hm _ _ _ h0)
  refine ⟨l, rfl, .inl ⟨⟨xs, SqL.of hx⟩, ?_⟩⟩
  refine ⟨fun i k σ' H' => k = ds.length - i ∧ i ≤ ds.length ∧ At F (Inv i) σ' H', ⟨_, rfl, Nat.zero_le _, m, h0, hS⟩, ?_⟩
  rintro i k σ' H' ⟨rfl, hi, m', p, hS'⟩
  obtain ⟨ys, hy', hyl, hyw⟩ := own_list hS' (hm _ _ _ p)
  have hy : SqL K H' l ys := SqL.of hy'
  by_cases hlt : i < ds.length
  · have e1 : ys[i]? = some ys[i] := List.getElem?_eq_getElem (by omega)
    have e2 : ds[i]? = some ds[i] := List.getElem?_eq_getElem hlt
    refine .inr ⟨⟨ys, ys[i], hy, e1⟩, At F (Inv (i + 1)), fun σ2 H2 p2 => ⟨_, by omega, rfl, hlt, p2⟩, fun x H2 y => ?_⟩
    obtain ⟨rfl, y⟩ := y
    have ex : x = ys[i] := by
      have z := y ys hy
      rw [e1] at z
      exact (Option.some.inj z).symm
    subst ex
    exact hs i _ _ σ' m' _ e2 p (hyw i _ _ e1 e2)
  · have e : i = ds.length := by omega
    subst e
    exact .inl ⟨⟨ys, hy, by omega⟩, hd σ' m' H' p hS'⟩
def ForR1 (vs : List V) (g : TG) (tb : TS) (D : Ends) (σ : L2.St) (H1 : Hp) : Prop := ∃ j : Int, vs = [.int j] ∧ -(2 ^ 62) ≤ j ∧ j < 2 ^ 62 ∧ ForJ (Itr 0 j.toNat) g tb D σ H1
def ForR2 (vs : List V) (g : TG) (tb : TS) (D : Ends) (σ : L2.St) (H1 : Hp) : Prop := ∃ i j : Int, vs = [.int i, .int j] ∧ (-(2 ^ 62) ≤ i ∧ i < 2 ^ 62 ∧ -(2 ^ 62) ≤ j ∧ j < 2 ^ 62) ∧ ForJ (Itr i (j - i).toNat) g tb D σ H1
theorem g_forR1 {tr : TA} {D : Ends} (h : tr σ H fun vs H1 => ForR1 vs g t D σ H1) : tFor (iRng1 tr) g t D σ H := h
theorem g_forR2 {tr : TA} {D : Ends} (h : tr σ H fun vs H1 => ForR2 vs g t D σ H1) : tFor (iRng2 tr) g t D σ H := h
theorem forJ_range {lo : Int} {n : Nat} (hS : S F m H) (Inv : Nat → L2.St → List Sx → Prop) (h0 : Inv 0 σ m)
    (hs : ∀ i σ' m' H', i < n → Inv i σ' m' → S F m' H' → g (.int (lo + (i : Nat))) σ' H' fun σ2 H2 => t ⟨At F (Inv (i + 1)), rt, nx, At F (Inv (i + 1))⟩ σ2 H2)
    (hd : ∀ σ' m' H', Inv n σ' m' → S F m' H' → nx σ' H') : ForJ (Itr lo n) g t ⟨nx, rt, bk, ct⟩ σ H :=
  for_range (fun i σ' H' => At F (Inv i) σ' H') ⟨m, h0, hS⟩ (fun i σ' H' hi ⟨m', p, hS'⟩ => hs i σ' m' H' hi p hS') fun σ' H' ⟨m', p, hS'⟩ => hd σ' m' H' p hS'
theorem g_range {n : Int} (hS : S F m H) (hn : -(2 ^ 62) ≤ n ∧ n < 2 ^ 62) (Inv : Nat → L2.St → List Sx → Prop) (h0 : Inv 0 σ m)
    (hs : ∀ (i : Nat) σ' m' H', (i : Int) < n → Inv i σ' m' → S F m' H' → g (.int (i : Nat)) σ' H' fun σ2 H2 => t ⟨At F (Inv (i + 1)), rt, nx, At F (Inv (i + 1))⟩ σ2 H2)
    (hd : ∀ σ' m' H', Inv n.toNat σ' m' → S F m' H' → nx σ' H') : ForR1 [.int n] g t ⟨nx, rt, bk, ct⟩ σ H :=
  ⟨n, rfl, hn.1, hn.2, forJ_range hS Inv h0 (fun i σ' m' H' hi p q => by rw [Int.zero_add]; exact hs i σ' m' H' (by omega) p q) hd⟩
/-- while -/
def WhB (W : Nat → L2.St → Hp → Prop) (tb : TS) (D : Ends) (k : Nat) (σ : L2.St) (b : Bool) (H1 : Hp) : Prop :=
  if b = true then ∃ N : L2.St → Hp → Prop, (∀ σ' H', N σ' H' → ∃ m', m' < k ∧ W m' σ' H') ∧ tb { D with nx := N, ct := N, bk := D.nx } σ H1 else D.nx σ H1
theorem g_while (hS : S F m H) (Inv : Nat → L2.St → List Sx → Prop) (k0 : Nat) (h0 : Inv k0 σ m)
    (hs : ∀ k σ' m' H', Inv k σ' m' → S F m' H' → c σ' H' fun b H1 => if b = true then t ⟨fun σ3 H3 => ∃ k3, k3 < k ∧ At F (Inv k3) σ3 H3, rt, nx, fun σ3 H3 => ∃ k3, k3 < k ∧ At F (Inv k3) σ3 H3⟩ σ' H1 else nx σ' H1)
    (mono : ∀ σ H Q Q', (∀ b H1, Q b H1 → Q' b H1) → c σ H Q → c σ H Q') : tWhile c t ⟨nx, rt, bk, ct⟩ σ H := by
  refine ⟨fun k σ' H' => At F (Inv k) σ' H', ⟨k0, m, h0, hS⟩, ?_⟩
  rintro k σ' H' ⟨m', p, hS'⟩
  refine mono σ' H' _ _ (fun b H1 q => ?_) (hs k σ' m' H' p hS')
  cases b with
  | true => exact ⟨_, fun σ3 H3 ⟨k3, l, w⟩ => ⟨k3, l, w⟩, q⟩
  | false => exact q
/-! ### list comprehensions -/
def LcJ (J : It) (g : TG) (tt : TT) (te : TE) (vs : List Nat) (σ : L2.St) (H1 : Hp) (Q : VK) : Prop := ∀ D, H1 D = none → ∃ W : Nat → Nat → Hp → Prop, (∃ m, W 0 m (upd H1 D (.lst []))) ∧ ∀ i m H, W i m H →
  (J.stop i H ∧ Q (.ref D) H) ∨ (J.go i H ∧ ∃ Nx : Hp → Prop, (∀ H', Nx H' → ∃ m', m' < m ∧ W (i + 1) m' H') ∧ ∀ x H', J.yld i H x H' → g x (wipe σ vs) H' fun σ2 H2 => wipe σ2 vs = wipe σ vs ∧ tt σ2 H2 fun b H3 =>
    if b = true then te σ2 H3 fun y H4 => ∃ acc, H4 D = some (.lst acc) ∧ acc.length < sizeLine ∧ Nx (upd H4 D (.lst (acc ++ [y]))) else Nx H3)
def LcS (K : PySem.W.Frag) (x : V) (g : TG) (tt : TT) (te : TE) (vs : List Nat) (σ : L2.St) (H : Hp) (Q : VK) : Prop := SeqJ K x H fun J => LcJ J g tt te vs σ H Q
variable {tt : TT} {ws : List Nat} {Q : VK}
theorem g_lcS {tl : TE} (h : tl σ H fun x H1 => LcS K x g tt te ws σ H1 Q) : tLc (iSeq K tl) g tt te ws σ H Q := h
def LcR1 (vs : List V) (g : TG) (tt : TT) (te : TE) (ws : List Nat) (σ : L2.St) (H : Hp) (Q : VK) : Prop := ∃ j : Int, vs = [.int j] ∧ -(2 ^ 62) ≤ j ∧ j < 2 ^ 62 ∧ LcJ (Itr 0 j.toNat) g tt te ws σ H Q
theorem g_lcR1 {tr : TA} (h : tr σ H fun vs H1 => LcR1 vs g tt te ws σ H1 Q) : tLc (iRng1 tr) g tt te ws σ H Q := h
/-- a turn of a comprehension: the new list at D has acc; kept: one more -/
def LcT (K : PySem.W.Frag) (F : List Fc) (Inv : List PyData → List Sx → Prop) (D : Addr) (acc : List PyData) (tt : TT) (te : TE) (σ0 : L2.St) (ws : List Nat) : L2.St → Hp → Prop := fun σ2 H2 =>
  wipe σ2 ws = σ0 ∧ tt σ2 H2 fun b H3 => if b = true then te σ2 H3 fun y H4 => ∃ e m4, Inv (acc ++ [e]) m4 ∧ S (dat K y e :: F) (Ls K D acc :: m4) H4 else ∃ m4, Inv acc m4 ∧ S F (Ls K D acc :: m4) H3
def MonoTE (te : TE) : Prop := ∀ σ H (Q Q' : VK), (∀ v H1, Q v H1 → Q' v H1) → te σ H Q → te σ H Q'
def MonoTT (tt : TT) : Prop := ∀ σ H (Q Q' : Bool → Hp → Prop), (∀ v H1, Q v H1 → Q' v H1) → tt σ H Q → tt σ H Q'
def MonoTG (g : TG) : Prop := ∀ v σ H (Q Q' : L2.St → Hp → Prop), (∀ v H1, Q v H1 → Q' v H1) → g v σ H Q → g v σ H Q'
theorem lc_turn {Inv : List PyData → List Sx → Prop} {Nx : Hp → Prop} {D : Addr} {acc : List PyData} (mg : MonoTG g) (mt : MonoTT tt) (me : MonoTE te) (hz : acc.length < 1000000)
    (hN : ∀ acc' m' H', acc'.length ≤ acc.length + 1 → Inv acc' m' → S F (Ls K D acc' :: m') H' → Nx H') {σ1 : L2.St}
    (h : g x σ1 H (LcT K F Inv D acc tt te σ1 ws)) : g x σ1 H fun σ2 H2 => wipe σ2 ws = σ1 ∧ tt σ2 H2 fun b H3 => if b = true then te σ2 H3 fun y H4 => ∃ acc, H4 D = some (.lst acc) ∧ acc.length < sizeLine ∧ Nx (upd H4 D (.lst (acc ++ [y]))) else Nx H3 := by
  refine mg _ _ _ _ _ (fun σ2 H2 ⟨h1, h2⟩ => ⟨h1, mt _ _ _ _ (fun b H3 h3 => ?_) h2⟩) h
  cases b with
  | true =>
    refine me _ _ _ _ (fun y H4 h4 => ?_) h3
    obtain ⟨e, m4, hi, hS⟩ := h4
    obtain ⟨G, vs, _, f, ho, ha⟩ := own_at (i := 0) (ds := acc) hS rfl
    refine ⟨vs, ho, by rw [ha.len]; exact Nat.lt_of_lt_of_le hz (by decide), hN (acc ++ [e]) m4 _ (by simp) hi (S.pop (upd_setAt (i := 0) (G := G) hS rfl fun G' vs' f' ho' ha' => ?_))⟩
    rw [ho] at ho'
    cases ho'
    exact ha'.app (.cons (f' _ (.head _)) .nil)
  | false =>
    obtain ⟨m4, hi, hS⟩ := h3
    exact hN acc m4 _ (Nat.le_succ _) hi hS
theorem g_lc (hS : S F m H) (hv : Has K F v (.tuple ds) ∨ Has K F v (.list ds)) (mg : MonoTG g) (mt : MonoTT tt) (me : MonoTE te) (hz : ds.length < 1000000) (Inv : Nat → List PyData → List Sx → Prop) (h0 : Inv 0 [] m)
    (hs : ∀ i d w D acc m' H', ds[i]? = some d → acc.length ≤ i → Inv i acc m' → S (dat K w d :: F) (Ls K D acc :: m') H' → g w (wipe σ ws) H' (LcT K F (Inv (i + 1)) D acc tt te (wipe σ ws) ws))
    (hd : ∀ D acc m' H', acc.length ≤ ds.length → Inv ds.length acc m' → S F (Ls K D acc :: m') H' → Q (.ref D) H') : LcS K v g tt te ws σ H Q := by
  obtain ⟨a, rfl, h⟩ := src_seq (R := fun _ => True) hS hv
  rcases h with h | h
  · obtain ⟨xs, hx, hl, hw⟩ := h m H hS
    refine ⟨a, rfl, .inr ⟨⟨xs, hx⟩, fun D hD => ?_⟩⟩
    refine ⟨fun i k H' => k = ds.length - i ∧ i ≤ ds.length ∧ ∃ acc m', acc.length ≤ i ∧ Inv i acc m' ∧ S F (Ls K D acc :: m') H', ⟨_, rfl, Nat.zero_le _, [], m, Nat.le_refl _, h0, hS.put hD (Ls K D []) rfl fun G g => ⟨[], rfl, .nil⟩⟩, ?_⟩
    rintro i k H' ⟨rfl, hi, acc, m', hacc, p, hS'⟩
    obtain ⟨ys, hy, hyl, hyw⟩ := h _ H' hS'
    by_cases hlt : i < ds.length
    · have e1 : ys[i]? = some ys[i] := List.getElem?_eq_getElem (by omega)
      have e2 : ds[i]? = some ds[i] := List.getElem?_eq_getElem hlt
      refine .inr ⟨⟨ys, ys[i], hy, e1⟩, fun H2 => ∃ acc m', acc.length ≤ i + 1 ∧ Inv (i + 1) acc m' ∧ S F (Ls K D acc :: m') H2, fun H2 p2 => ⟨_, by omega, rfl, hlt, p2⟩, fun x H2 y => ?_⟩
      obtain ⟨rfl, y⟩ := y
      have ex : x = ys[i] := by
        have z := y ys hy
        rw [e1] at z
        exact (Option.some.inj z).symm
      subst ex
      exact lc_turn (acc := acc) (Inv := Inv (i + 1)) mg mt me (by omega) (fun acc' m2 H2 hl2 h2 h3 => ⟨acc', m2, by omega, h2, h3⟩) (hs i _ _ D acc m' _ e2 hacc p (hyw i _ _ e1 e2))
    · have e : i = ds.length := by omega
      subst e
      exact .inl ⟨⟨ys, hy, by omega⟩, hd D acc m' H' hacc p hS'⟩
  · obtain ⟨xs, hx, hl, hw⟩ := h m H hS
    refine ⟨a, rfl, .inl ⟨⟨xs, hx⟩, fun D hD => ?_⟩⟩
    refine ⟨fun i k H' => k = ds.length - i ∧ i ≤ ds.length ∧ ∃ acc m', acc.length ≤ i ∧ Inv i acc m' ∧ S F (Ls K D acc :: m') H', ⟨_, rfl, Nat.zero_le _, [], m, Nat.le_refl _, h0, hS.put hD (Ls K D []) rfl fun G g => ⟨[], rfl, .nil⟩⟩, ?_⟩
    rintro i k H' ⟨rfl, hi, acc, m', hacc, p, hS'⟩
    obtain ⟨ys, hy, hyl, hyw⟩ := h _ H' hS'
    by_cases hlt : i < ds.length
    · have e1 : ys[i]? = some ys[i] := List.getElem?_eq_getElem (by omega)
      have e2 : ds[i]? = some ds[i] := List.getElem?_eq_getElem hlt
      refine .inr ⟨⟨ys, ys[i], hy, e1⟩, fun H2 => ∃ acc m', acc.length ≤ i + 1 ∧ Inv (i + 1) acc m' ∧ S F (Ls K D acc :: m') H2, fun H2 p2 => ⟨_, by omega, rfl, hlt, p2⟩, fun x H2 y => ?_⟩
      obtain ⟨rfl, y⟩ := y
      have ex : x = ys[i] := by
        have z := y ys hy
        rw [e1] at z
        exact (Option.some.inj z).symm
      subst ex
      exact lc_turn (acc := acc) (Inv := Inv (i + 1)) mg mt me (by omega) (fun acc' m2 H2 hl2 h2 h3 => ⟨acc', m2, by omega, h2, h3⟩) (hs i _ _ D acc m' _ e2 hacc p (hyw i _ _ e1 e2))
    · have e : i = ds.length := by omega
      subst e
      exact .inl ⟨⟨ys, hy, by omega⟩, hd D acc m' H' hacc p hS'⟩
theorem g_lcR {n : Int} (hS : S F m H) (hn : -(2 ^ 62) ≤ n ∧ n < 1000000) (mg : MonoTG g) (mt : MonoTT tt) (me : MonoTE te) (Inv : Nat → List PyData → List Sx → Prop) (h0 : Inv 0 [] m)
    (hs : ∀ (i : Nat) D acc m' H', (i : Int) < n → acc.length ≤ i → Inv i acc m' → S F (Ls K D acc :: m') H' → g (.int (i : Nat)) (wipe σ ws) H' (LcT K F (Inv (i + 1)) D acc tt te (wipe σ ws) ws))
    (hd : ∀ D acc m' H', acc.length ≤ n.toNat → Inv n.toNat acc m' → S F (Ls K D acc :: m') H' → Q (.ref D) H') : LcR1 [.int n] g tt te ws σ H Q := by
  refine ⟨n, rfl, hn.1, by omega, fun D hD => ?_⟩
  refine ⟨fun i k H' => k = n.toNat - i ∧ i ≤ n.toNat ∧ ∃ acc m', acc.length ≤ i ∧ Inv i acc m' ∧ S F (Ls K D acc :: m') H', ⟨_, rfl, Nat.zero_le _, [], m, Nat.le_refl _, h0, hS.put hD (Ls K D []) rfl fun G g => ⟨[], rfl, .nil⟩⟩, ?_⟩
  rintro i k H' ⟨rfl, hi, acc, m', hacc, p, hS'⟩
  by_cases hlt : i < n.toNat
  · refine .inr ⟨hlt, fun H2 => ∃ acc m', acc.length ≤ i + 1 ∧ Inv (i + 1) acc m' ∧ S F (Ls K D acc :: m') H2, fun H2 p2 => ⟨_, by omega, rfl, hlt, p2⟩, fun x H2 y => ?_⟩
    obtain ⟨rfl, rfl⟩ := y
    refine lc_turn (acc := acc) (Inv := Inv (i + 1)) mg mt me (by omega) (fun acc' m2 H2 hl2 h2 h3 => ⟨acc', m2, by omega, h2, h3⟩) ?_
    rw [Int.zero_add]
    exact hs i D acc m' _ (by omega) hacc p hS'
  · have e : i = n.toNat := by omega
    subst e
    exact .inl ⟨Nat.le_refl _, hd D acc m' H' hacc p hS'⟩
theorem g_lcT {Inv : List PyData → List Sx → Prop} {D : Addr} {acc : List PyData} {i : Nat} {σ0 : L2.St} (h1 : wipe (σ0.set i (some v)) ws = σ0)
    (h : tt (σ0.set i (some v)) H fun b H3 => if b = true then te (σ0.set i (some v)) H3 fun y H4 => ∃ e m4, Inv (acc ++ [e]) m4 ∧ S (dat K y e :: F) (Ls K D acc :: m4) H4 else ∃ m4, Inv acc m4 ∧ S F (Ls K D acc :: m4) H3) :
    gName i v σ0 H (LcT K F Inv D acc tt te σ0 ws) := ⟨h1, h⟩
theorem g_yes {QB : Bool → Hp → Prop} (h : QB true H) : tYes σ H QB := h
/-- sum of a list of ints -/
theorem g_sum {ns : List Int} (hS : S F m H) (hv : Has K F v (.list (ns.map PyData.int))) (q : Q (.int ns.sum) H) : rSum K [v] H Q := by
  have z := hS.dp hv
  cases z with
  | lst hs ha =>
    have e := ha.ints
    subst e
    exact ⟨_, ns, rfl, hs, q⟩
theorem g_sumO {l : Addr} {ns : List Int} (hS : S F m H) (hm : Ls K l (ns.map PyData.int) ∈ m) (q : Q (.int ns.sum) H) : rSum K [.ref l] H Q := by
  obtain ⟨G, e, f, own, nd⟩ := hS.ex
  obtain ⟨_, o, ho, vs, rfl, ha⟩ := own _ hm
  have e := ha.ints
  subst e
  exact ⟨_, ns, rfl, SqL.of ho, q⟩
theorem frzL {l : Addr} (h : S F (Ls K l ds :: m) H) : S (dat K (.ref l) (.list ds) :: F) m H := h.frz _ fun G o f ⟨vs, h1, h2⟩ h3 => .lst (SqL.of (by rw [h1] at h3; exact h3)) h2
end
end Qe

namespace Qe
open PySem PySem.Spec PyProof.Rows L2

/-! ### + of ints, texts, lists, tuples -/
def rAddStr : R2 := fun x y H Q => ∃ i j, x = .str i ∧ y = .str j ∧ i.length + j.length ≤ sizeLine ∧ Q (.str (i ++ j)) H
def rAddU (K : PySem.W.Frag) : R2 := fun x y H Q => rAddI x y H Q ∨ rAddStr x y H Q ∨ rCatT K x y H Q
theorem op_addU {X : Cx} : OpR X (binaryOp .Add) (rAddU X.K) := OpR.or op_addI (OpR.or op_add_str op_catT)
/-! ### isinstance -/
def tyOf : PyData → String
  | .none => "NoneType"
  | .bool _ => "bool"
  | .int _ => "int"
  | .str _ => "str"
  | .list _ => "list"
  | .tuple _ => "tuple"
  | .dict _ => "dict"
section
variable {K : PySem.W.Frag} {F : List Fc} {m : List Sx} {H : Hp} {σ : L2.St} {Q : VK} {v x y : V} {d e : PyData} {ds es : List PyData} {ta tb : TE} {QB : Bool → Hp → Prop}
theorem tyx {G : Hp} (h : Dp K G v d) : TyX K G v (.type (tyOf d)) := by
  cases h with
  | non => exact .base .non
  | bl b => exact .base (.bl b)
  | int i => exact .base (.int i)
  | str x => exact .base (.str x)
  | lst hs ha =>
    rcases hs with (h | ⟨o, h⟩) | ⟨o, its, n, e, hc, _⟩
    · exact .base (.lst h)
    · exact .base (.frz h)
    · exact .kList e hc
  | tup hs ha =>
    rcases hs with (h | ⟨o, h⟩) | h
    · exact .base (.tup h)
    · exact .fTuple h
    · obtain ⟨o, its, n, e, hc, _⟩ := h
      exact .kTuple e hc
def isiB (n : String) (d : PyData) : Bool := (kitB (tyOf d) n).getD false
theorem g_isi {n : String} (hS : S F m H) (hv : Has K F v d) (hk : (kitB (tyOf d) n).isSome = true) (q : Q (.bl (isiB n d)) H) : rIsi K [v, .ty n] H Q := by
  obtain ⟨b, hb⟩ := Option.isSome_iff_exists.mp hk
  refine ⟨v, .ty n, _, _, b, rfl, .ty n, tyx (hS.dp hv), kit_ty hb, ?_⟩
  have e : isiB n d = b := by unfold isiB; rw [hb] <;> rfl
  rw [← e]
  exact q
theorem kit_some (n : String) (hn : n = "int" ∨ n = "bool" ∨ n = "str" ∨ n = "list" ∨ n = "tuple") : ∀ d : PyData, (kitB (tyOf d) n).isSome = true := by
  intro d
  rcases hn with rfl | rfl | rfl | rfl | rfl <;> cases d <;> (dsimp only [tyOf]; decide +kernel)
def isD (n : String) : PyData → Bool
  | .none => false
  | .bool _ => n == "bool" || n == "int"
  | .int _ => n == "int"
  | .str _ => n == "str"
  | .list _ => n == "list"
  | .tuple _ => n == "tuple"
  | .dict _ => false
theorem isi_eq (n : String) (hn : n = "int" ∨ n = "bool" ∨ n = "str" ∨ n = "list" ∨ n = "tuple") : ∀ d : PyData, isiB n d = isD n d := by
  intro d
  rcases hn with rfl | rfl | rfl | rfl | rfl <;> cases d <;> (dsimp only [isiB, isD, tyOf]; decide +kernel)
theorem g_isiN {n : String} (hS : S F m H) (hv : Has K F v d) (hn : n = "int" ∨ n = "bool" ∨ n = "str" ∨ n = "list" ∨ n = "tuple") (q : Q (.bl (isD n d)) H) : rIsi K [v, .ty n] H Q :=
  g_isi hS hv (kit_some n hn d) (by rw [isi_eq n hn]; exact q)
def isSeqD : PyData → Bool
  | .list _ => true
  | .tuple _ => true
  | _ => false
theorem kitAny2 {a : String} {b1 b2 : Bool} (h1 : kitB a "list" = some b1) (h2 : kitB a "tuple" = some b2) : PySem.W.kitAny K (.type a) [.type "list", .type "tuple"] = some (b1 || b2) := by
  have e1 : PySem.W.kitOne K (.type a) (.type "list") = some b1 := kit_ty h1
  have e2 : PySem.W.kitOne K (.type a) (.type "tuple") = some b2 := kit_ty h2
  simp only [PySem.W.kitAny, e1, e2]
  cases b1 <;> cases b2 <;> rfl
theorem g_isiT (hS : S F m H) (hv : Has K F v d) (q : ∀ H', S F m H' → Q (.bl (isSeqD d)) H') (R : VK) (hR : ∀ p H', rIsiT K [v, .ref p] H' Q → R (.ref p) H') : MkT [V.ty "list", .ty "tuple"] H R := by
  refine ⟨by decide, fun p hp => hR _ _ ?_⟩
  have hS' : S F m (upd H p (.tup [.ty "list", .ty "tuple"])) := S.pop (hS.putF (o := .tup [.ty "list", .ty "tuple"]) hp ⟨fun _ => True, fun _ _ _ h => h⟩ fun _ _ _ => trivial)
  have hh : ∃ b, PySem.W.kitAny K (.type (tyOf d)) [.type "list", .type "tuple"] = some b ∧ b = isSeqD d := by
    cases d <;> (dsimp only [tyOf, isSeqD]; first | exact ⟨_, kitAny2 (b1 := false) (b2 := false) (by decide +kernel) (by decide +kernel), rfl⟩ | exact ⟨_, kitAny2 (b1 := true) (b2 := false) (by decide +kernel) (by decide +kernel), rfl⟩ | exact ⟨_, kitAny2 (b1 := false) (b2 := true) (by decide +kernel) (by decide +kernel), rfl⟩)
  obtain ⟨b, hb, e⟩ := hh
  refine ⟨v, p, _, _, _, b, rfl, upd_same, .cons (.ty "list") (.cons (.ty "tuple") .nil), tyx (hS'.dp hv), hb, ?_⟩
  rw [e]
  exact q _ hS'
theorem g_addUI {i j : Int} (q : Q (.int (i + j)) H) : rAddU K (.int i) (.int j) H Q := .inl ⟨i, j, rfl, rfl, q⟩
theorem g_addUS {i j : Str} (hz : i.length + j.length ≤ sizeLine) (q : Q (.str (i ++ j)) H) : rAddU K (.str i) (.str j) H Q := .inr (.inl ⟨i, j, rfl, rfl, hz, q⟩)
theorem g_addUT (hS : S F m H) (hx : Has K F x (.tuple ds)) (hy : Has K F y (.tuple es)) (hn : ds ≠ []) (hz : ds.length + es.length ≤ 1000000) (q : ResH K F m (.tuple (ds ++ es)) Q) : rAddU K x y H Q := by
  obtain ⟨G, ee, f, own, nd⟩ := hS.ex
  have z1 := hx G f
  have z2 := hy G f
  cases z1 with
  | tup h1 a1 =>
    cases z2 with
    | tup h2 a2 =>
      have l1 := a1.len
      have l2 := a2.len
      refine .inr (.inr ⟨_, _, _, _, rfl, rfl, same_t ee h1, same_t ee h2, ?_, ?_, fun e => ?_, fun _ p hp => ?_⟩)
      · intro e
        rw [e] at l1
        exact hn (List.length_eq_zero_iff.mp l1.symm)
      · rw [l1, l2]
        exact Nat.le_trans hz (by decide)
      · rw [e] at l2
        have e0 : es = [] := List.length_eq_zero_iff.mp l2.symm
        subst e0
        rw [List.append_nil] at q
        exact q _ _ (hS.addD hx)
      · exact q _ _ (putG ee f own nd hp _ fun G' s' e' => .tup (SqT.of e') ((dps_mono s' _ _ a1).app (dps_mono s' _ _ a2)))
theorem g_chain {r r' : R2} {tc : TE} (h : ta σ H fun x H1 => tb σ H1 fun y H2 => r x y H2 fun z H3 => ∃ k, z = .bl k ∧ (if k = true then tc σ H3 fun w' H4 => r' y w' H4 Q else Q (.bl false) H3)) : tChain r r' ta tb tc σ H Q := h
def NotR (K : PySem.W.Frag) (x : V) (H : Hp) (Q : VK) : Prop := ∃ k, TruV K x H k ∧ Q (.bl (!k)) H
theorem g_notT (h : ta σ H fun x H1 => NotR K x H1 Q) : tNotT K ta σ H Q := by
  have e : (fun (x : V) (H1 : Hp) => NotR K x H1 Q) = fun x H1 => ∃ k, TruV K x H1 k ∧ Q (.bl (!k)) H1 := rfl
  exact h
theorem g_notB {b : Bool} (q : Q (.bl (!b)) H) : NotR K (.bl b) H Q := ⟨b, rfl, q⟩
/-! ### slices -/
def cutD (xs : List PyData) (lo hi : Option Int) : List PyData := (xs.drop (HT.sIx xs.length 0 lo)).take (HT.sIx xs.length xs.length hi - HT.sIx xs.length 0 lo)
end
theorem sl_strU {X : Cx} : SlR X rSlS := sl_str
def rSlU (K : PySem.W.Frag) : V → Option Int → Option Int → Hp → VK → Prop := fun x lo hi H Q => rSlL K x lo hi H Q ∨ rSlT K x lo hi H Q ∨ rSlS x lo hi H Q
theorem SlR.or' {X : Cx} {r r' : V → Option Int → Option Int → Hp → VK → Prop} (h : SlR X r) (h' : SlR X r') : SlR X (fun x lo hi H Q => r x lo hi H Q ∨ r' x lo hi H Q) := by
  intro pins s σ H x v vl vu lo hi sl Q I rx hs pl pu q
  rcases q with q | q
  · exact h pins s σ H x v vl vu lo hi sl Q I rx hs pl pu q
  · exact h' pins s σ H x v vl vu lo hi sl Q I rx hs pl pu q
theorem sl_U {X : Cx} : SlR X (rSlU X.K) := SlR.or' sl_list (SlR.or' sl_tup sl_str)
end Qe

namespace Qe
open PySem PySem.Spec PyProof.Rows L2

/-- a def of the module that keeps its promise -/
structure Fn (P : Program) (w : World) (K : PySem.W.Frag) (mg : Str → Option Value) (base : Heap) (CX : CXT) (k : Nat) (x : Str) (ps : List Str) (sp : Sp) : Prop where
  ex : ∃ f fd, mg x = some (.ref f) ∧ PySem.W.keepIn K (.ref f) = true ∧ Binds K fd ps [] ∧ FnOk P w K mg base CX k f fd ps sp
theorem pe_fn {X : Cx} {CX : CXT} {k : Nat} {x : Str} {ps : List Str} {sp : Sp} {e : Expr} {es : List Expr} {t : TA} {p pos : Pos} {E : XK} (h : Fn X.prog X.w X.K X.mg X.base CX k x ps sp) (hr : Room k X.A) (hx : Passes CX X E) (ha : PA X (e :: es) t) (hg : Gl X x := by rfl)
    (hd : (x == ("__debug__" : Str)) = false := by decide +kernel)
    (he : starEach (e :: es) X.env = (false, eval e X.env) :: starEach es X.env := by rfl) (hpl : (backTo pos (starEach es X.env)).any (·.1) = false := by rfl) :
    PE X (.Call (.Name x p) (e :: es) [] pos) (tCall sp [] E t) := by
  obtain ⟨f, fd, hm, hk, hb, F⟩ := h.ex
  exact pe_call F hr hg hm hk hb .nil hx ha hd he hpl
theorem pe_globI {X : Cx} {x : Str} {i : Int} {pos : Pos} (hg : Gl X x) (hm : ∃ t, X.mg x = some (.int i t)) (hd : (x == ("__debug__" : Str)) = false := by decide +kernel) : PE X (.Name x pos) (tC (.int i)) := by
  obtain ⟨t, hm⟩ := hm
  exact pe_glob hg hm ⟨t, rfl⟩ hd
/-- the built-in names that the module does not bind -/
structure Tx (mg : Str → Option Value) : Prop where
  isinstance : mg "isinstance" = none
  len : mg "len" = none
  int : mg "int" = none
  bool : mg "bool" = none
  str : mg "str" = none
  list : mg "list" = none
  tuple : mg "tuple" = none
  range : mg "range" = none
  sum : mg "sum" = none
  sorted : mg "sorted" = none
  enumerate : mg "enumerate" = none
  reversed : mg "reversed" = none
  set : mg "set" = none
  dict : mg "dict" = none
def txFa : List He.Fa := [.free "isinstance", .free "len", .free "int", .free "bool", .free "str", .free "list", .free "tuple", .free "range", .free "sum", .free "sorted", .free "enumerate", .free "reversed", .free "set", .free "dict"]
theorem tx_of {K : PySem.W.Frag} {h : Heap} {mg : Str → Option Value} (X : K.In h) (G : h.Ns mainGlobals mg) {fa : List He.Fa} (hs : ∀ f ∈ txFa, f ∈ fa) (c : ∀ f ∈ fa, f.ok K = true) : Tx mg := by
  have z : ∀ x : Str, He.Fa.free x ∈ txFa → mg x = none := fun x hx => He.free_ok X G (c _ (hs _ hx))
  refine ⟨z _ ?_, z _ ?_, z _ ?_, z _ ?_, z _ ?_, z _ ?_, z _ ?_, z _ ?_, z _ ?_, z _ ?_, z _ ?_, z _ ?_, z _ ?_, z _ ?_⟩ <;> (unfold txFa; repeat (first | exact List.Mem.head _ | refine List.Mem.tail _ ?_))
theorem hu5_of {A : Around} {k : Nat} (hr : Room k A) : A.units + 65 < cLine := by
  have := hr.un
  omega
end Qe
namespace Qe
open PySem PySem.Spec PyProof.Rows L2
section
variable {K : PySem.W.Frag} {F : List Fc} {m : List Sx} {H : Hp} {Q : VK} {α : Type} {v : V} {d e : PyData} {ds : List PyData}
theorem res_int {j : Int} (q : S F m H → Q (.int j) H) : Res K F m H (.int j) Q := fun w h => by
  obtain ⟨rfl, h2⟩ := popInt h
  exact q h2
theorem res_str {j : Str} (q : S F m H → Q (.str j) H) : Res K F m H (.str j) Q := fun w h => by
  obtain ⟨rfl, h2⟩ := popStr h
  exact q h2
theorem res_bl {j : Bool} (q : S F m H → Q (.bl j) H) : Res K F m H (.bool j) Q := fun w h => by
  obtain ⟨rfl, h2⟩ := popBl h
  exact q h2
theorem res_non (q : S F m H → Q .non H) : Res K F m H .none Q := fun w h => by
  obtain ⟨rfl, h2⟩ := popNon h
  exact q h2
theorem resH_int {j : Int} (q : ∀ H', S F m H' → Q (.int j) H') : ResH K F m (.int j) Q := fun w H' h => by
  obtain ⟨rfl, h2⟩ := popInt h
  exact q H' h2
theorem resH_str {j : Str} (q : ∀ H', S F m H' → Q (.str j) H') : ResH K F m (.str j) Q := fun w H' h => by
  obtain ⟨rfl, h2⟩ := popStr h
  exact q H' h2
theorem resH_non (q : ∀ H', S F m H' → Q .non H') : ResH K F m .none Q := fun w H' h => by
  obtain ⟨rfl, h2⟩ := popNon h
  exact q H' h2
theorem resH_bl {j : Bool} (q : ∀ H', S F m H' → Q (.bl j) H') : ResH K F m (.bool j) Q := fun w H' h => by
  obtain ⟨rfl, h2⟩ := popBl h
  exact q H' h2
theorem at0 {a : PyData} {l : List PyData} : atI (a :: l) 0 = some a := by
  unfold atI ixN
  rw [if_pos (by decide), if_pos (by rw [List.length_cons]; omega)]
  rfl
theorem at1 {a b : PyData} {l : List PyData} : atI (a :: b :: l) 1 = some b := by
  unfold atI ixN
  rw [if_pos (by decide), if_pos (by simp only [List.length_cons]; omega)]
  rfl
theorem at2 {a b c : PyData} {l : List PyData} : atI (a :: b :: c :: l) 2 = some c := by
  unfold atI ixN
  rw [if_pos (by decide), if_pos (by simp only [List.length_cons]; omega)]
  rfl
theorem at3 {a b c d : PyData} {l : List PyData} : atI (a :: b :: c :: d :: l) 3 = some d := by
  unfold atI ixN
  rw [if_pos (by decide), if_pos (by simp only [List.length_cons]; omega)]
  rfl
theorem at_nat {l : List PyData} {i : Nat} : atI l (i : Int) = l[i]? := by
  unfold atI ixN
  rw [if_pos (by omega)]
  by_cases h : (i : Int) < l.length
  · rw [if_pos h]
    rfl
  · rw [if_neg h]
    have h' : l.length ≤ i := by omega
    rw [List.getElem?_eq_none h'] <;> rfl
theorem at_int {l : List PyData} {i : Int} (h0 : 0 ≤ i) {d : PyData} (h : l[i.toNat]? = some d) : atI l i = some d := by
  have e : i = (i.toNat : Int) := by omega
  rw [e, at_nat]
  exact h
end
end Qe
namespace Qe
open PySem PySem.Spec PyProof.Rows L2
theorem S.wk {F F' : List Fc} {m m' : List Sx} {H : Hp} (h : S F m H) (hf : ∀ f ∈ F', f ∈ F) (hm : m'.Sublist m) : S F' m' H := (h.imp fun _ q g hg => q g (hf g hg)).sub hm
theorem qb {F : List Fc} {m : List Sx} {H : Hp} {Q : VK} {b c : Bool} (q : ∀ H', S F m H' → Q (.bl b) H') (hS : S F m H) (e : c = b) : Q (.bl c) H := by
  subst e
  exact q _ hS
end Qe
namespace Qe
open PySem PySem.Spec PyProof.Rows L2
theorem mono_truVar {K : PySem.W.Frag} {i : Nat} : ∀ (σ : L2.St) (H : Hp) (Q Q' : Bool → Hp → Prop), (∀ b H1, Q b H1 → Q' b H1) → tTruU K (tVar i) σ H Q → tTruU K (tVar i) σ H Q' := by
  rintro σ H Q Q' h ⟨v, e, k, t, q⟩
  exact ⟨v, e, k, t, h _ _ q⟩
theorem mono_var {i : Nat} : MonoTE (tVar i) := by
  rintro σ H Q Q' h ⟨v, e, q⟩
  exact ⟨v, e, h _ _ q⟩
theorem mono_c {v : V} : MonoTE (tC v) := fun σ H Q Q' h q => h _ _ q
theorem mono_yes : MonoTT tYes := fun σ H Q Q' h q => h _ _ q
theorem mono_name {i : Nat} : MonoTG (gName i) := fun v σ H Q Q' h q => h _ _ q
/-- a promise that may be weakened -/
def MonoSp (sp : Sp) : Prop := ∀ vs H (Q Q' : VK) (E : XK), (∀ v H1, Q v H1 → Q' v H1) → sp vs H Q E → sp vs H Q' E
theorem mono_nil {σ : L2.St} {H : Hp} {Q Q' : List V → Hp → Prop} (h : ∀ v H1, Q v H1 → Q' v H1) (q : tNil σ H Q) : tNil σ H Q' := h _ _ q
def MonoTA (ta : TA) : Prop := ∀ σ H (Q Q' : List V → Hp → Prop), (∀ v H1, Q v H1 → Q' v H1) → ta σ H Q → ta σ H Q'
theorem monoA_nil : MonoTA tNil := fun σ H Q Q' h q => h _ _ q
theorem monoA_cons {te : TE} {ta : TA} (h1 : MonoTE te) (h2 : MonoTA ta) : MonoTA (tCons te ta) := fun σ H Q Q' h q => h1 _ _ _ _ (fun v H1 q1 => h2 _ _ _ _ (fun vs H2 q2 => h _ _ q2) q1) q
theorem mono_call {sp : Sp} {dvs : List V} {E : XK} {ta : TA} (hs : MonoSp sp) (ha : MonoTA ta) : MonoTE (tCall sp dvs E ta) := fun σ H Q Q' h q => ha _ _ _ _ (fun vs H1 q1 => hs _ _ _ _ _ h q1) q
def MonoR2 (r : R2) : Prop := ∀ x y H (Q Q' : VK), (∀ v H1, Q v H1 → Q' v H1) → r x y H Q → r x y H Q'
theorem mono_op {r : R2} {ta tb : TE} (hr : MonoR2 r) (ha : MonoTE ta) (hb : MonoTE tb) : MonoTE (tOp r ta tb) := fun σ H Q Q' h q => ha _ _ _ _ (fun x H1 q1 => hb _ _ _ _ (fun y H2 q2 => hr _ _ _ _ _ h q2) q1) q
theorem monoR_addI : MonoR2 rAddI := fun x y H Q Q' h ⟨i, j, a, b, q⟩ => ⟨i, j, a, b, h _ _ q⟩
theorem monoR_ltI : MonoR2 rLtI := fun x y H Q Q' h ⟨i, j, a, b, q⟩ => ⟨i, j, a, b, h _ _ q⟩
theorem monoR_gtI : MonoR2 rGtI := fun x y H Q Q' h ⟨i, j, a, b, q⟩ => ⟨i, j, a, b, h _ _ q⟩
theorem monoR_isN : MonoR2 rIsN := fun x y H Q Q' h ⟨a, q⟩ => ⟨a, h _ _ q⟩
theorem monoR_notN : MonoR2 rNotN := fun x y H Q Q' h ⟨a, q⟩ => ⟨a, h _ _ q⟩
theorem monoR_addU {K : PySem.W.Frag} : MonoR2 (rAddU K) := fun x y H Q Q' h q => by
  rcases q with ⟨i, j, a, b, q⟩ | ⟨i, j, a, b, c, q⟩ | ⟨a, b, xs, ys, e1, e2, e3, e4, e5, e6, e7, e8⟩
  · exact .inl ⟨i, j, a, b, h _ _ q⟩
  · exact .inr (.inl ⟨i, j, a, b, c, h _ _ q⟩)
  · exact .inr (.inr ⟨a, b, xs, ys, e1, e2, e3, e4, e5, e6, fun z => h _ _ (e7 z), fun z p hp => h _ _ (e8 z p hp)⟩)
theorem monoR_ix {K : PySem.W.Frag} : MonoR2 (rIx K) := fun x y H Q Q' h q => by
  rcases q with ⟨p, xs, i, v, a, b, c, d, q⟩ | ⟨p, xs, i, v, a, b, c, d, q⟩ | ⟨z, i, c, a, b, d, e, q⟩
  · exact .inl ⟨p, xs, i, v, a, b, c, d, h _ _ q⟩
  · exact .inr (.inl ⟨p, xs, i, v, a, b, c, d, h _ _ q⟩)
  · exact .inr (.inr ⟨z, i, c, a, b, d, e, h _ _ q⟩)
theorem monoR_eqU {K : PySem.W.Frag} : MonoR2 (rEqU K) := fun x y H Q Q' h q => q.imp (fun ⟨d, e, a, b, c, f, q⟩ => ⟨d, e, a, b, c, f, h _ _ q⟩) fun ⟨a, q⟩ => ⟨a, h _ _ q⟩
theorem monoR_neU {K : PySem.W.Frag} : MonoR2 (rNeU K) := fun x y H Q Q' h q => q.imp (fun ⟨d, e, a, b, c, f, q⟩ => ⟨d, e, a, b, c, f, h _ _ q⟩) fun ⟨a, q⟩ => ⟨a, h _ _ q⟩
theorem monoR_inU {K : PySem.W.Frag} {b : Bool} : MonoR2 (rInU K b) := fun x y H Q Q' h ⟨d, e, a, b, c, f, q⟩ => ⟨d, e, a, b, c, f, h _ _ q⟩
theorem mono_tup {ta : TA} (ha : MonoTA ta) : MonoTE (tTup ta) := fun σ H Q Q' h q => ha _ _ _ _ (fun vs H1 ⟨a, q1⟩ => ⟨a, fun p hp => h _ _ (q1 p hp)⟩) q
theorem mono_lst {ta : TA} (ha : MonoTA ta) : MonoTE (tLst ta) := fun σ H Q Q' h q => ha _ _ _ _ (fun vs H1 ⟨a, q1⟩ => ⟨a, fun p hp => h _ _ (q1 p hp)⟩) q
def MonoRC (r : List V → Hp → VK → Prop) : Prop := ∀ vs H (Q Q' : VK), (∀ v H1, Q v H1 → Q' v H1) → r vs H Q → r vs H Q'
theorem mono_cb {r : List V → Hp → VK → Prop} {ta : TA} (hr : MonoRC r) (ha : MonoTA ta) : MonoTE (tCB r ta) := fun σ H Q Q' h q => ha _ _ _ _ (fun vs H1 q1 => hr _ _ _ _ h q1) q
theorem monoC_list {K : PySem.W.Frag} : MonoRC (rList K) := fun vs H Q Q' h ⟨p, ys, a, b, q⟩ => ⟨p, ys, a, b, fun l hl => h _ _ (q l hl)⟩
theorem monoC_tuple {K : PySem.W.Frag} : MonoRC (rTuple K) := fun vs H Q Q' h ⟨p, ys, a, q⟩ => ⟨p, ys, a, q.imp (fun ⟨b, q⟩ => ⟨b, fun l hl => h _ _ (q l hl)⟩) fun ⟨b, q⟩ => ⟨b, h _ _ q⟩⟩
theorem monoC_len {K : PySem.W.Frag} : MonoRC (rLenU K) := fun vs H Q Q' h ⟨x, n, a, b, q⟩ => ⟨x, n, a, b, h _ _ q⟩
theorem monoC_sum {K : PySem.W.Frag} : MonoRC (rSum K) := fun vs H Q Q' h ⟨x, n, a, b, q⟩ => ⟨x, n, a, b, h _ _ q⟩
theorem mono_lcJ {J : It} {g : TG} {tt : TT} {te : TE} {vs : List Nat} {σ : L2.St} {H : Hp} {Q Q' : VK} (h : ∀ v H1, Q v H1 → Q' v H1) (q : LcJ J g tt te vs σ H Q) : LcJ J g tt te vs σ H Q' := fun D hD => by
  obtain ⟨W, w0, st⟩ := q D hD
  exact ⟨W, w0, fun i m H' hw => (st i m H' hw).imp (fun ⟨a, b⟩ => ⟨a, h _ _ b⟩) id⟩
theorem mono_lc {wi : TI} {g : TG} {tt : TT} {te : TE} {vs : List Nat} (hw : ∀ σ H (R R' : It → Hp → Prop), (∀ J H1, R J H1 → R' J H1) → wi σ H R → wi σ H R') : MonoTE (tLc wi g tt te vs) := fun σ H Q Q' h q => hw _ _ _ _ (fun J H1 q1 => mono_lcJ h q1) q
theorem mono_iSeq {K : PySem.W.Frag} {te : TE} (ht : MonoTE te) : ∀ σ H (R R' : It → Hp → Prop), (∀ J H1, R J H1 → R' J H1) → iSeq K te σ H R → iSeq K te σ H R' := fun σ H R R' h q => ht _ _ _ _ (fun x H1 ⟨a, e, q⟩ => ⟨a, e, q.imp (fun ⟨b, q⟩ => ⟨b, h _ _ q⟩) fun ⟨b, q⟩ => ⟨b, h _ _ q⟩⟩) q
theorem mono_iRng1 {ta : TA} (ht : MonoTA ta) : ∀ σ H (R R' : It → Hp → Prop), (∀ J H1, R J H1 → R' J H1) → iRng1 ta σ H R → iRng1 ta σ H R' := fun σ H R R' h q => ht _ _ _ _ (fun x H1 ⟨a, e, b, c, q⟩ => ⟨a, e, b, c, h _ _ q⟩) q
theorem mono_test {te : TE} (h : MonoTE te) : MonoTT (tTest te) := fun σ H Q Q' hq q => h _ _ _ _ (fun v H1 ⟨k, e, q⟩ => ⟨k, e, hq _ _ q⟩) q
theorem mono_tru {K : PySem.W.Frag} {te : TE} (h : MonoTE te) : MonoTT (tTruU K te) := fun σ H Q Q' hq q => h _ _ _ _ (fun v H1 ⟨k, e, q⟩ => ⟨k, e, hq _ _ q⟩) q
theorem mono_and {t u : TT} (h1 : MonoTT t) (h2 : MonoTT u) : MonoTT (tAnd t u) := fun σ H Q Q' hq q => h1 _ _ _ _ (fun b H1 q => by
  cases b with
  | true => exact h2 _ _ _ _ hq q
  | false => exact hq _ _ q) q
theorem mono_or {t u : TT} (h1 : MonoTT t) (h2 : MonoTT u) : MonoTT (tOr t u) := fun σ H Q Q' hq q => h1 _ _ _ _ (fun b H1 q => by
  cases b with
  | true => exact hq _ _ q
  | false => exact h2 _ _ _ _ hq q) q
theorem mono_not {t : TT} (h1 : MonoTT t) : MonoTT (tNot t) := fun σ H Q Q' hq q => h1 _ _ _ _ (fun b H1 q => hq _ _ q) q
theorem mono_ifE {t : TT} {ta tb : TE} (h1 : MonoTT t) (h2 : MonoTE ta) (h3 : MonoTE tb) : MonoTE (tIf t ta tb) := fun σ H Q Q' hq q => h1 _ _ _ _ (fun b H1 q => by
  cases b with
  | true => exact h2 _ _ _ _ hq q
  | false => exact h3 _ _ _ _ hq q) q
/-- the law's place in its row of draws -/
def Spot (l : Addr) : Sx := ⟨l, fun _ o => ∃ n : Int, 0 ≤ n ∧ o = .lst [.int n], fun _ _ _ _ h => h⟩
section
variable {K : PySem.W.Frag} {F : List Fc} {m : List Sx} {H : Hp} {Q : VK} {v : V} {ds : List PyData} {l : Addr}
theorem g_ixSpot {Q : VK} (hS : S F m H) (hm : Spot l ∈ m) (q : ∀ n : Int, 0 ≤ n → H l = some (.lst [.int n]) → Q (.int n) H) : rIx K (.ref l) (.int 0) H Q := by
  obtain ⟨G, e, f, own, nd⟩ := hS.ex
  obtain ⟨_, o, ho, n, hn, rfl⟩ := own _ hm
  exact .inl ⟨l, _, 0, .int n, rfl, rfl, SqL.of ho, rfl, q n hn ho⟩
theorem g_setSpot {Q : Hp → Prop} {n : Int} (hS : S F m H) (hm : Spot l ∈ m) (hn : 0 ≤ n) (q : ∀ H', S F m H' → H' l = some (.lst [.int n]) → Q H') : rSetL (.ref l) (.int 0) (.int n) H Q := by
  obtain ⟨i, hi⟩ := List.getElem?_of_mem hm
  obtain ⟨G, e, f, own, nd⟩ := hS.ex
  obtain ⟨_, o, ho, n0, hn0, rfl⟩ := own _ hm
  refine ⟨l, _, 0, 0, rfl, rfl, ho, rfl, q _ ?_ upd_same⟩
  have z := hS.setAt (i := i) (x := Spot l) (y := Spot l) (o' := .lst ([V.int n0].set 0 (.int n))) hi rfl fun _ _ _ _ _ => ⟨n, hn, rfl⟩
  have e : m.set i (Spot l) = m := by
    refine List.ext_getElem? fun j => ?_
    by_cases hij : i = j
    · subst hij
      rw [List.getElem?_set_self (List.getElem?_eq_some_iff.mp hi).1, hi]
    · rw [List.getElem?_set_ne hij]
  rw [e] at z
  exact z
theorem g_ixSpot' {Q : VK} {n : Int} (h : H l = some (.lst [.int n])) (q : Q (.int n) H) : rIx K (.ref l) (.int 0) H Q := .inl ⟨l, _, 0, .int n, rfl, rfl, SqL.of h, rfl, q⟩
/-- a list that is made of one number becomes the place -/
theorem spot_of {n : Int} (hS : S F (Ls K l [.int n] :: m) H) (hn : 0 ≤ n) : S F (Spot l :: m) H := by
  obtain ⟨G, e, f, own, nd⟩ := hS.ex
  refine ⟨G, e, f, fun x hx => ?_, nd⟩
  cases hx with
  | head =>
    obtain ⟨g, o, ho, vs, rfl, ha⟩ := own _ (.head _)
    refine ⟨g, _, ho, n, hn, ?_⟩
    cases ha with
    | cons h1 h2 =>
      cases h1
      cases h2
      rfl
  | tail _ hx => exact own x (.tail _ hx)
/-- l[lo:hi] of a list that stays: a new list -/
theorem g_slL {lo hi : Option Int} (hS : S F m H) (hv : Has K F v (.list ds)) (q : ResH K F m (.list (cutD ds lo hi)) Q) : rSlU K v lo hi H Q := by
  obtain ⟨G, e, f, own, nd⟩ := hS.ex
  have z := hv G f
  cases z with
  | lst hs ha =>
    refine .inl ⟨_, _, rfl, e.seq hs, fun l hl => q _ _ (putG e f own nd hl _ fun G' s' e' => .lst (SqL.of e') ?_)⟩
    have ha' := dps_mono s' _ _ ha
    unfold cutV cutD
    rw [ha.len]
    exact (ha'.drop _).take _
theorem cutD_mem {lo hi : Option Int} {d : PyData} (h : d ∈ cutD ds lo hi) : d ∈ ds := List.mem_of_mem_drop (List.mem_of_mem_take h)
theorem cutD_len {lo hi : Option Int} : (cutD ds lo hi).length ≤ ds.length := by
  unfold cutD
  rw [List.length_take, List.length_drop]
  omega
end
end Qe
namespace Qe
open PySem PySem.Spec PyProof.Rows L2
section
variable {σ : L2.St} {H : Hp} {Q : VK} {te : TE} {tl th : TO} {QO : Option Int → Hp → Prop} {r : V → Option Int → Option Int → Hp → VK → Prop}
theorem g_sl (h : te σ H fun x H1 => tl σ H1 fun l H2 => th σ H2 fun u H3 => r x l u H3 Q) : tSl r te tl th σ H Q := h
theorem g_noPart (q : QO none H) : tNoPart σ H QO := q
theorem g_part (h : te σ H fun x H1 => ∃ i, x = .int i ∧ QO (some i) H1) : tPart te σ H QO := h
end
end Qe

namespace Qe
open PySem PySem.Spec PyProof.Rows L2
/-! ### loops whose word holds facts too -/
section
variable {K : PySem.W.Frag} {F : List Fc} {m : List Sx} {H : Hp} {σ : L2.St} {nx bk ct : L2.St → Hp → Prop} {rt : VK} {v x y : V} {d e : PyData} {ds es : List PyData} {t u : TS} {g : TG} {c : TT}
abbrev AtF (F : List Fc) (Inv : L2.St → List Fc → List Sx → Prop) : L2.St → Hp → Prop := fun σ H => ∃ fs m, Inv σ fs m ∧ S (fs ++ F) m H
theorem Has.app {fs : List Fc} (h : Has K F v d) : Has K (fs ++ F) v d := fun G q => h G fun g hg => q g (List.mem_append_right _ hg)
theorem src_seqF (hS : S F m H) (hv : Has K F v (.tuple ds) ∨ Has K F v (.list ds)) :
    ∃ a, v = .ref a ∧ ((∀ fs m' H', S (fs ++ F) m' H' → ∃ xs, SqT K H' a xs ∧ xs.length = ds.length ∧ ∀ (i : Nat) (w : V) (d : PyData), xs[i]? = some w → ds[i]? = some d → S (dat K w d :: (fs ++ F)) m' H') ∨
      (∀ fs m' H', S (fs ++ F) m' H' → ∃ xs, SqL K H' a xs ∧ xs.length = ds.length ∧ ∀ (i : Nat) (w : V) (d : PyData), xs[i]? = some w → ds[i]? = some d → S (dat K w d :: (fs ++ F)) m' H')) := by
  rcases hv with hv | hv
  · have z := hS.dp hv
    generalize hz : PyData.tuple ds = zz at z
    cases z with
    | tup hs ha =>
      cases hz
      refine ⟨_, rfl, .inl fun fs m' H' h' => ?_⟩
      obtain ⟨G, e, f, own, nd⟩ := h'.ex
      have z := hv.app (fs := fs) G f
      cases z with
      | tup hs' ha' =>
        refine ⟨_, same_t e hs', ha'.len, fun i w d h1 h2 => ?_⟩
        obtain ⟨w', e1, e2⟩ := ha'.get h2
        rw [h1] at e1
        cases e1
        exact ⟨G, e, fun g hg => by cases hg with | head => exact e2 | tail _ hg => exact f g hg, own, nd⟩
    | _ => cases hz
  · have z := hS.dp hv
    generalize hz : PyData.list ds = zz at z
    cases z with
    | lst hs ha =>
      cases hz
      refine ⟨_, rfl, .inr fun fs m' H' h' => ?_⟩
      obtain ⟨G, e, f, own, nd⟩ := h'.ex
      have z := hv.app (fs := fs) G f
      cases z with
      | lst hs' ha' =>
        refine ⟨_, e.seq hs', ha'.len, fun i w d h1 h2 => ?_⟩
        obtain ⟨w', e1, e2⟩ := ha'.get h2
        rw [h1] at e1
        cases e1
        exact ⟨G, e, fun g hg => by cases hg with | head => exact e2 | tail _ hg => exact f g hg, own, nd⟩
    | _ => cases hz
theorem g_forF (hS : S F m H) (hv : Has K F v (.tuple ds) ∨ Has K F v (.list ds)) (Inv : Nat → L2.St → List Fc → List Sx → Prop) (fs0 : List Fc) (hS0 : S (fs0 ++ F) m H) (h0 : Inv 0 σ fs0 m)
    (hs : ∀ i d w σ' fs m' H', ds[i]? = some d → Inv i σ' fs m' → S (dat K w d :: (fs ++ F)) m' H' → g w σ' H' fun σ2 H2 => t ⟨AtF F (Inv (i + 1)), rt, nx, AtF F (Inv (i + 1))⟩ σ2 H2)
    (hd : ∀ σ' fs m' H', Inv ds.length σ' fs m' → S (fs ++ F) m' H' → nx σ' H') : ForS K v g t ⟨nx, rt, bk, ct⟩ σ H := by
  obtain ⟨a, rfl, h⟩ := src_seqF hS hv
  rcases h with h | h
  · obtain ⟨xs, hx, hl, hw⟩ := h fs0 m H hS0
    refine ⟨a, rfl, .inr ⟨⟨xs, hx⟩, ?_⟩⟩
    refine ⟨fun i k σ' H' => k = ds.length - i ∧ i ≤ ds.length ∧ AtF F (Inv i) σ' H', ⟨_, rfl, Nat.zero_le _, fs0, m, h0, hS0⟩, ?_⟩
    rintro i k σ' H' ⟨rfl, hi, fs, m', p, hS'⟩
    obtain ⟨ys, hy, hyl, hyw⟩ := h fs m' H' hS'
    by_cases hlt : i < ds.length
    · have e1 : ys[i]? = some ys[i] := List.getElem?_eq_getElem (by omega)
      have e2 : ds[i]? = some ds[i] := List.getElem?_eq_getElem hlt
      refine .inr ⟨⟨ys, ys[i], hy, e1⟩, AtF F (Inv (i + 1)), fun σ2 H2 p2 => ⟨_, by omega, rfl, hlt, p2⟩, fun x H2 y => ?_⟩
      obtain ⟨rfl, y⟩ := y
      have ex : x = ys[i] := by
        have z := y ys hy
        rw [e1] at z
        exact (Option.some.inj z).symm
      subst ex
      exact hs i _ _ σ' fs m' _ e2 p (hyw i _ _ e1 e2)
    · have e : i = ds.length := by omega
      subst e
      exact .inl ⟨⟨ys, hy, by omega⟩, hd σ' fs m' H' p hS'⟩
  · obtain ⟨xs, hx, hl, hw⟩ := h fs0 m H hS0
    refine ⟨a, rfl, .inl ⟨⟨xs, hx⟩, ?_⟩⟩
    refine ⟨fun i k σ' H' => k = ds.length - i ∧ i ≤ ds.length ∧ AtF F (Inv i) σ' H', ⟨_, rfl, Nat.zero_le _, fs0, m, h0, hS0⟩, ?_⟩
    rintro i k σ' H' ⟨rfl, hi, fs, m', p, hS'⟩
    obtain ⟨ys, hy, hyl, hyw⟩ := h fs m' H' hS'
    by_cases hlt : i < ds.length
    · have e1 : ys[i]? = some ys[i] := List.getElem?_eq_getElem (by omega)
      have e2 : ds[i]? = some ds[i] := List.getElem?_eq_getElem hlt
      refine .inr ⟨⟨ys, ys[i], hy, e1⟩, AtF F (Inv (i + 1)), fun σ2 H2 p2 => ⟨_, by omega, rfl, hlt, p2⟩, fun x H2 y => ?_⟩
      obtain ⟨rfl, y⟩ := y
      have ex : x = ys[i] := by
        have z := y ys hy
        rw [e1] at z
        exact (Option.some.inj z).symm
      subst ex
      exact hs i _ _ σ' fs m' _ e2 p (hyw i _ _ e1 e2)
    · have e : i = ds.length := by omega
      subst e
      exact .inl ⟨⟨ys, hy, by omega⟩, hd σ' fs m' H' p hS'⟩
theorem g_forOF {l : Addr} (Inv : Nat → L2.St → List Fc → List Sx → Prop) (fs0 : List Fc) (hS : S (fs0 ++ F) m H) (h0 : Inv 0 σ fs0 m) (hm : ∀ i σ' fs m', Inv i σ' fs m' → Ls K l ds ∈ m')
    (hs : ∀ i d w σ' fs m' H', ds[i]? = some d → Inv i σ' fs m' → S (dat K w d :: (fs ++ F)) m' H' → g w σ' H' fun σ2 H2 => t ⟨AtF F (Inv (i + 1)), rt, nx, AtF F (Inv (i + 1))⟩ σ2 H2)
    (hd : ∀ σ' fs m' H', Inv ds.length σ' fs m' → S (fs ++ F) m' H' → nx σ' H') : ForS K (.ref l) g t ⟨nx, rt, bk, ct⟩ σ H := by
  obtain ⟨xs, hx, hl, hw⟩ := own_list hS (hm _ _ _ _ h0)
  refine ⟨l, rfl, .inl ⟨⟨xs, SqL.of hx⟩, ?_⟩⟩
  refine ⟨fun i k σ' H' => k = ds.length - i ∧ i ≤ ds.length ∧ AtF F (Inv i) σ' H', ⟨_, rfl, Nat.zero_le _, fs0, m, h0, hS⟩, ?_⟩
  rintro i k σ' H' ⟨rfl, hi, fs, m', p, hS'⟩
  obtain ⟨ys, hy', hyl, hyw⟩ := own_list hS' (hm _ _ _ _ p)
  have hy : SqL K H' l ys := SqL.of hy'
  by_cases hlt : i < ds.length
  · have e1 : ys[i]? = some ys[i] := List.getElem?_eq_getElem (by omega)
    have e2 : ds[i]? = some ds[i] := List.getElem?_eq_getElem hlt
    refine .inr ⟨⟨ys, ys[i], hy, e1⟩, AtF F (Inv (i + 1)), fun σ2 H2 p2 => ⟨_, by omega, rfl, hlt, p2⟩, fun x H2 y => ?_⟩
    obtain ⟨rfl, y⟩ := y
    have ex : x = ys[i] := by
      have z := y ys hy
      rw [e1] at z
      exact (Option.some.inj z).symm
    subst ex
    exact hs i _ _ σ' fs m' _ e2 p (hyw i _ _ e1 e2)
  · have e : i = ds.length := by omega
    subst e
    exact .inl ⟨⟨ys, hy, by omega⟩, hd σ' fs m' H' p hS'⟩
theorem g_rangeF {n : Int} (hn : -(2 ^ 62) ≤ n ∧ n < 2 ^ 62) (Inv : Nat → L2.St → List Fc → List Sx → Prop) (fs0 : List Fc) (hS : S (fs0 ++ F) m H) (h0 : Inv 0 σ fs0 m)
    (hs : ∀ (i : Nat) σ' fs m' H', (i : Int) < n → Inv i σ' fs m' → S (fs ++ F) m' H' → g (.int (i : Nat)) σ' H' fun σ2 H2 => t ⟨AtF F (Inv (i + 1)), rt, nx, AtF F (Inv (i + 1))⟩ σ2 H2)
    (hd : ∀ σ' fs m' H', Inv n.toNat σ' fs m' → S (fs ++ F) m' H' → nx σ' H') : ForR1 [.int n] g t ⟨nx, rt, bk, ct⟩ σ H :=
  ⟨n, rfl, hn.1, hn.2, for_range (fun i σ' H' => AtF F (Inv i) σ' H') ⟨fs0, m, h0, hS⟩ (fun i σ' H' hi ⟨fs, m', p, hS'⟩ => by rw [Int.zero_add]; exact hs i σ' fs m' H' (by omega) p hS') fun σ' H' ⟨fs, m', p, hS'⟩ => hd σ' fs m' H' p hS'⟩
theorem g_rangeF2 {lo n : Int} (hn : -(2 ^ 62) ≤ lo ∧ lo < 2 ^ 62 ∧ -(2 ^ 62) ≤ n ∧ n < 2 ^ 62) (Inv : Nat → L2.St → List Fc → List Sx → Prop) (fs0 : List Fc) (hS : S (fs0 ++ F) m H) (h0 : Inv 0 σ fs0 m)
    (hs : ∀ (i : Nat) σ' fs m' H', lo + (i : Int) < n → Inv i σ' fs m' → S (fs ++ F) m' H' → g (.int (lo + (i : Nat))) σ' H' fun σ2 H2 => t ⟨AtF F (Inv (i + 1)), rt, nx, AtF F (Inv (i + 1))⟩ σ2 H2)
    (hd : ∀ σ' fs m' H', Inv (n - lo).toNat σ' fs m' → S (fs ++ F) m' H' → nx σ' H') : ForR2 [.int lo, .int n] g t ⟨nx, rt, bk, ct⟩ σ H :=
  ⟨lo, n, rfl, hn, for_range (fun i σ' H' => AtF F (Inv i) σ' H') ⟨fs0, m, h0, hS⟩ (fun i σ' H' hi ⟨fs, m', p, hS'⟩ => hs i σ' fs m' H' (by omega) p hS') fun σ' H' ⟨fs, m', p, hS'⟩ => hd σ' fs m' H' p hS'⟩
theorem g_whileF (Inv : Nat → L2.St → List Fc → List Sx → Prop) (k0 : Nat) (fs0 : List Fc) (hS : S (fs0 ++ F) m H) (h0 : Inv k0 σ fs0 m)
    (hs : ∀ k σ' fs m' H', Inv k σ' fs m' → S (fs ++ F) m' H' → c σ' H' fun b H1 => if b = true then t ⟨fun σ3 H3 => ∃ k3, k3 < k ∧ AtF F (Inv k3) σ3 H3, rt, nx, fun σ3 H3 => ∃ k3, k3 < k ∧ AtF F (Inv k3) σ3 H3⟩ σ' H1 else nx σ' H1)
    (mono : ∀ σ H Q Q', (∀ b H1, Q b H1 → Q' b H1) → c σ H Q → c σ H Q') : tWhile c t ⟨nx, rt, bk, ct⟩ σ H := by
  refine ⟨fun k σ' H' => AtF F (Inv k) σ' H', ⟨k0, fs0, m, h0, hS⟩, ?_⟩
  rintro k σ' H' ⟨fs, m', p, hS'⟩
  refine mono σ' H' _ _ (fun b H1 q => ?_) (hs k σ' fs m' H' p hS')
  cases b with
  | true => exact ⟨_, fun σ3 H3 ⟨k3, l, w⟩ => ⟨k3, l, w⟩, q⟩
  | false => exact q
end
end Qe
namespace Qe
open PySem PySem.Spec PyProof.Rows L2
/-- [e for k in range(n)], e always the same data -/
theorem g_lcRep {K : PySem.W.Frag} {F : List Fc} {m : List Sx} {H : Hp} {σ : L2.St} {te : TE} {ws : List Nat} {i : Nat} {Q : VK} {n : Int} {e0 : PyData} (hS : S F m H) (hn : -(2 ^ 62) ≤ n ∧ n < 1000000) (me : MonoTE te) (hw : ∀ v, wipe ((wipe σ ws).set i (some v)) ws = wipe σ ws)
    (ht : ∀ v D acc H', S F (Ls K D acc :: m) H' → te ((wipe σ ws).set i (some v)) H' (fun y H4 => S (dat K y e0 :: F) (Ls K D acc :: m) H4))
    (hd : ∀ D H', S F (Ls K D (List.replicate n.toNat e0) :: m) H' → Q (.ref D) H') : LcR1 [.int n] (gName i) tYes te ws σ H Q := by
  refine g_lcR (K := K) hS hn mono_name mono_yes me (fun i acc m' => acc = List.replicate i e0 ∧ m' = m) ⟨rfl, rfl⟩ ?_ ?_
  · rintro j D acc m' H' hi hacc ⟨rfl, rfl⟩ hS'
    refine g_lcT (hw _) ?_
    refine g_yes ?_
    refine g_ite (fun _ => ?_) (fun h => by cases h)
    exact me _ _ _ _ (fun y H4 h4 => ⟨e0, m', ⟨by rw [List.replicate_succ'], rfl⟩, h4⟩) (ht _ D _ H' hS')
  · rintro D acc m' H' hacc ⟨rfl, rfl⟩ hS'
    exact hd D H' hS'
end Qe
namespace Qe
open PySem PySem.Spec PyProof.Rows L2
theorem sub_nil {f : Fc} {F : List Fc} : f ∈ ([] : List Fc) → f ∈ F := fun h => (List.not_mem_nil h).elim
theorem sub_cons {f x : Fc} {F F' : List Fc} (h1 : x ∈ F) (h2 : f ∈ F' → f ∈ F) : f ∈ x :: F' → f ∈ F := fun h => by
  rcases List.mem_cons.mp h with rfl | h
  · exact h1
  · exact h2 h
end Qe

namespace Qe
open PySem PySem.Spec PyProof.Rows L2
/-! ### the walk's words -/
local macro_rules | `(tactic| walk_at "mem") => `(tactic| first | with_reducible exact List.mem_cons_self | with_reducible assumption | ((with_reducible apply List.mem_cons_of_mem); walk_at "mem"))
local macro_rules | `(tactic| walk_at "has") => `(tactic| first | with_reducible assumption | with_reducible exact Has.here | with_reducible exact Has.int | with_reducible exact Has.bl | with_reducible exact Has.str | with_reducible exact Has.non | ((with_reducible apply Has.there); walk_at "has"))
local macro_rules | `(tactic| walk_at "has2") => `(tactic| first | (apply Or.inl; walk_at "has") | (apply Or.inr; walk_at "has"))
local macro_rules | `(tactic| walk_at "hasA") => `(tactic| first | with_reducible exact HasA.nil | with_reducible exact HasA.here | ((with_reducible apply HasA.cons); (· walk_at "has"); walk_at "hasA"))
local macro_rules | `(tactic| walk_at "at") => `(tactic| first | with_reducible exact at0 | with_reducible exact at1 | with_reducible exact at2 | with_reducible exact at3 | with_reducible assumption)
local macro_rules | `(tactic| walk_at "res") => `(tactic| first
  | ((with_reducible refine res_int ?_); intro hS) | ((with_reducible refine res_str ?_); intro hS) | ((with_reducible refine res_bl ?_); intro hS) | ((with_reducible refine res_non ?_); intro hS)
  | ((with_reducible refine resH_int ?_); intro H hS) | ((with_reducible refine resH_bl ?_); intro H hS) | (intro w H hS) | (intro w hS))
local macro_rules | `(tactic| walk_at "call") => `(tactic| fail "no call")
local macro_rules | `(tactic| walk_at "go1") => `(tactic| first
  | with_reducible refine g_seq ?_ | with_reducible refine g_asg ?_ | with_reducible refine g_cons ?_ | with_reducible refine g_nil ?_ | with_reducible refine g_op ?_
  | ((with_reducible refine' g_var ?k1 ?_); (case k1 => rfl)) | with_reducible refine g_c ?_ | with_reducible refine g_name ?_
  | with_reducible refine g_cb ?_ | with_reducible refine g_call ?_ | with_reducible refine g_tup ?_ | with_reducible refine g_lst ?_
  | with_reducible refine g_ifS ?_ | with_reducible refine g_test ?_ | with_reducible refine g_tB ?_ | with_reducible refine g_bl ?_ | with_reducible refine g_isI ?_
  | with_reducible refine g_not ?_ | with_reducible refine g_and ?_ | with_reducible refine g_or ?_ | with_reducible refine g_tru ?_ | with_reducible refine g_truB ?_ | with_reducible refine g_truN ?_ | with_reducible refine g_truI ?_
  | with_reducible refine g_if ?_ | with_reducible refine g_andV ?_ | with_reducible refine g_orV ?_ | with_reducible refine g_notT ?_ | with_reducible refine g_notB ?_ | with_reducible refine g_chain ?_ | with_reducible refine g_un ?_
  | with_reducible refine g_ret ?_ | with_reducible refine g_retN ?_ | with_reducible refine g_next ?_ | with_reducible refine g_brk ?_ | with_reducible refine g_cnt ?_ | with_reducible refine g_drop ?_
  | with_reducible refine g_addUI ?_ | with_reducible refine g_subI ?_ | with_reducible refine g_ltI ?_ | with_reducible refine g_leI ?_ | with_reducible refine g_gtI ?_ | with_reducible refine g_geI ?_ | with_reducible refine g_negI ?_
  | with_reducible refine g_eqI ?_ | with_reducible refine g_neI ?_ | with_reducible refine g_eqB ?_ | with_reducible refine g_neB ?_ | with_reducible refine g_eqS ?_ | with_reducible refine g_neS ?_ | with_reducible refine g_isN ?_ | with_reducible refine g_notN ?_ | with_reducible refine g_int ?_
  | with_reducible refine g_sl ?_ | with_reducible refine g_noPart ?_ | with_reducible refine g_part ?_
  | with_reducible refine g_bm ?_ | with_reducible refine g_bm0 ?_ | with_reducible refine g_gsub ?_ | with_reducible refine g_forS ?_ | with_reducible refine g_forR1 ?_ | with_reducible refine g_forR2 ?_ | with_reducible refine g_lcS ?_ | with_reducible refine g_lcR1 ?_ | with_reducible refine g_yes ?_
  | ((with_reducible refine' g_augI ?k1 ?_); (case k1 => rfl))
  | ((with_reducible refine' g_modI ?k1 ?_); (case k1 => first | omega | decide)) | ((with_reducible refine' g_divI ?k1 ?_); (case k1 => first | exact ⟨by decide, by decide⟩ | exact ⟨by omega, by omega⟩))
  | ((with_reducible refine' g_mulI ?k1 ?_); (case k1 => first | exact Or.inr ⟨by omega, by omega⟩ | exact Or.inl ⟨by omega, by omega⟩)) | ((with_reducible refine' g_powI ?k1 ?_); (case k1 => exact ⟨by decide, by decide, by decide⟩))
  | ((with_reducible refine' g_ix ?k1 ?k2 ?k3 ?_); (case k1 => assumption); (case k2 => walk_at "has2"); (case k3 => walk_at "at"); walk_at "res")
  | ((with_reducible refine' g_ixO ?k1 ?k2 ?k3 ?_); (case k1 => assumption); (case k2 => walk_at "mem"); (case k3 => walk_at "at"); walk_at "res")
  | ((with_reducible refine' g_len ?k1 ?k2 ?_); (case k1 => assumption); (case k2 => walk_at "has2"))
  | ((with_reducible refine' g_lenO ?k1 ?k2 ?_); (case k1 => assumption); (case k2 => walk_at "mem"))
  | ((with_reducible refine' g_truL ?k1 ?k2 ?_); (case k1 => assumption); (case k2 => walk_at "mem"))
  | ((with_reducible refine' g_truD ?k1 ?k2 ?_); (case k1 => assumption); (case k2 => walk_at "has2"))
  | ((with_reducible refine' g_isiN ?k1 ?k2 ?k3 ?_); (case k1 => assumption); (case k2 => walk_at "has"); (case k3 => first | exact .inl rfl | exact .inr (.inl rfl) | exact .inr (.inr (.inl rfl)) | exact .inr (.inr (.inr (.inl rfl))) | exact .inr (.inr (.inr (.inr rfl)))))
  | ((with_reducible refine' g_newT (K := ‹PySem.W.Frag›) ?k1 ?k2 ?k3 ?_); (case k1 => assumption); (case k2 => walk_at "hasA"); (case k3 => first | exact Nat.le_of_ble_eq_true rfl | simp); walk_at "res")
  | ((with_reducible refine' g_tyO ?k1 ?k2 ?_); (case k1 => assumption); (case k2 => walk_at "mem"))
  | ((with_reducible refine' g_tyO0 ?k1 ?k2 ?_); (case k1 => assumption); (case k2 => walk_at "mem"))
  | ((with_reducible refine' g_tuple ?k1 ?k2 ?_); (case k1 => assumption); (case k2 => walk_at "has2"); walk_at "res")
  | ((with_reducible refine' g_tupleO ?k1 ?k2 ?_); (case k1 => assumption); (case k2 => walk_at "mem"); walk_at "res")
  | walk_at "call")
local macro_rules | `(tactic| walk_at "go") => `(tactic| repeat walk_at "go1")
local macro_rules | `(tactic| walk_at "memF") => `(tactic| first | exact List.mem_cons_self | (apply List.mem_cons_of_mem; walk_at "memF"))
local macro_rules | `(tactic| walk_at "sub") => `(tactic| (intro _; walk_at "sub1"))
local macro_rules | `(tactic| walk_at "sub1") => `(tactic| first | exact sub_nil | (intro h; first | exact h | exact (List.mem_cons_of_mem _ h) | exact (List.mem_cons_of_mem _ (List.mem_cons_of_mem _ h)) | exact (List.mem_cons_of_mem _ (List.mem_cons_of_mem _ (List.mem_cons_of_mem _ h))) | exact (List.mem_cons_of_mem _ (List.mem_cons_of_mem _ (List.mem_cons_of_mem _ (List.mem_cons_of_mem _ h)))) | exact (List.mem_cons_of_mem _ (List.mem_cons_of_mem _ (List.mem_cons_of_mem _ (List.mem_cons_of_mem _ (List.mem_cons_of_mem _ h))))) | exact (List.mem_cons_of_mem _ (List.mem_cons_of_mem _ (List.mem_cons_of_mem _ (List.mem_cons_of_mem _ (List.mem_cons_of_mem _ (List.mem_cons_of_mem _ h)))))) | exact (List.mem_cons_of_mem _ (List.mem_cons_of_mem _ (List.mem_cons_of_mem _ (List.mem_cons_of_mem _ (List.mem_cons_of_mem _ (List.mem_cons_of_mem _ (List.mem_cons_of_mem _ h))))))) | exact (List.mem_cons_of_mem _ (List.mem_cons_of_mem _ (List.mem_cons_of_mem _ (List.mem_cons_of_mem _ (List.mem_cons_of_mem _ (List.mem_cons_of_mem _ (List.mem_cons_of_mem _ (List.mem_cons_of_mem _ h)))))))) | exact (List.mem_cons_of_mem _ (List.mem_cons_of_mem _ (List.mem_cons_of_mem _ (List.mem_cons_of_mem _ (List.mem_cons_of_mem _ (List.mem_cons_of_mem _ (List.mem_cons_of_mem _ (List.mem_cons_of_mem _ (List.mem_cons_of_mem _ h))))))))) | exact (List.mem_cons_of_mem _ (List.mem_cons_of_mem _ (List.mem_cons_of_mem _ (List.mem_cons_of_mem _ (List.mem_cons_of_mem _ (List.mem_cons_of_mem _ (List.mem_cons_of_mem _ (List.mem_cons_of_mem _ (List.mem_cons_of_mem _ (List.mem_cons_of_mem _ h)))))))))) | exact (List.mem_cons_of_mem _ (List.mem_cons_of_mem _ (List.mem_cons_of_mem _ (List.mem_cons_of_mem _ (List.mem_cons_of_mem _ (List.mem_cons_of_mem _ (List.mem_cons_of_mem _ (List.mem_cons_of_mem _ (List.mem_cons_of_mem _ (List.mem_cons_of_mem _ (List.mem_cons_of_mem _ h))))))))))) | exact (List.mem_cons_of_mem _ (List.mem_cons_of_mem _ (List.mem_cons_of_mem _ (List.mem_cons_of_mem _ (List.mem_cons_of_mem _ (List.mem_cons_of_mem _ (List.mem_cons_of_mem _ (List.mem_cons_of_mem _ (List.mem_cons_of_mem _ (List.mem_cons_of_mem _ (List.mem_cons_of_mem _ (List.mem_cons_of_mem _ h)))))))))))) | exact (List.mem_cons_of_mem _ (List.mem_cons_of_mem _ (List.mem_cons_of_mem _ (List.mem_cons_of_mem _ (List.mem_cons_of_mem _ (List.mem_cons_of_mem _ (List.mem_cons_of_mem _ (List.mem_cons_of_mem _ (List.mem_cons_of_mem _ (List.mem_cons_of_mem _ (List.mem_cons_of_mem _ (List.mem_cons_of_mem _ (List.mem_cons_of_mem _ h)))))))))))))) | (refine sub_cons ?_ ?_; (· walk_at "memF"); walk_at "sub1"))
local macro_rules | `(tactic| walk_at "sl") => `(tactic| first | with_reducible exact List.Sublist.refl _ | ((with_reducible refine List.Sublist.cons₂ _ ?_); walk_at "sl") | ((with_reducible refine List.Sublist.cons _ ?_); walk_at "sl"))
local macro_rules | `(tactic| walk_at "wk") => `(tactic| (refine S.wk (by assumption) ?_ ?_; (· walk_at "sub"); (· walk_at "sl")))
local macro_rules | `(tactic| walk_at "mono") => `(tactic| repeat (first | exact mono_var | exact mono_c | exact monoA_nil | exact monoR_addU | exact monoR_ltI | exact monoR_gtI | exact monoR_isN | exact monoR_notN | exact monoR_ix | exact monoR_eqU | exact monoR_neU | exact monoR_inU | exact monoC_list | exact monoC_tuple | exact monoC_len | exact monoC_sum | exact mono_yes | exact mono_name | with_reducible apply monoA_cons | with_reducible apply mono_tup | with_reducible apply mono_lst | with_reducible apply mono_call | with_reducible apply mono_cb | with_reducible apply mono_op | with_reducible apply mono_lc | with_reducible apply mono_iRng1 | with_reducible apply mono_iSeq | with_reducible apply mono_test | with_reducible apply mono_tru | with_reducible apply mono_and | with_reducible apply mono_or | with_reducible apply mono_not | with_reducible apply mono_ifE))
/-! ### predicates of data -/
def spP (K : PySem.W.Frag) (f : PyData → Bool) : Sp := fun vs H Q _ => ∃ F m v d, vs = [v] ∧ S F m H ∧ Has K F v d ∧ ∀ H', S F m H' → Q (.bl (f d)) H'
theorem c_P {K : PySem.W.Frag} {f : PyData → Bool} {F : List Fc} {m : List Sx} {H : Hp} {v : V} {d : PyData} {Q : VK} {E : XK} (hS : S F m H) (hv : Has K F v d) (q : ∀ H', S F m H' → Q (.bl (f d)) H') : spP K f [v] H Q E := ⟨F, m, v, d, rfl, hS, hv, q⟩
local macro_rules | `(tactic| walk_at "call") => `(tactic| ((with_reducible refine' c_P ?k1 ?k2 ?_); (case k1 => assumption); (case k2 => walk_at "has"); intro H hS))
theorem l_P {K : PySem.W.Frag} {f : PyData → Bool} {vs : List V} {H : Hp} {Q : VK} {E : XK} (h : spP K f vs H Q E) : vs.length = 1 := by
  obtain ⟨_, _, _, _, rfl, _⟩ := h
  rfl
def intD : PyData → Bool
  | .int _ => true
  | _ => false
abbrev sp_is_integer (K : PySem.W.Frag) : Sp := spP K intD
abbrev sp_is_sequence (K : PySem.W.Frag) : Sp := spP K isSeqD
def labD : PyData → Bool
  | .int i => decide (0 ≤ i) && decide (i ≤ 4)
  | _ => false
abbrev sp_is_label (K : PySem.W.Frag) : Sp := spP K labD
def t_is_integer (K : PySem.W.Frag)  : TS :=
  (tRet (tAndV (tCB (rIsi K) (tCons (tVar 0) (tCons (tC (.ty "int")) tNil))) (tNotT K (tCB (rIsi K) (tCons (tVar 0) (tCons (tC (.ty "bool")) tNil))))))
abbrev N_is_integer : List Str := ["value"]
def t_is_sequence (K : PySem.W.Frag)  : TS :=
  (tRet (tCB (rIsiT K) (tCons (tVar 0) (tCons (tTup (tCons (tC (.ty "list")) (tCons (tC (.ty "tuple")) tNil))) tNil))))
abbrev N_is_sequence : List Str := ["value"]
def t_is_label (K : PySem.W.Frag)  : TS :=
  (tRet (tAndV (tCall (sp_is_integer K) [] E0 (tCons (tVar 0) tNil)) (tChain rLeI rLeI (tC (.int 0)) (tVar 0) (tC (.int 4)))))
abbrev N_is_label : List Str := ["value"]
theorem l_is_integer {K : PySem.W.Frag} {vs : List V} {H : Hp} {Q : VK} {E : XK} (h : sp_is_integer K vs H Q E) : vs.length = 1 := l_P h
theorem l_is_sequence {K : PySem.W.Frag} {vs : List V} {H : Hp} {Q : VK} {E : XK} (h : sp_is_sequence K vs H Q E) : vs.length = 1 := l_P h
theorem l_is_label {K : PySem.W.Frag} {vs : List V} {H : Hp} {Q : VK} {E : XK} (h : sp_is_label K vs H Q E) : vs.length = 1 := l_P h
theorem r_is_integer {K : PySem.W.Frag} {vs : List V} {H : Hp} {Q : VK} {E : XK} (h : sp_is_integer K vs H Q E) : t_is_integer K { nx := fun _ H' => Q .non H', rt := Q } (start N_is_integer vs) H := by
  obtain ⟨F, m, v, d, rfl, hS, hv, q⟩ := h
  unfold t_is_integer
  walk_at "go"
  refine g_ite (fun h => ?_) (fun h => ?_)
  · walk_at "go"
    exact qb q hS (by cases d <;> first | rfl | cases h)
  · exact qb q hS (by cases d <;> first | rfl | cases h)
theorem r_is_sequence {K : PySem.W.Frag} {vs : List V} {H : Hp} {Q : VK} {E : XK} (h : sp_is_sequence K vs H Q E) : t_is_sequence K { nx := fun _ H' => Q .non H', rt := Q } (start N_is_sequence vs) H := by
  obtain ⟨F, m, v, d, rfl, hS, hv, q⟩ := h
  unfold t_is_sequence
  walk_at "go"
  refine g_isiT (by assumption) hv q _ (fun p H' h => ?_)
  walk_at "go"
  exact h
theorem r_is_label {K : PySem.W.Frag} {vs : List V} {H : Hp} {Q : VK} {E : XK} (h : sp_is_label K vs H Q E) : t_is_label K { nx := fun _ H' => Q .non H', rt := Q } (start N_is_label vs) H := by
  obtain ⟨F, m, v, d, rfl, hS, hv, q⟩ := h
  unfold t_is_label
  walk_at "go"
  refine g_ite (fun h => ?_) (fun h => ?_)
  · cases d with
    | int i =>
      have hS2 := hS.addD hv
      obtain ⟨rfl, _⟩ := popInt hS2
      walk_at "go"
      refine g_ite (fun h => ?_) (fun h => ?_)
      · walk_at "go"
        exact qb q (by assumption) (by simp only [labD, h, Bool.true_and])
      · exact qb q (by assumption) (by simp only [labD, h, Bool.false_and])
    | _ => cases h
  · exact qb q (by assumption) (by cases d <;> first | rfl | cases h)
/-! ### trees told apart -/
mutual
/-- the size of a tree; none of what is no tree -/
def trSz : PyData → Option Nat
  | .list [a, b] => if labD a then (match b with
    | .list ks => (trSzs ks).map (· + 1)
    | .tuple ks => (trSzs ks).map (· + 1)
    | _ => none) else none
  | .tuple [a, b] => if labD a then (match b with
    | .list ks => (trSzs ks).map (· + 1)
    | .tuple ks => (trSzs ks).map (· + 1)
    | _ => none) else none
  | _ => none
def trSzs : List PyData → Option Nat
  | [] => some 0
  | d :: ds => match trSz d, trSzs ds with
    | some a, some b => some (a + b)
    | _, _ => none
end
/-- the children of a node -/
def kidsD : PyData → Option (List PyData)
  | .list [a, b] => if labD a then (match b with
    | .list ks => some ks
    | .tuple ks => some ks
    | _ => none) else none
  | .tuple [a, b] => if labD a then (match b with
    | .list ks => some ks
    | .tuple ks => some ks
    | _ => none) else none
  | _ => none
theorem trSz_kids (d : PyData) : trSz d = (kidsD d).bind fun ks => (trSzs ks).map (· + 1) := by
  unfold trSz kidsD
  split <;> (try split) <;> (try split) <;> simp_all
def nodeD (d : PyData) : Bool := (kidsD d).isSome
theorem trSzs_app : ∀ (a b : List PyData), trSzs (a ++ b) = (trSzs a).bind fun x => (trSzs b).map fun y => x + y
  | [], b => by
    show trSzs b = _
    cases trSzs b <;> simp [trSzs]
  | d :: a, b => by
    show (match trSz d, trSzs (a ++ b) with | some x, some y => some (x + y) | _, _ => none) = _
    rw [trSzs_app a b]
    show _ = (match trSz d, trSzs a with | some x, some y => some (x + y) | _, _ => none).bind _
    cases trSz d <;> cases trSzs a <;> cases trSzs b <;> simp [Nat.add_assoc]
theorem trSz_pos {d : PyData} {n : Nat} (h : trSz d = some n) : 1 ≤ n := by
  rw [trSz_kids] at h
  cases e : kidsD d with
  | none => rw [e] at h; cases h
  | some ks =>
    rw [e] at h
    cases e2 : trSzs ks with
    | none => simp [e2] at h
    | some k =>
      simp [e2] at h
      omega
theorem trSzs_len : ∀ {ds : List PyData} {n : Nat}, trSzs ds = some n → ds.length ≤ n
  | [], _, _ => Nat.zero_le _
  | d :: ds, n, h => by
    have h' : (match trSz d, trSzs ds with | some x, some y => some (x + y) | _, _ => none) = some n := h
    cases e1 : trSz d with
    | none => rw [e1] at h'; cases h'
    | some a =>
      cases e2 : trSzs ds with
      | none => rw [e1, e2] at h'; cases h'
      | some b =>
        rw [e1, e2] at h'
        have e3 : a + b = n := Option.some.inj h'
        have h1 := trSz_pos e1
        have h2 := trSzs_len e2
        rw [List.length_cons]
        omega
/-- whether d is a tree of at most so many nodes -/
def trOk (most : Int) (d : PyData) : Bool := match trSz d with
  | some n => decide ((n : Int) ≤ most)
  | none => false
/-- what the loop has still to say -/
def trLp (most nodes : Int) (ds : List PyData) : Bool := match trSzs ds with
  | some n => decide (nodes + (n : Int) ≤ most)
  | none => false
mutual
def wtD : PyData → Nat
  | .list xs => wtDs xs + 1
  | .tuple xs => wtDs xs + 1
  | _ => 1
def wtDs : List PyData → Nat
  | [] => 0
  | d :: ds => wtD d + wtDs ds
end
theorem wtDs_app : ∀ a b : List PyData, wtDs (a ++ b) = wtDs a + wtDs b
  | [], b => by
    show wtDs b = wtDs [] + wtDs b
    simp [wtDs]
  | d :: a, b => by
    show wtD d + wtDs (a ++ b) = wtD d + wtDs a + wtDs b
    rw [wtDs_app a b, Nat.add_assoc]
theorem kids_wt {d : PyData} {ks : List PyData} (h : kidsD d = some ks) : wtDs ks < wtD d := by
  unfold kidsD at h
  split at h
  · split at h
    · split at h <;> first | (cases h; simp [wtD, wtDs]; omega) | cases h
    · cases h
  · split at h
    · split at h <;> first | (cases h; simp [wtD, wtDs]; omega) | cases h
    · cases h
  · cases h
theorem kids_form {d : PyData} {ks : List PyData} (h : kidsD d = some ks) : ∃ a b, labD a = true ∧ (d = .list [a, b] ∨ d = .tuple [a, b]) ∧ (b = .list ks ∨ b = .tuple ks) := by
  unfold kidsD at h
  split at h
  · rename_i a b
    split at h
    · rename_i hl
      split at h <;> first | (cases h; exact ⟨_, _, hl, .inl rfl, by first | exact .inl rfl | exact .inr rfl⟩) | cases h
    · cases h
  · rename_i a b
    split at h
    · rename_i hl
      split at h <;> first | (cases h; exact ⟨_, _, hl, .inr rfl, by first | exact .inl rfl | exact .inr rfl⟩) | cases h
    · cases h
  · cases h
abbrev sp_is_node (K : PySem.W.Frag) : Sp := spP K nodeD
theorem l_is_node {K : PySem.W.Frag} {vs : List V} {H : Hp} {Q : VK} {E : XK} (h : sp_is_node K vs H Q E) : vs.length = 1 := l_P h
theorem seq_form {d : PyData} (h : isSeqD d = true) : ∃ ds, d = .tuple ds ∨ d = .list ds := by
  cases d with
  | list ds => exact ⟨ds, .inr rfl⟩
  | tuple ds => exact ⟨ds, .inl rfl⟩
  | _ => cases h
theorem nodeD_seq {ds : List PyData} : nodeD (.tuple ds) = nodeD (.list ds) := by
  unfold nodeD kidsD
  rcases ds with _ | ⟨a, _ | ⟨b, _ | ⟨c, ds⟩⟩⟩ <;> rfl
theorem nodeD_two {a b : PyData} : nodeD (.list [a, b]) = (labD a && isSeqD b) := by
  unfold nodeD kidsD
  cases h : labD a <;> cases b <;> simp [isSeqD, h]
theorem nodeD_len {ds : List PyData} (h : ¬ ds.length = 2) : nodeD (.list ds) = false := by
  rcases ds with _ | ⟨a, _ | ⟨b, _ | ⟨c, ds⟩⟩⟩ <;> first | rfl | exact absurd rfl h
def t_is_node (K : PySem.W.Frag)  : TS :=
  (tRet (tAndV (tCall (sp_is_sequence K) [] E0 (tCons (tVar 0) tNil)) (tAndV (tOp (rEqU K) (tCB (rLenU K) (tCons (tVar 0) tNil)) (tC (.int 2))) (tAndV (tCall (sp_is_label K) [] E0 (tCons (tOp (rIx K) (tVar 0) (tC (.int 0))) tNil)) (tCall (sp_is_sequence K) [] E0 (tCons (tOp (rIx K) (tVar 0) (tC (.int 1))) tNil))))))
abbrev N_is_node : List Str := ["value"]
theorem r_is_node {K : PySem.W.Frag} {vs : List V} {H : Hp} {Q : VK} {E : XK} (h : sp_is_node K vs H Q E) : t_is_node K { nx := fun _ H' => Q .non H', rt := Q } (start N_is_node vs) H := by
  obtain ⟨F, m, v, d, rfl, hS, hv, q⟩ := h
  unfold t_is_node
  walk_at "go"
  refine g_ite (fun h => ?_) (fun h => ?_)
  · obtain ⟨ds, e⟩ := seq_form h
    have hv2 : Has K F v (.tuple ds) ∨ Has K F v (.list ds) := by
      rcases e with rfl | rfl
      · exact .inl hv
      · exact .inr hv
    have en : nodeD d = nodeD (.list ds) := by
      rcases e with rfl | rfl
      · exact nodeD_seq
      · rfl
    walk_at "go"
    refine g_len (by assumption) hv2 ?_
    walk_at "go"
    refine g_ite (fun h => ?_) (fun h => ?_)
    · have hl : ds.length = 2 := by
        have := of_decide_eq_true h
        omega
      obtain ⟨a, b, rfl⟩ : ∃ a b, ds = [a, b] := by
        rcases ds with _ | ⟨a, _ | ⟨b, _ | ⟨c, ds⟩⟩⟩ <;> first | exact ⟨_, _, rfl⟩ | (exfalso; simp only [List.length_nil, List.length_cons] at hl; omega)
      walk_at "go"
      refine g_ix (by assumption) hv2 at0 ?_
      intro w hS
      walk_at "go"
      refine g_ite (fun h => ?_) (fun h => ?_)
      · walk_at "go"
        refine g_ix (by assumption) (hv2.imp .there .there) at1 ?_
        intro w2 hS
        walk_at "go"
        exact qb q (by walk_at "wk") (by rw [en, nodeD_two, h, Bool.true_and])
      · exact qb q (by walk_at "wk") (by rw [en, nodeD_two, h, Bool.false_and])
    · exact qb q (by assumption) (by rw [en, nodeD_len (fun z => of_decide_eq_false h (by omega))])
  · refine qb q (by assumption) ?_
    cases d <;> first | rfl | cases h
/-- is_small_tree(value, most) -/
def spTree (K : PySem.W.Frag) : Sp := fun vs H Q _ => ∃ F m v d, ∃ most : Int, vs = [v, .int most] ∧ S F m H ∧ Has K F v d ∧ 0 ≤ most ∧ most ≤ 1000 ∧ ∀ H', S F m H' → Q (.bl (trOk most d)) H'
abbrev sp_is_small_tree (K : PySem.W.Frag) : Sp := spTree K
theorem c_Tree {K : PySem.W.Frag} {F : List Fc} {m : List Sx} {H : Hp} {v : V} {d : PyData} {most : Int} {Q : VK} {E : XK} (hS : S F m H) (hv : Has K F v d) (h0 : 0 ≤ most) (h1 : most ≤ 1000) (q : ∀ H', S F m H' → Q (.bl (trOk most d)) H') : spTree K [v, .int most] H Q E := ⟨F, m, v, d, most, rfl, hS, hv, h0, h1, q⟩
theorem l_is_small_tree {K : PySem.W.Frag} {vs : List V} {H : Hp} {Q : VK} {E : XK} (h : sp_is_small_tree K vs H Q E) : vs.length = 2 := by
  obtain ⟨_, _, _, _, _, rfl, _⟩ := h
  rfl
def t_is_small_tree (K : PySem.W.Frag)  : TS :=
  (tSeq (tAsg (tC (.int 0)) (gName 2))
  (tSeq (tAsg (tLst (tCons (tVar 0) tNil)) (gName 3))
  (tSeq (tWhile (tTruU K (tVar 3))
  (tSeq (tAsg (tBM0 K "list" rPop (tVar 3)) (gName 4))
  (tSeq (tIfS (tNot (tTruU K (tCall (sp_is_node K) [] E0 (tCons (tVar 4) tNil))))
  (tRet (tC (.bl false)))
  tNext)
  (tSeq (tAug 2 (tC (.int 1)) (ipI fun i j => i + j))
  (tSeq (tIfS (tTest (tOp rGtI (tOp (rAddU K) (tOp (rAddU K) (tVar 2) (tCB (rLenU K) (tCons (tVar 3) tNil))) (tCB (rLenU K) (tCons (tOp (rIx K) (tVar 4) (tC (.int 1))) tNil))) (tVar 1)))
  (tRet (tC (.bl false)))
  tNext)
  (tDrop (tBM K "list" (rExt K) (tVar 3) (tCons (tOp (rIx K) (tVar 4) (tC (.int 1))) tNil))))))))
  (tRet (tC (.bl true))))))
abbrev N_is_small_tree : List Str := ["value", "most", "nodes", "waiting", "node"]
theorem trLp_node {most nodes : Int} {ds ks : List PyData} {d : PyData} (hk : kidsD d = some ks) : trLp most nodes (ds ++ [d]) = trLp most (nodes + 1) (ds ++ ks) := by
  unfold trLp
  rw [trSzs_app, trSzs_app]
  have e : trSzs [d] = (trSzs ks).map (· + 1) := by
    show (match trSz d, some 0 with | some x, some y => some (x + y) | _, _ => none) = _
    rw [trSz_kids, hk, Option.bind_some]
    cases trSzs ks <;> rfl
  rw [e]
  cases trSzs ds <;> cases trSzs ks <;> simp
  rename_i a b
  constructor <;> intro h <;> omega
theorem trLp_bad {most nodes : Int} {ds : List PyData} {d : PyData} (hk : kidsD d = none) : trLp most nodes (ds ++ [d]) = false := by
  unfold trLp
  rw [trSzs_app]
  have e : trSzs [d] = none := by
    show (match trSz d, some 0 with | some x, some y => some (x + y) | _, _ => none) = _
    rw [trSz_kids, hk] <;> rfl
  rw [e]
  cases trSzs ds <;> rfl
theorem trLp_many {most nodes : Int} {ds : List PyData} (h : most < nodes + (ds.length : Int)) : trLp most nodes ds = false := by
  unfold trLp
  cases e : trSzs ds with
  | none => rfl
  | some n =>
    have := trSzs_len e
    exact decide_eq_false (by omega)
theorem trLp_one {most : Int} {d : PyData} : trLp most 0 [d] = trOk most d := by
  unfold trLp trOk
  show (match (match trSz d, some 0 with | some x, some y => some (x + y) | _, _ => none) with | some n => decide ((0 : Int) + (n : Int) ≤ most) | none => false) = _
  cases trSz d with
  | none => rfl
  | some n => simp
theorem r_is_small_tree {K : PySem.W.Frag} {vs : List V} {H : Hp} {Q : VK} {E : XK} (h : sp_is_small_tree K vs H Q E) : t_is_small_tree K { nx := fun _ H' => Q .non H', rt := Q } (start N_is_small_tree vs) H := by
  obtain ⟨F, m, v, d, most, rfl, hS, hv, h0, h1, q⟩ := h
  unfold t_is_small_tree
  walk_at "go"
  refine g_newL (K := K) (ds := [d]) (by assumption) (.cons hv .nil) (Nat.le_of_ble_eq_true rfl) ?_
  intro p H hS
  walk_at "go"
  refine g_while (m := Ls K p [d] :: m) (by assumption) (fun k σ m' => ∃ (ds : List PyData) (nodes : Int) (x : Option V), σ = [some v, some (.int most), some (.int nodes), some (.ref p), x] ∧ m' = Ls K p ds :: m ∧ wtDs ds = k ∧ 0 ≤ nodes ∧ nodes ≤ most ∧ ds.length ≤ 1000 ∧ trLp most nodes ds = trOk most d)
    (wtDs [d]) ⟨[d], 0, none, rfl, rfl, rfl, Int.le_refl _, h0, Nat.le_of_ble_eq_true rfl, trLp_one⟩ ?_ mono_truVar
  rintro k σ' m' H' ⟨ds, nodes, x, rfl, rfl, hk, hn, hm, hl, he⟩ hS
  walk_at "go"
  refine g_ite (fun h => ?_) (fun h => ?_)
  · obtain ⟨ds', z, rfl⟩ : ∃ ds' z, ds = ds' ++ [z] := by
      rcases List.eq_nil_or_concat ds with rfl | ⟨ds', z, rfl⟩
      · cases h
      · exact ⟨ds', z, by simp⟩
    walk_at "go"
    refine g_pop0 (by assumption) ?_
    intro w H2 hS2
    walk_at "go"
    refine g_ite (fun h => ?_) (fun h => ?_)
    · walk_at "go"
      have hz : kidsD z = none := by
        cases e : kidsD z with
        | none => rfl
        | some ks =>
          unfold nodeD at h
          rw [e] at h
          cases h
      refine qb q (by walk_at "wk") ?_
      rw [← he, trLp_bad hz]
    · have hz : ∃ ks, kidsD z = some ks := by
        cases e : kidsD z with
        | none =>
          unfold nodeD at h
          rw [e] at h
          cases h
        | some ks => exact ⟨ks, rfl⟩
      obtain ⟨ks, hks⟩ := hz
      obtain ⟨a, b, hab, hzf, hbf⟩ := kids_form hks
      have hz2 : Has K (dat K w z :: F) w (.tuple [a, b]) ∨ Has K (dat K w z :: F) w (.list [a, b]) := by
        rcases hzf with rfl | rfl
        · exact .inr .here
        · exact .inl .here
      walk_at "go"
      refine g_ix (by assumption) hz2 at1 ?_
      intro w2 hS3
      have hb2 : Has K (dat K w2 b :: dat K w z :: F) w2 (.tuple ks) ∨ Has K (dat K w2 b :: dat K w z :: F) w2 (.list ks) := by
        rcases hbf with rfl | rfl
        · exact .inr .here
        · exact .inl .here
      walk_at "go"
      refine g_len (by assumption) hb2 ?_
      walk_at "go"
      refine g_ite (fun h => ?_) (fun h => ?_)
      · walk_at "go"
        refine qb q (by walk_at "wk") ?_
        have h := of_decide_eq_true h
        rw [← he, trLp_node hks, trLp_many]
        rw [List.length_append]
        omega
      · have h := of_decide_eq_false h
        walk_at "go"
        refine g_ix (by assumption) (hz2.imp .there .there) at1 ?_
        intro w3 hS4
        walk_at "go"
        have hb3 : Has K (dat K w3 b :: dat K w2 b :: dat K w z :: F) w3 (.tuple ks) ∨ Has K (dat K w3 b :: dat K w2 b :: dat K w z :: F) w3 (.list ks) := by
          rcases hbf with rfl | rfl
          · exact .inr .here
          · exact .inl .here
        have hlen : ds'.length + ks.length ≤ 1000 := by omega
        refine g_ext0 (by assumption) hb3 (by omega) ?_
        intro H5 hS5
        refine ⟨wtDs (ds' ++ ks), ?_, Ls K p (ds' ++ ks) :: m, ⟨ds' ++ ks, nodes + 1, _, rfl, rfl, rfl, by omega, by omega, by rw [List.length_append]; exact hlen, by rw [← he, trLp_node hks]⟩, by walk_at "wk"⟩
        have hw := kids_wt hks
        rw [← hk, wtDs_app, wtDs_app]
        have e1 : wtDs [z] = wtD z + 0 := rfl
        omega
  · have e : ds = [] := by
      cases ds with
      | nil => rfl
      | cons a b => cases h
    subst e
    walk_at "go"
    refine qb q (by walk_at "wk") ?_
    have z : trLp most nodes [] = decide (nodes + ((0 : Nat) : Int) ≤ most) := rfl
    rw [← he, z]
    exact (decide_eq_true (by omega)).symm
local macro_rules | `(tactic| walk_at "call") => `(tactic| ((with_reducible refine' c_Tree ?k1 ?k2 ?k3 ?k4 ?_); (case k1 => assumption); (case k2 => walk_at "has"); (case k3 => first | decide | omega); (case k4 => first | decide | omega); intro H hS))
abbrev sp_is_tree (K : PySem.W.Frag) : Sp := spP K (trOk 300)
theorem l_is_tree {K : PySem.W.Frag} {vs : List V} {H : Hp} {Q : VK} {E : XK} (h : sp_is_tree K vs H Q E) : vs.length = 1 := l_P h
def t_is_tree (K : PySem.W.Frag)  : TS :=
  (tRet (tCall (sp_is_small_tree K) [] E0 (tCons (tVar 0) (tCons (tC (.int 300)) tNil))))
abbrev N_is_tree : List Str := ["value"]
theorem r_is_tree {K : PySem.W.Frag} {vs : List V} {H : Hp} {Q : VK} {E : XK} (h : sp_is_tree K vs H Q E) : t_is_tree K { nx := fun _ H' => Q .non H', rt := Q } (start N_is_tree vs) H := by
  obtain ⟨F, m, v, d, rfl, hS, hv, q⟩ := h
  unfold t_is_tree
  walk_at "go"
  exact q _ (by assumption)
/-! ### the law's draws -/
def intL (ns : List Int) : List PyData := ns.map PyData.int
def spNumbers (K : PySem.W.Frag) : Sp := fun vs H Q _ => ∃ F m v, ∃ ns : List Int, vs = [v] ∧ S F m H ∧ Has K F v (.list (intL ns)) ∧ ns.length ≤ 63 ∧ ∀ r ms H', ms ≠ [] → S (dat K r (.list (intL ms)) :: F) m H' → Q r H'
abbrev sp_law_numbers (K : PySem.W.Frag) : Sp := spNumbers K
theorem l_law_numbers {K : PySem.W.Frag} {vs : List V} {H : Hp} {Q : VK} {E : XK} (h : sp_law_numbers K vs H Q E) : vs.length = 1 := by
  obtain ⟨_, _, _, _, rfl, _⟩ := h
  rfl
theorem intL_at {ns : List Int} {i : Nat} {d : PyData} (h : (intL ns)[i]? = some d) : ∃ n, d = .int n := by
  unfold intL at h
  rw [List.getElem?_map] at h
  cases e : ns[i]? with
  | none => rw [e] at h; cases h
  | some n =>
    rw [e] at h
    exact ⟨n, (Option.some.inj h).symm⟩
theorem cut_int {ns : List Int} {lo hi : Option Int} {i : Nat} {d : PyData} (h : (cutD (intL ns) lo hi)[i]? = some d) : ∃ n, d = .int n := by
  have z := cutD_mem (List.mem_of_getElem? h)
  unfold intL at z
  obtain ⟨n, _, e⟩ := List.mem_map.mp z
  exact ⟨n, e.symm⟩
theorem intL_app {ms : List Int} {n : Int} : intL ms ++ [.int n] = intL (ms ++ [n]) := by unfold intL; simp
theorem intL_len {ms : List Int} : (intL ms).length = ms.length := by unfold intL; simp
def t_law_numbers (K : PySem.W.Frag)  : TS :=
  (tSeq (tAsg (tLst tNil) (gName 1))
  (tSeq (tFor (iSeq K (tSl (rSlU K) (tVar 0) tNoPart (tPart (tC (.int 63))))) (gName 2)
  (tIfS (tTest (tOp rGeI (tVar 2) (tOp rPowI (tC (.int 10)) (tC (.int 18)))))
  (tSeq (tAsg (tVar 2) (gName 3))
  (tFor (iRng1 (tCons (tC (.int 60)) tNil)) (gName 4)
  (tSeq (tIfS (tTest (tOp (rEqU K) (tVar 3) (tC (.int 0))))
  tBreak
  tNext)
  (tSeq (tDrop (tBM K "list" rAppend (tVar 1) (tCons (tOp rModI (tCB rInt (tCons (tVar 3) tNil)) (tC (.int 997))) tNil)))
  (tAsg (tOp rDivI (tVar 3) (tC (.int 997))) (gName 3))))))
  (tFor (iRng1 (tCons (tC (.int 4)) tNil)) (gName 4)
  (tSeq (tAsg (tOp rModI (tCB rInt (tCons (tOp (rAddU K) (tOp (rAddU K) (tOp rMulI (tVar 2) (tC (.int 48271))) (tOp rMulI (tVar 4) (tC (.int 69621)))) (tC (.int 11))) tNil)) (tC (.int 2147483647))) (gName 5))
  (tDrop (tBM K "list" rAppend (tVar 1) (tCons (tOp rModI (tCB rInt (tCons (tOp (rAddU K) (tOp rMulI (tVar 5) (tC (.int 16807))) (tVar 4)) tNil)) (tC (.int 2147483629))) tNil)))))))
  (tSeq (tIfS (tTest (tOp (rEqU K) (tCB (rLenU K) (tCons (tVar 1) tNil)) (tC (.int 0))))
  (tDrop (tBM K "list" rAppend (tVar 1) (tCons (tC (.int 0)) tNil)))
  tNext)
  (tRet (tVar 1)))))
abbrev N_law_numbers : List Str := ["script", "row", "cell", "left", "k", "mixed"]

theorem r_law_numbers {K : PySem.W.Frag} {vs : List V} {H : Hp} {Q : VK} {E : XK} (h : sp_law_numbers K vs H Q E) : t_law_numbers K { nx := fun _ H' => Q .non H', rt := Q } (start N_law_numbers vs) H := by
  obtain ⟨F, m, v, ns, rfl, hS, hv, hl, q⟩ := h
  unfold t_law_numbers
  walk_at "go"
  refine g_newL (K := K) (ds := []) (by assumption) .nil (Nat.zero_le _) ?_
  intro p H1 hS1
  walk_at "go"
  refine g_slL (by assumption) hv ?_
  intro w H2 hS2
  have hlen : (cutD (intL ns) none (some 63)).length ≤ 63 := Nat.le_trans cutD_len (by rw [intL_len]; exact hl)
  refine g_for (F := dat K w (.list (cutD (intL ns) none (some 63))) :: F) (m := Ls K p [] :: m) (by assumption) (.inr .here)
    (fun i σ m' => ∃ (ms : List Int) (c l k x : Option V), σ = [some v, some (.ref p), c, l, k, x] ∧ m' = Ls K p (intL ms) :: m ∧ ms.length ≤ 60 * i) ⟨[], none, none, none, none, rfl, rfl, Nat.le_refl _⟩ ?_ ?_
  · rintro i d w2 σ' m' H3 hd ⟨ms, c, l, k, x, rfl, rfl, hms⟩ hS3
    have hi : i < 63 := Nat.lt_of_lt_of_le (List.getElem?_eq_some_iff.mp hd).1 hlen
    obtain ⟨n, rfl⟩ := cut_int hd
    obtain ⟨rfl, hS4⟩ := popInt hS3
    walk_at "go"
    refine g_ite (fun h => ?_) (fun h => ?_)
    · walk_at "go"
      refine g_range (by assumption) (by decide) (fun j σ m' => ∃ (ms : List Int) (left : Int) (k x : Option V), σ = [some v, some (.ref p), some (.int n), some (.int left), k, x] ∧ m' = Ls K p (intL ms) :: m ∧ ms.length ≤ 60 * i + j)
        ⟨ms, n, k, x, rfl, rfl, hms⟩ ?_ ?_
      · rintro j σ' m' H5 hj ⟨ms, left, k, x, rfl, rfl, hms⟩ hS5
        walk_at "go"
        refine g_ite (fun h => ?_) (fun h => ?_)
        · walk_at "go"
          exact ⟨_, ⟨ms, _, _, _, _, rfl, rfl, by omega⟩, by walk_at "wk"⟩
        · walk_at "go"
          refine g_app0 (by assumption) Has.int (by rw [intL_len]; omega) ?_
          intro H6 hS6
          walk_at "go"
          exact ⟨_, ⟨ms ++ [left % 997], _, _, _, rfl, rfl, by rw [List.length_append, List.length_singleton]; omega⟩, by rw [← intL_app]; walk_at "wk"⟩
      · rintro σ' m' H5 ⟨ms, left, k, x, rfl, rfl, hms⟩ hS5
        exact ⟨_, ⟨ms, _, _, _, _, rfl, rfl, by omega⟩, by walk_at "wk"⟩
    · walk_at "go"
      refine g_range (by assumption) (by decide) (fun j σ m' => ∃ (ms : List Int) (l k x : Option V), σ = [some v, some (.ref p), some (.int n), l, k, x] ∧ m' = Ls K p (intL ms) :: m ∧ ms.length ≤ 60 * i + j)
        ⟨ms, l, k, x, rfl, rfl, hms⟩ ?_ ?_
      · rintro j σ' m' H5 hj ⟨ms, l, k, x, rfl, rfl, hms⟩ hS5
        walk_at "go"
        refine g_app0 (by assumption) Has.int (by rw [intL_len]; omega) ?_
        intro H6 hS6
        exact ⟨_, ⟨ms ++ [(((n * 48271 + j * 69621 + 11) % 2147483647 * 16807 + j) % 2147483629)], _, _, _, rfl, rfl, by rw [List.length_append, List.length_singleton]; omega⟩, by rw [← intL_app]; walk_at "wk"⟩
      · rintro σ' m' H5 ⟨ms, l, k, x, rfl, rfl, hms⟩ hS5
        exact ⟨_, ⟨ms, _, _, _, _, rfl, rfl, by omega⟩, by walk_at "wk"⟩
  · rintro σ' m' H3 ⟨ms, c, l, k, x, rfl, rfl, hms⟩ hS3
    walk_at "go"
    refine g_ite (fun h => ?_) (fun h => ?_)
    · walk_at "go"
      refine g_app0 (by assumption) Has.int (by rw [intL_len]; omega) ?_
      intro H6 hS6
      walk_at "go"
      rw [intL_app] at hS6
      have hS7 := frzL hS6
      exact q _ (ms ++ [0]) _ (by simp) (by refine hS7.wk ?_ (List.Sublist.refl _); intro f hf; cases hf with | head => exact .head _ | tail _ hf => exact .tail _ (.tail _ hf))
    · walk_at "go"
      have hS7 := frzL hS3
      refine q _ ms _ ?_ (by refine hS7.wk ?_ (List.Sublist.refl _); intro f hf; cases hf with | head => exact .head _ | tail _ hf => exact .tail _ (.tail _ hf))
      rintro rfl
      exact of_decide_eq_false h rfl
def spDraw (K : PySem.W.Frag) : Sp := fun vs H Q _ => ∃ F m r, ∃ (ms : List Int) (n lim : Int), vs = [r, .int n, .int lim] ∧ S F m H ∧ Has K F r (.list (intL ms)) ∧ ms ≠ [] ∧ 0 ≤ n ∧ 0 < lim ∧ ∀ j H', 0 ≤ j → j < lim → S F m H' → Q (.int j) H'
abbrev sp_law_draw (K : PySem.W.Frag) : Sp := spDraw K
theorem l_law_draw {K : PySem.W.Frag} {vs : List V} {H : Hp} {Q : VK} {E : XK} (h : sp_law_draw K vs H Q E) : vs.length = 3 := by
  obtain ⟨_, _, _, _, _, _, rfl, _⟩ := h
  rfl
theorem at_intL {ms : List Int} {i : Int} (h0 : 0 ≤ i) (h1 : i < ms.length) : ∃ n, atI (intL ms) i = some (.int n) := by
  have hl : i.toNat < (intL ms).length := by rw [intL_len]; omega
  have e := List.getElem?_eq_getElem hl
  obtain ⟨n, hn⟩ := intL_at e
  exact ⟨n, at_int h0 (by rw [e, hn])⟩
def t_law_draw (K : PySem.W.Frag)  : TS :=
  (tSeq (tIfS (tTest (tOp rLtI (tVar 1) (tCB (rLenU K) (tCons (tVar 0) tNil))))
  (tRet (tOp rModI (tCB rInt (tCons (tOp (rIx K) (tVar 0) (tVar 1)) tNil)) (tVar 2)))
  tNext)
  (tSeq (tAsg (tOp rModI (tCB rInt (tCons (tOp (rAddU K) (tOp (rAddU K) (tOp rMulI (tOp (rIx K) (tVar 0) (tOp rModI (tCB rInt (tCons (tVar 1) tNil)) (tCB (rLenU K) (tCons (tVar 0) tNil)))) (tC (.int 40692))) (tOp rMulI (tVar 1) (tC (.int 7919)))) (tC (.int 3))) tNil)) (tC (.int 2147483399))) (gName 3))
  (tRet (tOp rModI (tCB rInt (tCons (tOp rModI (tCB rInt (tCons (tOp (rAddU K) (tOp rMulI (tVar 3) (tC (.int 48271))) (tVar 1)) tNil)) (tC (.int 2147483647))) tNil)) (tVar 2)))))
abbrev N_law_draw : List Str := ["row", "at", "limit", "mixed"]
theorem r_law_draw {K : PySem.W.Frag} {vs : List V} {H : Hp} {Q : VK} {E : XK} (h : sp_law_draw K vs H Q E) : t_law_draw K { nx := fun _ H' => Q .non H', rt := Q } (start N_law_draw vs) H := by
  obtain ⟨F, m, r, ms, n, lim, rfl, hS, hr, hne, hn, hlim, q⟩ := h
  have hpos : 0 < ms.length := List.length_pos_iff.mpr hne
  unfold t_law_draw
  walk_at "go"
  refine g_ite (fun h => ?_) (fun h => ?_)
  · have h := of_decide_eq_true h
    rw [intL_len] at h
    obtain ⟨j, hj⟩ := at_intL hn h
    walk_at "go"
    refine q _ _ (Int.emod_nonneg _ (by omega)) (Int.emod_lt_of_pos _ hlim) (by assumption)
  · walk_at "go"
    rw [intL_len]
    walk_at "go"
    obtain ⟨j, hj⟩ := at_intL (ms := ms) (i := n % (ms.length : Int)) (Int.emod_nonneg _ (by omega)) (Int.emod_lt_of_pos _ (by omega))
    walk_at "go"
    refine q _ _ (Int.emod_nonneg _ (by omega)) (Int.emod_lt_of_pos _ hlim) (by assumption)
def spTake (K : PySem.W.Frag) : Sp := fun vs H Q _ => ∃ F m r l, ∃ (ms : List Int) (lim : Int), vs = [r, .ref l, .int lim] ∧ S F m H ∧ Spot l ∈ m ∧ Has K F r (.list (intL ms)) ∧ ms ≠ [] ∧ 0 < lim ∧ ∀ j H', 0 ≤ j → j < lim → S F m H' → Q (.int j) H'
abbrev sp_law_take (K : PySem.W.Frag) : Sp := spTake K
theorem l_law_take {K : PySem.W.Frag} {vs : List V} {H : Hp} {Q : VK} {E : XK} (h : sp_law_take K vs H Q E) : vs.length = 3 := by
  obtain ⟨_, _, _, _, _, _, rfl, _⟩ := h
  rfl
theorem c_take {K : PySem.W.Frag} {F : List Fc} {m : List Sx} {H : Hp} {r : V} {l : Addr} {ms : List Int} {lim : Int} {Q : VK} {E : XK} (hS : S F m H) (hm : Spot l ∈ m) (hr : Has K F r (.list (intL ms))) (hne : ms ≠ []) (h0 : 0 < lim)
    (q : ∀ j H', 0 ≤ j → j < lim → S F m H' → Q (.int j) H') : spTake K [r, .ref l, .int lim] H Q E := ⟨F, m, r, l, ms, lim, rfl, hS, hm, hr, hne, h0, q⟩
def t_law_take (K : PySem.W.Frag)  : TS :=
  (tSeq (tAsg (tOp (rAddU K) (tOp (rIx K) (tVar 1) (tC (.int 0))) (tC (.int 1))) (gSub (tVar 1) (tC (.int 0)) rSetL))
  (tRet (tCall (sp_law_draw K) [] E0 (tCons (tVar 0) (tCons (tOp rSubI (tOp (rIx K) (tVar 1) (tC (.int 0))) (tC (.int 1))) (tCons (tVar 2) tNil))))))
abbrev N_law_take : List Str := ["row", "spot", "limit"]
theorem r_law_take {K : PySem.W.Frag} {vs : List V} {H : Hp} {Q : VK} {E : XK} (h : sp_law_take K vs H Q E) : t_law_take K { nx := fun _ H' => Q .non H', rt := Q } (start N_law_take vs) H := by
  obtain ⟨F, m, r, l, ms, lim, rfl, hS, hm, hr, hne, h0, q⟩ := h
  unfold t_law_take
  walk_at "go"
  refine g_ixSpot (by assumption) hm ?_
  intro n hn hH
  walk_at "go"
  refine g_setSpot (by assumption) hm (by omega) ?_
  intro H2 hS2 hH2
  walk_at "go"
  refine g_ixSpot' hH2 ?_
  walk_at "go"
  exact ⟨F, m, r, ms, _, lim, rfl, hS2, hr, hne, by omega, h0, q⟩
local macro_rules | `(tactic| walk_at "call") => `(tactic| ((with_reducible refine' c_take ?k1 ?k2 ?k3 ?k4 ?k5 ?_); (case k1 => assumption); (case k2 => walk_at "mem"); (case k3 => walk_at "has"); (case k4 => assumption); (case k5 => first | decide | omega); intro j H j0 j1 hS))

/-! ### the law's own comparison: it is asked of equal data -/
mutual
def plainD : PyData → Bool
  | .tuple ds => decide (ds.length ≤ 100000) && plainDs ds
  | .list _ => false
  | .dict _ => false
  | _ => true
def plainDs : List PyData → Bool
  | [] => true
  | d :: ds => plainD d && plainDs ds
end
mutual
def hgt : PyData → Nat
  | .tuple ds => hgts ds + 1
  | .list ds => hgts ds + 1
  | _ => 0
def hgts : List PyData → Nat
  | [] => 0
  | d :: ds => max (hgt d) (hgts ds)
end
theorem plain_at : ∀ {ds : List PyData} {i : Nat} {d : PyData}, plainDs ds = true → ds[i]? = some d → plainD d = true
  | [], i, d, _, e => by simp at e
  | a :: ds, 0, d, h, e => by
    have h' : (plainD a && plainDs ds) = true := h
    simp at e
    subst e
    exact (Bool.and_eq_true_iff.mp h').1
  | a :: ds, i + 1, d, h, e => by
    have h' : (plainD a && plainDs ds) = true := h
    exact plain_at (Bool.and_eq_true_iff.mp h').2 (by simpa using e)
theorem hgt_at : ∀ {ds : List PyData} {i : Nat} {d : PyData}, ds[i]? = some d → hgt d ≤ hgts ds
  | [], i, d, e => by simp at e
  | a :: ds, 0, d, e => by
    simp at e
    subst e
    exact Nat.le_max_left _ _
  | a :: ds, i + 1, d, e => Nat.le_trans (hgt_at (ds := ds) (by simpa using e)) (Nat.le_max_right _ _)
def sp_law_so (K : PySem.W.Frag) (n : Nat) : Sp := fun vs H Q _ => ∃ F m x y d, vs = [x, y] ∧ S F m H ∧ Has K F x d ∧ Has K F y d ∧ plainD d = true ∧ hgt d < n ∧ ∀ H', S F m H' → Q (.bl true) H'
theorem c_so {K : PySem.W.Frag} {n : Nat} {F : List Fc} {m : List Sx} {H : Hp} {x y : V} {d : PyData} {Q : VK} {E : XK} (hS : S F m H) (hx : Has K F x d) (hy : Has K F y d) (hp : plainD d = true) (hh : hgt d < n) (q : ∀ H', S F m H' → Q (.bl true) H') : sp_law_so K n [x, y] H Q E := ⟨F, m, x, y, d, rfl, hS, hx, hy, hp, hh, q⟩
theorem l_law_so {K : PySem.W.Frag} {n : Nat} {vs : List V} {H : Hp} {Q : VK} {E : XK} (h : sp_law_so K n vs H Q E) : vs.length = 2 := by
  obtain ⟨_, _, _, _, _, rfl, _⟩ := h
  rfl
theorem z_law_so {K : PySem.W.Frag} {vs : List V} {H : Hp} {Q : VK} {E : XK} (h : sp_law_so K 0 vs H Q E) : False := by
  obtain ⟨_, _, _, _, _, rfl, _, _, _, _, h, _⟩ := h
  exact Nat.not_lt_zero _ h
local macro_rules | `(tactic| walk_at "call") => `(tactic| ((with_reducible refine' c_so ?k1 ?k2 ?k3 ?k4 ?k5 ?_); (case k1 => assumption); (case k2 => walk_at "has"); (case k3 => walk_at "has"); (case k4 => first | assumption | rfl); (case k5 => first | assumption | exact Nat.zero_lt_succ _ | omega); intro H hS))
def t_law_so (K : PySem.W.Frag) (n : Nat) : TS :=
  (tSeq (tIfS (tTest (tOp rIsN (tVar 1) (tC .non)))
  (tRet (tOp rIsN (tVar 0) (tC .non)))
  tNext)
  (tSeq (tIfS (tTruU K (tCB (rIsi K) (tCons (tVar 1) (tCons (tC (.ty "tuple")) tNil))))
  (tSeq (tIfS (tOr (tNot (tTruU K (tCB (rIsi K) (tCons (tVar 0) (tCons (tC (.ty "tuple")) tNil))))) (tTest (tOp (rNeU K) (tCB (rLenU K) (tCons (tVar 0) tNil)) (tCB (rLenU K) (tCons (tVar 1) tNil)))))
  (tRet (tC (.bl false)))
  tNext)
  (tSeq (tFor (iRng1 (tCons (tCB (rLenU K) (tCons (tVar 1) tNil)) tNil)) (gName 2)
  (tIfS (tNot (tTruU K (tCall (sp_law_so K n) [] E0 (tCons (tOp (rIx K) (tVar 0) (tVar 2)) (tCons (tOp (rIx K) (tVar 1) (tVar 2)) tNil)))))
  (tRet (tC (.bl false)))
  tNext))
  (tRet (tC (.bl true)))))
  tNext)
  (tSeq (tIfS (tOr (tTruU K (tCB (rIsi K) (tCons (tVar 1) (tCons (tC (.ty "bool")) tNil)))) (tTruU K (tCB (rIsi K) (tCons (tVar 0) (tCons (tC (.ty "bool")) tNil)))))
  (tRet (tAndV (tCB (rIsi K) (tCons (tVar 1) (tCons (tC (.ty "bool")) tNil))) (tAndV (tCB (rIsi K) (tCons (tVar 0) (tCons (tC (.ty "bool")) tNil))) (tOp (rEqU K) (tVar 0) (tVar 1)))))
  tNext)
  (tSeq (tIfS (tTruU K (tCB (rIsi K) (tCons (tVar 1) (tCons (tC (.ty "int")) tNil))))
  (tRet (tAndV (tCB (rIsi K) (tCons (tVar 0) (tCons (tC (.ty "int")) tNil))) (tOp (rEqU K) (tVar 0) (tVar 1))))
  tNext)
  (tRet (tAndV (tCB (rIsi K) (tCons (tVar 1) (tCons (tC (.ty "str")) tNil))) (tAndV (tCB (rIsi K) (tCons (tVar 0) (tCons (tC (.ty "str")) tNil))) (tOp (rEqU K) (tVar 0) (tVar 1)))))))))
abbrev N_law_so : List Str := ["found", "meant", "k"]
theorem r_law_so {K : PySem.W.Frag} {n : Nat} {vs : List V} {H : Hp} {Q : VK} {E : XK} (h : sp_law_so K (n + 1) vs H Q E) : t_law_so K n { nx := fun _ H' => Q .non H', rt := Q } (start N_law_so vs) H := by
  obtain ⟨F, m, x, y, d, rfl, hS, hx, hy, hp, hh, q⟩ := h
  unfold t_law_so
  cases d with
  | none =>
    obtain ⟨rfl, hS2⟩ := popNon (hS.addD hx)
    obtain ⟨rfl, hS2⟩ := popNon (hS.addD hy)
    walk_at "go"
    refine g_ite (fun h => ?_) (fun h => by cases h)
    walk_at "go"
    exact q _ (by assumption)
  | bool b =>
    obtain ⟨rfl, hS2⟩ := popBl (hS.addD hx)
    obtain ⟨rfl, hS2⟩ := popBl (hS.addD hy)
    clear hS2
    walk_at "go"
    refine g_ite (fun h => by cases h) (fun h => ?_)
    walk_at "go"
    refine g_ite (fun h => by cases h) (fun h => ?_)
    walk_at "go"
    refine g_ite (fun h => ?_) (fun h => by cases h)
    refine g_ite (fun h => ?_) (fun h => by cases h)
    walk_at "go"
    refine g_ite (fun h => ?_) (fun h => by cases h)
    walk_at "go"
    refine g_ite (fun h => ?_) (fun h => by cases h)
    walk_at "go"
    exact qb q (by assumption) (by cases b <;> rfl)
  | int i =>
    obtain ⟨rfl, hS2⟩ := popInt (hS.addD hx)
    obtain ⟨rfl, hS2⟩ := popInt (hS.addD hy)
    clear hS2
    walk_at "go"
    refine g_ite (fun h => by cases h) (fun h => ?_)
    walk_at "go"
    refine g_ite (fun h => by cases h) (fun h => ?_)
    walk_at "go"
    refine g_ite (fun h => by cases h) (fun h => ?_)
    walk_at "go"
    refine g_ite (fun h => by cases h) (fun h => ?_)
    walk_at "go"
    refine g_ite (fun h => ?_) (fun h => by cases h)
    walk_at "go"
    refine g_ite (fun h => ?_) (fun h => by cases h)
    walk_at "go"
    exact qb q (by assumption) (by simp)
  | str s =>
    obtain ⟨rfl, hS2⟩ := popStr (hS.addD hx)
    obtain ⟨rfl, hS2⟩ := popStr (hS.addD hy)
    clear hS2
    walk_at "go"
    refine g_ite (fun h => by cases h) (fun h => ?_)
    walk_at "go"
    refine g_ite (fun h => by cases h) (fun h => ?_)
    walk_at "go"
    refine g_ite (fun h => by cases h) (fun h => ?_)
    walk_at "go"
    refine g_ite (fun h => by cases h) (fun h => ?_)
    walk_at "go"
    refine g_ite (fun h => by cases h) (fun h => ?_)
    walk_at "go"
    refine g_ite (fun h => ?_) (fun h => by cases h)
    walk_at "go"
    refine g_ite (fun h => ?_) (fun h => by cases h)
    walk_at "go"
    exact qb q (by assumption) (decide_eq_true rfl)
  | tuple ds =>
    obtain ⟨hl, hp⟩ := Bool.and_eq_true_iff.mp (show (decide (ds.length ≤ 100000) && plainDs ds) = true from hp)
    have hl := of_decide_eq_true hl
    have hx2 : x ≠ .non := by
      rintro rfl
      cases hS.dp hx
    have hy2 : y ≠ .non := by
      rintro rfl
      cases hS.dp hy
    walk_at "go"
    refine g_ite (fun h => absurd (of_decide_eq_true h) hy2) (fun h => ?_)
    walk_at "go"
    refine g_ite (fun h => ?_) (fun h => by cases h)
    walk_at "go"
    refine g_ite (fun h => by cases h) (fun h => ?_)
    walk_at "go"
    refine g_ite (fun h => ?_) (fun h => ?_)
    · simp at h
    walk_at "go"
    refine g_range (by assumption) ⟨by omega, by omega⟩ (fun i σ m' => ∃ k : Option V, σ = [some x, some y, k] ∧ m' = m) ⟨none, rfl, rfl⟩ ?_ ?_
    · rintro i σ' m' H2 hi ⟨k, rfl, rfl⟩ hS2
      have hi' : i < ds.length := by omega
      have e := List.getElem?_eq_getElem hi'
      have hj : atI ds (i : Int) = some ds[i] := by rw [at_nat]; exact e
      have h1 := plain_at hp e
      have h2 := hgt_at e
      have h3 : hgt ds[i] < n := by
        have : hgt (.tuple ds) = hgts ds + 1 := rfl
        omega
      walk_at "go"
      refine g_ite (fun h => by cases h) (fun h => ?_)
      walk_at "go"
      exact ⟨_, ⟨_, rfl, rfl⟩, by walk_at "wk"⟩
    · rintro σ' m' H2 ⟨k, rfl, rfl⟩ hS2
      walk_at "go"
      exact q _ (by assumption)
  | list ds => cases hp
  | dict ds => cases hp

/-! ### loose values -/
mutual
def loose : PyData → Int → PyData
  | .tuple ds, t => if t % 2 = 0 then .list (looses ds (t + 1)) else .tuple (looses ds (t + 1))
  | .none, _ => .none
  | .bool b, _ => .bool b
  | .int i, _ => .int i
  | .str s, _ => .str s
  | .list ds, _ => .list ds
  | .dict ds, _ => .dict ds
def looses : List PyData → Int → List PyData
  | [], _ => []
  | d :: ds, t => loose d t :: looses ds t
end
theorem looses_map : ∀ (ds : List PyData) (t : Int), looses ds t = ds.map fun d => loose d t
  | [], _ => rfl
  | d :: ds, t => by
    show loose d t :: looses ds t = _
    rw [looses_map ds t] <;> rfl
def sp_law_loose (K : PySem.W.Frag) (n : Nat) : Sp := fun vs H Q _ => ∃ F m v d, ∃ t : Int, vs = [v, .int t] ∧ S F m H ∧ Has K F v d ∧ plainD d = true ∧ hgt d < n ∧ ResH K F m (loose d t) Q
theorem c_loose {K : PySem.W.Frag} {n : Nat} {F : List Fc} {m : List Sx} {H : Hp} {v : V} {d : PyData} {t : Int} {Q : VK} {E : XK} (hS : S F m H) (hv : Has K F v d) (hp : plainD d = true) (hh : hgt d < n) (q : ResH K F m (loose d t) Q) : sp_law_loose K n [v, .int t] H Q E := ⟨F, m, v, d, t, rfl, hS, hv, hp, hh, q⟩
theorem l_law_loose {K : PySem.W.Frag} {n : Nat} {vs : List V} {H : Hp} {Q : VK} {E : XK} (h : sp_law_loose K n vs H Q E) : vs.length = 2 := by
  obtain ⟨_, _, _, _, _, rfl, _⟩ := h
  rfl
theorem z_law_loose {K : PySem.W.Frag} {vs : List V} {H : Hp} {Q : VK} {E : XK} (h : sp_law_loose K 0 vs H Q E) : False := by
  obtain ⟨_, _, _, _, _, rfl, _, _, _, h, _⟩ := h
  exact Nat.not_lt_zero _ h
theorem mono_law_loose {K : PySem.W.Frag} {n : Nat} : MonoSp (sp_law_loose K n) := fun vs H Q Q' E h ⟨F, m, v, d, t, a, b, c, e, f, q⟩ => ⟨F, m, v, d, t, a, b, c, e, f, fun w H' z => h _ _ (q w H' z)⟩
local macro_rules | `(tactic| walk_at "call") => `(tactic| ((with_reducible refine' c_loose ?k1 ?k2 ?k3 ?k4 ?_); (case k1 => assumption); (case k2 => walk_at "has"); (case k3 => first | assumption | rfl); (case k4 => first | assumption | omega); walk_at "res"))
theorem take_succ {α : Type} {l : List α} {i : Nat} {x : α} (h : l[i]? = some x) : l.take (i + 1) = l.take i ++ [x] := by
  obtain ⟨hl, e⟩ := List.getElem?_eq_some_iff.mp h
  rw [List.take_succ_eq_append_getElem hl, e]
def t_law_loose (K : PySem.W.Frag) (n : Nat) : TS :=
  (tSeq (tIfS (tTruU K (tCB (rIsi K) (tCons (tVar 0) (tCons (tC (.ty "tuple")) tNil))))
  (tSeq (tAsg (tLc (iSeq K (tVar 0)) (gName 3) tYes (tCall (sp_law_loose K n) [] E0 (tCons (tVar 3) (tCons (tOp (rAddU K) (tVar 1) (tC (.int 1))) tNil))) [3]) (gName 2))
  (tRet (tIf (tTest (tOp (rEqU K) (tOp rModI (tCB rInt (tCons (tVar 1) tNil)) (tC (.int 2))) (tC (.int 0)))) (tVar 2) (tCB (rTuple K) (tCons (tVar 2) tNil)))))
  tNext)
  (tRet (tVar 0)))
abbrev N_law_loose : List Str := ["value", "turn", "made", "one"]
theorem r_law_loose {K : PySem.W.Frag} {n : Nat} {vs : List V} {H : Hp} {Q : VK} {E : XK} (h : sp_law_loose K (n + 1) vs H Q E) : t_law_loose K n { nx := fun _ H' => Q .non H', rt := Q } (start N_law_loose vs) H := by
  obtain ⟨F, m, v, d, t, rfl, hS, hv, hp, hh, q⟩ := h
  unfold t_law_loose
  walk_at "go"
  refine g_ite (fun h => ?_) (fun h => ?_)
  · obtain ⟨ds, rfl⟩ : ∃ ds, d = .tuple ds := by
      cases d <;> first | exact ⟨_, rfl⟩ | cases h
    obtain ⟨hl, hp⟩ := Bool.and_eq_true_iff.mp (show (decide (ds.length ≤ 100000) && plainDs ds) = true from hp)
    have hl := of_decide_eq_true hl
    walk_at "go"
    refine g_lc (m := m) (by assumption) (.inl hv) mono_name mono_yes (mono_call mono_law_loose (monoA_cons mono_var (monoA_cons (mono_op monoR_addU mono_var mono_c) monoA_nil))) (by omega)
      (fun i acc m' => acc = looses (ds.take i) (t + 1) ∧ m' = m) ⟨rfl, rfl⟩ ?_ ?_
    · rintro i d w D acc m' H2 hd hacc ⟨rfl, rfl⟩ hS2
      have h1 := plain_at hp hd
      have h2 : hgt d < n := by
        have := hgt_at hd
        have : hgt (.tuple ds) = hgts ds + 1 := rfl
        omega
      refine g_lcT rfl ?_
      walk_at "go"
      refine g_ite (fun _ => ?_) (fun h => by cases h)
      walk_at "go"
      exact ⟨loose d (t + 1), m', ⟨by rw [looses_map, looses_map, take_succ hd, List.map_append] <;> rfl, rfl⟩, by refine S.wk (by assumption) ?_ (List.Sublist.refl _); intro f hf; cases hf with | head => exact .head _ | tail _ hf => exact .tail _ (.tail _ hf)⟩
    · rintro D acc m' H2 hacc ⟨rfl, rfl⟩ hS2
      rw [List.take_length] at hS2
      walk_at "go"
      refine g_ite (fun h => ?_) (fun h => ?_)
      · have h := of_decide_eq_true h
        have e : loose (.tuple ds) t = .list (looses ds (t + 1)) := if_pos h
        rw [e] at q
        walk_at "go"
        exact q _ _ (frzL hS2)
      · have h := of_decide_eq_false h
        have e : loose (.tuple ds) t = .tuple (looses ds (t + 1)) := if_neg h
        rw [e] at q
        walk_at "go"
        exact q _ _ (by walk_at "wk")
  · walk_at "go"
    have e : loose d t = d := by
      cases d <;> first | rfl | cases h
    rw [e] at q
    exact q _ _ (hS.addD hv)
/-! ### drawn trees -/
inductive Tr where
  | node (l : Int) (ks : List Tr)
mutual
def Tr.d : Tr → PyData
  | .node l ks => .tuple [.int l, .tuple (trDs ks)]
def trDs : List Tr → List PyData
  | [] => []
  | t :: ts => t.d :: trDs ts
end
mutual
def Tr.sz : Tr → Nat
  | .node _ ks => szs ks + 1
def szs : List Tr → Nat
  | [] => 0
  | t :: ts => t.sz + szs ts
end
mutual
def Tr.ht : Tr → Nat
  | .node _ ks => hts ks + 1
def hts : List Tr → Nat
  | [] => 0
  | t :: ts => max t.ht (hts ts)
end
mutual
/-- all labels lie below n -/
def Tr.okL (n : Int) : Tr → Prop
  | .node l ks => (0 ≤ l ∧ l < n) ∧ okLs n ks
def okLs (n : Int) : List Tr → Prop
  | [] => True
  | t :: ts => t.okL n ∧ okLs n ts
end
theorem trDs_map : ∀ ts : List Tr, trDs ts = ts.map Tr.d
  | [] => rfl
  | t :: ts => by
    show t.d :: trDs ts = _
    rw [trDs_map ts] <;> rfl
theorem trDs_len (ts : List Tr) : (trDs ts).length = ts.length := by rw [trDs_map, List.length_map]
theorem trDs_at {ts : List Tr} {i : Nat} {d : PyData} (h : (trDs ts)[i]? = some d) : ∃ t, ts[i]? = some t ∧ d = t.d := by
  rw [trDs_map, List.getElem?_map] at h
  cases e : ts[i]? with
  | none => rw [e] at h; cases h
  | some t =>
    rw [e] at h
    exact ⟨t, rfl, (Option.some.inj h).symm⟩
theorem trDs_app (ts : List Tr) (t : Tr) : trDs ts ++ [t.d] = trDs (ts ++ [t]) := by rw [trDs_map, trDs_map, List.map_append] <;> rfl
theorem szs_sum : ∀ ts : List Tr, szs ts = (ts.map Tr.sz).sum
  | [] => rfl
  | t :: ts => by
    show t.sz + szs ts = _
    rw [szs_sum ts] <;> rfl
theorem szs_app (ts : List Tr) (t : Tr) : szs (ts ++ [t]) = szs ts + t.sz := by simp [szs_sum]
theorem okLs_app {n : Int} : ∀ {ts : List Tr} {t : Tr}, okLs n ts → t.okL n → okLs n (ts ++ [t])
  | [], t, _, h => ⟨h, trivial⟩
  | a :: ts, t, h, q => ⟨h.1, okLs_app h.2 q⟩
theorem hts_at : ∀ {ts : List Tr} {i : Nat} {t : Tr}, ts[i]? = some t → t.ht ≤ hts ts
  | [], i, d, e => by simp at e
  | a :: ds, 0, d, e => by
    simp at e
    subst e
    exact Nat.le_max_left _ _
  | a :: ds, i + 1, d, e => Nat.le_trans (hts_at (ts := ds) (by simpa using e)) (Nat.le_max_right _ _)
theorem szs_at : ∀ {ts : List Tr} {i : Nat} {t : Tr}, ts[i]? = some t → t.sz ≤ szs ts
  | [], i, d, e => by simp at e
  | a :: ds, 0, d, e => by
    simp at e
    subst e
    exact Nat.le_add_right _ _
  | a :: ds, i + 1, d, e => Nat.le_trans (szs_at (ts := ds) (by simpa using e)) (Nat.le_add_left _ _)
mutual
theorem ht_sz : ∀ t : Tr, t.ht ≤ t.sz
  | .node l ks => by
    show hts ks + 1 ≤ szs ks + 1
    exact Nat.succ_le_succ (hts_szs ks)
theorem hts_szs : ∀ ts : List Tr, hts ts ≤ szs ts
  | [] => Nat.le_refl _
  | t :: ts => by
    show max t.ht (hts ts) ≤ t.sz + szs ts
    have h1 := ht_sz t
    have h2 := hts_szs ts
    omega
end
theorem sz_pos : ∀ t : Tr, 1 ≤ t.sz
  | .node l ks => Nat.succ_le_succ (Nat.zero_le _)
theorem szs_len : ∀ ts : List Tr, ts.length ≤ szs ts
  | [] => Nat.le_refl _
  | t :: ts => by
    show ts.length + 1 ≤ t.sz + szs ts
    have := sz_pos t
    have := szs_len ts
    omega
mutual
theorem plain_tr : ∀ t : Tr, t.sz ≤ 100000 → plainD t.d = true
  | .node l ks, h => by
    have h1 : plainDs (trDs ks) = true := plain_trs ks (by have : (Tr.node l ks).sz = szs ks + 1 := rfl; omega)
    have h2 := szs_len ks
    have h3 : (Tr.node l ks).sz = szs ks + 1 := rfl
    have h4 := trDs_len ks
    show (decide (2 ≤ 100000) && (true && ((decide ((trDs ks).length ≤ 100000) && plainDs (trDs ks)) && true))) = true
    rw [h1, decide_eq_true (by omega : (trDs ks).length ≤ 100000)] <;> rfl
theorem plain_trs : ∀ ts : List Tr, szs ts ≤ 100000 → plainDs (trDs ts) = true
  | [], _ => rfl
  | t :: ts, h => by
    have h' : t.sz + szs ts ≤ 100000 := h
    show (plainD t.d && plainDs (trDs ts)) = true
    rw [plain_tr t (by omega), plain_trs ts (by omega)] <;> rfl
end
mutual
theorem hgt_tr : ∀ t : Tr, hgt t.d ≤ 2 * t.ht
  | .node l ks => by
    show max 0 (max (hgts (trDs ks) + 1) 0) + 1 ≤ 2 * (hts ks + 1)
    have := hgts_tr ks
    omega
theorem hgts_tr : ∀ ts : List Tr, hgts (trDs ts) ≤ 2 * hts ts
  | [] => Nat.le_refl _
  | t :: ts => by
    show max (hgt t.d) (hgts (trDs ts)) ≤ 2 * max t.ht (hts ts)
    have := hgt_tr t
    have := hgts_tr ts
    omega
end
def sp_law_size (K : PySem.W.Frag) (n : Nat) : Sp := fun vs H Q _ => ∃ F m v, ∃ t : Tr, vs = [v] ∧ S F m H ∧ Has K F v t.d ∧ t.ht < n ∧ t.sz ≤ 100000 ∧ ∀ H', S F m H' → Q (.int t.sz) H'
theorem c_size {K : PySem.W.Frag} {n : Nat} {F : List Fc} {m : List Sx} {H : Hp} {v : V} {t : Tr} {Q : VK} {E : XK} (hS : S F m H) (hv : Has K F v t.d) (hh : t.ht < n) (hz : t.sz ≤ 100000) (q : ∀ H', S F m H' → Q (.int t.sz) H') : sp_law_size K n [v] H Q E := ⟨F, m, v, t, rfl, hS, hv, hh, hz, q⟩
theorem l_law_size {K : PySem.W.Frag} {n : Nat} {vs : List V} {H : Hp} {Q : VK} {E : XK} (h : sp_law_size K n vs H Q E) : vs.length = 1 := by
  obtain ⟨_, _, _, _, rfl, _⟩ := h
  rfl
theorem z_law_size {K : PySem.W.Frag} {vs : List V} {H : Hp} {Q : VK} {E : XK} (h : sp_law_size K 0 vs H Q E) : False := by
  obtain ⟨_, _, _, _, rfl, _, _, h, _⟩ := h
  exact Nat.not_lt_zero _ h
theorem mono_law_size {K : PySem.W.Frag} {n : Nat} : MonoSp (sp_law_size K n) := fun vs H Q Q' E h ⟨F, m, v, t, a, b, c, e, f, q⟩ => ⟨F, m, v, t, a, b, c, e, f, fun H' z => h _ _ (q H' z)⟩
local macro_rules | `(tactic| walk_at "call") => `(tactic| ((with_reducible refine' c_size ?k1 ?k2 ?k3 ?k4 ?_); (case k1 => assumption); (case k2 => walk_at "has"); (case k3 => first | assumption | omega); (case k4 => first | assumption | omega); intro H hS))
def t_law_size (K : PySem.W.Frag) (n : Nat) : TS :=
  (tRet (tOp (rAddU K) (tC (.int 1)) (tCB (rSum K) (tCons (tLc (iSeq K (tOp (rIx K) (tVar 0) (tC (.int 1)))) (gName 1) tYes (tCall (sp_law_size K n) [] E0 (tCons (tVar 1) tNil)) [1]) tNil))))
abbrev N_law_size : List Str := ["tree", "one"]
theorem r_law_size {K : PySem.W.Frag} {n : Nat} {vs : List V} {H : Hp} {Q : VK} {E : XK} (h : sp_law_size K (n + 1) vs H Q E) : t_law_size K n { nx := fun _ H' => Q .non H', rt := Q } (start N_law_size vs) H := by
  obtain ⟨F, m, v, t, rfl, hS, hv, hh, hz, q⟩ := h
  obtain ⟨l, ks⟩ := t
  have hv : Has K F v (.tuple [.int l, .tuple (trDs ks)]) := hv
  have hz' : szs ks + 1 ≤ 100000 := hz
  unfold t_law_size
  walk_at "go"
  have hlen := szs_len ks
  refine g_lc (m := m) (by assumption) (.inl .here) mono_name mono_yes (mono_call mono_law_size (monoA_cons mono_var monoA_nil)) (by rw [trDs_len]; omega)
    (fun i acc m' => acc = (((ks.take i).map fun t => (t.sz : Int))).map PyData.int ∧ m' = m) ⟨rfl, rfl⟩ ?_ ?_
  · rintro i d w D acc m' H2 hd hacc ⟨rfl, rfl⟩ hS2
    obtain ⟨t, ht, rfl⟩ := trDs_at hd
    have h1 := hts_at ht
    have h2 : (Tr.node l ks).ht = hts ks + 1 := rfl
    have h3 : t.sz ≤ szs ks := by
      exact szs_at ht
    refine g_lcT rfl ?_
    walk_at "go"
    refine g_ite (fun _ => ?_) (fun h => by cases h)
    walk_at "go"
    exact ⟨.int t.sz, m', ⟨by rw [take_succ ht]; simp, rfl⟩, by refine S.addD ?_ Has.int; walk_at "wk"⟩
  · rintro D acc m' H2 hacc ⟨rfl, rfl⟩ hS2
    rw [trDs_len, List.take_length] at hS2
    walk_at "go"
    refine g_sumO (by assumption) (by walk_at "mem") ?_
    walk_at "go"
    have e : (1 : Int) + (ks.map fun t => (t.sz : Int)).sum = ((Tr.node l ks).sz : Int) := by
      have e2 : ((Tr.node l ks).sz : Int) = ((szs ks : Nat) : Int) + 1 := by
        show (((szs ks + 1 : Nat)) : Int) = _
        omega
      have e3 : ∀ l : List Tr, (l.map fun t => (t.sz : Int)).sum = ((szs l : Nat) : Int) := by
        intro l
        induction l with
        | nil => rfl
        | cons a l ih =>
          rw [List.map_cons, List.sum_cons, ih]
          show (a.sz : Int) + ((szs l : Nat) : Int) = ((a.sz + szs l : Nat) : Int)
          omega
      rw [e2, e3]
      omega
    rw [e]
    exact q _ (by walk_at "wk")
def sp_law_branch (K : PySem.W.Frag) (n : Nat) : Sp := fun vs H Q _ => ∃ F m r l, ∃ ms : List Int, ∃ labels many : Int, vs = [r, .ref l, .int labels, .int many] ∧ S F m H ∧ Spot l ∈ m ∧ Has K F r (.list (intL ms)) ∧ ms ≠ [] ∧ 0 < labels ∧ 1 ≤ many ∧ many < n ∧ many ≤ 13 ∧
  ∀ t : Tr, t.okL labels → (t.sz : Int) ≤ many → ResH K F m t.d Q
theorem c_branch {K : PySem.W.Frag} {n : Nat} {F : List Fc} {m : List Sx} {H : Hp} {r : V} {l : Addr} {ms : List Int} {labels many : Int} {Q : VK} {E : XK} (hS : S F m H) (hm : Spot l ∈ m) (hr : Has K F r (.list (intL ms))) (hne : ms ≠ []) (h0 : 0 < labels) (h1 : 1 ≤ many) (h2 : many < n) (h3 : many ≤ 13)
    (q : ∀ t : Tr, t.okL labels → (t.sz : Int) ≤ many → ResH K F m t.d Q) : sp_law_branch K n [r, .ref l, .int labels, .int many] H Q E := ⟨F, m, r, l, ms, labels, many, rfl, hS, hm, hr, hne, h0, h1, h2, h3, q⟩
theorem l_law_branch {K : PySem.W.Frag} {n : Nat} {vs : List V} {H : Hp} {Q : VK} {E : XK} (h : sp_law_branch K n vs H Q E) : vs.length = 4 := by
  obtain ⟨_, _, _, _, _, _, _, rfl, _⟩ := h
  rfl
theorem z_law_branch {K : PySem.W.Frag} {vs : List V} {H : Hp} {Q : VK} {E : XK} (h : sp_law_branch K 0 vs H Q E) : False := by
  obtain ⟨_, _, _, _, _, _, _, rfl, _, _, _, _, _, h, h2, _⟩ := h
  omega
local macro_rules | `(tactic| walk_at "call") => `(tactic| ((with_reducible refine' c_branch ?k1 ?k2 ?k3 ?k4 ?k5 ?k6 ?k7 ?k8 ?_); (case k1 => assumption); (case k2 => walk_at "mem"); (case k3 => walk_at "has"); (case k4 => assumption); (case k5 => omega); (case k6 => omega); (case k7 => omega); (case k8 => omega); intro t ht hz w H hS))
def t_law_branch (K : PySem.W.Frag) (n : Nat) : TS :=
  (tSeq (tAsg (tLst tNil) (gName 4))
  (tSeq (tAsg (tOp rSubI (tVar 3) (tC (.int 1))) (gName 5))
  (tSeq (tFor (iRng1 (tCons (tCall (sp_law_take K) [] E0 (tCons (tVar 0) (tCons (tVar 1) (tCons (tC (.int 3)) tNil)))) tNil)) (gName 6)
  (tIfS (tTest (tOp rGtI (tVar 5) (tC (.int 0))))
  (tSeq (tAsg (tCall (sp_law_branch K n) [] E0 (tCons (tVar 0) (tCons (tVar 1) (tCons (tVar 2) (tCons (tOp (rAddU K) (tC (.int 1)) (tCall (sp_law_take K) [] E0 (tCons (tVar 0) (tCons (tVar 1) (tCons (tVar 5) tNil))))) tNil))))) (gName 7))
  (tSeq (tDrop (tBM K "list" rAppend (tVar 4) (tCons (tVar 7) tNil)))
  (tAsg (tOp rSubI (tVar 5) (tCall (sp_law_size K 14) [] E0 (tCons (tVar 7) tNil))) (gName 5))))
  tNext))
  (tRet (tTup (tCons (tCall (sp_law_take K) [] E0 (tCons (tVar 0) (tCons (tVar 1) (tCons (tVar 2) tNil)))) (tCons (tCB (rTuple K) (tCons (tVar 4) tNil)) tNil)))))))
abbrev N_law_branch : List Str := ["row", "spot", "labels", "many", "children", "left", "k", "one"]
theorem r_law_branch {K : PySem.W.Frag} {n : Nat} {vs : List V} {H : Hp} {Q : VK} {E : XK} (h : sp_law_branch K (n + 1) vs H Q E) : t_law_branch K n { nx := fun _ H' => Q .non H', rt := Q } (start N_law_branch vs) H := by
  obtain ⟨F, m, r, l, ms, labels, many, rfl, hS, hm, hr, hne, h0, h1, h2, h3, q⟩ := h
  unfold t_law_branch
  walk_at "go"
  refine g_newL (K := K) (ds := []) (by assumption) .nil (Nat.zero_le _) ?_
  intro p H1 hS1
  walk_at "go"
  rename_i j0 j1 _
  refine g_range (by assumption) ⟨by omega, by omega⟩ (fun i σ m' => ∃ (ts : List Tr) (left : Int) (k o : Option V), σ = [some r, some (.ref l), some (.int labels), some (.int many), some (.ref p), some (.int left), k, o] ∧ m' = Ls K p (trDs ts) :: m ∧ 0 ≤ left ∧ (szs ts : Int) + left = many - 1 ∧ okLs labels ts)
    ⟨[], many - 1, none, none, rfl, rfl, by omega, by show ((0 : Nat) : Int) + _ = _; omega, trivial⟩ ?_ ?_
  · rintro i σ' m' H2 hi ⟨ts, left, k, o, rfl, rfl, hl, hsum, hok⟩ hS2
    walk_at "go"
    refine g_ite (fun h => ?_) (fun h => ?_)
    · have h := of_decide_eq_true h
      walk_at "go"
      rename_i j Hj a0 a1 hSj t ht hz w Hw hSw
      have hlen := szs_len ts
      refine g_app0 (d := t.d) (by assumption) .here (by rw [trDs_len]; omega) ?_
      intro H5 hS5
      rw [trDs_app] at hS5
      have hht := ht_sz t
      walk_at "go"
      exact ⟨_, ⟨ts ++ [t], left - t.sz, _, _, rfl, rfl, by omega, by rw [szs_app]; omega, okLs_app hok ht⟩, by walk_at "wk"⟩
    · walk_at "go"
      exact ⟨_, ⟨ts, left, _, _, rfl, rfl, hl, hsum, hok⟩, by walk_at "wk"⟩
  · rintro σ' m' H2 ⟨ts, left, k, o, rfl, rfl, hl, hsum, hok⟩ hS2
    walk_at "go"
    rename_i j Hj a0 a1 hSj w Hw hSw w2 H2 hS2
    exact q (.node j ts) ⟨⟨a0, a1⟩, hok⟩ (by show ((szs ts + 1 : Nat) : Int) ≤ many; omega) _ _ (by refine S.wk (by assumption) ?_ (.cons _ (.refl _)); intro f hf; cases hf with | head => exact .head _ | tail _ hf => exact .tail _ (.tail _ hf))

/-! ### law k02 -/
mutual
theorem trSz_loose : ∀ (t : Tr) (k : Int), t.okL 5 → trSz (loose t.d k) = some t.sz
  | .node l ks, k, h => by
    have hl : labD (.int l) = true := by
      show (decide (0 ≤ l) && decide (l ≤ 4)) = true
      have := h.1
      rw [decide_eq_true this.1, decide_eq_true (by omega : l ≤ 4)] <;> rfl
    have hk : ∀ j, trSzs (looses (trDs ks) j) = some (szs ks) := fun j => trSzs_looses ks j h.2
    have e : loose (Tr.node l ks).d k = (if k % 2 = 0 then .list [.int l, loose (.tuple (trDs ks)) (k + 1)] else .tuple [.int l, loose (.tuple (trDs ks)) (k + 1)]) := rfl
    have e2 : loose (.tuple (trDs ks)) (k + 1) = (if (k + 1) % 2 = 0 then .list (looses (trDs ks) (k + 1 + 1)) else .tuple (looses (trDs ks) (k + 1 + 1))) := rfl
    rw [e, e2]
    split <;> split <;> (unfold trSz; rw [if_pos hl]; dsimp only; rw [hk] <;> rfl)
theorem trSzs_looses : ∀ (ts : List Tr) (k : Int), okLs 5 ts → trSzs (looses (trDs ts) k) = some (szs ts)
  | [], _, _ => rfl
  | t :: ts, k, h => by
    show (match trSz (loose t.d k), trSzs (looses (trDs ts) k) with | some a, some b => some (a + b) | _, _ => none) = some (t.sz + szs ts)
    rw [trSz_loose t k h.1, trSzs_looses ts k h.2]
end
mutual
theorem trSz_d : ∀ (t : Tr), t.okL 5 → trSz t.d = some t.sz
  | .node l ks, h => by
    have hl : labD (.int l) = true := by
      show (decide (0 ≤ l) && decide (l ≤ 4)) = true
      have := h.1
      rw [decide_eq_true this.1, decide_eq_true (by omega : l ≤ 4)] <;> rfl
    have e : (Tr.node l ks).d = .tuple [.int l, .tuple (trDs ks)] := rfl
    rw [e]
    unfold trSz
    rw [if_pos hl]
    dsimp only
    rw [trSzs_d ks h.2] <;> rfl
theorem trSzs_d : ∀ (ts : List Tr), okLs 5 ts → trSzs (trDs ts) = some (szs ts)
  | [], _ => rfl
  | t :: ts, h => by
    show (match trSz t.d, trSzs (trDs ts) with | some a, some b => some (a + b) | _, _ => none) = some (t.sz + szs ts)
    rw [trSz_d t h.1, trSzs_d ts h.2]
end
theorem trOk_d {t : Tr} {n : Int} (h : t.okL 5) : trOk n t.d = decide ((t.sz : Int) ≤ n) := by
  unfold trOk
  rw [trSz_d t h]
theorem trOk_loose {t : Tr} {n k : Int} (h : t.okL 5) : trOk n (loose t.d k) = decide ((t.sz : Int) ≤ n) := by
  unfold trOk
  rw [trSz_loose t k h]
theorem okLs_rep {n : Int} {t : Tr} (h : t.okL n) : ∀ k : Nat, okLs n (List.replicate k t)
  | 0 => trivial
  | k + 1 => ⟨h, okLs_rep h k⟩
theorem okLs_cat {n : Int} : ∀ {a b : List Tr}, okLs n a → okLs n b → okLs n (a ++ b)
  | [], _, _, h => h
  | _ :: _, _, h, q => ⟨h.1, okLs_cat h.2 q⟩
theorem szs_rep (t : Tr) : ∀ k : Nat, szs (List.replicate k t) = k * t.sz
  | 0 => by simp [szs]
  | k + 1 => by
    show t.sz + szs (List.replicate k t) = (k + 1) * t.sz
    rw [szs_rep t k, Nat.succ_mul, Nat.add_comm]
theorem szs_cat : ∀ a b : List Tr, szs (a ++ b) = szs a + szs b
  | [], b => by simp [szs]
  | t :: a, b => by
    show t.sz + szs (a ++ b) = t.sz + szs a + szs b
    rw [szs_cat a b, Nat.add_assoc]
theorem trDs_rep (t : Tr) (k : Nat) : trDs (List.replicate k t) = List.replicate k t.d := by rw [trDs_map, List.map_replicate]
theorem trDs_cat (a b : List Tr) : trDs (a ++ b) = trDs a ++ trDs b := by rw [trDs_map, trDs_map, trDs_map, List.map_append]
def sp_law (K : PySem.W.Frag) : Sp := fun vs H Q _ => ∃ (a : Addr) (ns : List Int), vs = [.ref a] ∧ SqL K H a (ns.map V.int) ∧ ns.length ≤ 63 ∧ ∀ H', Q (.bl true) H'
theorem l_law {K : PySem.W.Frag} {vs : List V} {H : Hp} {Q : VK} {E : XK} (h : sp_law K vs H Q E) : vs.length = 1 := by
  obtain ⟨_, _, rfl, _⟩ := h
  rfl
theorem start_S {K : PySem.W.Frag} {H : Hp} {a : Addr} {ns : List Int} (h : SqL K H a (ns.map V.int)) : S [dat K (.ref a) (.list (intL ns))] [] H := by
  have ha : DpAll K H (ns.map V.int) (intL ns) := by
    clear h
    induction ns with
    | nil => exact .nil
    | cons n ns ih => exact .cons (.int n) ih
  refine ⟨H, fun _ _ e => e, fun f hf => ?_, fun x hx => (nomatch hx), List.nodup_nil⟩
  cases hf with
  | head => exact .lst h ha
  | tail _ hf => cases hf
theorem c_numbers {K : PySem.W.Frag} {F : List Fc} {m : List Sx} {H : Hp} {v : V} {ns : List Int} {Q : VK} {E : XK} (hS : S F m H) (hv : Has K F v (.list (intL ns))) (hl : ns.length ≤ 63) (q : ∀ r ms H', ms ≠ [] → S (dat K r (.list (intL ms)) :: F) m H' → Q r H') : spNumbers K [v] H Q E := ⟨F, m, v, ns, rfl, hS, hv, hl, q⟩
local macro_rules | `(tactic| walk_at "call") => `(tactic| ((with_reducible refine' c_numbers ?k1 ?k2 ?k3 ?_); (case k1 => assumption); (case k2 => walk_at "has"); (case k3 => assumption); intro r ms H hne hS))
def badL : List PyData := [.none, .int 5, .tuple [], .tuple [.int 0], .tuple [.int 0, .none], .tuple [.int 5, .tuple []], .tuple [.int (-1), .tuple []], .tuple [.bool true, .tuple []], .tuple [.str "0", .tuple []], .tuple [.int 0, .tuple [.int 0, .int 1]], .tuple [.int 0, .tuple [.tuple [.int 1]]],
  .tuple [.int 0, .tuple [], .tuple []], .tuple [.int 0, .str "ab"], .tuple [.int 0, .tuple [.tuple [.int 0, .tuple []], .none]]]
theorem badL_no : ∀ d ∈ badL, trSz d = none := by decide +kernel
theorem at_some {l : List PyData} {j : Int} (h0 : 0 ≤ j) (h1 : j < l.length) : ∃ d, atI l j = some d ∧ d ∈ l := by
  have hl : j.toNat < l.length := by omega
  have e := List.getElem?_eq_getElem hl
  exact ⟨_, at_int h0 e, List.getElem_mem hl⟩
theorem trOk_no {d : PyData} {n : Int} (h : trSz d = none) : trOk n d = false := by
  unfold trOk
  rw [h]
theorem trSz_pair {d e : PyData} (h : trSz e = none) : trSz (.tuple [.int 0, .tuple [d, e]]) = none := by
  have hk : trSzs [d, e] = none := by
    show (match trSz d, (match trSz e, some 0 with | some a, some b => some (a + b) | _, _ => none) with | some a, some b => some (a + b) | _, _ => none) = none
    rw [h]
    cases trSz d <;> rfl
  unfold trSz
  rw [if_pos (by rfl)]
  dsimp only
  rw [hk] <;> rfl
theorem hts_cat : ∀ a b : List Tr, hts (a ++ b) = max (hts a) (hts b)
  | [], b => by simp [hts]
  | t :: a, b => by
    show max t.ht (hts (a ++ b)) = max (max t.ht (hts a)) (hts b)
    rw [hts_cat a b, Nat.max_assoc]
theorem hts_rep (t : Tr) : ∀ k : Nat, hts (List.replicate k t) ≤ t.ht
  | 0 => Nat.zero_le _
  | k + 1 => by
    show max t.ht (hts (List.replicate k t)) ≤ t.ht
    have := hts_rep t k
    omega
def chainT : Nat → Tr
  | 0 => .node 0 []
  | n + 1 => .node 1 [chainT n]
theorem chainT_ok : ∀ n, (chainT n).okL 5
  | 0 => ⟨by decide, trivial⟩
  | n + 1 => ⟨by decide, chainT_ok n, trivial⟩
theorem chainT_sz : ∀ n, (chainT n).sz = n + 1
  | 0 => rfl
  | n + 1 => by
    show (chainT n).sz + 0 + 1 = n + 1 + 1
    rw [chainT_sz n]
def t_law (K : PySem.W.Frag)  : TS :=
  (tSeq (tAsg (tCall (sp_law_numbers K) [] E0 (tCons (tVar 0) tNil)) (gName 1))
  (tSeq (tAsg (tLst (tCons (tC (.int 0)) tNil)) (gName 2))
  (tSeq (tAsg (tCall (sp_law_branch K 13) [] E0 (tCons (tVar 1) (tCons (tVar 2) (tCons (tC (.int 5)) (tCons (tOp (rAddU K) (tC (.int 1)) (tCall (sp_law_take K) [] E0 (tCons (tVar 1) (tCons (tVar 2) (tCons (tC (.int 12)) tNil))))) tNil))))) (gName 3))
  (tSeq (tIfS (tNot (tTruU K (tCall (sp_law_so K 1) [] E0 (tCons (tCall (sp_is_tree K) [] E0 (tCons (tCall (sp_law_loose K 30) [] E0 (tCons (tVar 3) (tCons (tCall (sp_law_take K) [] E0 (tCons (tVar 1) (tCons (tVar 2) (tCons (tC (.int 2)) tNil)))) tNil))) tNil)) (tCons (tC (.bl true)) tNil)))))
  (tRet (tC (.bl false)))
  tNext)
  (tSeq (tAsg (tLst (tCons (tC .non) (tCons (tC (.int 5)) (tCons (tTup tNil) (tCons (tTup (tCons (tC (.int 0)) tNil)) (tCons (tTup (tCons (tC (.int 0)) (tCons (tC .non) tNil))) (tCons (tTup (tCons (tC (.int 5)) (tCons (tTup tNil) tNil))) (tCons (tTup (tCons (tUn rNegI (tC (.int 1))) (tCons (tTup tNil) tNil))) (tCons (tTup (tCons (tC (.bl true)) (tCons (tTup tNil) tNil))) (tCons (tTup (tCons (tC (.str "0")) (tCons (tTup tNil) tNil))) (tCons (tTup (tCons (tC (.int 0)) (tCons (tTup (tCons (tC (.int 0)) (tCons (tC (.int 1)) tNil))) tNil))) (tCons (tTup (tCons (tC (.int 0)) (tCons (tTup (tCons (tTup (tCons (tC (.int 1)) tNil)) tNil)) tNil))) (tCons (tTup (tCons (tC (.int 0)) (tCons (tTup tNil) (tCons (tTup tNil) tNil)))) (tCons (tTup (tCons (tC (.int 0)) (tCons (tC (.str "ab")) tNil))) (tCons (tTup (tCons (tC (.int 0)) (tCons (tTup (tCons (tTup (tCons (tC (.int 0)) (tCons (tTup tNil) tNil))) (tCons (tC .non) tNil))) tNil))) tNil))))))))))))))) (gName 4))
  (tSeq (tAsg (tOp (rIx K) (tVar 4) (tCall (sp_law_take K) [] E0 (tCons (tVar 1) (tCons (tVar 2) (tCons (tC (.int 14)) tNil))))) (gName 5))
  (tSeq (tIfS (tOr (tNot (tTruU K (tCall (sp_law_so K 1) [] E0 (tCons (tCall (sp_is_tree K) [] E0 (tCons (tVar 5) tNil)) (tCons (tC (.bl false)) tNil))))) (tNot (tTruU K (tCall (sp_law_so K 1) [] E0 (tCons (tCall (sp_is_tree K) [] E0 (tCons (tTup (tCons (tC (.int 0)) (tCons (tTup (tCons (tVar 3) (tCons (tVar 5) tNil))) tNil))) tNil)) (tCons (tC (.bl false)) tNil))))))
  (tRet (tC (.bl false)))
  tNext)
  (tSeq (tAsg (tOp (rAddU K) (tC (.int 297)) (tCall (sp_law_take K) [] E0 (tCons (tVar 1) (tCons (tVar 2) (tCons (tC (.int 6)) tNil))))) (gName 6))
  (tSeq (tIfS (tNot (tTruU K (tCall (sp_law_so K 1) [] E0 (tCons (tCall (sp_is_tree K) [] E0 (tCons (tTup (tCons (tC (.int 0)) (tCons (tCB (rTuple K) (tCons (tLc (iRng1 (tCons (tVar 6) tNil)) (gName 10) tYes (tTup (tCons (tC (.int 1)) (tCons (tTup tNil) tNil))) [10]) tNil)) tNil))) tNil)) (tCons (tOp rLeI (tOp (rAddU K) (tVar 6) (tC (.int 1))) (tC (.int 300))) tNil)))))
  (tRet (tC (.bl false)))
  tNext)
  (tSeq (tAsg (tTup (tCons (tC (.int 0)) (tCons (tOp (rAddU K) (tCB (rTuple K) (tCons (tLc (iRng1 (tCons (tC (.int 29)) tNil)) (gName 10) tYes (tTup (tCons (tC (.int 1)) (tCons (tCB (rTuple K) (tCons (tLc (iRng1 (tCons (tC (.int 9)) tNil)) (gName 11) tYes (tTup (tCons (tC (.int 2)) (tCons (tTup tNil) tNil))) [11]) tNil)) tNil))) [10]) tNil)) (tCB (rTuple K) (tCons (tLc (iRng1 (tCons (tCall (sp_law_take K) [] E0 (tCons (tVar 1) (tCons (tVar 2) (tCons (tC (.int 19)) tNil)))) tNil)) (gName 10) tYes (tTup (tCons (tC (.int 3)) (tCons (tTup tNil) tNil))) [10]) tNil))) tNil))) (gName 7))
  (tSeq (tIfS (tNot (tTruU K (tCall (sp_law_so K 1) [] E0 (tCons (tCall (sp_is_tree K) [] E0 (tCons (tVar 7) tNil)) (tCons (tOp rLeI (tCall (sp_law_size K 14) [] E0 (tCons (tVar 7) tNil)) (tC (.int 300))) tNil)))))
  (tRet (tC (.bl false)))
  tNext)
  (tSeq (tAsg (tOp (rAddU K) (tC (.int 40)) (tCall (sp_law_take K) [] E0 (tCons (tVar 1) (tCons (tVar 2) (tCons (tC (.int 50)) tNil))))) (gName 8))
  (tSeq (tAsg (tTup (tCons (tC (.int 0)) (tCons (tTup tNil) tNil))) (gName 9))
  (tSeq (tFor (iRng1 (tCons (tVar 8) tNil)) (gName 10)
  (tAsg (tTup (tCons (tC (.int 1)) (tCons (tTup (tCons (tVar 9) tNil)) tNil))) (gName 9)))
  (tRet (tCall (sp_law_so K 1) [] E0 (tCons (tCall (sp_is_tree K) [] E0 (tCons (tVar 9) tNil)) (tCons (tC (.bl true)) tNil))))))))))))))))))
abbrev N_law : List Str := ["script", "row", "spot", "tree", "bad", "one", "many", "wide", "deep", "long", "k", "j"]
theorem r_law {K : PySem.W.Frag} {vs : List V} {H : Hp} {Q : VK} {E : XK} (h : sp_law K vs H Q E) : t_law K { nx := fun _ H' => Q .non H', rt := Q } (start N_law vs) H := by
  obtain ⟨a, ns, rfl, hq, hl, q⟩ := h
  have hS := start_S hq
  unfold t_law
  walk_at "go"
  rename_i r ms Hr hne hSr
  refine g_newL (K := K) (ds := [.int 0]) (by assumption) (.cons .int .nil) (Nat.le_of_ble_eq_true rfl) ?_
  intro sp H1 hS1
  have hS1 := spot_of hS1 (Int.le_refl 0)
  walk_at "go"
  rename_i j0 Hj0 j00 j01 hSj0 t ht hz w Hw hSw j1 Hj1 j10 j11 hSj1
  have h1 := ht_sz t
  have h2 := hgt_tr t
  refine c_loose (by assumption) (by walk_at "has") (plain_tr t (by omega)) (by omega) ?_
  intro w2 H2 hS2
  walk_at "go"
  rw [trOk_loose ht, decide_eq_true (by omega : (t.sz : Int) ≤ 300)]
  walk_at "go"
  refine g_ite (fun h => by cases h) (fun _ => ?_)
  walk_at "go"
  refine g_newL (K := K) (ds := badL) (by assumption) (by unfold badL; walk_at "hasA") (Nat.le_of_ble_eq_true rfl) ?_
  intro bp H3 hS3
  walk_at "go"
  rename_i j2 Hj2 j20 j21 hSj2
  obtain ⟨one, hone, hmem⟩ := at_some (l := badL) j20 j21
  have hno := badL_no one hmem
  refine g_ixO (d := one) (by assumption) (by walk_at "mem") hone ?_
  intro w3 hS4
  walk_at "go"
  rw [trOk_no hno]
  walk_at "go"
  refine g_ite (fun h => by cases h) (fun _ => ?_)
  walk_at "go"
  rw [trOk_no (trSz_pair hno)]
  walk_at "go"
  refine g_ite (fun h => by cases h) (fun _ => ?_)
  walk_at "go"
  rename_i j3 Hj3 j30 j31 hSj3
  have lab (l : Int) (h : 0 ≤ l ∧ l < 5) (ks : List Tr) (hk : okLs 5 ks) : (Tr.node l ks).okL 5 := ⟨h, hk⟩
  refine g_lcRep (K := K) (e0 := (Tr.node 1 []).d) (by assumption) ⟨by omega, by omega⟩ (by walk_at "mono") (fun _ => rfl) (fun v D acc H' hS' => ?_) ?_
  · walk_at "go"
    walk_at "wk"
  intro D H' hS'
  walk_at "go"
  have e1 : PyData.tuple [.int 0, .tuple (List.replicate (297 + j3).toNat (Tr.node 1 []).d)] = (Tr.node 0 (List.replicate (297 + j3).toNat (Tr.node 1 []))).d := by
    rw [← trDs_rep] <;> rfl
  rw [e1, trOk_d (lab 0 (by omega) _ (okLs_rep (lab 1 (by omega) [] trivial) _))]
  have e2 : ((Tr.node 0 (List.replicate (297 + j3).toNat (Tr.node 1 []))).sz : Int) = 297 + j3 + 1 := by
    show ((szs (List.replicate (297 + j3).toNat (Tr.node 1 [])) + 1 : Nat) : Int) = _
    rw [szs_rep]
    show (((297 + j3).toNat * 1 + 1 : Nat) : Int) = _
    omega
  rw [e2]
  walk_at "go"
  refine g_ite (fun h => by cases h) (fun _ => ?_)
  rename_i Hc hSc _
  have hS5 : S [dat K r (.list (intL ms))] [Spot sp] Hc := by walk_at "wk"
  clear hSc
  walk_at "go"
  -- wide
  refine g_lcRep (K := K) (e0 := (Tr.node 1 (List.replicate 9 (Tr.node 2 []))).d) (by assumption) ⟨by omega, by omega⟩ (by walk_at "mono") (fun _ => rfl) (fun v D acc H' hS' => ?_) ?_
  · walk_at "go"
    refine g_lcRep (K := K) (e0 := (Tr.node 2 []).d) (by assumption) ⟨by omega, by omega⟩ (by walk_at "mono") (fun _ => rfl) (fun v D acc H' hS' => ?_) ?_
    · walk_at "go"
      walk_at "wk"
    intro D2 H2 hS2
    walk_at "go"
    have e3 : (Tr.node 1 (List.replicate 9 (Tr.node 2 []))).d = .tuple [.int 1, .tuple (List.replicate (9 : Int).toNat (Tr.node 2 []).d)] := by
      rw [← trDs_rep] <;> rfl
    rw [e3]
    walk_at "wk"
  intro D1 H6 hS6
  walk_at "go"
  rename_i w4 H7 hS7 j4 Hj4 j40 j41 hSj4
  refine g_lcRep (K := K) (e0 := (Tr.node 3 []).d) (by assumption) ⟨by omega, by omega⟩ (by walk_at "mono") (fun _ => rfl) (fun v D acc H' hS' => ?_) ?_
  · walk_at "go"
    walk_at "wk"
  intro D3 H8 hS8
  walk_at "go"
  refine g_addUT (by assumption) (by walk_at "has") (by walk_at "has") (by intro h; cases h) (by rw [List.length_replicate, List.length_replicate]; omega) ?_
  intro w5 H9 hS9
  let wide : Tr := .node 0 (List.replicate 29 (Tr.node 1 (List.replicate 9 (Tr.node 2 []))) ++ List.replicate j4.toNat (Tr.node 3 []))
  have hwd : wide.d = .tuple [.int 0, .tuple (List.replicate (29 : Int).toNat (Tr.node 1 (List.replicate 9 (Tr.node 2 []))).d ++ List.replicate j4.toNat (Tr.node 3 []).d)] := by
    show PyData.tuple [.int 0, .tuple (trDs _)] = _
    rw [trDs_cat, trDs_rep, trDs_rep] <;> rfl
  have hwok : wide.okL 5 := lab 0 (by omega) _ (okLs_cat (okLs_rep (lab 1 (by omega) _ (okLs_rep (lab 2 (by omega) [] trivial) _)) _) (okLs_rep (lab 3 (by omega) [] trivial) _))
  have hwsz : wide.sz = 291 + j4.toNat := by
    show szs (_ ++ _) + 1 = _
    rw [szs_cat, szs_rep, szs_rep]
    show 29 * (szs (List.replicate 9 (Tr.node 2 [])) + 1) + j4.toNat * 1 + 1 = _
    rw [szs_rep]
    show 29 * (9 * 1 + 1) + j4.toNat * 1 + 1 = _
    omega
  walk_at "go"
  refine c_size (t := wide) (by assumption) (by rw [hwd]; walk_at "has") (by
    have := hts_cat (List.replicate 29 (Tr.node 1 (List.replicate 9 (Tr.node 2 [])))) (List.replicate j4.toNat (Tr.node 3 []))
    have h1 := hts_rep (Tr.node 1 (List.replicate 9 (Tr.node 2 []))) 29
    have h2 := hts_rep (Tr.node 2 []) 9
    have h3 := hts_rep (Tr.node 3 []) j4.toNat
    have e1 : (Tr.node 2 []).ht = 1 := rfl
    have e2 : (Tr.node 3 []).ht = 1 := rfl
    have e3 : (Tr.node 1 (List.replicate 9 (Tr.node 2 []))).ht = hts (List.replicate 9 (Tr.node 2 [])) + 1 := rfl
    have e4 : wide.ht = hts (List.replicate 29 (Tr.node 1 (List.replicate 9 (Tr.node 2 []))) ++ List.replicate j4.toNat (Tr.node 3 [])) + 1 := rfl
    omega) (by rw [hwsz]; omega) ?_
  intro H10 hS10
  walk_at "go"
  rw [← hwd, trOk_d hwok]
  walk_at "go"
  refine g_ite (fun h => by cases h) (fun _ => ?_)
  rename_i Hc2 hSc2 _
  have hS11 : S [dat K r (.list (intL ms))] [Spot sp] Hc2 := by walk_at "wk"
  walk_at "go"
  rename_i j5 Hj5 j50 j51 hSj5 w6 H12 hS12 w7 H13 hS13
  refine g_rangeF (F := [dat K r (.list (intL ms))]) (m := [Spot sp]) ⟨by omega, by omega⟩ (fun i σ fs m' => ∃ (u : V) (k : Option V), σ = [some (.ref a), some r, some (.ref sp), some w, some (.ref bp), some w3, some (.int (297 + j3)), some _, some (.int (40 + j5)), some u, k, none] ∧ fs = [dat K u (chainT i).d] ∧ m' = [Spot sp]) [dat K w7 (chainT 0).d] (by
      show S [dat K w7 (.tuple [.int 0, .tuple []]), dat K r (.list (intL ms))] _ _
      walk_at "wk") ⟨w7, none, rfl, rfl, rfl⟩ ?_ ?_
  · rintro i σ' fs m' H' hi ⟨u, k, rfl, rfl, rfl⟩ hS'
    have hS' : S [dat K u (chainT i).d, dat K r (.list (intL ms))] [Spot sp] H' := hS'
    walk_at "go"
    rename_i w8 H14 hS14 w9 H15 hS15
    refine ⟨[dat K w9 (chainT (i + 1)).d], _, ⟨w9, _, rfl, rfl, rfl⟩, ?_⟩
    show S [dat K w9 (.tuple [.int 1, .tuple [(chainT i).d]]), dat K r (.list (intL ms))] _ _
    walk_at "wk"
  · rintro σ' fs m' H' ⟨u, k, rfl, rfl, rfl⟩ hS'
    have hS' : S [dat K u (chainT (40 + j5).toNat).d, dat K r (.list (intL ms))] [Spot sp] H' := hS'
    walk_at "go"
    have e5 := chainT_sz (40 + j5).toNat
    rw [trOk_d (chainT_ok _), e5, decide_eq_true (by omega : (((40 + j5).toNat + 1 : Nat) : Int) ≤ 300)]
    walk_at "go"
    exact q _

def topS (i : Nat) : Stmt := PySem.Challenge.pw_quietedits_k02_trees_told_apart.main.body.getD i (.Pass ⟨0, 0, 0, 0⟩)
abbrev s_law_numbers : Stmt := topS 11
theorem sc_law_numbers : FnScope ["script", "row", "cell", "left", "k", "mixed"] ["script"] (defScope s_law_numbers) := ⟨rfl, rfl, rfl, by decide +kernel, rfl, by decide +kernel, by decide +kernel⟩
theorem b_law_numbers {P : Program} {w : World} {K : PySem.W.Frag} {mg : Str → Option Value} {base : Heap} {cdv : Value} {A : Around} {outer : List Env} {s : Shared} {H : Hp} {E : XK} {f : Addr}  (T : Tx mg)
    (hr : Room 0 (A.deeper (envOfC "_law_numbers" (defScope s_law_numbers) s.heap.objs.size f cdv))) : PSs (cxOf CX0 P w K mg base ["script", "row", "cell", "left", "k", "mixed"] "_law_numbers" (defScope s_law_numbers) f cdv A outer s H E).nox (defBody s_law_numbers) (t_law_numbers K ) := by
  have hu := hr.units
  have hu5 := hu5_of hr
  exact (pss_cons (ps_set (i := 1) sc_law_numbers.nd rfl (by first | exact Or.inl rfl | exact Or.inr rfl) (pe_lst pa_nil))
  (pss_cons (ps_for PassesOwn.never rfl (pi_seq (pe_slice sl_U (pv 0) po_none (po_some pe_int))) (pg_name (i := 2) sc_law_numbers.nd rfl (by first | exact Or.inl rfl | exact Or.inr rfl))
  (pss_one (ps_if (pt_cmpR op_geI (pv 2) (pe_op op_powI pe_int pe_int) (nomark _))
  (pss_cons (ps_set (i := 3) sc_law_numbers.nd rfl (by first | exact Or.inl rfl | exact Or.inr rfl) (pv 2))
  (pss_one (ps_for PassesOwn.never rfl (pi_range1 (by rfl) T.range (pa_cons pe_int pa_nil)) (pg_name (i := 4) sc_law_numbers.nd rfl (by first | exact Or.inl rfl | exact Or.inr rfl))
  (pss_cons (ps_if (pt_cmpR (op_eqU hu) (pv 3) pe_int (nomark _))
  (pss_one ps_break)
  pss_nil)
  (pss_cons (ps_expr (pe_bm PySem.F.plainAttrs_list PySem.F.slot_list_append PySem.F.type_list_append mt_append (pv 1) (pa_cons (pe_op op_modI (pe_callTy cb_int (by rfl) T.int (by decide +kernel) (pa_cons (pv 3) pa_nil)) pe_int) pa_nil)))
  (pss_one (ps_set (i := 3) sc_law_numbers.nd rfl (by first | exact Or.inl rfl | exact Or.inr rfl) (pe_op op_divI (pv 3) pe_int))))))))
  (pss_one (ps_for PassesOwn.never rfl (pi_range1 (by rfl) T.range (pa_cons pe_int pa_nil)) (pg_name (i := 4) sc_law_numbers.nd rfl (by first | exact Or.inl rfl | exact Or.inr rfl))
  (pss_cons (ps_set (i := 5) sc_law_numbers.nd rfl (by first | exact Or.inl rfl | exact Or.inr rfl) (pe_op op_modI (pe_callTy cb_int (by rfl) T.int (by decide +kernel) (pa_cons (pe_op op_addU (pe_op op_addU (pe_op op_mulI (pv 2) pe_int) (pe_op op_mulI (pv 4) pe_int)) pe_int) pa_nil)) pe_int))
  (pss_one (ps_expr (pe_bm PySem.F.plainAttrs_list PySem.F.slot_list_append PySem.F.type_list_append mt_append (pv 1) (pa_cons (pe_op op_modI (pe_callTy cb_int (by rfl) T.int (by decide +kernel) (pa_cons (pe_op op_addU (pe_op op_mulI (pv 5) pe_int) (pv 4)) pa_nil)) pe_int) pa_nil))))))))))
  (pss_cons (ps_if (pt_cmpR (op_eqU hu) (pe_callB cb_len (by rfl) T.len (by decide +kernel) (pa_cons (pv 1) pa_nil)) pe_int (nomark _))
  (pss_one (ps_expr (pe_bm PySem.F.plainAttrs_list PySem.F.slot_list_append PySem.F.type_list_append mt_append (pv 1) (pa_cons pe_int pa_nil))))
  pss_nil)
  (pss_one (ps_ret (pv 1))))))
theorem fn_law_numbers {P : Program} {w : World} {K : PySem.W.Frag} {mg : Str → Option Value} {base : Heap} {a : Addr} {fd : FuncData} (T : Tx mg)
    (F : FunD K "_law_numbers" "_law_numbers" (defArgs s_law_numbers) (defBody s_law_numbers) (defScope s_law_numbers) [] [] a fd) (hm : mg "_law_numbers" = some (.ref a))  : Fn P w K mg base CX0 1 "_law_numbers" ["script"] (sp_law_numbers K) := by
  have b : Binds K fd ["script"] [] := F.bindsN fun _ _ _ _ _ _ us hl => match us, hl with | [_], _ => rfl
  exact ⟨a, fd, hm, F.kp, b, F.ok sc_law_numbers (fun vs H Q E h => l_law_numbers h) (fun cdv A outer s H vs Q E hr h => ⟨t_law_numbers K, PSs.nox (b_law_numbers T hr), r_law_numbers  h⟩)⟩
abbrev s_law_draw : Stmt := topS 12
theorem sc_law_draw : FnScope ["row", "at", "limit", "mixed"] ["row", "at", "limit"] (defScope s_law_draw) := ⟨rfl, rfl, rfl, by decide +kernel, rfl, by decide +kernel, by decide +kernel⟩
theorem b_law_draw {P : Program} {w : World} {K : PySem.W.Frag} {mg : Str → Option Value} {base : Heap} {cdv : Value} {A : Around} {outer : List Env} {s : Shared} {H : Hp} {E : XK} {f : Addr}  (T : Tx mg)
    (hr : Room 0 (A.deeper (envOfC "_law_draw" (defScope s_law_draw) s.heap.objs.size f cdv))) : PSs (cxOf CX0 P w K mg base ["row", "at", "limit", "mixed"] "_law_draw" (defScope s_law_draw) f cdv A outer s H E).nox (defBody s_law_draw) (t_law_draw K ) := by
  have hu := hr.units
  have hu5 := hu5_of hr
  exact (pss_cons (ps_if (pt_cmpR op_ltI (pv 1) (pe_callB cb_len (by rfl) T.len (by decide +kernel) (pa_cons (pv 0) pa_nil)) (nomark _))
  (pss_one (ps_ret (pe_op op_modI (pe_callTy cb_int (by rfl) T.int (by decide +kernel) (pa_cons (pe_ix ix_seq (pv 0) (pv 1) (fun _ _ => rfl)) pa_nil)) (pv 2))))
  pss_nil)
  (pss_cons (ps_set (i := 3) sc_law_draw.nd rfl (by first | exact Or.inl rfl | exact Or.inr rfl) (pe_op op_modI (pe_callTy cb_int (by rfl) T.int (by decide +kernel) (pa_cons (pe_op op_addU (pe_op op_addU (pe_op op_mulI (pe_ix ix_seq (pv 0) (pe_op op_modI (pe_callTy cb_int (by rfl) T.int (by decide +kernel) (pa_cons (pv 1) pa_nil)) (pe_callB cb_len (by rfl) T.len (by decide +kernel) (pa_cons (pv 0) pa_nil))) (fun _ _ => rfl)) pe_int) (pe_op op_mulI (pv 1) pe_int)) pe_int) pa_nil)) pe_int))
  (pss_one (ps_ret (pe_op op_modI (pe_callTy cb_int (by rfl) T.int (by decide +kernel) (pa_cons (pe_op op_modI (pe_callTy cb_int (by rfl) T.int (by decide +kernel) (pa_cons (pe_op op_addU (pe_op op_mulI (pv 3) pe_int) (pv 1)) pa_nil)) pe_int) pa_nil)) (pv 2))))))
theorem fn_law_draw {P : Program} {w : World} {K : PySem.W.Frag} {mg : Str → Option Value} {base : Heap} {a : Addr} {fd : FuncData} (T : Tx mg)
    (F : FunD K "_law_draw" "_law_draw" (defArgs s_law_draw) (defBody s_law_draw) (defScope s_law_draw) [] [] a fd) (hm : mg "_law_draw" = some (.ref a))  : Fn P w K mg base CX0 1 "_law_draw" ["row", "at", "limit"] (sp_law_draw K) := by
  have b : Binds K fd ["row", "at", "limit"] [] := F.bindsN fun _ _ _ _ _ _ us hl => match us, hl with | [_, _, _], _ => rfl
  exact ⟨a, fd, hm, F.kp, b, F.ok sc_law_draw (fun vs H Q E h => l_law_draw h) (fun cdv A outer s H vs Q E hr h => ⟨t_law_draw K, PSs.nox (b_law_draw T hr), r_law_draw  h⟩)⟩
abbrev s_law_take : Stmt := topS 13
theorem sc_law_take : FnScope ["row", "spot", "limit"] ["row", "spot", "limit"] (defScope s_law_take) := ⟨rfl, rfl, rfl, by decide +kernel, rfl, by decide +kernel, by decide +kernel⟩
theorem b_law_take {P : Program} {w : World} {K : PySem.W.Frag} {mg : Str → Option Value} {base : Heap} {cdv : Value} {A : Around} {outer : List Env} {s : Shared} {H : Hp} {E : XK} {f : Addr}  (T : Tx mg) (h_law_draw : Fn P w K mg base CX0 1 "_law_draw" ["row", "at", "limit"] (sp_law_draw K))
    (hr : Room 1 (A.deeper (envOfC "_law_take" (defScope s_law_take) s.heap.objs.size f cdv))) : PSs (cxOf CX0 P w K mg base ["row", "spot", "limit"] "_law_take" (defScope s_law_take) f cdv A outer s H E).nox (defBody s_law_take) (t_law_take K ) := by
  have hu := hr.units
  have hu5 := hu5_of hr
  exact (pss_cons (ps_asg (pe_op op_addU (pe_ix ix_seq (pv 1) pe_int (fun _ _ => rfl)) pe_int) (pg_sub (pv 1) pe_int set_list))
  (pss_one (ps_ret (pe_fn h_law_draw (hr.mono (by omega)) pass0 (pa_cons (pv 0) (pa_cons (pe_op op_subI (pe_ix ix_seq (pv 1) pe_int (fun _ _ => rfl)) pe_int) (pa_cons (pv 2) pa_nil)))))))
theorem fn_law_take {P : Program} {w : World} {K : PySem.W.Frag} {mg : Str → Option Value} {base : Heap} {a : Addr} {fd : FuncData} (T : Tx mg) (h_law_draw : Fn P w K mg base CX0 1 "_law_draw" ["row", "at", "limit"] (sp_law_draw K))
    (F : FunD K "_law_take" "_law_take" (defArgs s_law_take) (defBody s_law_take) (defScope s_law_take) [] [] a fd) (hm : mg "_law_take" = some (.ref a))  : Fn P w K mg base CX0 2 "_law_take" ["row", "spot", "limit"] (sp_law_take K) := by
  have b : Binds K fd ["row", "spot", "limit"] [] := F.bindsN fun _ _ _ _ _ _ us hl => match us, hl with | [_, _, _], _ => rfl
  exact ⟨a, fd, hm, F.kp, b, F.ok sc_law_take (fun vs H Q E h => l_law_take h) (fun cdv A outer s H vs Q E hr h => ⟨t_law_take K, PSs.nox (b_law_take T h_law_draw hr), r_law_take  h⟩)⟩
abbrev s_law_size : Stmt := topS 16
theorem sc_law_size : FnScope ["tree", "one"] ["tree"] (defScope s_law_size) := ⟨rfl, rfl, rfl, by decide +kernel, rfl, by decide +kernel, by decide +kernel⟩
theorem b_law_size {P : Program} {w : World} {K : PySem.W.Frag} {mg : Str → Option Value} {base : Heap} {cdv : Value} {A : Around} {outer : List Env} {s : Shared} {H : Hp} {E : XK} {f : Addr} (n : Nat) (T : Tx mg) (h_law_size : Fn P w K mg base CX0 (n + 1) "_law_size" ["tree"] (sp_law_size K n))
    (hr : Room (n + 1) (A.deeper (envOfC "_law_size" (defScope s_law_size) s.heap.objs.size f cdv))) : PSs (cxOf CX0 P w K mg base ["tree", "one"] "_law_size" (defScope s_law_size) f cdv A outer s H E).nox (defBody s_law_size) (t_law_size K n) := by
  have hu := hr.units
  have hu5 := hu5_of hr
  exact (pss_one (ps_ret (pe_op op_addU pe_int (pe_callB (cr_sum rfl) (by rfl) T.sum (by decide +kernel) (pa_cons (pe_lc (own := [("one", 1)]) (g := (gName 1)) (tt := tYes) rfl sc_law_size.nd (pi_seq (pe_ix ix_seq (pv 0) pe_int (fun _ _ => rfl))) (blkOk_by (own := [("one", 1)]) (by kernel_rfl)) (fun _ _ _ _ _ => (pg_name (i := 1) sc_law_size.nd rfl (by first | exact Or.inl rfl | exact Or.inr rfl))) (fun _ _ _ _ _ => pts_nil) (fun _ _ _ _ _ => (pe_fn h_law_size (hr.mono (by omega)) pass0 (pa_cons (pv 1) pa_nil)))) pa_nil)))))
theorem fn_law_size {P : Program} {w : World} {K : PySem.W.Frag} {mg : Str → Option Value} {base : Heap} {a : Addr} {fd : FuncData} (T : Tx mg)
    (F : FunD K "_law_size" "_law_size" (defArgs s_law_size) (defBody s_law_size) (defScope s_law_size) [] [] a fd) (hm : mg "_law_size" = some (.ref a))  : ∀ n : Nat, Fn P w K mg base CX0 (n + 1) "_law_size" ["tree"] (sp_law_size K n) := by
  have b : Binds K fd ["tree"] [] := F.bindsN fun _ _ _ _ _ _ us hl => match us, hl with | [_], _ => rfl
  intro n
  induction n with
  | zero => exact ⟨a, fd, hm, F.kp, b, ⟨fun vs H Q E h => (z_law_size h).elim, fun A outer s H args us vs Q E hr he hb hv h => (z_law_size h).elim⟩⟩
  | succ n ih =>
    refine ⟨a, fd, hm, F.kp, b, (F.ok (k := n + 1) sc_law_size (fun vs H Q E h => l_law_size h) (fun cdv A outer s H vs Q E hr h => ⟨t_law_size K n, PSs.nox (b_law_size n T ih hr), r_law_size  h⟩)).mono (by omega)⟩
abbrev s_law_branch : Stmt := topS 15
theorem sc_law_branch : FnScope ["row", "spot", "labels", "many", "children", "left", "k", "one"] ["row", "spot", "labels", "many"] (defScope s_law_branch) := ⟨rfl, rfl, rfl, by decide +kernel, rfl, by decide +kernel, by decide +kernel⟩
theorem b_law_branch {P : Program} {w : World} {K : PySem.W.Frag} {mg : Str → Option Value} {base : Heap} {cdv : Value} {A : Around} {outer : List Env} {s : Shared} {H : Hp} {E : XK} {f : Addr} (n : Nat) (T : Tx mg) (h_law_take : Fn P w K mg base CX0 2 "_law_take" ["row", "spot", "limit"] (sp_law_take K)) (h_law_branch : Fn P w K mg base CX0 (n + 16) "_law_branch" ["row", "spot", "labels", "many"] (sp_law_branch K n)) (h_law_size : Fn P w K mg base CX0 15 "_law_size" ["tree"] (sp_law_size K 14))
    (hr : Room (n + 16) (A.deeper (envOfC "_law_branch" (defScope s_law_branch) s.heap.objs.size f cdv))) : PSs (cxOf CX0 P w K mg base ["row", "spot", "labels", "many", "children", "left", "k", "one"] "_law_branch" (defScope s_law_branch) f cdv A outer s H E).nox (defBody s_law_branch) (t_law_branch K n) := by
  have hu := hr.units
  have hu5 := hu5_of hr
  exact (pss_cons (ps_set (i := 4) sc_law_branch.nd rfl (by first | exact Or.inl rfl | exact Or.inr rfl) (pe_lst pa_nil))
  (pss_cons (ps_set (i := 5) sc_law_branch.nd rfl (by first | exact Or.inl rfl | exact Or.inr rfl) (pe_op op_subI (pv 3) pe_int))
  (pss_cons (ps_for PassesOwn.never rfl (pi_range1 (by rfl) T.range (pa_cons (pe_fn h_law_take (hr.mono (by omega)) pass0 (pa_cons (pv 0) (pa_cons (pv 1) (pa_cons pe_int pa_nil)))) pa_nil)) (pg_name (i := 6) sc_law_branch.nd rfl (by first | exact Or.inl rfl | exact Or.inr rfl))
  (pss_one (ps_if (pt_cmpR op_gtI (pv 5) pe_int (nomark _))
  (pss_cons (ps_set (i := 7) sc_law_branch.nd rfl (by first | exact Or.inl rfl | exact Or.inr rfl) (pe_fn h_law_branch (hr.mono (by omega)) pass0 (pa_cons (pv 0) (pa_cons (pv 1) (pa_cons (pv 2) (pa_cons (pe_op op_addU pe_int (pe_fn h_law_take (hr.mono (by omega)) pass0 (pa_cons (pv 0) (pa_cons (pv 1) (pa_cons (pv 5) pa_nil))))) pa_nil))))))
  (pss_cons (ps_expr (pe_bm PySem.F.plainAttrs_list PySem.F.slot_list_append PySem.F.type_list_append mt_append (pv 4) (pa_cons (pv 7) pa_nil)))
  (pss_one (ps_set (i := 5) sc_law_branch.nd rfl (by first | exact Or.inl rfl | exact Or.inr rfl) (pe_op op_subI (pv 5) (pe_fn h_law_size (hr.mono (by omega)) pass0 (pa_cons (pv 7) pa_nil)))))))
  pss_nil)))
  (pss_one (ps_ret (pe_tup (pa_cons (pe_fn h_law_take (hr.mono (by omega)) pass0 (pa_cons (pv 0) (pa_cons (pv 1) (pa_cons (pv 2) pa_nil)))) (pa_cons (pe_callTy cb_tuple (by rfl) T.tuple (by decide +kernel) (pa_cons (pv 4) pa_nil)) pa_nil))))))))
theorem fn_law_branch {P : Program} {w : World} {K : PySem.W.Frag} {mg : Str → Option Value} {base : Heap} {a : Addr} {fd : FuncData} (T : Tx mg) (h_law_take : Fn P w K mg base CX0 2 "_law_take" ["row", "spot", "limit"] (sp_law_take K)) (h_law_size : Fn P w K mg base CX0 15 "_law_size" ["tree"] (sp_law_size K 14))
    (F : FunD K "_law_branch" "_law_branch" (defArgs s_law_branch) (defBody s_law_branch) (defScope s_law_branch) [] [] a fd) (hm : mg "_law_branch" = some (.ref a))  : ∀ n : Nat, Fn P w K mg base CX0 (n + 16) "_law_branch" ["row", "spot", "labels", "many"] (sp_law_branch K n) := by
  have b : Binds K fd ["row", "spot", "labels", "many"] [] := F.bindsN fun _ _ _ _ _ _ us hl => match us, hl with | [_, _, _, _], _ => rfl
  intro n
  induction n with
  | zero => exact ⟨a, fd, hm, F.kp, b, ⟨fun vs H Q E h => (z_law_branch h).elim, fun A outer s H args us vs Q E hr he hb hv h => (z_law_branch h).elim⟩⟩
  | succ n ih =>
    refine ⟨a, fd, hm, F.kp, b, (F.ok (k := n + 16) sc_law_branch (fun vs H Q E h => l_law_branch h) (fun cdv A outer s H vs Q E hr h => ⟨t_law_branch K n, PSs.nox (b_law_branch n T h_law_take ih h_law_size hr), r_law_branch  h⟩)).mono (by omega)⟩
abbrev s_law_so : Stmt := topS 10
theorem sc_law_so : FnScope ["found", "meant", "k"] ["found", "meant"] (defScope s_law_so) := ⟨rfl, rfl, rfl, by decide +kernel, rfl, by decide +kernel, by decide +kernel⟩
theorem b_law_so {P : Program} {w : World} {K : PySem.W.Frag} {mg : Str → Option Value} {base : Heap} {cdv : Value} {A : Around} {outer : List Env} {s : Shared} {H : Hp} {E : XK} {f : Addr} (n : Nat) (T : Tx mg) (h_law_so : Fn P w K mg base CX0 (n + 1) "_law_so" ["found", "meant"] (sp_law_so K n))
    (hr : Room (n + 1) (A.deeper (envOfC "_law_so" (defScope s_law_so) s.heap.objs.size f cdv))) : PSs (cxOf CX0 P w K mg base ["found", "meant", "k"] "_law_so" (defScope s_law_so) f cdv A outer s H E).nox (defBody s_law_so) (t_law_so K n) := by
  have hu := hr.units
  have hu5 := hu5_of hr
  exact (pss_cons (ps_if (pt_cmpR op_isNq (pv 1) pe_non (nomark _))
  (pss_one (ps_ret (pe_cmpR op_isNq (pv 0) pe_non (nomark _))))
  pss_nil)
  (pss_cons (ps_if (pt_tru (pe_callB call_isi (by rfl) T.isinstance (by decide +kernel) (pa_cons (pv 1) (pa_cons (pe_bltn (by rfl) T.tuple (by decide +kernel) rfl) pa_nil))))
  (pss_cons (ps_if (PW.pt (pw_or (pt_not (pt_tru (pe_callB call_isi (by rfl) T.isinstance (by decide +kernel) (pa_cons (pv 0) (pa_cons (pe_bltn (by rfl) T.tuple (by decide +kernel) rfl) pa_nil))))) (pw_or1 (pt_cmpR (op_neU hu) (pe_callB cb_len (by rfl) T.len (by decide +kernel) (pa_cons (pv 0) pa_nil)) (pe_callB cb_len (by rfl) T.len (by decide +kernel) (pa_cons (pv 1) pa_nil)) (nomark _)))))
  (pss_one (ps_ret pe_bl))
  pss_nil)
  (pss_cons (ps_for PassesOwn.never rfl (pi_range1 (by rfl) T.range (pa_cons (pe_callB cb_len (by rfl) T.len (by decide +kernel) (pa_cons (pv 1) pa_nil)) pa_nil)) (pg_name (i := 2) sc_law_so.nd rfl (by first | exact Or.inl rfl | exact Or.inr rfl))
  (pss_one (ps_if (pt_not (pt_tru (pe_fn h_law_so (hr.mono (by omega)) pass0 (pa_cons (pe_ix ix_seq (pv 0) (pv 2) (fun _ _ => rfl)) (pa_cons (pe_ix ix_seq (pv 1) (pv 2) (fun _ _ => rfl)) pa_nil)))))
  (pss_one (ps_ret pe_bl))
  pss_nil)))
  (pss_one (ps_ret pe_bl))))
  pss_nil)
  (pss_cons (ps_if (PW.pt (pw_or (pt_tru (pe_callB call_isi (by rfl) T.isinstance (by decide +kernel) (pa_cons (pv 1) (pa_cons (pe_bltn (by rfl) T.bool (by decide +kernel) rfl) pa_nil)))) (pw_or1 (pt_tru (pe_callB call_isi (by rfl) T.isinstance (by decide +kernel) (pa_cons (pv 0) (pa_cons (pe_bltn (by rfl) T.bool (by decide +kernel) rfl) pa_nil)))))))
  (pss_one (ps_ret (pe_and (pe_callB call_isi (by rfl) T.isinstance (by decide +kernel) (pa_cons (pv 1) (pa_cons (pe_bltn (by rfl) T.bool (by decide +kernel) rfl) pa_nil))) (pe_and (pe_callB call_isi (by rfl) T.isinstance (by decide +kernel) (pa_cons (pv 0) (pa_cons (pe_bltn (by rfl) T.bool (by decide +kernel) rfl) pa_nil))) (pe_one (pe_cmpR (op_eqU hu) (pv 0) (pv 1) (nomark _)))))))
  pss_nil)
  (pss_cons (ps_if (pt_tru (pe_callB call_isi (by rfl) T.isinstance (by decide +kernel) (pa_cons (pv 1) (pa_cons (pe_bltn (by rfl) T.int (by decide +kernel) rfl) pa_nil))))
  (pss_one (ps_ret (pe_and (pe_callB call_isi (by rfl) T.isinstance (by decide +kernel) (pa_cons (pv 0) (pa_cons (pe_bltn (by rfl) T.int (by decide +kernel) rfl) pa_nil))) (pe_one (pe_cmpR (op_eqU hu) (pv 0) (pv 1) (nomark _))))))
  pss_nil)
  (pss_one (ps_ret (pe_and (pe_callB call_isi (by rfl) T.isinstance (by decide +kernel) (pa_cons (pv 1) (pa_cons (pe_bltn (by rfl) T.str (by decide +kernel) rfl) pa_nil))) (pe_and (pe_callB call_isi (by rfl) T.isinstance (by decide +kernel) (pa_cons (pv 0) (pa_cons (pe_bltn (by rfl) T.str (by decide +kernel) rfl) pa_nil))) (pe_one (pe_cmpR (op_eqU hu) (pv 0) (pv 1) (nomark _)))))))))))
theorem fn_law_so {P : Program} {w : World} {K : PySem.W.Frag} {mg : Str → Option Value} {base : Heap} {a : Addr} {fd : FuncData} (T : Tx mg)
    (F : FunD K "_law_so" "_law_so" (defArgs s_law_so) (defBody s_law_so) (defScope s_law_so) [] [] a fd) (hm : mg "_law_so" = some (.ref a))  : ∀ n : Nat, Fn P w K mg base CX0 (n + 1) "_law_so" ["found", "meant"] (sp_law_so K n) := by
  have b : Binds K fd ["found", "meant"] [] := F.bindsN fun _ _ _ _ _ _ us hl => match us, hl with | [_, _], _ => rfl
  intro n
  induction n with
  | zero => exact ⟨a, fd, hm, F.kp, b, ⟨fun vs H Q E h => (z_law_so h).elim, fun A outer s H args us vs Q E hr he hb hv h => (z_law_so h).elim⟩⟩
  | succ n ih =>
    refine ⟨a, fd, hm, F.kp, b, (F.ok (k := n + 1) sc_law_so (fun vs H Q E h => l_law_so h) (fun cdv A outer s H vs Q E hr h => ⟨t_law_so K n, PSs.nox (b_law_so n T ih hr), r_law_so  h⟩)).mono (by omega)⟩
abbrev s_is_sequence : Stmt := topS 3
theorem sc_is_sequence : FnScope ["value"] ["value"] (defScope s_is_sequence) := ⟨rfl, rfl, rfl, by decide +kernel, rfl, by decide +kernel, by decide +kernel⟩
theorem b_is_sequence {P : Program} {w : World} {K : PySem.W.Frag} {mg : Str → Option Value} {base : Heap} {cdv : Value} {A : Around} {outer : List Env} {s : Shared} {H : Hp} {E : XK} {f : Addr}  (T : Tx mg)
    (hr : Room 0 (A.deeper (envOfC "is_sequence" (defScope s_is_sequence) s.heap.objs.size f cdv))) : PSs (cxOf CX0 P w K mg base ["value"] "is_sequence" (defScope s_is_sequence) f cdv A outer s H E).nox (defBody s_is_sequence) (t_is_sequence K ) := by
  have hu := hr.units
  have hu5 := hu5_of hr
  exact (pss_one (ps_ret (pe_callB call_isiT (by rfl) T.isinstance (by decide +kernel) (pa_cons (pv 0) (pa_cons (pe_tup (pa_cons (pe_bltn (by rfl) T.list (by decide +kernel) rfl) (pa_cons (pe_bltn (by rfl) T.tuple (by decide +kernel) rfl) pa_nil))) pa_nil)))))
theorem fn_is_sequence {P : Program} {w : World} {K : PySem.W.Frag} {mg : Str → Option Value} {base : Heap} {a : Addr} {fd : FuncData} (T : Tx mg)
    (F : FunD K "is_sequence" "is_sequence" (defArgs s_is_sequence) (defBody s_is_sequence) (defScope s_is_sequence) [] [] a fd) (hm : mg "is_sequence" = some (.ref a))  : Fn P w K mg base CX0 1 "is_sequence" ["value"] (sp_is_sequence K) := by
  have b : Binds K fd ["value"] [] := F.bindsN fun _ _ _ _ _ _ us hl => match us, hl with | [_], _ => rfl
  exact ⟨a, fd, hm, F.kp, b, F.ok sc_is_sequence (fun vs H Q E h => l_is_sequence h) (fun cdv A outer s H vs Q E hr h => ⟨t_is_sequence K, PSs.nox (b_is_sequence T hr), r_is_sequence  h⟩)⟩
abbrev s_is_integer : Stmt := topS 2
theorem sc_is_integer : FnScope ["value"] ["value"] (defScope s_is_integer) := ⟨rfl, rfl, rfl, by decide +kernel, rfl, by decide +kernel, by decide +kernel⟩
theorem b_is_integer {P : Program} {w : World} {K : PySem.W.Frag} {mg : Str → Option Value} {base : Heap} {cdv : Value} {A : Around} {outer : List Env} {s : Shared} {H : Hp} {E : XK} {f : Addr}  (T : Tx mg)
    (hr : Room 0 (A.deeper (envOfC "is_integer" (defScope s_is_integer) s.heap.objs.size f cdv))) : PSs (cxOf CX0 P w K mg base ["value"] "is_integer" (defScope s_is_integer) f cdv A outer s H E).nox (defBody s_is_integer) (t_is_integer K ) := by
  have hu := hr.units
  have hu5 := hu5_of hr
  exact (pss_one (ps_ret (pe_and (pe_callB call_isi (by rfl) T.isinstance (by decide +kernel) (pa_cons (pv 0) (pa_cons (pe_bltn (by rfl) T.int (by decide +kernel) rfl) pa_nil))) (pe_one (pe_notT (pe_callB call_isi (by rfl) T.isinstance (by decide +kernel) (pa_cons (pv 0) (pa_cons (pe_bltn (by rfl) T.bool (by decide +kernel) rfl) pa_nil))))))))
theorem fn_is_integer {P : Program} {w : World} {K : PySem.W.Frag} {mg : Str → Option Value} {base : Heap} {a : Addr} {fd : FuncData} (T : Tx mg)
    (F : FunD K "is_integer" "is_integer" (defArgs s_is_integer) (defBody s_is_integer) (defScope s_is_integer) [] [] a fd) (hm : mg "is_integer" = some (.ref a))  : Fn P w K mg base CX0 1 "is_integer" ["value"] (sp_is_integer K) := by
  have b : Binds K fd ["value"] [] := F.bindsN fun _ _ _ _ _ _ us hl => match us, hl with | [_], _ => rfl
  exact ⟨a, fd, hm, F.kp, b, F.ok sc_is_integer (fun vs H Q E h => l_is_integer h) (fun cdv A outer s H vs Q E hr h => ⟨t_is_integer K, PSs.nox (b_is_integer T hr), r_is_integer  h⟩)⟩
abbrev s_is_label : Stmt := topS 4
theorem sc_is_label : FnScope ["value"] ["value"] (defScope s_is_label) := ⟨rfl, rfl, rfl, by decide +kernel, rfl, by decide +kernel, by decide +kernel⟩
theorem b_is_label {P : Program} {w : World} {K : PySem.W.Frag} {mg : Str → Option Value} {base : Heap} {cdv : Value} {A : Around} {outer : List Env} {s : Shared} {H : Hp} {E : XK} {f : Addr}  (T : Tx mg) (h_is_integer : Fn P w K mg base CX0 1 "is_integer" ["value"] (sp_is_integer K))
    (hr : Room 1 (A.deeper (envOfC "is_label" (defScope s_is_label) s.heap.objs.size f cdv))) : PSs (cxOf CX0 P w K mg base ["value"] "is_label" (defScope s_is_label) f cdv A outer s H E).nox (defBody s_is_label) (t_is_label K ) := by
  have hu := hr.units
  have hu5 := hu5_of hr
  exact (pss_one (ps_ret (pe_and (pe_fn h_is_integer (hr.mono (by omega)) pass0 (pa_cons (pv 0) pa_nil)) (pe_one (pe_chain op_leI op_leI pe_int (pv 0) pe_int)))))
theorem fn_is_label {P : Program} {w : World} {K : PySem.W.Frag} {mg : Str → Option Value} {base : Heap} {a : Addr} {fd : FuncData} (T : Tx mg) (h_is_integer : Fn P w K mg base CX0 1 "is_integer" ["value"] (sp_is_integer K))
    (F : FunD K "is_label" "is_label" (defArgs s_is_label) (defBody s_is_label) (defScope s_is_label) [] [] a fd) (hm : mg "is_label" = some (.ref a))  : Fn P w K mg base CX0 2 "is_label" ["value"] (sp_is_label K) := by
  have b : Binds K fd ["value"] [] := F.bindsN fun _ _ _ _ _ _ us hl => match us, hl with | [_], _ => rfl
  exact ⟨a, fd, hm, F.kp, b, F.ok sc_is_label (fun vs H Q E h => l_is_label h) (fun cdv A outer s H vs Q E hr h => ⟨t_is_label K, PSs.nox (b_is_label T h_is_integer hr), r_is_label  h⟩)⟩
abbrev s_is_node : Stmt := topS 5
theorem sc_is_node : FnScope ["value"] ["value"] (defScope s_is_node) := ⟨rfl, rfl, rfl, by decide +kernel, rfl, by decide +kernel, by decide +kernel⟩
theorem b_is_node {P : Program} {w : World} {K : PySem.W.Frag} {mg : Str → Option Value} {base : Heap} {cdv : Value} {A : Around} {outer : List Env} {s : Shared} {H : Hp} {E : XK} {f : Addr}  (T : Tx mg) (h_is_sequence : Fn P w K mg base CX0 1 "is_sequence" ["value"] (sp_is_sequence K)) (h_is_label : Fn P w K mg base CX0 2 "is_label" ["value"] (sp_is_label K))
    (hr : Room 2 (A.deeper (envOfC "is_node" (defScope s_is_node) s.heap.objs.size f cdv))) : PSs (cxOf CX0 P w K mg base ["value"] "is_node" (defScope s_is_node) f cdv A outer s H E).nox (defBody s_is_node) (t_is_node K ) := by
  have hu := hr.units
  have hu5 := hu5_of hr
  exact (pss_one (ps_ret (pe_and (pe_fn h_is_sequence (hr.mono (by omega)) pass0 (pa_cons (pv 0) pa_nil)) (pe_and (pe_cmpR (op_eqU hu) (pe_callB cb_len (by rfl) T.len (by decide +kernel) (pa_cons (pv 0) pa_nil)) pe_int (nomark _)) (pe_and (pe_fn h_is_label (hr.mono (by omega)) pass0 (pa_cons (pe_ix ix_seq (pv 0) pe_int (fun _ _ => rfl)) pa_nil)) (pe_one (pe_fn h_is_sequence (hr.mono (by omega)) pass0 (pa_cons (pe_ix ix_seq (pv 0) pe_int (fun _ _ => rfl)) pa_nil))))))))
theorem fn_is_node {P : Program} {w : World} {K : PySem.W.Frag} {mg : Str → Option Value} {base : Heap} {a : Addr} {fd : FuncData} (T : Tx mg) (h_is_sequence : Fn P w K mg base CX0 1 "is_sequence" ["value"] (sp_is_sequence K)) (h_is_label : Fn P w K mg base CX0 2 "is_label" ["value"] (sp_is_label K))
    (F : FunD K "is_node" "is_node" (defArgs s_is_node) (defBody s_is_node) (defScope s_is_node) [] [] a fd) (hm : mg "is_node" = some (.ref a))  : Fn P w K mg base CX0 3 "is_node" ["value"] (sp_is_node K) := by
  have b : Binds K fd ["value"] [] := F.bindsN fun _ _ _ _ _ _ us hl => match us, hl with | [_], _ => rfl
  exact ⟨a, fd, hm, F.kp, b, F.ok sc_is_node (fun vs H Q E h => l_is_node h) (fun cdv A outer s H vs Q E hr h => ⟨t_is_node K, PSs.nox (b_is_node T h_is_sequence h_is_label hr), r_is_node  h⟩)⟩
abbrev s_is_small_tree : Stmt := topS 6
theorem sc_is_small_tree : FnScope ["value", "most", "nodes", "waiting", "node"] ["value", "most"] (defScope s_is_small_tree) := ⟨rfl, rfl, rfl, by decide +kernel, rfl, by decide +kernel, by decide +kernel⟩
theorem b_is_small_tree {P : Program} {w : World} {K : PySem.W.Frag} {mg : Str → Option Value} {base : Heap} {cdv : Value} {A : Around} {outer : List Env} {s : Shared} {H : Hp} {E : XK} {f : Addr}  (T : Tx mg) (h_is_node : Fn P w K mg base CX0 3 "is_node" ["value"] (sp_is_node K))
    (hr : Room 3 (A.deeper (envOfC "is_small_tree" (defScope s_is_small_tree) s.heap.objs.size f cdv))) : PSs (cxOf CX0 P w K mg base ["value", "most", "nodes", "waiting", "node"] "is_small_tree" (defScope s_is_small_tree) f cdv A outer s H E).nox (defBody s_is_small_tree) (t_is_small_tree K ) := by
  have hu := hr.units
  have hu5 := hu5_of hr
  exact (pss_cons (ps_set (i := 2) sc_is_small_tree.nd rfl (by first | exact Or.inl rfl | exact Or.inr rfl) pe_int)
  (pss_cons (ps_set (i := 3) sc_is_small_tree.nd rfl (by first | exact Or.inl rfl | exact Or.inr rfl) (pe_lst (pa_cons (pv 0) pa_nil)))
  (pss_cons (ps_while PassesOwn.never (pt_tru (pv 3))
  (pss_cons (ps_set (i := 4) sc_is_small_tree.nd rfl (by first | exact Or.inl rfl | exact Or.inr rfl) (pe_bm0 PySem.F.plainAttrs_list PySem.F.slot_list_pop PySem.F.type_list_pop mt_pop (pv 3)))
  (pss_cons (ps_if (pt_not (pt_tru (pe_fn h_is_node (hr.mono (by omega)) pass0 (pa_cons (pv 4) pa_nil))))
  (pss_one (ps_ret pe_bl))
  pss_nil)
  (pss_cons (ps_aug (i := 2) sc_is_small_tree.nd rfl (by first | exact Or.inl rfl | exact Or.inr rfl) pe_int ip_add)
  (pss_cons (ps_if (pt_cmpR op_gtI (pe_op op_addU (pe_op op_addU (pv 2) (pe_callB cb_len (by rfl) T.len (by decide +kernel) (pa_cons (pv 3) pa_nil))) (pe_callB cb_len (by rfl) T.len (by decide +kernel) (pa_cons (pe_ix ix_seq (pv 4) pe_int (fun _ _ => rfl)) pa_nil))) (pv 1) (nomark _))
  (pss_one (ps_ret pe_bl))
  pss_nil)
  (pss_one (ps_expr (pe_bm PySem.F.plainAttrs_list PySem.F.slot_list_extend PySem.F.type_list_extend mt_ext (pv 3) (pa_cons (pe_ix ix_seq (pv 4) pe_int (fun _ _ => rfl)) pa_nil)))))))))
  (pss_one (ps_ret pe_bl)))))
theorem fn_is_small_tree {P : Program} {w : World} {K : PySem.W.Frag} {mg : Str → Option Value} {base : Heap} {a : Addr} {fd : FuncData} (T : Tx mg) (h_is_node : Fn P w K mg base CX0 3 "is_node" ["value"] (sp_is_node K))
    (F : FunD K "is_small_tree" "is_small_tree" (defArgs s_is_small_tree) (defBody s_is_small_tree) (defScope s_is_small_tree) [] [] a fd) (hm : mg "is_small_tree" = some (.ref a))  : Fn P w K mg base CX0 4 "is_small_tree" ["value", "most"] (sp_is_small_tree K) := by
  have b : Binds K fd ["value", "most"] [] := F.bindsN fun _ _ _ _ _ _ us hl => match us, hl with | [_, _], _ => rfl
  exact ⟨a, fd, hm, F.kp, b, F.ok sc_is_small_tree (fun vs H Q E h => l_is_small_tree h) (fun cdv A outer s H vs Q E hr h => ⟨t_is_small_tree K, PSs.nox (b_is_small_tree T h_is_node hr), r_is_small_tree  h⟩)⟩
abbrev s_is_tree : Stmt := topS 8
theorem sc_is_tree : FnScope ["value"] ["value"] (defScope s_is_tree) := ⟨rfl, rfl, rfl, by decide +kernel, rfl, by decide +kernel, by decide +kernel⟩
theorem b_is_tree {P : Program} {w : World} {K : PySem.W.Frag} {mg : Str → Option Value} {base : Heap} {cdv : Value} {A : Around} {outer : List Env} {s : Shared} {H : Hp} {E : XK} {f : Addr}  (T : Tx mg) (c_TREE_NODES : ∃ t, mg "TREE_NODES" = some (.int (300) t)) (h_is_small_tree : Fn P w K mg base CX0 4 "is_small_tree" ["value", "most"] (sp_is_small_tree K))
    (hr : Room 4 (A.deeper (envOfC "is_tree" (defScope s_is_tree) s.heap.objs.size f cdv))) : PSs (cxOf CX0 P w K mg base ["value"] "is_tree" (defScope s_is_tree) f cdv A outer s H E).nox (defBody s_is_tree) (t_is_tree K ) := by
  have hu := hr.units
  have hu5 := hu5_of hr
  exact (pss_one (ps_ret (pe_fn h_is_small_tree (hr.mono (by omega)) pass0 (pa_cons (pv 0) (pa_cons (pe_globI (by rfl) c_TREE_NODES) pa_nil)))))
theorem fn_is_tree {P : Program} {w : World} {K : PySem.W.Frag} {mg : Str → Option Value} {base : Heap} {a : Addr} {fd : FuncData} (T : Tx mg) (c_TREE_NODES : ∃ t, mg "TREE_NODES" = some (.int (300) t)) (h_is_small_tree : Fn P w K mg base CX0 4 "is_small_tree" ["value", "most"] (sp_is_small_tree K))
    (F : FunD K "is_tree" "is_tree" (defArgs s_is_tree) (defBody s_is_tree) (defScope s_is_tree) [] [] a fd) (hm : mg "is_tree" = some (.ref a))  : Fn P w K mg base CX0 5 "is_tree" ["value"] (sp_is_tree K) := by
  have b : Binds K fd ["value"] [] := F.bindsN fun _ _ _ _ _ _ us hl => match us, hl with | [_], _ => rfl
  exact ⟨a, fd, hm, F.kp, b, F.ok sc_is_tree (fun vs H Q E h => l_is_tree h) (fun cdv A outer s H vs Q E hr h => ⟨t_is_tree K, PSs.nox (b_is_tree T c_TREE_NODES h_is_small_tree hr), r_is_tree  h⟩)⟩
abbrev s_law_loose : Stmt := topS 14
theorem sc_law_loose : FnScope ["value", "turn", "made", "one"] ["value", "turn"] (defScope s_law_loose) := ⟨rfl, rfl, rfl, by decide +kernel, rfl, by decide +kernel, by decide +kernel⟩
theorem b_law_loose {P : Program} {w : World} {K : PySem.W.Frag} {mg : Str → Option Value} {base : Heap} {cdv : Value} {A : Around} {outer : List Env} {s : Shared} {H : Hp} {E : XK} {f : Addr} (n : Nat) (T : Tx mg) (h_law_loose : Fn P w K mg base CX0 (n + 1) "_law_loose" ["value", "turn"] (sp_law_loose K n))
    (hr : Room (n + 1) (A.deeper (envOfC "_law_loose" (defScope s_law_loose) s.heap.objs.size f cdv))) : PSs (cxOf CX0 P w K mg base ["value", "turn", "made", "one"] "_law_loose" (defScope s_law_loose) f cdv A outer s H E).nox (defBody s_law_loose) (t_law_loose K n) := by
  have hu := hr.units
  have hu5 := hu5_of hr
  exact (pss_cons (ps_if (pt_tru (pe_callB call_isi (by rfl) T.isinstance (by decide +kernel) (pa_cons (pv 0) (pa_cons (pe_bltn (by rfl) T.tuple (by decide +kernel) rfl) pa_nil))))
  (pss_cons (ps_setLc (i := 2) (own := [("one", 3)]) (g := (gName 3)) (tt := tYes) rfl sc_law_loose.nd rfl rfl (sw_true rfl rfl rfl (by decide +kernel)) (pi_seq (pv 0)) (blkOk_by (own := [("one", 3)]) (by kernel_rfl)) (fun _ _ _ _ _ => (pg_name (i := 3) sc_law_loose.nd rfl (by first | exact Or.inl rfl | exact Or.inr rfl))) (fun _ _ _ _ _ => pts_nil) (fun _ _ _ _ _ => (pe_fn h_law_loose (hr.mono (by omega)) pass0 (pa_cons (pv 3) (pa_cons (pe_op op_addU (pv 1) pe_int) pa_nil)))))
  (pss_one (ps_ret (pe_ifExp (pt_cmpR (op_eqU hu) (pe_op op_modI (pe_callTy cb_int (by rfl) T.int (by decide +kernel) (pa_cons (pv 1) pa_nil)) pe_int) pe_int (nomark _)) (pv 2) (pe_callTy cb_tuple (by rfl) T.tuple (by decide +kernel) (pa_cons (pv 2) pa_nil))))))
  pss_nil)
  (pss_one (ps_ret (pv 0))))
theorem fn_law_loose {P : Program} {w : World} {K : PySem.W.Frag} {mg : Str → Option Value} {base : Heap} {a : Addr} {fd : FuncData} (T : Tx mg)
    (F : FunD K "_law_loose" "_law_loose" (defArgs s_law_loose) (defBody s_law_loose) (defScope s_law_loose) [] [] a fd) (hm : mg "_law_loose" = some (.ref a))  : ∀ n : Nat, Fn P w K mg base CX0 (n + 1) "_law_loose" ["value", "turn"] (sp_law_loose K n) := by
  have b : Binds K fd ["value", "turn"] [] := F.bindsN fun _ _ _ _ _ _ us hl => match us, hl with | [_, _], _ => rfl
  intro n
  induction n with
  | zero => exact ⟨a, fd, hm, F.kp, b, ⟨fun vs H Q E h => (z_law_loose h).elim, fun A outer s H args us vs Q E hr he hb hv h => (z_law_loose h).elim⟩⟩
  | succ n ih =>
    refine ⟨a, fd, hm, F.kp, b, (F.ok (k := n + 1) sc_law_loose (fun vs H Q E h => l_law_loose h) (fun cdv A outer s H vs Q E hr h => ⟨t_law_loose K n, PSs.nox (b_law_loose n T ih hr), r_law_loose  h⟩)).mono (by omega)⟩
abbrev s_law : Stmt := topS 17
theorem sc_law : FnScope ["script", "row", "spot", "tree", "bad", "one", "many", "wide", "deep", "long", "k", "j"] ["script"] (defScope s_law) := ⟨rfl, rfl, rfl, by decide +kernel, rfl, by decide +kernel, by decide +kernel⟩
theorem b_law {P : Program} {w : World} {K : PySem.W.Frag} {mg : Str → Option Value} {base : Heap} {cdv : Value} {A : Around} {outer : List Env} {s : Shared} {H : Hp} {E : XK} {f : Addr}  (T : Tx mg) (h_law_numbers : Fn P w K mg base CX0 1 "_law_numbers" ["script"] (sp_law_numbers K)) (h_law_branch : Fn P w K mg base CX0 29 "_law_branch" ["row", "spot", "labels", "many"] (sp_law_branch K 13)) (h_law_take : Fn P w K mg base CX0 2 "_law_take" ["row", "spot", "limit"] (sp_law_take K)) (h_law_so : Fn P w K mg base CX0 2 "_law_so" ["found", "meant"] (sp_law_so K 1)) (h_is_tree : Fn P w K mg base CX0 5 "is_tree" ["value"] (sp_is_tree K)) (h_law_loose : Fn P w K mg base CX0 31 "_law_loose" ["value", "turn"] (sp_law_loose K 30)) (h_law_size : Fn P w K mg base CX0 15 "_law_size" ["tree"] (sp_law_size K 14))
    (hr : Room 31 (A.deeper (envOfC "law" (defScope s_law) s.heap.objs.size f cdv))) : PSs (cxOf CX0 P w K mg base ["script", "row", "spot", "tree", "bad", "one", "many", "wide", "deep", "long", "k", "j"] "law" (defScope s_law) f cdv A outer s H E).nox (defBody s_law) (t_law K ) := by
  have hu := hr.units
  have hu5 := hu5_of hr
  exact (pss_cons (ps_set (i := 1) sc_law.nd rfl (by first | exact Or.inl rfl | exact Or.inr rfl) (pe_fn h_law_numbers (hr.mono (by omega)) pass0 (pa_cons (pv 0) pa_nil)))
  (pss_cons (ps_set (i := 2) sc_law.nd rfl (by first | exact Or.inl rfl | exact Or.inr rfl) (pe_lst (pa_cons pe_int pa_nil)))
  (pss_cons (ps_set (i := 3) sc_law.nd rfl (by first | exact Or.inl rfl | exact Or.inr rfl) (pe_fn h_law_branch (hr.mono (by omega)) pass0 (pa_cons (pv 1) (pa_cons (pv 2) (pa_cons pe_int (pa_cons (pe_op op_addU pe_int (pe_fn h_law_take (hr.mono (by omega)) pass0 (pa_cons (pv 1) (pa_cons (pv 2) (pa_cons pe_int pa_nil))))) pa_nil))))))
  (pss_cons (ps_if (pt_not (pt_tru (pe_fn h_law_so (hr.mono (by omega)) pass0 (pa_cons (pe_fn h_is_tree (hr.mono (by omega)) pass0 (pa_cons (pe_fn h_law_loose (hr.mono (by omega)) pass0 (pa_cons (pv 3) (pa_cons (pe_fn h_law_take (hr.mono (by omega)) pass0 (pa_cons (pv 1) (pa_cons (pv 2) (pa_cons pe_int pa_nil)))) pa_nil))) pa_nil)) (pa_cons pe_bl pa_nil)))))
  (pss_one (ps_ret pe_bl))
  pss_nil)
  (pss_cons (ps_set (i := 4) sc_law.nd rfl (by first | exact Or.inl rfl | exact Or.inr rfl) (pe_lst (pa_cons pe_non (pa_cons pe_int (pa_cons (pe_tup pa_nil) (pa_cons (pe_tup (pa_cons pe_int pa_nil)) (pa_cons (pe_tup (pa_cons pe_int (pa_cons pe_non pa_nil))) (pa_cons (pe_tup (pa_cons pe_int (pa_cons (pe_tup pa_nil) pa_nil))) (pa_cons (pe_tup (pa_cons (pe_un un_negI pe_int) (pa_cons (pe_tup pa_nil) pa_nil))) (pa_cons (pe_tup (pa_cons pe_bl (pa_cons (pe_tup pa_nil) pa_nil))) (pa_cons (pe_tup (pa_cons pe_str (pa_cons (pe_tup pa_nil) pa_nil))) (pa_cons (pe_tup (pa_cons pe_int (pa_cons (pe_tup (pa_cons pe_int (pa_cons pe_int pa_nil))) pa_nil))) (pa_cons (pe_tup (pa_cons pe_int (pa_cons (pe_tup (pa_cons (pe_tup (pa_cons pe_int pa_nil)) pa_nil)) pa_nil))) (pa_cons (pe_tup (pa_cons pe_int (pa_cons (pe_tup pa_nil) (pa_cons (pe_tup pa_nil) pa_nil)))) (pa_cons (pe_tup (pa_cons pe_int (pa_cons pe_str pa_nil))) (pa_cons (pe_tup (pa_cons pe_int (pa_cons (pe_tup (pa_cons (pe_tup (pa_cons pe_int (pa_cons (pe_tup pa_nil) pa_nil))) (pa_cons pe_non pa_nil))) pa_nil))) pa_nil))))))))))))))))
  (pss_cons (ps_set (i := 5) sc_law.nd rfl (by first | exact Or.inl rfl | exact Or.inr rfl) (pe_ix ix_seq (pv 4) (pe_fn h_law_take (hr.mono (by omega)) pass0 (pa_cons (pv 1) (pa_cons (pv 2) (pa_cons pe_int pa_nil)))) (fun _ _ => rfl)))
  (pss_cons (ps_if (PW.pt (pw_or (pt_not (pt_tru (pe_fn h_law_so (hr.mono (by omega)) pass0 (pa_cons (pe_fn h_is_tree (hr.mono (by omega)) pass0 (pa_cons (pv 5) pa_nil)) (pa_cons pe_bl pa_nil))))) (pw_or1 (pt_not (pt_tru (pe_fn h_law_so (hr.mono (by omega)) pass0 (pa_cons (pe_fn h_is_tree (hr.mono (by omega)) pass0 (pa_cons (pe_tup (pa_cons pe_int (pa_cons (pe_tup (pa_cons (pv 3) (pa_cons (pv 5) pa_nil))) pa_nil))) pa_nil)) (pa_cons pe_bl pa_nil))))))))
  (pss_one (ps_ret pe_bl))
  pss_nil)
  (pss_cons (ps_set (i := 6) sc_law.nd rfl (by first | exact Or.inl rfl | exact Or.inr rfl) (pe_op op_addU pe_int (pe_fn h_law_take (hr.mono (by omega)) pass0 (pa_cons (pv 1) (pa_cons (pv 2) (pa_cons pe_int pa_nil))))))
  (pss_cons (ps_if (pt_not (pt_tru (pe_fn h_law_so (hr.mono (by omega)) pass0 (pa_cons (pe_fn h_is_tree (hr.mono (by omega)) pass0 (pa_cons (pe_tup (pa_cons pe_int (pa_cons (pe_callTy cb_tuple (by rfl) T.tuple (by decide +kernel) (pa_cons (pe_lc (own := [("k", 10)]) (g := (gName 10)) (tt := tYes) rfl sc_law.nd (pi_range1 (by rfl) T.range (pa_cons (pv 6) pa_nil)) (blkOk_by (own := [("k", 10)]) (by kernel_rfl)) (fun _ _ _ _ _ => (pg_name (i := 10) sc_law.nd rfl (by first | exact Or.inl rfl | exact Or.inr rfl))) (fun _ _ _ _ _ => pts_nil) (fun _ _ _ _ _ => (pe_tup (pa_cons pe_int (pa_cons (pe_tup pa_nil) pa_nil))))) pa_nil)) pa_nil))) pa_nil)) (pa_cons (pe_cmpR op_leI (pe_op op_addU (pv 6) pe_int) pe_int (nomark _)) pa_nil)))))
  (pss_one (ps_ret pe_bl))
  pss_nil)
  (pss_cons (ps_set (i := 7) sc_law.nd rfl (by first | exact Or.inl rfl | exact Or.inr rfl) (pe_tup (pa_cons pe_int (pa_cons (pe_op op_addU (pe_callTy cb_tuple (by rfl) T.tuple (by decide +kernel) (pa_cons (pe_lc (own := [("k", 10)]) (g := (gName 10)) (tt := tYes) rfl sc_law.nd (pi_range1 (by rfl) T.range (pa_cons pe_int pa_nil)) (blkOk_by (own := [("k", 10)]) (by kernel_rfl)) (fun _ _ _ _ _ => (pg_name (i := 10) sc_law.nd rfl (by first | exact Or.inl rfl | exact Or.inr rfl))) (fun _ _ _ _ _ => pts_nil) (fun _ _ _ _ _ => (pe_tup (pa_cons pe_int (pa_cons (pe_callTy cb_tuple (by rfl) T.tuple (by decide +kernel) (pa_cons (pe_lc (own := [("j", 11)]) (g := (gName 11)) (tt := tYes) rfl sc_law.nd (pi_range1 (by rfl) T.range (pa_cons pe_int pa_nil)) (blkOk_by (own := [("j", 11)]) (by kernel_rfl)) (fun _ _ _ _ _ => (pg_name (i := 11) sc_law.nd rfl (by first | exact Or.inl rfl | exact Or.inr rfl))) (fun _ _ _ _ _ => pts_nil) (fun _ _ _ _ _ => (pe_tup (pa_cons pe_int (pa_cons (pe_tup pa_nil) pa_nil))))) pa_nil)) pa_nil))))) pa_nil)) (pe_callTy cb_tuple (by rfl) T.tuple (by decide +kernel) (pa_cons (pe_lc (own := [("k", 10)]) (g := (gName 10)) (tt := tYes) rfl sc_law.nd (pi_range1 (by rfl) T.range (pa_cons (pe_fn h_law_take (hr.mono (by omega)) pass0 (pa_cons (pv 1) (pa_cons (pv 2) (pa_cons pe_int pa_nil)))) pa_nil)) (blkOk_by (own := [("k", 10)]) (by kernel_rfl)) (fun _ _ _ _ _ => (pg_name (i := 10) sc_law.nd rfl (by first | exact Or.inl rfl | exact Or.inr rfl))) (fun _ _ _ _ _ => pts_nil) (fun _ _ _ _ _ => (pe_tup (pa_cons pe_int (pa_cons (pe_tup pa_nil) pa_nil))))) pa_nil))) pa_nil))))
  (pss_cons (ps_if (pt_not (pt_tru (pe_fn h_law_so (hr.mono (by omega)) pass0 (pa_cons (pe_fn h_is_tree (hr.mono (by omega)) pass0 (pa_cons (pv 7) pa_nil)) (pa_cons (pe_cmpR op_leI (pe_fn h_law_size (hr.mono (by omega)) pass0 (pa_cons (pv 7) pa_nil)) pe_int (nomark _)) pa_nil)))))
  (pss_one (ps_ret pe_bl))
  pss_nil)
  (pss_cons (ps_set (i := 8) sc_law.nd rfl (by first | exact Or.inl rfl | exact Or.inr rfl) (pe_op op_addU pe_int (pe_fn h_law_take (hr.mono (by omega)) pass0 (pa_cons (pv 1) (pa_cons (pv 2) (pa_cons pe_int pa_nil))))))
  (pss_cons (ps_set (i := 9) sc_law.nd rfl (by first | exact Or.inl rfl | exact Or.inr rfl) (pe_tup (pa_cons pe_int (pa_cons (pe_tup pa_nil) pa_nil))))
  (pss_cons (ps_for PassesOwn.never rfl (pi_range1 (by rfl) T.range (pa_cons (pv 8) pa_nil)) (pg_name (i := 10) sc_law.nd rfl (by first | exact Or.inl rfl | exact Or.inr rfl))
  (pss_one (ps_set (i := 9) sc_law.nd rfl (by first | exact Or.inl rfl | exact Or.inr rfl) (pe_tup (pa_cons pe_int (pa_cons (pe_tup (pa_cons (pv 9) pa_nil)) pa_nil))))))
  (pss_one (ps_ret (pe_fn h_law_so (hr.mono (by omega)) pass0 (pa_cons (pe_fn h_is_tree (hr.mono (by omega)) pass0 (pa_cons (pv 9) pa_nil)) (pa_cons pe_bl pa_nil)))))))))))))))))))
theorem fn_law {P : Program} {w : World} {K : PySem.W.Frag} {mg : Str → Option Value} {base : Heap} {a : Addr} {fd : FuncData} (T : Tx mg) (h_law_numbers : Fn P w K mg base CX0 1 "_law_numbers" ["script"] (sp_law_numbers K)) (h_law_branch : Fn P w K mg base CX0 29 "_law_branch" ["row", "spot", "labels", "many"] (sp_law_branch K 13)) (h_law_take : Fn P w K mg base CX0 2 "_law_take" ["row", "spot", "limit"] (sp_law_take K)) (h_law_so : Fn P w K mg base CX0 2 "_law_so" ["found", "meant"] (sp_law_so K 1)) (h_is_tree : Fn P w K mg base CX0 5 "is_tree" ["value"] (sp_is_tree K)) (h_law_loose : Fn P w K mg base CX0 31 "_law_loose" ["value", "turn"] (sp_law_loose K 30)) (h_law_size : Fn P w K mg base CX0 15 "_law_size" ["tree"] (sp_law_size K 14))
    (F : FunD K "law" "law" (defArgs s_law) (defBody s_law) (defScope s_law) [] [] a fd) (hm : mg "law" = some (.ref a))  : Fn P w K mg base CX0 32 "law" ["script"] (sp_law K) := by
  have b : Binds K fd ["script"] [] := F.bindsN fun _ _ _ _ _ _ us hl => match us, hl with | [_], _ => rfl
  exact ⟨a, fd, hm, F.kp, b, F.ok sc_law (fun vs H Q E h => l_law h) (fun cdv A outer s H vs Q E hr h => ⟨t_law K, PSs.nox (b_law T h_law_numbers h_law_branch h_law_take h_law_so h_is_tree h_law_loose h_law_size hr), r_law  h⟩)⟩
set_option maxHeartbeats 0
def d_law_numbers : He.DefD := ⟨("_law_numbers", none), "_law_numbers", "_law_numbers", defArgs s_law_numbers, defBody s_law_numbers, defScope s_law_numbers, [], []⟩
def d_law_draw : He.DefD := ⟨("_law_draw", none), "_law_draw", "_law_draw", defArgs s_law_draw, defBody s_law_draw, defScope s_law_draw, [], []⟩
def d_law_take : He.DefD := ⟨("_law_take", none), "_law_take", "_law_take", defArgs s_law_take, defBody s_law_take, defScope s_law_take, [], []⟩
def d_law_size : He.DefD := ⟨("_law_size", none), "_law_size", "_law_size", defArgs s_law_size, defBody s_law_size, defScope s_law_size, [], []⟩
def d_law_branch : He.DefD := ⟨("_law_branch", none), "_law_branch", "_law_branch", defArgs s_law_branch, defBody s_law_branch, defScope s_law_branch, [], []⟩
def d_law_so : He.DefD := ⟨("_law_so", none), "_law_so", "_law_so", defArgs s_law_so, defBody s_law_so, defScope s_law_so, [], []⟩
def d_is_sequence : He.DefD := ⟨("is_sequence", none), "is_sequence", "is_sequence", defArgs s_is_sequence, defBody s_is_sequence, defScope s_is_sequence, [], []⟩
def d_is_integer : He.DefD := ⟨("is_integer", none), "is_integer", "is_integer", defArgs s_is_integer, defBody s_is_integer, defScope s_is_integer, [], []⟩
def d_is_label : He.DefD := ⟨("is_label", none), "is_label", "is_label", defArgs s_is_label, defBody s_is_label, defScope s_is_label, [], []⟩
def d_is_node : He.DefD := ⟨("is_node", none), "is_node", "is_node", defArgs s_is_node, defBody s_is_node, defScope s_is_node, [], []⟩
def d_is_small_tree : He.DefD := ⟨("is_small_tree", none), "is_small_tree", "is_small_tree", defArgs s_is_small_tree, defBody s_is_small_tree, defScope s_is_small_tree, [], []⟩
def d_is_tree : He.DefD := ⟨("is_tree", none), "is_tree", "is_tree", defArgs s_is_tree, defBody s_is_tree, defScope s_is_tree, [], []⟩
def d_law_loose : He.DefD := ⟨("_law_loose", none), "_law_loose", "_law_loose", defArgs s_law_loose, defBody s_law_loose, defScope s_law_loose, [], []⟩
def d_law : He.DefD := ⟨("law", none), "law", "law", defArgs s_law, defBody s_law, defScope s_law, [], []⟩
def fn0 : List He.DefD := [d_law_numbers, d_law_draw, d_law_take, d_law_size, d_law_branch, d_law_so, d_is_sequence, d_is_integer, d_is_label, d_is_node, d_is_small_tree, d_is_tree, d_law_loose, d_law]
def fnL : List He.DefD := fn0
def fa0 : List He.Fa := [.glo "_law_numbers", .glo "_law_draw", .glo "_law_take", .glo "_law_size", .glo "_law_branch", .glo "_law_so", .glo "is_sequence", .glo "is_integer", .glo "is_label", .glo "is_node", .glo "is_small_tree", .glo "is_tree", .glo "_law_loose", .glo "law", .int "TREE_NODES" (300)]
def faL : List He.Fa := txFa ++ fa0
def nm0 : List PySem.Str := ["TREE_NODES", "is_integer", "is_sequence", "is_label", "is_node", "is_small_tree", "is_tree", "_law_so", "_law_numbers", "_law_draw", "_law_take", "_law_loose", "_law_branch", "_law_size"]
def nmL : List PySem.Str := nm0
abbrev Rw : PySem.W.OpenRow := PySem.W.OpenLaw.row PySem.Challenge.rw_quietedits_k02_trees_told_apart
abbrev hk : PySem.W.Hook := He.hookD 4 faL fnL
def ob (s : PySem.W.SharedT) : He.AlD := He.obsDG 4 faL fnL (HandSHeadRun.getT s)
theorem ob_eq (s : PySem.W.SharedT) : ob s = hk.obs s.abs := He.obsDG_eq (HandSHeadRun.getT_eq s)
theorem run (w : World) : HandSHeadRun.RunEq Rw (PySem.W.view Rw.prog [17]) hk ob 3000 nmL w := by
  intro os
  kernel_rfl
theorem facts {P : Program} {w : World} {K : PySem.W.Frag} {h : Heap} {mg : Str → Option Value} {f : Addr} (X : K.In h) (G : h.Ns mainGlobals mg) (hfa : mg ("law" : Str) = some (.ref f)) (c : He.SaysD faL fnL K) :
    ∃ fd : FuncData, (∀ (s : Shared) (v : Value), BindsTo s fd ⟨[v], []⟩ [("script", v)]) ∧ ∀ base : Heap, K.In base → base.Ns mainGlobals mg → FnOk P w K mg base CX0 32 f fd ["script"] (sp_law K) := by
  have ca : ∀ f ∈ faL, f.ok K = true := fun f hf => let ⟨i, hi⟩ := List.getElem?_of_mem hf; c.fact i hi
  have T : Tx mg := tx_of X G (fun f hf => List.mem_append_left _ hf) ca
  have g__law_numbers := He.glo_ok X G (c.fact (txFa.length + 0) (f := .glo "_law_numbers") rfl)
  have g__law_draw := He.glo_ok X G (c.fact (txFa.length + 1) (f := .glo "_law_draw") rfl)
  have g__law_take := He.glo_ok X G (c.fact (txFa.length + 2) (f := .glo "_law_take") rfl)
  have g__law_size := He.glo_ok X G (c.fact (txFa.length + 3) (f := .glo "_law_size") rfl)
  have g__law_branch := He.glo_ok X G (c.fact (txFa.length + 4) (f := .glo "_law_branch") rfl)
  have g__law_so := He.glo_ok X G (c.fact (txFa.length + 5) (f := .glo "_law_so") rfl)
  have g_is_sequence := He.glo_ok X G (c.fact (txFa.length + 6) (f := .glo "is_sequence") rfl)
  have g_is_integer := He.glo_ok X G (c.fact (txFa.length + 7) (f := .glo "is_integer") rfl)
  have g_is_label := He.glo_ok X G (c.fact (txFa.length + 8) (f := .glo "is_label") rfl)
  have g_is_node := He.glo_ok X G (c.fact (txFa.length + 9) (f := .glo "is_node") rfl)
  have g_is_small_tree := He.glo_ok X G (c.fact (txFa.length + 10) (f := .glo "is_small_tree") rfl)
  have g_is_tree := He.glo_ok X G (c.fact (txFa.length + 11) (f := .glo "is_tree") rfl)
  have g__law_loose := He.glo_ok X G (c.fact (txFa.length + 12) (f := .glo "_law_loose") rfl)
  have g_law := He.glo_ok X G (c.fact (txFa.length + 13) (f := .glo "law") rfl)
  have c_TREE_NODES := He.int_ok X G (c.fact (txFa.length + 14) (f := .int "TREE_NODES" (300)) rfl)
  obtain ⟨fd_law_numbers, F_law_numbers⟩ := c.def_ 0 (d := d_law_numbers) rfl
  obtain ⟨fd_law_draw, F_law_draw⟩ := c.def_ 1 (d := d_law_draw) rfl
  obtain ⟨fd_law_take, F_law_take⟩ := c.def_ 2 (d := d_law_take) rfl
  obtain ⟨fd_law_size, F_law_size⟩ := c.def_ 3 (d := d_law_size) rfl
  obtain ⟨fd_law_branch, F_law_branch⟩ := c.def_ 4 (d := d_law_branch) rfl
  obtain ⟨fd_law_so, F_law_so⟩ := c.def_ 5 (d := d_law_so) rfl
  obtain ⟨fd_is_sequence, F_is_sequence⟩ := c.def_ 6 (d := d_is_sequence) rfl
  obtain ⟨fd_is_integer, F_is_integer⟩ := c.def_ 7 (d := d_is_integer) rfl
  obtain ⟨fd_is_label, F_is_label⟩ := c.def_ 8 (d := d_is_label) rfl
  obtain ⟨fd_is_node, F_is_node⟩ := c.def_ 9 (d := d_is_node) rfl
  obtain ⟨fd_is_small_tree, F_is_small_tree⟩ := c.def_ 10 (d := d_is_small_tree) rfl
  obtain ⟨fd_is_tree, F_is_tree⟩ := c.def_ 11 (d := d_is_tree) rfl
  obtain ⟨fd_law_loose, F_law_loose⟩ := c.def_ 12 (d := d_law_loose) rfl
  obtain ⟨fd_law, F_law⟩ := c.def_ 13 (d := d_law) rfl
  have e := hfa.symm.trans g_law
  cases e
  refine ⟨fd_law, fun s v => FunD.bindsA (ps := ["script"]) F_law (fun _ _ _ _ _ _ us hl => match us, hl with | [_], _ => rfl) s [v] rfl, fun base Kb Gb => ?_⟩
  have h_law_numbers := fn_law_numbers (P := P) (w := w) (base := base) T F_law_numbers g__law_numbers 
  have h_law_draw := fn_law_draw (P := P) (w := w) (base := base) T F_law_draw g__law_draw 
  have h_law_take := fn_law_take (P := P) (w := w) (base := base) T h_law_draw F_law_take g__law_take 
  have h_law_size := fn_law_size (P := P) (w := w) (base := base) T F_law_size g__law_size 
  have h_law_branch := fn_law_branch (P := P) (w := w) (base := base) T h_law_take (h_law_size 14) F_law_branch g__law_branch 
  have h_law_so := fn_law_so (P := P) (w := w) (base := base) T F_law_so g__law_so 
  have h_is_sequence := fn_is_sequence (P := P) (w := w) (base := base) T F_is_sequence g_is_sequence 
  have h_is_integer := fn_is_integer (P := P) (w := w) (base := base) T F_is_integer g_is_integer 
  have h_is_label := fn_is_label (P := P) (w := w) (base := base) T h_is_integer F_is_label g_is_label 
  have h_is_node := fn_is_node (P := P) (w := w) (base := base) T h_is_sequence h_is_label F_is_node g_is_node 
  have h_is_small_tree := fn_is_small_tree (P := P) (w := w) (base := base) T h_is_node F_is_small_tree g_is_small_tree 
  have h_is_tree := fn_is_tree (P := P) (w := w) (base := base) T c_TREE_NODES h_is_small_tree F_is_tree g_is_tree 
  have h_law_loose := fn_law_loose (P := P) (w := w) (base := base) T F_law_loose g__law_loose 
  exact F_law.ok (k := 31) sc_law (fun vs H Q E h => l_law h) (fun cdv A outer s H vs Q E hr h => ⟨t_law K, PSs.nox (b_law T h_law_numbers (h_law_branch 13) h_law_take (h_law_so 1) h_is_tree (h_law_loose 30) (h_law_size 14) hr), r_law  h⟩)
end Qe
open PySem PySem.W PySem.Calls PyProof.Rows
theorem PySem.Challenge.cw_quietedits_k02_trees_told_apart_holds : PySem.Challenge.rw_quietedits_k02_trees_told_apart.Holds := by
  w_on; o_law
  refine HandSHeadRun.head_any (r := OpenLaw.row PySem.Challenge.rw_quietedits_k02_trees_told_apart) (q := view (OpenLaw.row PySem.Challenge.rw_quietedits_k02_trees_told_apart).prog [17]) (H := Qe.hk) (ob := Qe.ob) (M := 3000) (loose := Qe.nmL) (d := HandSHeadRun.topDef (OpenLaw.row PySem.Challenge.rw_quietedits_k02_trees_told_apart).prog 17) (kwd := []) Qe.ob_eq
    (by kernel_rfl) (fun s => by kernel_rfl) Qe.run (by kernel_rfl) (by kernel_rfl) (by kernel_rfl) (by rfl) (by first | assumption | decide +kernel) (by decide +kernel) ⟨rfl, rfl, rfl, rfl, rfl, by decide +kernel⟩ ?hw ?hc
  case hw => w_witness2
  case hc =>
    refine L2.walk_ofE (l := PySem.Challenge.rw_quietedits_k02_trees_told_apart) (n := 63) (k := 32) (x := "script") (CX := L2.CX0) rfl (by decide) (by kernel_rfl) ⟨rfl, by decide, by decide⟩ ?F (fun _ _ _ _ z => z)
    intro w mg fa h Y G hmg0
    obtain ⟨K, KX, c⟩ := Y
    have hmg : mg ("law" : PySem.Str) = some (.ref fa) := by
      have e : (HandSHeadRun.topDef (OpenLaw.row PySem.Challenge.rw_quietedits_k02_trees_told_apart).prog 17).name = ("law" : PySem.Str) := by kernel_rfl
      rw [← e]
      exact hmg0
    obtain ⟨fd, hb, hF⟩ := Qe.facts (P := (PySem.Challenge.rw_quietedits_k02_trees_told_apart).prog) (w := w) KX G hmg c
    exact ⟨K, fd, Qe.sp_law K, KX, hb, fun H a ns hl _ hS => ⟨a, ns, rfl, hS, hl, fun _ => rfl⟩, hF⟩
