import PyProof.Rows.All
import Wide.All
import OpenK.AllK
import Wide.FinOn
import PyProof.EqAt
import PyProof.EqKinds
import PyProof.TupleCall
import HandS.Base
import HandS.Call
import HandS.List
import HandS.Comp
import HandS.Ends
import HandS.Words
import HandS.WordsList
import HandS.Iter
import HandS.IsInst
import HandS.Deep
import HandS.Flow
import HandS.Text
import HandS.TupAny
import HandS.Defaults
import HandS.HeadHook1
import HandS.HeadHook2
import HandS.Property
import HandS.Style
import HandS.RevRange
import HandS.Dict
import KE.DataFind
import KE.GoesMore
import KE.GoesEnum
import HandS.Codes
import HandS.HeadNt
import HandS.Conv
import HandS.TryOnly
import HandS.Exc
import HandS.ExcOwn
import HandS.ExcInit
import HandS.ExcField
import HandS.ExcIs
import HandS.TryMany
import HandS.ExcCtx
import HandS.HotCalls
import HandS.ExcInitHot
import HandS.WordsExc
import KE.KExcInit
import KE.KExcIs
import PyProof.InstStoreFacts
import HandS.MakeKwOnly
import HandS.Head0
import HandS.Head1
import HandS.Head2
import HandS.HeadEnd
import PySem.Challenge.RW_quietedits_k01_schemas_as_given
set_option Elab.async false
set_option linter.all false
set_option maxRecDepth 100000
set_option maxHeartbeats 4000000
/-! Qe: a small separation logic over the hand layer: persistent facts, owned lists, data. -/
namespace Qe
open PySem PySem.Spec PyProof.Rows L2

/-- a fact that stays -/
structure Fc where
  P : Hp -> Prop
  mono : ∀ G G', Same G G' -> P G -> P G'
/-- an owned object -/
structure Sx where
  a : Addr
  P : Hp -> HO -> Prop
  mono : ∀ G G' o, Same G G' -> P G o -> P G' o
def Facts (F : List Fc) (G : Hp) : Prop := ∀ f ∈ F, f.P G
theorem Facts.mono {F : List Fc} {G G' : Hp} (e : Same G G') (h : Facts F G) : Facts F G' := fun f hf => f.mono _ _ e (h f hf)
/-- the state: G the part that stays -/
structure S (F : List Fc) (m : List Sx) (H : Hp) : Prop where
  ex : ∃ G, Same G H ∧ Facts F G ∧ (∀ x ∈ m, G x.a = none ∧ ∃ o, H x.a = some o ∧ x.P G o) ∧ (m.map Sx.a).Nodup

theorem same_new {H : Hp} {p : Addr} {o : HO} (h : H p = none) : Same H (upd H p o) := fun a u e => by
  rw [upd_ne (ne_of_none e h)]; exact e
theorem same_free {G H : Hp} {p : Addr} (e : Same G H) (h : H p = none) : G p = none := e.free h

section
variable {F F' : List Fc} {m m' : List Sx} {H : Hp} {p : Addr} {o : HO}
theorem S.facts (h : S F m H) : Facts F H := by
  obtain ⟨G, e, f, _, _⟩ := h.ex
  exact f.mono e
/-- facts dropped, made anew from those that are there -/
theorem S.imp (h : S F m H) (hf : ∀ G, Facts F G -> Facts F' G) : S F' m H := by
  obtain ⟨G, e, f, own, nd⟩ := h.ex
  exact ⟨G, e, hf G f, own, nd⟩
theorem S.add (h : S F m H) {f : Fc} (hf : ∀ G, Facts F G -> f.P G) : S (f :: F) m H := h.imp fun G q g hg => by
  cases hg with
  | head => exact hf G q
  | tail _ hg => exact q g hg
theorem S.pop {f : Fc} (h : S (f :: F) m H) : S F m H := h.imp fun _ q g hg => q g (.tail _ hg)
theorem S.sub (h : S F m H) (hs : m'.Sublist m) : S F m' H := by
  obtain ⟨G, e, f, own, nd⟩ := h.ex
  exact ⟨G, e, f, fun x hx => own x (hs.subset hx), (hs.map Sx.a).nodup nd⟩
theorem S.swap {x y : Sx} (h : S F (x :: y :: m) H) : S F (y :: x :: m) H := by
  obtain ⟨G, e, f, own, nd⟩ := h.ex
  refine ⟨G, e, f, fun z hz => own z ?_, ?_⟩
  · cases hz with
    | head => exact .tail _ (.head _)
    | tail _ hz => cases hz with
      | head => exact .head _
      | tail _ hz => exact .tail _ (.tail _ hz)
  · simp only [List.map_cons, List.nodup_cons, List.mem_cons, not_or] at nd ⊢
    exact ⟨⟨fun q => nd.1.1 q.symm, nd.2.1⟩, nd.1.2, nd.2.2⟩
/-- a new object, owned -/
theorem S.put (h : S F m H) (hp : H p = none) (x : Sx) (hx : x.a = p) (ho : ∀ G, Facts F G -> x.P G o) : S F (x :: m) (upd H p o) := by
  obtain ⟨G, e, f, own, nd⟩ := h.ex
  have gp : G p = none := e.free hp
  have ne : ∀ y ∈ m, y.a ≠ p := fun y hy => by
    obtain ⟨_, u, q, _⟩ := own y hy
    exact ne_of_none q hp
  refine ⟨G, e.trans (same_new hp), f, fun y hy => ?_, ?_⟩
  · cases hy with
    | head => exact ⟨by rw [hx]; exact gp, o, by rw [hx]; exact upd_same, ho G f⟩
    | tail _ hy =>
      obtain ⟨g, u, q, r⟩ := own y hy
      exact ⟨g, u, by rw [upd_ne (ne y hy)]; exact q, r⟩
  · rw [List.map_cons, List.nodup_cons]
    refine ⟨fun hm => ?_, nd⟩
    obtain ⟨y, hy, q⟩ := List.mem_map.mp hm
    exact ne y hy (q.trans hx)
/-- a new object that stays, with what it tells -/
theorem S.putF (h : S F m H) (hp : H p = none) (f : Fc) (ho : ∀ G, Facts F G -> G p = some o -> f.P G) : S (f :: F) m (upd H p o) := by
  obtain ⟨G, e, fs, own, nd⟩ := h.ex
  have gp : G p = none := e.free hp
  have ne : ∀ y ∈ m, y.a ≠ p := fun y hy => by
    obtain ⟨_, u, q, _⟩ := own y hy
    exact ne_of_none q hp
  have f' : Facts F (upd G p o) := fs.mono (same_new gp)
  refine ⟨upd G p o, fun b u q => ?_, fun g hg => ?_, fun y hy => ?_, nd⟩
  · by_cases hb : b = p
    · subst hb
      rw [upd_same] at q ⊢
      exact q
    · rw [upd_ne hb] at q ⊢
      exact e b u q
  · cases hg with
    | head => exact ho _ f' upd_same
    | tail _ hg => exact f' g hg
  · obtain ⟨g, u, q, r⟩ := own y hy
    exact ⟨by rw [upd_ne (ne y hy)]; exact g, u, by rw [upd_ne (ne y hy)]; exact q, y.mono _ _ _ (same_new gp) r⟩
/-- .. told by the part that stays, as it is now -/
theorem putG {G : Hp} (e : Same G H) (fs : Facts F G) (own : ∀ x ∈ m, G x.a = none ∧ ∃ o, H x.a = some o ∧ x.P G o) (nd : (m.map Sx.a).Nodup) (hp : H p = none) (f : Fc) (ho : ∀ G', Same G G' -> G' p = some o -> f.P G') : S (f :: F) m (upd H p o) := by
  have gp : G p = none := e.free hp
  have ne : ∀ y ∈ m, y.a ≠ p := fun y hy => by
    obtain ⟨_, u, q, _⟩ := own y hy
    exact ne_of_none q hp
  have f' : Facts F (upd G p o) := fs.mono (same_new gp)
  refine ⟨upd G p o, fun b u q => ?_, fun g hg => ?_, fun y hy => ?_, nd⟩
  · by_cases hb : b = p
    · subst hb
      rw [upd_same] at q ⊢
      exact q
    · rw [upd_ne hb] at q ⊢
      exact e b u q
  · cases hg with
    | head => exact ho _ (same_new gp) upd_same
    | tail _ hg => exact f' g hg
  · obtain ⟨g, u, q, r⟩ := own y hy
    exact ⟨by rw [upd_ne (ne y hy)]; exact g, u, by rw [upd_ne (ne y hy)]; exact q, y.mono _ _ _ (same_new gp) r⟩
theorem putO {G : Hp} (e : Same G H) (fs : Facts F G) (own : ∀ x ∈ m, G x.a = none ∧ ∃ o, H x.a = some o ∧ x.P G o) (nd : (m.map Sx.a).Nodup) (hp : H p = none) (x : Sx) (hx : x.a = p) (ho : x.P G o) : S F (x :: m) (upd H p o) := by
  have gp : G p = none := e.free hp
  have ne : ∀ y ∈ m, y.a ≠ p := fun y hy => by
    obtain ⟨_, u, q, _⟩ := own y hy
    exact ne_of_none q hp
  refine ⟨G, e.trans (same_new hp), fs, fun y hy => ?_, ?_⟩
  · cases hy with
    | head => exact ⟨by rw [hx]; exact gp, o, by rw [hx]; exact upd_same, ho⟩
    | tail _ hy =>
      obtain ⟨g, u, q, r⟩ := own y hy
      exact ⟨g, u, by rw [upd_ne (ne y hy)]; exact q, r⟩
  · rw [List.map_cons, List.nodup_cons]
    refine ⟨fun hm => ?_, nd⟩
    obtain ⟨y, hy, q⟩ := List.mem_map.mp hm
    exact ne y hy (q.trans hx)
/-- an owned object is given up: it stays as it is -/
theorem S.frz {x : Sx} (h : S F (x :: m) H) (f : Fc) (ho : ∀ G o, Facts F G -> x.P G o -> G x.a = some o -> f.P G) : S (f :: F) m H := by
  obtain ⟨G, e, fs, own, nd⟩ := h.ex
  obtain ⟨gx, o, hx, px⟩ := own x (.head _)
  have s1 : Same G (upd G x.a o) := same_new gx
  have f' := fs.mono s1
  rw [List.map_cons, List.nodup_cons] at nd
  refine ⟨upd G x.a o, fun b u q => ?_, fun g hg => ?_, fun y hy => ?_, nd.2⟩
  · by_cases hb : b = x.a
    · subst hb
      rw [upd_same] at q
      rw [← q]
      exact hx
    · rw [upd_ne hb] at q
      exact e b u q
  · cases hg with
    | head => exact ho _ o f' (x.mono _ _ _ s1 px) upd_same
    | tail _ hg => exact f' g hg
  · obtain ⟨g, u, q, r⟩ := own y (.tail _ hy)
    have ne : y.a ≠ x.a := fun z => nd.1 (List.mem_map.mpr ⟨y, hy, z⟩)
    exact ⟨by rw [upd_ne ne]; exact g, u, q, y.mono _ _ _ s1 r⟩
/-- an owned object: what stands there -/
theorem S.at0 {x : Sx} (h : S F (x :: m) H) : ∃ G o, Same G H ∧ Facts F G ∧ H x.a = some o ∧ x.P G o := by
  obtain ⟨G, e, fs, own, nd⟩ := h.ex
  obtain ⟨_, o, hx, px⟩ := own x (.head _)
  exact ⟨G, o, e, fs, hx, px⟩
/-- .. is written -/
theorem S.set0 {x y : Sx} {o' : HO} (h : S F (x :: m) H) (ha : y.a = x.a) (ho : ∀ G o, Facts F G -> H x.a = some o -> x.P G o -> y.P G o') : S F (y :: m) (upd H x.a o') := by
  obtain ⟨G, e, fs, own, nd⟩ := h.ex
  obtain ⟨gx, o, hx, px⟩ := own x (.head _)
  rw [List.map_cons, List.nodup_cons] at nd
  refine ⟨G, fun b u q => ?_, fs, fun z hz => ?_, ?_⟩
  · have ne : b ≠ x.a := ne_of_none q gx
    rw [upd_ne ne]
    exact e b u q
  · cases hz with
    | head => exact ⟨by rw [ha]; exact gx, o', by rw [ha]; exact upd_same, ho G o fs hx px⟩
    | tail _ hz =>
      obtain ⟨g, u, q, r⟩ := own z (.tail _ hz)
      have ne : z.a ≠ x.a := fun w => nd.1 (List.mem_map.mpr ⟨z, hz, w⟩)
      exact ⟨g, u, by rw [upd_ne ne]; exact q, r⟩
  · rw [List.map_cons, List.nodup_cons, ha]
    exact nd
end

/-! ### data -/
theorem same_rd {G H : Hp} {a : Addr} {u : HO} (e : Same G H) (h : Rd G a u) : Rd H a u := by
  rcases h with h | ⟨o, h⟩
  · exact .inl (e a _ h)
  · exact .inr ⟨o, e a _ h⟩
theorem same_t {K : PySem.W.Frag} {G H : Hp} {a : Addr} {xs : List V} (e : Same G H) (h : SqT K G a xs) : SqT K H a xs := by
  rcases h with h | h
  · exact .inl (same_rd e h)
  · exact .inr h
mutual
theorem dp_mono {K : PySem.W.Frag} {G H : Hp} (e : Same G H) : ∀ (d : PyData) (v : V), Dp K G v d -> Dp K H v d
  | .none, _, h => by cases h; exact .non
  | .bool b, _, h => by cases h; exact .bl b
  | .int i, _, h => by cases h; exact .int i
  | .str x, _, h => by cases h; exact .str x
  | .list ds, _, h => by
    cases h with
    | lst hs ha => exact .lst (e.seq hs) (dps_mono e ds _ ha)
  | .tuple ds, _, h => by
    cases h with
    | tup hs ha => exact .tup (same_t e hs) (dps_mono e ds _ ha)
  | .dict _, _, h => by cases h
theorem dps_mono {K : PySem.W.Frag} {G H : Hp} (e : Same G H) : ∀ (ds : List PyData) (vs : List V), DpAll K G vs ds -> DpAll K H vs ds
  | [], _, h => by cases h; exact .nil
  | d :: ds, _, h => by
    cases h with
    | cons h1 h2 => exact .cons (dp_mono e d _ h1) (dps_mono e ds _ h2)
end
def dat (K : PySem.W.Frag) (v : V) (d : PyData) : Fc := ⟨fun G => Dp K G v d, fun _ _ e h => dp_mono e d v h⟩
def dats (K : PySem.W.Frag) (vs : List V) (ds : List PyData) : Fc := ⟨fun G => DpAll K G vs ds, fun _ _ e h => dps_mono e ds vs h⟩
/-- an owned list of data -/
def Ls (K : PySem.W.Frag) (l : Addr) (ds : List PyData) : Sx := ⟨l, fun G o => ∃ vs, o = .lst vs ∧ DpAll K G vs ds, fun _ _ _ e ⟨vs, h1, h2⟩ => ⟨vs, h1, dps_mono e ds vs h2⟩⟩
/-- an owned object as it is -/
def Raw (a : Addr) (o : HO) : Sx := ⟨a, fun _ u => u = o, fun _ _ _ _ h => h⟩
def Has (K : PySem.W.Frag) (F : List Fc) (v : V) (d : PyData) : Prop := ∀ G, Facts F G -> Dp K G v d
def HasA (K : PySem.W.Frag) (F : List Fc) (vs : List V) (ds : List PyData) : Prop := ∀ G, Facts F G -> DpAll K G vs ds
theorem _root_.L2.DpAll.len {K : PySem.W.Frag} {G : Hp} : ∀ {ds : List PyData} {vs : List V}, DpAll K G vs ds -> vs.length = ds.length
  | [], _, h => by cases h; rfl
  | d :: ds, _, h => by
    cases h with
    | cons h1 h2 => rw [List.length_cons, List.length_cons, L2.DpAll.len h2]
theorem _root_.L2.DpAll.get {K : PySem.W.Frag} {G : Hp} : ∀ {ds : List PyData} {vs : List V} {i : Nat} {d : PyData}, DpAll K G vs ds -> ds[i]? = some d -> ∃ v, vs[i]? = some v ∧ Dp K G v d
  | [], _, i, d, h, e => by simp at e
  | d :: ds, _, 0, _, h, e => by
    cases h with
    | cons h1 h2 =>
      simp only [List.getElem?_cons_zero, Option.some.injEq] at e
      subst e
      exact ⟨_, rfl, h1⟩
  | d :: ds, _, i + 1, _, h, e => by
    cases h with
    | cons h1 h2 =>
      obtain ⟨v, e1, e2⟩ := L2.DpAll.get h2 (i := i) (by simpa using e)
      exact ⟨v, by simpa using e1, e2⟩
theorem _root_.L2.DpAll.getV {K : PySem.W.Frag} {G : Hp} {ds : List PyData} {vs : List V} {i : Nat} {v : V} (h : DpAll K G vs ds) (e : vs[i]? = some v) : ∃ d, ds[i]? = some d ∧ Dp K G v d := by
  have hi : i < ds.length := by
    rw [← h.len]
    exact (List.getElem?_eq_some_iff.mp e).1
  obtain ⟨w, e1, e2⟩ := h.get (List.getElem?_eq_getElem hi)
  rw [e] at e1
  cases e1
  exact ⟨_, List.getElem?_eq_getElem hi, e2⟩
theorem _root_.L2.DpAll.app {K : PySem.W.Frag} {G : Hp} : ∀ {ds es : List PyData} {vs ws : List V}, DpAll K G vs ds -> DpAll K G ws es -> DpAll K G (vs ++ ws) (ds ++ es)
  | [], _, _, _, h, q => by cases h; exact q
  | d :: ds, _, _, _, h, q => by
    cases h with
    | cons h1 h2 => exact .cons h1 (L2.DpAll.app h2 q)
theorem _root_.L2.DpAll.set {K : PySem.W.Frag} {G : Hp} {v : V} {d : PyData} (q : Dp K G v d) : ∀ {ds : List PyData} {vs : List V} (i : Nat), DpAll K G vs ds -> DpAll K G (vs.set i v) (ds.set i d)
  | [], _, _, h => by cases h; exact .nil
  | _ :: _, _, 0, h => by
    cases h with
    | cons h1 h2 => exact .cons q h2
  | _ :: _, _, i + 1, h => by
    cases h with
    | cons h1 h2 => exact .cons h1 (L2.DpAll.set q i h2)
theorem _root_.L2.DpAll.take {K : PySem.W.Frag} {G : Hp} : ∀ {ds : List PyData} {vs : List V} (n : Nat), DpAll K G vs ds -> DpAll K G (vs.take n) (ds.take n)
  | _, _, 0, _ => .nil
  | [], _, n + 1, h => by cases h; exact .nil
  | _ :: _, _, n + 1, h => by
    cases h with
    | cons h1 h2 => exact .cons h1 (L2.DpAll.take n h2)
theorem _root_.L2.DpAll.drop {K : PySem.W.Frag} {G : Hp} : ∀ {ds : List PyData} {vs : List V} (n : Nat), DpAll K G vs ds -> DpAll K G (vs.drop n) (ds.drop n)
  | _, _, 0, h => h
  | [], _, n + 1, h => by cases h; exact .nil
  | _ :: _, _, n + 1, h => by
    cases h with
    | cons h1 h2 => exact L2.DpAll.drop n h2
theorem _root_.L2.DpAll.rev {K : PySem.W.Frag} {G : Hp} : ∀ {ds : List PyData} {vs : List V}, DpAll K G vs ds -> DpAll K G vs.reverse ds.reverse
  | [], _, h => by cases h; exact .nil
  | d :: ds, _, h => by
    cases h with
    | cons h1 h2 =>
      rw [List.reverse_cons, List.reverse_cons]
      exact (L2.DpAll.rev h2).app (.cons h1 .nil)
theorem _root_.L2.DpAll.ints {K : PySem.W.Frag} {G : Hp} : ∀ {ns : List Int} {vs : List V}, DpAll K G vs (ns.map PyData.int) -> vs = ns.map V.int
  | [], _, h => by cases h; rfl
  | n :: ns, _, h => by
    cases h with
    | cons h1 h2 =>
      cases h1
      rw [L2.DpAll.ints h2] <;> rfl

section
variable {K : PySem.W.Frag} {F : List Fc} {f : Fc} {m : List Sx} {H : Hp} {v : V} {d : PyData} {ds : List PyData} {vs : List V}
theorem Has.here : Has K (dat K v d :: F) v d := fun _ h => h _ (.head _)
theorem Has.there (h : Has K F v d) : Has K (f :: F) v d := fun G q => h G fun g hg => q g (.tail _ hg)
theorem Has.non : Has K F .non .none := fun _ _ => .non
theorem Has.bl {b : Bool} : Has K F (.bl b) (.bool b) := fun _ _ => .bl b
theorem Has.int {i : Int} : Has K F (.int i) (.int i) := fun _ _ => .int i
theorem Has.str {x : Str} : Has K F (.str x) (.str x) := fun _ _ => .str x
theorem HasA.nil : HasA K F [] [] := fun _ _ => .nil
theorem HasA.cons (h : Has K F v d) (t : HasA K F vs ds) : HasA K F (v :: vs) (d :: ds) := fun G q => .cons (h G q) (t G q)
theorem HasA.here : HasA K (dats K vs ds :: F) vs ds := fun _ h => h _ (.head _)
theorem HasA.there (h : HasA K F vs ds) : HasA K (f :: F) vs ds := fun G q => h G fun g hg => q g (.tail _ hg)
theorem S.dp (h : S F m H) (q : Has K F v d) : Dp K H v d := q H h.facts
theorem S.addD (h : S F m H) (q : Has K F v d) : S (dat K v d :: F) m H := h.add q
theorem popInt {i : Int} (h : S (dat K v (.int i) :: F) m H) : v = .int i ∧ S F m H := by
  have q : Dp K H v (.int i) := h.dp Has.here
  cases q
  exact ⟨rfl, h.pop⟩
theorem popStr {x : Str} (h : S (dat K v (.str x) :: F) m H) : v = .str x ∧ S F m H := by
  have q : Dp K H v (.str x) := h.dp Has.here
  cases q
  exact ⟨rfl, h.pop⟩
theorem popBl {b : Bool} (h : S (dat K v (.bool b) :: F) m H) : v = .bl b ∧ S F m H := by
  have q : Dp K H v (.bool b) := h.dp Has.here
  cases q
  exact ⟨rfl, h.pop⟩
theorem popNon (h : S (dat K v .none :: F) m H) : v = .non ∧ S F m H := by
  have q : Dp K H v .none := h.dp Has.here
  cases q
  exact ⟨rfl, h.pop⟩
end
end Qe

namespace Qe
section
open PySem PySem.AutoSeq1
/-! ### a list is extended by a tuple -/
theorem list_extend_tuple (l : Addr) (items : Array Value) (n : Nat) (b : Addr) (items2 : Array Value) (n2 : Nat) (dd : Option Addr) (sl : Array (Option Value)) (hs0 : ¬(!items.isEmpty && Builtin.List.listTooLong (items.size + items2.size)) = true) (hs1 : items.size ≤ sizeLine) (hs2 : items.size + items2.size ≤ sizeLine + 1) :
    Meets (Builtin.«list.extend» ⟨[.ref l, .ref b], []⟩) (fun _ R s => s.heap.get? l = some { cls := .type "list", dict := none, data := .seq items n, slots := #[] } ∧ s.heap.get? b = some { cls := .type "tuple", dict := dd, data := .seq items2 n2, slots := sl } ∧ R (.ok (.ret Value.none)) { s with heap := s.heap.update l (Obj.mapSeq fun x => x ++ items2), toks := s.toks }) :=
  .of_wp fun prog w A R s h => by
    obtain ⟨hp, g, d, tk, os⟩ := s; obtain ⟨hl, hb, h⟩ := h; have f1 := idx_int; have f2 := sub_tuple_tuple; have f3 := sub_list_list; have f4 := sub_tuple_list; have f5 := sub_list_tuple;
    have hz' : (items ++ items2).size ≤ sizeLine + 1 := by rw [Array.size_append]; exact hs2
    wp_walk using (wpAny_updateSeq hl rfl (hz := hs1) (_hz' := hz')), wpAny_loadPart' hl, wpAny_loadPart' hb; exact ⟨_, rfl, h⟩
theorem list_extend_list (l : Addr) (items : Array Value) (n : Nat) (b : Addr) (items2 : Array Value) (n2 : Nat) (sl : Array (Option Value)) (hs0 : ¬(!items.isEmpty && Builtin.List.listTooLong (items.size + items2.size)) = true) (hs1 : items.size ≤ sizeLine) (hs2 : items.size + items2.size ≤ sizeLine + 1) :
    Meets (Builtin.«list.extend» ⟨[.ref l, .ref b], []⟩) (fun _ R s => s.heap.get? l = some { cls := .type "list", dict := none, data := .seq items n, slots := #[] } ∧ s.heap.get? b = some { cls := .type "list", dict := none, data := .seq items2 n2, slots := sl } ∧ R (.ok (.ret Value.none)) { s with heap := s.heap.update l (Obj.mapSeq fun x => x ++ items2), toks := s.toks }) :=
  .of_wp fun prog w A R s h => by
    obtain ⟨hp, g, d, tk, os⟩ := s; obtain ⟨hl, hb, h⟩ := h; have f1 := idx_int; have f2 := sub_tuple_tuple; have f3 := sub_list_list; have f4 := sub_tuple_list; have f5 := sub_list_tuple;
    have hz' : (items ++ items2).size ≤ sizeLine + 1 := by rw [Array.size_append]; exact hs2
    wp_walk using (wpAny_updateSeq hl rfl (hz := hs1) (_hz' := hz')), wpAny_loadPart' hl, wpAny_loadPart' hb; exact ⟨_, rfl, h⟩
end
end Qe
namespace Qe
open PySem PySem.Spec PyProof.Rows L2

/-- xs.extend(ys), ys a list or a tuple -/
def rExt (K : PySem.W.Frag) : V → List V → Hp → VK → Prop := fun x vs H Q => ∃ l b xs zs, x = .ref l ∧ vs = [.ref b] ∧ H l = some (.lst xs) ∧ (SqT K H b zs ∨ SqL K H b zs) ∧ xs.length + zs.length ≤ sizeLine ∧ Q .non (upd H l (.lst (xs ++ zs)))
theorem mt_ext {X : Cx} : MtM X "list.extend" (rExt X.K) := by
  intro pins s σ H x vs v us Q I rx rv h
  obtain ⟨l, b, xs, zs, rfl, rfl, hH, hB, hz, q⟩ := h
  cases rx
  obtain ⟨u, rfl, ru⟩ := rv.one
  cases ru
  obtain ⟨z, its, n, r, hl, e⟩ := I.lstM hH
  rcases hB with hB | hB
  · obtain ⟨its2, r2, ⟨o2, h1, h2, n2, h3⟩, hl2⟩ := I.tuple hB
    obtain ⟨c2, d2, t2, s2⟩ := o2
    simp only at h2 h3
    subst h2 h3
    have q1 := r.length
    have q2 := r2.length
    have hsz : its.toArray.size + its2.toArray.size ≤ sizeLine := by rw [List.size_toArray, List.size_toArray]; omega
    have hlong : ¬ (!its.toArray.isEmpty && Builtin.List.listTooLong (its.toArray.size + its2.toArray.size)) = true := by
      rw [notLongL hsz, Bool.and_false]
      exact Bool.false_ne_true
    refine call_meets F.slot_list_extend ⟨_, e, rfl⟩ F.entry_list_extend (F.args_list_extend_2 _ _)
      (list_extend_tuple l its.toArray n b its2.toArray n2 d2 s2 hlong (by rw [List.size_toArray]; omega) (by omega)) ⟨e, h1, ?_⟩
    refine ⟨.non, _, I.lset (its' := its ++ its2) hH e (by simp) (r.append r2) ?_, rfl, q⟩
    rw [List.length_append]
    omega
  · obtain ⟨its2, r2, ⟨o2, n2, h1, h2, h4, h3⟩, hl2⟩ := I.list hB
    obtain ⟨c2, d2, t2, s2⟩ := o2
    simp only at h2 h3 h4
    subst h2 h3 h4
    have q1 := r.length
    have q2 := r2.length
    have hsz : its.toArray.size + its2.toArray.size ≤ sizeLine := by rw [List.size_toArray, List.size_toArray]; omega
    have hlong : ¬ (!its.toArray.isEmpty && Builtin.List.listTooLong (its.toArray.size + its2.toArray.size)) = true := by
      rw [notLongL hsz, Bool.and_false]
      exact Bool.false_ne_true
    refine call_meets F.slot_list_extend ⟨_, e, rfl⟩ F.entry_list_extend (F.args_list_extend_2 _ _)
      (list_extend_list l its.toArray n b its2.toArray n2 s2 hlong (by rw [List.size_toArray]; omega) (by omega)) ⟨e, h1, ?_⟩
    refine ⟨.non, _, I.lset (its' := its ++ its2) hH e (by simp) (r.append r2) ?_, rfl, q⟩
    rw [List.length_append]
    omega
/-! ### in, for lists and tuples of data at any depth -/
def rInU (K : PySem.W.Frag) (neg : Bool) : R2 := fun x y H Q => ∃ d ds, Dp K H x d ∧ (Dp K H y (.list ds) ∨ Dp K H y (.tuple ds)) ∧ SeqAt.shaped d = true ∧ PyData.canLayAll0 ds = true ∧ Q (.bl (if neg then !(ds.any fun z => PyData.eqv z d) else ds.any fun z => PyData.eqv z d)) H
theorem op_inU {X : Cx} (hu : X.A.units + 65 < cLine) : OpR X (compareOp .In) (rInU X.K false) := by
  intro pins s σ H x y v u Q I rx ry h
  obtain ⟨d, ds, hd, he, sd, se, q⟩ := h
  obtain ⟨as, r1⟩ := Dp.reads I d x v hd rx
  rcases he with he | he
  · obtain ⟨bs, r2⟩ := Dp.reads I (.list ds) y u he ry
    exact SeqAt.in_list_reads r2 r1 se (SeqAt.canLay_of_shaped sd) (room_in_shaped sd hu) ⟨.bl _, H, I, rfl, q⟩
  · obtain ⟨bs, r2⟩ := Dp.reads I (.tuple ds) y u he ry
    exact SeqAt.in_tuple_reads r2 r1 se (SeqAt.canLay_of_shaped sd) (room_in_shaped sd hu) ⟨.bl _, H, I, rfl, q⟩
theorem op_niU {X : Cx} (hu : X.A.units + 65 < cLine) : OpR X (compareOp .NotIn) (rInU X.K true) := by
  intro pins s σ H x y v u Q I rx ry h
  obtain ⟨d, ds, hd, he, sd, se, q⟩ := h
  obtain ⟨as, r1⟩ := Dp.reads I d x v hd rx
  rcases he with he | he
  · obtain ⟨bs, r2⟩ := Dp.reads I (.list ds) y u he ry
    exact SeqAt.notIn_list_reads r2 r1 se (SeqAt.canLay_of_shaped sd) (room_in_shaped sd hu) ⟨.bl _, H, I, rfl, q⟩
  · obtain ⟨bs, r2⟩ := Dp.reads I (.tuple ds) y u he ry
    exact SeqAt.notIn_tuple_reads r2 r1 se (SeqAt.canLay_of_shaped sd) (room_in_shaped sd hu) ⟨.bl _, H, I, rfl, q⟩
end Qe

namespace Qe
open PySem PySem.Spec PyProof.Rows L2

/-! ### named readings of what the layer leaves as bare functions -/
def rIsN : R2 := fun x y H Q => y = .non ∧ Q (.bl (decide (x = .non))) H
def rNotN : R2 := fun x y H Q => y = .non ∧ Q (.bl (!decide (x = .non))) H
theorem op_isNq {X : Cx} : OpR X (compareOp .Is) rIsN := op_isN
theorem op_notNq {X : Cx} : OpR X (compareOp .IsNot) rNotN := op_notN
def rLenU (K : PySem.W.Frag) : List V → Hp → VK → Prop := fun xs H Q => ∃ x n, xs = [x] ∧ LenV K x H n ∧ Q (.int n) H
theorem cb_len {X : Cx} : CallR X (.builtin "len") (rLenU X.K) := call_len
def rInt : List V → Hp → VK → Prop := fun xs H Q => (∃ i, xs = [.int i] ∧ Q (.int i) H) ∨ ∃ k, xs = [.bl k] ∧ Q (.int (if k then 1 else 0)) H
theorem cb_int {X : Cx} : CallR X (.type "int") rInt := call_int1
def rList (K : PySem.W.Frag) : List V → Hp → VK → Prop := fun xs H Q => ∃ p ys, xs = [.ref p] ∧ (SqL K H p ys ∨ SqT K H p ys) ∧ ∀ l, H l = none → Q (.ref l) (upd H l (.lst ys))
theorem cb_list {X : Cx} : CallR X (.type "list") (rList X.K) := call_list_of
def rTuple (K : PySem.W.Frag) : List V → Hp → VK → Prop := fun xs H Q => ∃ p ys, xs = [.ref p] ∧ ((SqL K H p ys ∧ ∀ l, H l = none → Q (.ref l) (upd H l (.tup ys))) ∨ (SqT K H p ys ∧ Q (.ref p) H))
theorem cb_tuple {X : Cx} : CallR X (.type "tuple") (rTuple X.K) := call_tuple_of
def rAddI : R2 := rI0 fun i j => .int (i + j)
def rSubI : R2 := rI0 fun i j => .int (i - j)
def rMulI : R2 := rI CMul fun i j => .int (i * j)
def rModI : R2 := rI (fun _ j => 0 < j) fun i j => .int (i % j)
def rDivI : R2 := rI CDiv fun i j => .int (i / j)
def rPowI : R2 := rI CPow fun i j => .int (i ^ j.toNat)
def rLtI : R2 := rI0 fun i j => .bl (decide (i < j))
def rLeI : R2 := rI0 fun i j => .bl (decide (i ≤ j))
def rGtI : R2 := rI0 fun i j => .bl (decide (j < i))
def rGeI : R2 := rI0 fun i j => .bl (decide (j ≤ i))
def rNegI : V → Hp → VK → Prop := rU fun i => .int (-i)
theorem op_addI {X : Cx} : OpR X (binaryOp .Add) rAddI := op_add
theorem op_subI {X : Cx} : OpR X (binaryOp .Sub) rSubI := op_sub
theorem op_mulI {X : Cx} : OpR X (binaryOp .Mult) rMulI := op_mul
theorem op_modI {X : Cx} : OpR X (binaryOp .Mod) rModI := op_mod
theorem op_divI {X : Cx} : OpR X (binaryOp .FloorDiv) rDivI := op_fdiv
theorem op_powI {X : Cx} : OpR X (binaryOp .Pow) rPowI := op_pow
theorem op_ltI {X : Cx} : OpR X (compareOp .Lt) rLtI := op_lt
theorem op_leI {X : Cx} : OpR X (compareOp .LtE) rLeI := op_le
theorem op_gtI {X : Cx} : OpR X (compareOp .Gt) rGtI := op_gt
theorem op_geI {X : Cx} : OpR X (compareOp .GtE) rGeI := op_ge
theorem un_negI {X : Cx} : UnR X (unaryOp .USub) rNegI := un_neg
/-- t + u of tuples, as data -/
def tTruU (K : PySem.W.Frag) (ta : TE) : TT := fun σ H Q => ta σ H fun x H' => ∃ k, TruV K x H' k ∧ Q k H'
theorem pt_tru {X : Cx} {a : Expr} {ta : TE} (ha : PE X a ta) (he : ∀ whole, isTrue a X.env whole = (do let v ← whole; standAt a.pos; holding [v] (truthy v)) := by intro _; rfl) : PT X a (tTruU X.K ta) := pt_truth ha he
/-- what a for walks: a list or a tuple -/
def iSeq (K : PySem.W.Frag) (tl : TE) : TI := fun σ H R => tl σ H fun x H1 => ∃ a, x = .ref a ∧ (((∃ xs, SqL K H1 a xs) ∧ R (Itl K a) H1) ∨ ((∃ xs, SqT K H1 a xs) ∧ R (Itt K a) H1))
theorem pi_seq {X : Cx} {tg l : Expr} {tl : TE} (hl : PE X l tl) : PI X tg l (iSeq X.K tl) := by
  refine ⟨fun pins s σ H R I h => ?_⟩
  refine thn (hl.run pins s σ H _ I h) fun v s1 ⟨x, H1, I1, r1, q1⟩ => ?_
  obtain ⟨a, e, q1⟩ := q1
  subst e
  cases r1
  have fp : ∀ b ∈ [s1.heap.objs.size], FpOk X pins H1 b := fun b hb => by
    have e : b = s1.heap.objs.size := by simpa using hb
    subst e
    exact I1.fpOk (Nat.le_refl _) (I1.hok.fresh (Nat.le_refl _))
  rcases q1 with ⟨⟨xs, hq⟩, q⟩ | ⟨⟨xs, hq⟩, q⟩
  · obtain ⟨its, rv, p, hz⟩ := I1.list hq
    refine wpAny_pyIter_list p.isList ?_
    exact ⟨s1.heap.objs.size, [s1.heap.objs.size], _, _, H1, rfl, I1.kept (t' := s1.toks) fun b o e => Heap.get?_push_of_some _ e, turn_list a _, ⟨_, Heap.get?_push_size _ rfl, rfl, rfl⟩, fp, q⟩
  · obtain ⟨its, rv, p, hz⟩ := I1.tuple hq
    refine wpAny_pyIter_tuple (show s1.heap.IsTuple a its.toArray from p) ?_
    exact ⟨s1.heap.objs.size, [s1.heap.objs.size], _, _, H1, rfl, I1.kept (t' := s1.toks) fun b o e => Heap.get?_push_of_some _ e, turn_tuple a _, ⟨_, Heap.get?_push_size _ rfl, rfl, rfl⟩, fp, q⟩

def rEqU (K : PySem.W.Frag) : R2 := fun x y H Q => rEqD K x y H Q ∨ rEq x y H Q
def rNeU (K : PySem.W.Frag) : R2 := fun x y H Q => rNeD K x y H Q ∨ rNe x y H Q
theorem op_eqU {X : Cx} (hu : X.A.units + 64 < cLine) : OpR X (compareOp .Eq) (rEqU X.K) := OpR.or (op_eqD hu) op_eq
theorem op_neU {X : Cx} (hu : X.A.units + 64 < cLine) : OpR X (compareOp .NotEq) (rNeU X.K) := OpR.or (op_neD hu) op_ne
/-- what comes with its data -/
def Res (K : PySem.W.Frag) (F : List Fc) (m : List Sx) (H : Hp) (d : PyData) (Q : VK) : Prop := ∀ w, S (dat K w d :: F) m H → Q w H
def ResH (K : PySem.W.Frag) (F : List Fc) (m : List Sx) (d : PyData) (Q : VK) : Prop := ∀ w H', S (dat K w d :: F) m H' → Q w H'
/-! ### expressions -/
section
variable {K : PySem.W.Frag} {F : List Fc} {m : List Sx} {H : Hp} {σ : L2.St} {Q : VK} {v x y : V} {d e : PyData} {ds es : List PyData} {ta tb : TE}
theorem g_var {i : Nat} (h : σ[i]? = some (some v)) (q : Q v H) : tVar i σ H Q := ⟨v, h, q⟩
theorem g_c (q : Q v H) : tC v σ H Q := q
theorem g_op {r : R2} (h : ta σ H fun x H1 => tb σ H1 fun y H2 => r x y H2 Q) : tOp r ta tb σ H Q := h
theorem g_un {r : V → Hp → VK → Prop} (h : ta σ H fun x H1 => r x H1 Q) : tUn r ta σ H Q := h
theorem g_addI {i j : Int} (q : Q (.int (i + j)) H) : rAddI (.int i) (.int j) H Q := ⟨i, j, rfl, rfl, q⟩
theorem g_subI {i j : Int} (q : Q (.int (i - j)) H) : rSubI (.int i) (.int j) H Q := ⟨i, j, rfl, rfl, q⟩
theorem g_mulI {i j : Int} (c : CMul i j) (q : Q (.int (i * j)) H) : rMulI (.int i) (.int j) H Q := ⟨i, j, rfl, rfl, c, q⟩
theorem g_modI {i j : Int} (c : 0 < j) (q : Q (.int (i % j)) H) : rModI (.int i) (.int j) H Q := ⟨i, j, rfl, rfl, c, q⟩
theorem g_divI {i j : Int} (c : CDiv i j) (q : Q (.int (i / j)) H) : rDivI (.int i) (.int j) H Q := ⟨i, j, rfl, rfl, c, q⟩
theorem g_powI {i j : Int} (c : CPow i j) (q : Q (.int (i ^ j.toNat)) H) : rPowI (.int i) (.int j) H Q := ⟨i, j, rfl, rfl, c, q⟩
theorem g_ltI {i j : Int} (q : Q (.bl (decide (i < j))) H) : rLtI (.int i) (.int j) H Q := ⟨i, j, rfl, rfl, q⟩
theorem g_leI {i j : Int} (q : Q (.bl (decide (i ≤ j))) H) : rLeI (.int i) (.int j) H Q := ⟨i, j, rfl, rfl, q⟩
theorem g_gtI {i j : Int} (q : Q (.bl (decide (j < i))) H) : rGtI (.int i) (.int j) H Q := ⟨i, j, rfl, rfl, q⟩
theorem g_geI {i j : Int} (q : Q (.bl (decide (j ≤ i))) H) : rGeI (.int i) (.int j) H Q := ⟨i, j, rfl, rfl, q⟩
theorem g_negI {i : Int} (q : Q (.int (-i)) H) : rNegI (.int i) H Q := ⟨i, rfl, q⟩
theorem g_isN (q : Q (.bl (decide (x = .non))) H) : rIsN x .non H Q := ⟨rfl, q⟩
theorem g_notN (q : Q (.bl (!decide (x = .non))) H) : rNotN x .non H Q := ⟨rfl, q⟩
theorem g_eqD (hS : S F m H) (hx : Has K F x d) (hy : Has K F y e) (sd : SeqAt.shaped d = true) (se : SeqAt.shaped e = true) (q : Q (.bl (PyData.eqv d e)) H) : rEqU K x y H Q := .inl ⟨d, e, hS.dp hx, hS.dp hy, sd, se, q⟩
theorem g_neD (hS : S F m H) (hx : Has K F x d) (hy : Has K F y e) (sd : SeqAt.shaped d = true) (se : SeqAt.shaped e = true) (q : Q (.bl (!PyData.eqv d e)) H) : rNeU K x y H Q := .inl ⟨d, e, hS.dp hx, hS.dp hy, sd, se, q⟩
theorem g_eqI {i j : Int} (q : Q (.bl (decide (i = j))) H) : rEqU K (.int i) (.int j) H Q := .inl ⟨.int i, .int j, .int i, .int j, rfl, rfl, by
  have e : PyData.eqv (.int i) (.int j) = decide (i = j) := by simp only [PyData.eqv]; exact Bool.beq_eq_decide_eq _ _
  rw [e]; exact q⟩
theorem g_neI {i j : Int} (q : Q (.bl (!decide (i = j))) H) : rNeU K (.int i) (.int j) H Q := .inl ⟨.int i, .int j, .int i, .int j, rfl, rfl, by
  have e : PyData.eqv (.int i) (.int j) = decide (i = j) := by simp only [PyData.eqv]; exact Bool.beq_eq_decide_eq _ _
  rw [e]; exact q⟩
theorem g_eqB {i j : Bool} (q : Q (.bl (i == j)) H) : rEqU K (.bl i) (.bl j) H Q := .inl ⟨.bool i, .bool j, .bl i, .bl j, rfl, rfl, q⟩
theorem g_neB {i j : Bool} (q : Q (.bl (!(i == j))) H) : rNeU K (.bl i) (.bl j) H Q := .inl ⟨.bool i, .bool j, .bl i, .bl j, rfl, rfl, q⟩
theorem g_eqS {i j : Str} (q : Q (.bl (decide (i = j))) H) : rEqU K (.str i) (.str j) H Q := .inr ⟨rfl, by
  have e : decide (V.str i = V.str j) = decide (i = j) := by
    by_cases h : i = j
    · subst h; simp
    · rw [decide_eq_false h]; exact decide_eq_false fun z => h (V.str.inj z)
  rw [e]; exact q⟩
theorem g_neS {i j : Str} (q : Q (.bl (!decide (i = j))) H) : rNeU K (.str i) (.str j) H Q := .inr ⟨rfl, by
  have e : decide (V.str i = V.str j) = decide (i = j) := by
    by_cases h : i = j
    · subst h; simp
    · rw [decide_eq_false h]; exact decide_eq_false fun z => h (V.str.inj z)
  rw [e]; exact q⟩
theorem g_in {neg : Bool} (hS : S F m H) (hx : Has K F x d) (hy : Has K F y (.list ds) ∨ Has K F y (.tuple ds)) (sd : SeqAt.shaped d = true) (se : PyData.canLayAll0 ds = true)
    (q : Q (.bl (if neg then !(ds.any fun z => PyData.eqv z d) else ds.any fun z => PyData.eqv z d)) H) : rInU K neg x y H Q :=
  ⟨d, ds, hS.dp hx, hy.imp hS.dp hS.dp, sd, se, q⟩
theorem g_if {t : TT} (h : t σ H fun c H1 => if c = true then ta σ H1 Q else tb σ H1 Q) : tIf t ta tb σ H Q := h
theorem g_andV (h : ta σ H fun x H1 => ∃ c, x = .bl c ∧ if c = true then tb σ H1 Q else Q (.bl false) H1) : tAndV ta tb σ H Q := h
theorem g_orV (h : ta σ H fun x H1 => ∃ c, x = .bl c ∧ if c = true then Q (.bl true) H1 else tb σ H1 Q) : tOrV ta tb σ H Q := h
theorem g_notV (h : ta σ H fun x H1 => ∃ c, x = .bl c ∧ Q (.bl (!c)) H1) : tNotV ta σ H Q := h
theorem g_bl {b : Bool} {P : Bool → Prop} (h : P b) : ∃ c, (V.bl b) = .bl c ∧ P c := ⟨b, rfl, h⟩
theorem g_ite {b : Bool} {A B : Prop} (h1 : b = true → A) (h2 : b = false → B) : if b = true then A else B := by
  cases b with
  | true => exact h1 rfl
  | false => exact h2 rfl
/-! ### arguments, displays -/
variable {tr : TA} {QA : List V → Hp → Prop} {vs : List V}
theorem g_nil (q : QA [] H) : tNil σ H QA := q
theorem g_cons (h : ta σ H fun x H1 => tr σ H1 fun xs H2 => QA (x :: xs) H2) : tCons ta tr σ H QA := h
theorem g_cb {r : List V → Hp → VK → Prop} (h : tr σ H fun vs H1 => r vs H1 Q) : tCB r tr σ H Q := h
theorem g_call {sp : Sp} {E : XK} (h : tr σ H fun vs H1 => sp vs H1 Q E) : tCall sp [] E tr σ H Q := by
  show tr σ H fun vs H1 => sp (vs ++ []) H1 Q E
  have e : (fun (vs : List V) (H1 : Hp) => sp (vs ++ []) H1 Q E) = fun vs H1 => sp vs H1 Q E := by
    funext vs H1
    rw [List.append_nil]
  rw [e]
  exact h
def MkT (xs : List V) (H1 : Hp) (Q : VK) : Prop := xs.length ≤ sizeLine ∧ ∀ p, H1 p = none → Q (.ref p) (upd H1 p (.tup xs))
def MkL (xs : List V) (H1 : Hp) (Q : VK) : Prop := xs.length ≤ sizeLine ∧ ∀ p, H1 p = none → Q (.ref p) (upd H1 p (.lst xs))
theorem g_tup (h : tr σ H fun xs H1 => MkT xs H1 Q) : tTup tr σ H Q := h
theorem g_lst (h : tr σ H fun xs H1 => MkL xs H1 Q) : tLst tr σ H Q := h
/-- a tuple is made -/
theorem g_newT (hS : S F m H) (hv : HasA K F vs ds) (hl : vs.length ≤ 1000) (q : ResH K F m (.tuple ds) Q) : MkT vs H Q :=
  ⟨Nat.le_trans hl (by decide), fun p hp => q (.ref p) _ (hS.putF hp _ fun G g e => .tup (SqT.of e) (hv G g))⟩
/-- a list is made: it is owned -/
theorem g_newL (hS : S F m H) (hv : HasA K F vs ds) (hl : vs.length ≤ 1000) (q : ∀ p H', S F (Ls K p ds :: m) H' → Q (.ref p) H') : MkL vs H Q :=
  ⟨Nat.le_trans hl (by decide), fun p hp => q p _ (hS.put hp (Ls K p ds) rfl fun G g => ⟨vs, rfl, hv G g⟩)⟩
/-- .. it stays as it is -/
theorem g_newLF (hS : S F m H) (hv : HasA K F vs ds) (hl : vs.length ≤ 1000) (q : ∀ p H', S (dat K (.ref p) (.list ds) :: F) m H' → Q (.ref p) H') : MkL vs H Q :=
  ⟨Nat.le_trans hl (by decide), fun p hp => q p _ (hS.putF hp _ fun G g e => .lst (SqL.of e) (hv G g))⟩
/-! ### items, lengths -/
theorem ixN_len {α β : Type} {xs : List α} {ys : List β} (h : xs.length = ys.length) (i : Int) : ixN xs.length i = ixN ys.length i := by rw [h]
theorem dps_atI {G : Hp} {i : Int} (h : DpAll K G vs ds) (hi : atI ds i = some d) : ∃ w, atI vs i = some w ∧ Dp K G w d := by
  unfold atI at hi ⊢
  rw [h.len]
  cases q : ixN ds.length i with
  | none => rw [q] at hi; cases hi
  | some j =>
    rw [q] at hi
    exact h.get hi
theorem has_item {i : Int} (h : S F m H) (hv : Has K F v (.tuple ds) ∨ Has K F v (.list ds)) (hi : atI ds i = some d) :
    ∃ a w, v = .ref a ∧ ((∃ xs, SqT K H a xs ∧ atI xs i = some w) ∨ ∃ xs, SqL K H a xs ∧ atI xs i = some w) ∧ S (dat K w d :: F) m H := by
  obtain ⟨G, e, f, own, nd⟩ := h.ex
  rcases hv with hv | hv
  · have q := hv G f
    generalize hz : PyData.tuple ds = z at q
    cases q with
    | tup hs ha =>
      cases hz
      obtain ⟨w, h1, h2⟩ := dps_atI ha hi
      exact ⟨_, w, rfl, .inl ⟨_, same_t e hs, h1⟩, G, e, fun g hg => by cases hg with | head => exact h2 | tail _ hg => exact f g hg, own, nd⟩
    | _ => cases hz
  · have q := hv G f
    generalize hz : PyData.list ds = z at q
    cases q with
    | lst hs ha =>
      cases hz
      obtain ⟨w, h1, h2⟩ := dps_atI ha hi
      exact ⟨_, w, rfl, .inr ⟨_, e.seq hs, h1⟩, G, e, fun g hg => by cases hg with | head => exact h2 | tail _ hg => exact f g hg, own, nd⟩
    | _ => cases hz
theorem g_ix {i : Int} (hS : S F m H) (hv : Has K F v (.tuple ds) ∨ Has K F v (.list ds)) (hi : atI ds i = some d) (q : Res K F m H d Q) : rIx K v (.int i) H Q := by
  obtain ⟨a, w, rfl, h, hS'⟩ := has_item hS hv hi
  rcases h with ⟨xs, h1, h2⟩ | ⟨xs, h1, h2⟩
  · exact .inr (.inl ⟨a, xs, i, w, rfl, rfl, h1, h2, q w hS'⟩)
  · exact .inl ⟨a, xs, i, w, rfl, rfl, h1, h2, q w hS'⟩
/-- of an owned list -/
theorem own_list {l : Addr} (h : S F m H) (hm : Ls K l ds ∈ m) : ∃ vs, H l = some (.lst vs) ∧ vs.length = ds.length ∧ ∀ (i : Nat) (w : V) (d : PyData), vs[i]? = some w → ds[i]? = some d → S (dat K w d :: F) m H := by
  obtain ⟨G, e, f, own, nd⟩ := h.ex
  obtain ⟨_, o, ho, vs, rfl, ha⟩ := own _ hm
  refine ⟨vs, ho, ha.len, fun i w d h1 h2 => ?_⟩
  obtain ⟨w', e1, e2⟩ := ha.get h2
  rw [h1] at e1
  cases e1
  exact ⟨G, e, fun g hg => by cases hg with | head => exact e2 | tail _ hg => exact f g hg, own, nd⟩
theorem g_ixO {l : Addr} {i : Int} (hS : S F m H) (hm : Ls K l ds ∈ m) (hi : atI ds i = some d) (q : Res K F m H d Q) : rIx K (.ref l) (.int i) H Q := by
  obtain ⟨vs, h1, h2, h3⟩ := own_list hS hm
  unfold atI at hi
  cases qj : ixN ds.length i with
  | none => rw [qj] at hi; cases hi
  | some j =>
    rw [qj] at hi
    have hi' : ds[j]? = some d := hi
    have hlt : j < vs.length := by
      rw [h2]
      exact (List.getElem?_eq_some_iff.mp hi').1
    have ew : vs[j]? = some vs[j] := List.getElem?_eq_getElem hlt
    refine .inl ⟨l, vs, i, vs[j], rfl, rfl, SqL.of h1, ?_, q _ (h3 j _ d ew hi')⟩
    unfold atI
    rw [h2, qj]
    exact ew
theorem g_len (hS : S F m H) (hv : Has K F v (.tuple ds) ∨ Has K F v (.list ds)) (q : Q (.int (ds.length : Nat)) H) : rLenU K [v] H Q := by
  rcases hv with hv | hv
  · have z := hS.dp hv
    cases z with
    | tup hs ha => exact ⟨_, ds.length, rfl, .inr ⟨_, hs, ha.len.symm⟩, q⟩
  · have z := hS.dp hv
    cases z with
    | lst hs ha => exact ⟨_, ds.length, rfl, .inl ⟨_, hs, ha.len.symm⟩, q⟩
theorem g_lenO {l : Addr} (hS : S F m H) (hm : Ls K l ds ∈ m) (q : Q (.int (ds.length : Nat)) H) : rLenU K [.ref l] H Q := by
  obtain ⟨vs, h1, h2, _⟩ := own_list hS hm
  exact ⟨_, ds.length, rfl, .inl ⟨vs, SqL.of h1, h2.symm⟩, q⟩
theorem g_lenS {s : Str} (hz : s.length ≤ sizeLine) (q : Q (.int (s.length : Nat)) H) : rLenU K [.str s] H Q := ⟨_, _, rfl, ⟨hz, rfl⟩, q⟩
theorem g_int {i : Int} (q : Q (.int i) H) : rInt [.int i] H Q := .inl ⟨i, rfl, q⟩
/-- tuple(a list or a tuple) -/
theorem g_tuple (hS : S F m H) (hv : Has K F v (.tuple ds) ∨ Has K F v (.list ds)) (q : ResH K F m (.tuple ds) Q) : rTuple K [v] H Q := by
  rcases hv with hv | hv
  · have z := hS.dp hv
    cases z with
    | tup hs ha => exact ⟨_, _, rfl, .inr ⟨hs, q _ _ (hS.addD hv)⟩⟩
  · obtain ⟨G, e, f, own, nd⟩ := hS.ex
    have z := hv G f
    cases z with
    | lst hs ha => exact ⟨_, _, rfl, .inl ⟨e.seq hs, fun l hl => q _ _ (putG e f own nd hl _ fun G' s' e' => .tup (SqT.of e') (dps_mono s' _ _ ha))⟩⟩
/-- tuple(an owned list) -/
theorem g_tupleO {l : Addr} (hS : S F m H) (hm : Ls K l ds ∈ m) (q : ResH K F m (.tuple ds) Q) : rTuple K [.ref l] H Q := by
  obtain ⟨G, e, f, own, nd⟩ := hS.ex
  obtain ⟨_, o, ho, vs, rfl, ha⟩ := own _ hm
  exact ⟨_, _, rfl, .inl ⟨SqL.of ho, fun l hl => q _ _ (putG e f own nd hl _ fun G' s' e' => .tup (SqT.of e') (dps_mono s' _ _ ha))⟩⟩
/-- list(a list or a tuple): a new owned list -/
theorem g_list (hS : S F m H) (hv : Has K F v (.tuple ds) ∨ Has K F v (.list ds)) (q : ∀ p H', S F (Ls K p ds :: m) H' → Q (.ref p) H') : rList K [v] H Q := by
  obtain ⟨G, e, f, own, nd⟩ := hS.ex
  rcases hv with hv | hv
  · have z := hv G f
    cases z with
    | tup hs ha => exact ⟨_, _, rfl, .inr (same_t e hs), fun l hl => q _ _ (putO e f own nd hl (Ls K l ds) rfl ⟨_, rfl, ha⟩)⟩
  · have z := hv G f
    cases z with
    | lst hs ha => exact ⟨_, _, rfl, .inl (e.seq hs), fun l hl => q _ _ (putO e f own nd hl (Ls K l ds) rfl ⟨_, rfl, ha⟩)⟩
theorem g_listO {l : Addr} (hS : S F m H) (hm : Ls K l ds ∈ m) (q : ∀ p H', S F (Ls K p ds :: m) H' → Q (.ref p) H') : rList K [.ref l] H Q := by
  obtain ⟨G, e, f, own, nd⟩ := hS.ex
  obtain ⟨_, o, ho, vs, rfl, ha⟩ := own _ hm
  exact ⟨_, _, rfl, .inl (SqL.of ho), fun l hl => q _ _ (putO e f own nd hl (Ls K l ds) rfl ⟨_, rfl, ha⟩)⟩
end
end Qe

namespace Qe
open PySem PySem.Spec PyProof.Rows L2

section
variable {K : PySem.W.Frag} {F : List Fc} {m : List Sx} {H : Hp} {σ : L2.St} {nx bk ct : L2.St → Hp → Prop} {rt : VK} {v x y : V} {d e : PyData} {ds es : List PyData} {ta tb te : TE} {t u : TS} {g : TG} {c c1 c2 : TT} {QB : Bool → Hp → Prop}
theorem g_seq (h : t ⟨u ⟨nx, rt, bk, ct⟩, rt, bk, ct⟩ σ H) : tSeq t u ⟨nx, rt, bk, ct⟩ σ H := h
theorem g_asg (h : te σ H fun x H1 => g x σ H1 nx) : tAsg te g ⟨nx, rt, bk, ct⟩ σ H := h
theorem g_name {i : Nat} {Q : L2.St → Hp → Prop} (h : Q (σ.set i (some v)) H) : gName i v σ H Q := h
theorem g_drop (h : te σ H fun _ H1 => nx σ H1) : tDrop te ⟨nx, rt, bk, ct⟩ σ H := h
theorem g_ret (h : te σ H rt) : tRet te ⟨nx, rt, bk, ct⟩ σ H := h
theorem g_retN (h : rt .non H) : tRetN ⟨nx, rt, bk, ct⟩ σ H := h
theorem g_next (h : nx σ H) : tNext ⟨nx, rt, bk, ct⟩ σ H := h
theorem g_brk (h : bk σ H) : tBreak ⟨nx, rt, bk, ct⟩ σ H := h
theorem g_cnt (h : ct σ H) : tCont ⟨nx, rt, bk, ct⟩ σ H := h
theorem g_ifS {D : Ends} (h : c σ H fun b H1 => if b = true then t D σ H1 else u D σ H1) : tIfS c t u D σ H := h
theorem g_test (h : ta σ H fun x H1 => ∃ k, x = .bl k ∧ QB k H1) : tTest ta σ H QB := h
theorem g_tB (h : ta σ H fun x H1 => ∃ k, x = .bl k ∧ QB k H1) : tB ta σ H QB := h
theorem g_and (h : c1 σ H fun b H1 => if b = true then c2 σ H1 QB else QB false H1) : tAnd c1 c2 σ H QB := h
theorem g_or (h : c1 σ H fun b H1 => if b = true then QB true H1 else c2 σ H1 QB) : tOr c1 c2 σ H QB := h
theorem g_not (h : c1 σ H fun b H1 => QB (!b) H1) : tNot c1 σ H QB := h
def TruR' (K : PySem.W.Frag) (x : V) (H : Hp) (QB : Bool → Hp → Prop) : Prop := ∃ k, TruV K x H k ∧ QB k H
theorem g_tru (h : ta σ H fun x H1 => TruR' K x H1 QB) : tTruU K ta σ H QB := h
theorem g_truL {l : Addr} (hS : S F m H) (hm : Ls K l ds ∈ m) (q : QB (!ds.isEmpty) H) : TruR' K (.ref l) H QB := by
  obtain ⟨vs, h1, h2, _⟩ := own_list hS hm
  refine ⟨!ds.isEmpty, .inl ⟨vs, SqL.of h1, ?_⟩, q⟩
  cases vs <;> cases ds <;> first | rfl | cases h2
theorem g_truD (hS : S F m H) (hv : Has K F v (.tuple ds) ∨ Has K F v (.list ds)) (q : QB (!ds.isEmpty) H) : TruR' K v H QB := by
  rcases hv with hv | hv
  · have z := hS.dp hv
    cases z with
    | tup hs ha =>
      refine ⟨!ds.isEmpty, .inr (.inl ⟨_, hs, ?_⟩), q⟩
      have h2 := ha.len
      rename_i xs
      cases xs <;> cases ds <;> first | rfl | cases h2
  · have z := hS.dp hv
    cases z with
    | lst hs ha =>
      refine ⟨!ds.isEmpty, .inl ⟨_, hs, ?_⟩, q⟩
      have h2 := ha.len
      rename_i xs
      cases xs <;> cases ds <;> first | rfl | cases h2
theorem g_truB {b : Bool} (q : QB b H) : TruR' K (.bl b) H QB := ⟨b, rfl, q⟩
theorem g_truI {i : Int} (q : QB (i != 0) H) : TruR' K (.int i) H QB := ⟨_, rfl, q⟩
theorem g_truN (q : QB false H) : TruR' K .non H QB := ⟨_, rfl, q⟩
theorem g_augI {f : Int → Int → Int} {i : Nat} {a : Int} (hx : σ[i]? = some (some (.int a))) (h : te σ H fun y H1 => ∃ b, y = .int b ∧ nx (σ.set i (some (.int (f a b)))) H1) : tAug i te (ipI f) ⟨nx, rt, bk, ct⟩ σ H :=
  ⟨_, hx, by
    have e : (fun (y : V) (H1 : Hp) => ipI f (.int a) y H1 fun z H2 => nx (σ.set i (some z)) H2) = fun y H1 => ∃ b, y = .int b ∧ nx (σ.set i (some (.int (f a b)))) H1 := by
      funext y H1
      apply propext
      constructor
      · rintro ⟨i', j, h1, h2, h3⟩
        cases h1
        exact ⟨j, h2, h3⟩
      · rintro ⟨b, h1, h2⟩
        exact ⟨a, b, rfl, h1, h2⟩
    show te σ H fun y H1 => ipI f (.int a) y H1 fun z H2 => nx (σ.set i (some z)) H2
    rw [e]
    exact h⟩
theorem g_isI {b : Int} {P : Int → Prop} (h : P b) : ∃ c, (V.int b) = .int c ∧ P c := ⟨b, rfl, h⟩
/-! ### the methods of a list -/
def MtB (K : PySem.W.Frag) (T : String) (r : V → List V → Hp → VK → Prop) (x : V) (H : Hp) (σ : L2.St) (tr : TA) (Q : VK) : Prop := tyV K T x H ∧ tr σ H fun xs H2 => r x xs H2 Q
theorem g_bm {T : String} {r : V → List V → Hp → VK → Prop} {tr : TA} {Q : VK} (h : ta σ H fun x H1 => MtB K T r x H1 σ tr Q) : tBM K T r ta tr σ H Q := h
def MtB0 (K : PySem.W.Frag) (T : String) (r : V → List V → Hp → VK → Prop) (x : V) (H : Hp) (Q : VK) : Prop := tyV K T x H ∧ r x [] H Q
theorem g_bm0 {T : String} {r : V → List V → Hp → VK → Prop} {Q : VK} (h : ta σ H fun x H1 => MtB0 K T r x H1 Q) : tBM0 K T r ta σ H Q := h
theorem g_tyO {l : Addr} {r : V → List V → Hp → VK → Prop} {tr : TA} {Q : VK} (hS : S F m H) (hm : Ls K l ds ∈ m) (h : tr σ H fun xs H2 => r (.ref l) xs H2 Q) : MtB K "list" r (.ref l) H σ tr Q := by
  obtain ⟨vs, h1, h2, _⟩ := own_list hS hm
  exact ⟨.inl ⟨rfl, vs, SqL.of h1⟩, h⟩
theorem g_tyO0 {l : Addr} {r : V → List V → Hp → VK → Prop} {Q : VK} (hS : S F m H) (hm : Ls K l ds ∈ m) (h : r (.ref l) [] H Q) : MtB0 K "list" r (.ref l) H Q := by
  obtain ⟨vs, h1, h2, _⟩ := own_list hS hm
  exact ⟨.inl ⟨rfl, vs, SqL.of h1⟩, h⟩
theorem S.setAt {x y : Sx} {o' : HO} {i : Nat} (h : S F m H) (hi : m[i]? = some x) (ha : y.a = x.a) (ho : ∀ G o, Facts F G → H x.a = some o → x.P G o → y.P G o') : S F (m.set i y) (upd H x.a o') := by
  obtain ⟨G, e, fs, own, nd⟩ := h.ex
  obtain ⟨hl, hx'⟩ := List.getElem?_eq_some_iff.mp hi
  obtain ⟨gx, o, hx, px⟩ := own x (List.mem_of_getElem? hi)
  refine ⟨G, fun b u q => ?_, fs, fun z hz => ?_, ?_⟩
  · have ne : b ≠ x.a := ne_of_none q gx
    rw [upd_ne ne]
    exact e b u q
  · obtain ⟨j, hj⟩ := List.getElem?_of_mem hz
    by_cases hij : i = j
    · subst hij
      rw [List.getElem?_set_self hl] at hj
      cases hj
      exact ⟨by rw [ha]; exact gx, o', by rw [ha]; exact upd_same, ho G o fs hx px⟩
    · rw [List.getElem?_set_ne hij] at hj
      obtain ⟨g, u, q, r⟩ := own z (List.mem_of_getElem? hj)
      have ne : z.a ≠ x.a := fun w => by
        have nd' := nd
        have h1 : (m.map Sx.a)[i]? = some x.a := by rw [List.getElem?_map, hi]; rfl
        have h2 : (m.map Sx.a)[j]? = some x.a := by rw [List.getElem?_map, hj, ← w]; rfl
        obtain ⟨l1, e1⟩ := List.getElem?_eq_some_iff.mp h1
        obtain ⟨l2, e2⟩ := List.getElem?_eq_some_iff.mp h2
        exact hij ((List.getElem_inj nd).mp (e1.trans e2.symm))
      exact ⟨g, u, by rw [upd_ne ne]; exact q, r⟩
  · have : (m.set i y).map Sx.a = m.map Sx.a := by
      rw [List.map_set, ha]
      refine List.ext_getElem? fun j => ?_
      by_cases hij : i = j
      · subst hij
        rw [List.getElem?_set_self (by simpa using hl), List.getElem?_map, hi] <;> rfl
      · rw [List.getElem?_set_ne hij]
    rw [this]
    exact nd
theorem own_at {l : Addr} {i : Nat} (h : S F m H) (hi : m[i]? = some (Ls K l ds)) : ∃ G vs, Same G H ∧ Facts F G ∧ H l = some (.lst vs) ∧ DpAll K G vs ds := by
  obtain ⟨G, e, f, own, nd⟩ := h.ex
  obtain ⟨_, o, ho, vs, rfl, ha⟩ := own _ (List.mem_of_getElem? hi)
  exact ⟨G, vs, e, f, ho, ha⟩
theorem upd_setAt {l : Addr} {i : Nat} {G : Hp} {vs' : List V} {ds' : List PyData} (h : S F m H) (hi : m[i]? = some (Ls K l ds)) (ho : ∀ G vs, Facts F G → H l = some (.lst vs) → DpAll K G vs ds → DpAll K G vs' ds') :
    S F (m.set i (Ls K l ds')) (upd H l (.lst vs')) :=
  h.setAt (x := Ls K l ds) (y := Ls K l ds') hi rfl fun G o f e ⟨vs, h1, h2⟩ => ⟨vs', rfl, ho G vs f (by rw [← h1]; exact e) h2⟩
/-- l.append(v) -/
theorem g_app {l : Addr} {Q : VK} (i : Nat) (hS : S F m H) (hi : m[i]? = some (Ls K l ds)) (hv : Has K F v d) (hz : ds.length < 1000000) (q : ∀ H', S F (m.set i (Ls K l (ds ++ [d]))) H' → Q .non H') : rAppend (.ref l) [v] H Q := by
  obtain ⟨G, vs, e, f, ho, ha⟩ := own_at hS hi
  refine ⟨l, vs, v, rfl, rfl, ho, by rw [ha.len]; exact Nat.lt_of_lt_of_le hz (by decide), q _ (upd_setAt (G := G) hS hi fun G' vs' f' ho' ha' => ?_)⟩
  rw [ho] at ho'
  cases ho'
  exact ha'.app (.cons (hv G' f') .nil)
/-- l.pop() -/
theorem g_pop {l : Addr} {Q : VK} (i : Nat) (hS : S F m H) (hi : m[i]? = some (Ls K l (ds ++ [d]))) (q : ∀ w H', S (dat K w d :: F) (m.set i (Ls K l ds)) H' → Q w H') : rPop (.ref l) [] H Q := by
  obtain ⟨G, vs, e, f, ho, ha⟩ := own_at hS hi
  have hl := ha.len
  rw [List.length_append, List.length_singleton] at hl
  obtain ⟨w, h1, h2⟩ := ha.get (i := ds.length) (d := d) (by simp)
  have hS2 : S (dat K w d :: F) m H := by
    obtain ⟨G2, e2, f2, own, nd⟩ := hS.ex
    obtain ⟨_, o, ho2, vs2, ho3, ha2⟩ := own _ (List.mem_of_getElem? hi)
    have ho2' : H l = some o := ho2
    rw [ho] at ho2'
    cases ho2'
    cases ho3
    obtain ⟨w2, q1, q2⟩ := ha2.get (i := ds.length) (d := d) (by simp)
    rw [h1] at q1
    cases q1
    exact ⟨G2, e2, fun g hg => by cases hg with | head => exact q2 | tail _ hg => exact f2 g hg, own, nd⟩
  refine ⟨l, vs, w, rfl, rfl, ho, by rw [hl]; exact h1, q w _ (upd_setAt (G := G) hS2 hi fun G' vs' f' ho' ha' => ?_)⟩
  rw [ho] at ho'
  cases ho'
  have z := ha'.take ds.length
  rw [List.take_left] at z
  rw [List.dropLast_eq_take, hl]
  exact z
/-- l.extend(t), t a tuple or a list that stays -/
theorem g_ext {l : Addr} {Q : VK} (i : Nat) (hS : S F m H) (hi : m[i]? = some (Ls K l ds)) (hv : Has K F v (.tuple es) ∨ Has K F v (.list es)) (hz : ds.length + es.length < 1000000) (q : ∀ H', S F (m.set i (Ls K l (ds ++ es))) H' → Q .non H') : rExt K (.ref l) [v] H Q := by
  obtain ⟨G, vs, e, f, ho, ha⟩ := own_at hS hi
  have key : ∃ b zs, v = .ref b ∧ (SqT K H b zs ∨ SqL K H b zs) ∧ zs.length = es.length ∧ ∀ H', (H' = upd H l (.lst (vs ++ zs))) → S F (m.set i (Ls K l (ds ++ es))) H' := by
    obtain ⟨G2, e2, f2, own, nd⟩ := id hS.ex
    rcases hv with hv | hv
    · have z := hv G2 f2
      generalize hz : PyData.tuple es = zz at z
      cases z with
      | tup hs hb =>
        cases hz
        refine ⟨_, _, rfl, .inl (same_t e2 hs), hb.len, fun H' hH => ?_⟩
        subst hH
        obtain ⟨_, o, ho2, vs2, ho3, ha2⟩ := own _ (List.mem_of_getElem? hi)
        have ho2' : H l = some o := ho2
        rw [ho] at ho2'
        cases ho2'
        cases ho3
        have hS3 : S (dats K _ es :: F) m H := ⟨G2, e2, fun g hg => by cases hg with | head => exact hb | tail _ hg => exact f2 g hg, own, nd⟩
        refine S.pop (upd_setAt (G := G) hS3 hi fun G' vs' f' ho' ha' => ?_)
        rw [ho] at ho'
        cases ho'
        exact ha'.app (f' _ (.head _))
      | _ => cases hz
    · have z := hv G2 f2
      generalize hz : PyData.list es = zz at z
      cases z with
      | lst hs hb =>
        cases hz
        refine ⟨_, _, rfl, .inr (e2.seq hs), hb.len, fun H' hH => ?_⟩
        subst hH
        obtain ⟨_, o, ho2, vs2, ho3, ha2⟩ := own _ (List.mem_of_getElem? hi)
        have ho2' : H l = some o := ho2
        rw [ho] at ho2'
        cases ho2'
        cases ho3
        have hS3 : S (dats K _ es :: F) m H := ⟨G2, e2, fun g hg => by cases hg with | head => exact hb | tail _ hg => exact f2 g hg, own, nd⟩
        refine S.pop (upd_setAt (G := G) hS3 hi fun G' vs' f' ho' ha' => ?_)
        rw [ho] at ho'
        cases ho'
        exact ha'.app (f' _ (.head _))
      | _ => cases hz
  obtain ⟨b, zs, rfl, hb, hl, hq⟩ := key
  refine ⟨l, b, vs, zs, rfl, rfl, ho, hb, ?_, q _ (hq _ rfl)⟩
  rw [ha.len, hl]
  exact Nat.le_of_lt (Nat.lt_of_lt_of_le hz (by decide))
/-- l[j] = v -/
theorem g_gsub {to ti : TE} {r : TSet} {Q : L2.St → Hp → Prop} (h : to σ H fun o H1 => ti σ H1 fun i H2 => r o i v H2 fun H3 => Q σ H3) : gSub to ti r v σ H Q := h
theorem g_setL {l : Addr} {j : Nat} {k : Int} {Q : Hp → Prop} (i : Nat) (hS : S F m H) (hi : m[i]? = some (Ls K l ds)) (hv : Has K F v d) (hj : ixN ds.length k = some j) (q : ∀ H', S F (m.set i (Ls K l (ds.set j d))) H' → Q H') : rSetL (.ref l) (.int k) v H Q := by
  obtain ⟨G, vs, e, f, ho, ha⟩ := own_at hS hi
  refine ⟨l, vs, k, j, rfl, rfl, ho, by rw [ha.len]; exact hj, q _ (upd_setAt (G := G) hS hi fun G' vs' f' ho' ha' => ?_)⟩
  rw [ho] at ho'
  cases ho'
  exact ha'.set (hv G' f') j
end
section
variable {K : PySem.W.Frag} {F : List Fc} {m : List Sx} {H : Hp} {v : V} {d : PyData} {ds es : List PyData} {Q : VK} {l : Addr} {QH : Hp → Prop}
theorem g_app0 (hS : S F (Ls K l ds :: m) H) (hv : Has K F v d) (hz : ds.length < 1000000) (q : ∀ H', S F (Ls K l (ds ++ [d]) :: m) H' → Q .non H') : rAppend (.ref l) [v] H Q := g_app 0 hS rfl hv hz q
theorem g_pop0 (hS : S F (Ls K l (ds ++ [d]) :: m) H) (q : ∀ w H', S (dat K w d :: F) (Ls K l ds :: m) H' → Q w H') : rPop (.ref l) [] H Q := g_pop 0 hS rfl q
theorem g_ext0 (hS : S F (Ls K l ds :: m) H) (hv : Has K F v (.tuple es) ∨ Has K F v (.list es)) (hz : ds.length + es.length < 1000000) (q : ∀ H', S F (Ls K l (ds ++ es) :: m) H' → Q .non H') : rExt K (.ref l) [v] H Q := g_ext 0 hS rfl hv hz q
theorem g_setL0 {j : Nat} {k : Int} (hS : S F (Ls K l ds :: m) H) (hv : Has K F v d) (hj : ixN ds.length k = some j) (q : ∀ H', S F (Ls K l (ds.set j d) :: m) H' → QH H') : rSetL (.ref l) (.int k) v H QH := g_setL 0 hS rfl hv hj q
theorem g_app1 {x0 : Sx} (hS : S F (x0 :: Ls K l ds :: m) H) (hv : Has K F v d) (hz : ds.length < 1000000) (q : ∀ H', S F (x0 :: Ls K l (ds ++ [d]) :: m) H' → Q .non H') : rAppend (.ref l) [v] H Q := g_app 1 hS rfl hv hz q
theorem g_pop1 {x0 : Sx} (hS : S F (x0 :: Ls K l (ds ++ [d]) :: m) H) (q : ∀ w H', S (dat K w d :: F) (x0 :: Ls K l ds :: m) H' → Q w H') : rPop (.ref l) [] H Q := g_pop 1 hS rfl q
theorem g_ext1 {x0 : Sx} (hS : S F (x0 :: Ls K l ds :: m) H) (hv : Has K F v (.tuple es) ∨ Has K F v (.list es)) (hz : ds.length + es.length < 1000000) (q : ∀ H', S F (x0 :: Ls K l (ds ++ es) :: m) H' → Q .non H') : rExt K (.ref l) [v] H Q := g_ext 1 hS rfl hv hz q
theorem g_setL1 {x0 : Sx} {j : Nat} {k : Int} (hS : S F (x0 :: Ls K l ds :: m) H) (hv : Has K F v d) (hj : ixN ds.length k = some j) (q : ∀ H', S F (x0 :: Ls K l (ds.set j d) :: m) H' → QH H') : rSetL (.ref l) (.int k) v H QH := g_setL 1 hS rfl hv hj q
theorem g_app2 {x0 x1 : Sx} (hS : S F (x0 :: x1 :: Ls K l ds :: m) H) (hv : Has K F v d) (hz : ds.length < 1000000) (q : ∀ H', S F (x0 :: x1 :: Ls K l (ds ++ [d]) :: m) H' → Q .non H') : rAppend (.ref l) [v] H Q := g_app 2 hS rfl hv hz q
theorem g_pop2 {x0 x1 : Sx} (hS : S F (x0 :: x1 :: Ls K l (ds ++ [d]) :: m) H) (q : ∀ w H', S (dat K w d :: F) (x0 :: x1 :: Ls K l ds :: m) H' → Q w H') : rPop (.ref l) [] H Q := g_pop 2 hS rfl q
theorem g_ext2 {x0 x1 : Sx} (hS : S F (x0 :: x1 :: Ls K l ds :: m) H) (hv : Has K F v (.tuple es) ∨ Has K F v (.list es)) (hz : ds.length + es.length < 1000000) (q : ∀ H', S F (x0 :: x1 :: Ls K l (ds ++ es) :: m) H' → Q .non H') : rExt K (.ref l) [v] H Q := g_ext 2 hS rfl hv hz q
theorem g_setL2 {x0 x1 : Sx} {j : Nat} {k : Int} (hS : S F (x0 :: x1 :: Ls K l ds :: m) H) (hv : Has K F v d) (hj : ixN ds.length k = some j) (q : ∀ H', S F (x0 :: x1 :: Ls K l (ds.set j d) :: m) H' → QH H') : rSetL (.ref l) (.int k) v H QH := g_setL 2 hS rfl hv hj q
theorem g_app3 {x0 x1 x2 : Sx} (hS : S F (x0 :: x1 :: x2 :: Ls K l ds :: m) H) (hv : Has K F v d) (hz : ds.length < 1000000) (q : ∀ H', S F (x0 :: x1 :: x2 :: Ls K l (ds ++ [d]) :: m) H' → Q .non H') : rAppend (.ref l) [v] H Q := g_app 3 hS rfl hv hz q
theorem g_pop3 {x0 x1 x2 : Sx} (hS : S F (x0 :: x1 :: x2 :: Ls K l (ds ++ [d]) :: m) H) (q : ∀ w H', S (dat K w d :: F) (x0 :: x1 :: x2 :: Ls K l ds :: m) H' → Q w H') : rPop (.ref l) [] H Q := g_pop 3 hS rfl q
theorem g_ext3 {x0 x1 x2 : Sx} (hS : S F (x0 :: x1 :: x2 :: Ls K l ds :: m) H) (hv : Has K F v (.tuple es) ∨ Has K F v (.list es)) (hz : ds.length + es.length < 1000000) (q : ∀ H', S F (x0 :: x1 :: x2 :: Ls K l (ds ++ es) :: m) H' → Q .non H') : rExt K (.ref l) [v] H Q := g_ext 3 hS rfl hv hz q
theorem g_setL3 {x0 x1 x2 : Sx} {j : Nat} {k : Int} (hS : S F (x0 :: x1 :: x2 :: Ls K l ds :: m) H) (hv : Has K F v d) (hj : ixN ds.length k = some j) (q : ∀ H', S F (x0 :: x1 :: x2 :: Ls K l (ds.set j d) :: m) H' → QH H') : rSetL (.ref l) (.int k) v H QH := g_setL 3 hS rfl hv hj q
theorem g_app4 {x0 x1 x2 x3 : Sx} (hS : S F (x0 :: x1 :: x2 :: x3 :: Ls K l ds :: m) H) (hv : Has K F v d) (hz : ds.length < 1000000) (q : ∀ H', S F (x0 :: x1 :: x2 :: x3 :: Ls K l (ds ++ [d]) :: m) H' → Q .non H') : rAppend (.ref l) [v] H Q := g_app 4 hS rfl hv hz q
theorem g_pop4 {x0 x1 x2 x3 : Sx} (hS : S F (x0 :: x1 :: x2 :: x3 :: Ls K l (ds ++ [d]) :: m) H) (q : ∀ w H', S (dat K w d :: F) (x0 :: x1 :: x2 :: x3 :: Ls K l ds :: m) H' → Q w H') : rPop (.ref l) [] H Q := g_pop 4 hS rfl q
theorem g_ext4 {x0 x1 x2 x3 : Sx} (hS : S F (x0 :: x1 :: x2 :: x3 :: Ls K l ds :: m) H) (hv : Has K F v (.tuple es) ∨ Has K F v (.list es)) (hz : ds.length + es.length < 1000000) (q : ∀ H', S F (x0 :: x1 :: x2 :: x3 :: Ls K l (ds ++ es) :: m) H' → Q .non H') : rExt K (.ref l) [v] H Q := g_ext 4 hS rfl hv hz q
theorem g_setL4 {x0 x1 x2 x3 : Sx} {j : Nat} {k : Int} (hS : S F (x0 :: x1 :: x2 :: x3 :: Ls K l ds :: m) H) (hv : Has K F v d) (hj : ixN ds.length k = some j) (q : ∀ H', S F (x0 :: x1 :: x2 :: x3 :: Ls K l (ds.set j d) :: m) H' → QH H') : rSetL (.ref l) (.int k) v H QH := g_setL 4 hS rfl hv hj q
end
end Qe

namespace Qe
open PySem PySem.Spec PyProof.Rows L2

section
variable {K : PySem.W.Frag} {F : List Fc} {m : List Sx} {H : Hp} {σ : L2.St} {nx bk ct : L2.St → Hp → Prop} {rt : VK} {v x y : V} {d e : PyData} {ds es : List PyData} {ta tb te : TE} {t u : TS} {g : TG} {c : TT}
/-- the loop's end of a turn -/
abbrev At (F : List Fc) (Inv : L2.St → List Sx → Prop) : L2.St → Hp → Prop := fun σ H => ∃ m, Inv σ m ∧ S F m H
def ForJ (J : It) (g : TG) (tb : TS) (D : Ends) (σ : L2.St) (H : Hp) : Prop := ∃ W : Nat → Nat → L2.St → Hp → Prop, (∃ m, W 0 m σ H) ∧ ∀ i m σ H, W i m σ H →
  (J.stop i H ∧ D.nx σ H) ∨ (J.go i H ∧ ∃ N : L2.St → Hp → Prop, (∀ σ' H', N σ' H' → ∃ m', m' < m ∧ W (i + 1) m' σ' H') ∧ ∀ x H', J.yld i H x H' → g x σ H' fun σ2 H2 => tb { D with nx := N, ct := N, bk := D.nx } σ2 H2)
def SeqJ (K : PySem.W.Frag) (x : V) (H1 : Hp) (R : It → Prop) : Prop := ∃ a, x = .ref a ∧ (((∃ xs, SqL K H1 a xs) ∧ R (Itl K a)) ∨ ((∃ xs, SqT K H1 a xs) ∧ R (Itt K a)))
def ForS (K : PySem.W.Frag) (x : V) (g : TG) (tb : TS) (D : Ends) (σ : L2.St) (H : Hp) : Prop := SeqJ K x H fun J => ForJ J g tb D σ H
theorem g_forS {tl : TE} {D : Ends} (h : tl σ H fun x H1 => ForS K x g t D σ H1) : tFor (iSeq K tl) g t D σ H := h
/-- the source: data that stays -/
theorem src_seq {R : It → Prop} (hS : S F m H) (hv : Has K F v (.tuple ds) ∨ Has K F v (.list ds)) :
    ∃ a, v = .ref a ∧ ((∀ m' H', S F m' H' → ∃ xs, SqT K H' a xs ∧ xs.length = ds.length ∧ ∀ (i : Nat) (w : V) (d : PyData), xs[i]? = some w → ds[i]? = some d → S (dat K w d :: F) m' H') ∨
      (∀ m' H', S F m' H' → ∃ xs, SqL K H' a xs ∧ xs.length = ds.length ∧ ∀ (i : Nat) (w : V) (d : PyData), xs[i]? = some w → ds[i]? = some d → S (dat K w d :: F) m' H')) := by
  rcases hv with hv | hv
  · have z := hS.dp hv
    generalize hz : PyData.tuple ds = zz at z
    cases z with
    | tup hs ha =>
      cases hz
      refine ⟨_, rfl, .inl fun m' H' h' => ?_⟩
      obtain ⟨G, e, f, own, nd⟩ := h'.ex
      have z := hv G f
      cases z with
      | tup hs' ha' =>
        refine ⟨_, same_t e hs', ha'.len, fun i w d h1 h2 => ?_⟩
        obtain ⟨w', e1, e2⟩ := ha'.get h2
        rw [h1] at e1
        cases e1
        exact ⟨G, e, fun g hg => by cases hg with | head => exact e2 | tail _ hg => exact f g hg, own, nd⟩
    | _ => cases hz
  · have z := hS.dp hv
    generalize hz : PyData.list ds = zz at z
    cases z with
    | lst hs ha =>
      cases hz
      refine ⟨_, rfl, .inr fun m' H' h' => ?_⟩
      obtain ⟨G, e, f, own, nd⟩ := h'.ex
      have z := hv G f
      cases z with
      | lst hs' ha' =>
        refine ⟨_, e.seq hs', ha'.len, fun i w d h1 h2 => ?_⟩
        obtain ⟨w', e1, e2⟩ := ha'.get h2
        rw [h1] at e1
        cases e1
        exact ⟨G, e, fun g hg => by cases hg with | head => exact e2 | tail _ hg => exact f g hg, own, nd⟩
    | _ => cases hz
theorem g_for (hS : S F m H) (hv : Has K F v (.tuple ds) ∨ Has K F v (.list ds)) (Inv : Nat → L2.St → List Sx → Prop) (h0 : Inv 0 σ m)
    (hs : ∀ i d w σ' m' H', ds[i]? = some d → Inv i σ' m' → S (dat K w d :: F) m' H' → g w σ' H' fun σ2 H2 => t ⟨At F (Inv (i + 1)), rt, nx, At F (Inv (i + 1))⟩ σ2 H2)
    (hd : ∀ σ' m' H', Inv ds.length σ' m' → S F m' H' → nx σ' H') : ForS K v g t ⟨nx, rt, bk, ct⟩ σ H := by
  obtain ⟨a, rfl, h⟩ := src_seq (R := fun _ => True) hS hv
  rcases h with h | h
  · obtain ⟨xs, hx, hl, hw⟩ := h m H hS
    refine ⟨a, rfl, .inr ⟨⟨xs, hx⟩, ?_⟩⟩
    refine ⟨fun i k σ' H' => k = ds.length - i ∧ i ≤ ds.length ∧ At F (Inv i) σ' H', ⟨_, rfl, Nat.zero_le _, m, h0, hS⟩, ?_⟩
    rintro i k σ' H' ⟨rfl, hi, m', p, hS'⟩
    obtain ⟨ys, hy, hyl, hyw⟩ := h m' H' hS'
    by_cases hlt : i < ds.length
    · have e1 : ys[i]? = some ys[i] := List.getElem?_eq_getElem (by omega)
      have e2 : ds[i]? = some ds[i] := List.getElem?_eq_getElem hlt
      refine .inr ⟨⟨ys, ys[i], hy, e1⟩, At F (Inv (i + 1)), fun σ2 H2 p2 => ⟨_, by omega, rfl, hlt, p2⟩, fun x H2 y => ?_⟩
      obtain ⟨rfl, y⟩ := y
      have ex : x = ys[i] := by
        have z := y ys hy
        rw [e1] at z
        exact (Option.some.inj z).symm
      subst ex
      exact hs i _ _ σ' m' _ e2 p (hyw i _ _ e1 e2)
    · have e : i = ds.length := by omega
      subst e
      exact .inl ⟨⟨ys, hy, by omega⟩, hd σ' m' H' p hS'⟩
  · obtain ⟨xs, hx, hl, hw⟩ := h m H hS
    refine ⟨a, rfl, .inl ⟨⟨xs, hx⟩, ?_⟩⟩
    refine ⟨fun i k σ' H' => k = ds.length - i ∧ i ≤ ds.length ∧ At F (Inv i) σ' H', ⟨_, rfl, Nat.zero_le _, m, h0, hS⟩, ?_⟩
    rintro i k σ' H' ⟨rfl, hi, m', p, hS'⟩
    obtain ⟨ys, hy, hyl, hyw⟩ := h m' H' hS'
    by_cases hlt : i < ds.length
    · have e1 : ys[i]? = some ys[i] := List.getElem?_eq_getElem (by omega)
      have e2 : ds[i]? = some ds[i] := List.getElem?_eq_getElem hlt
      refine .inr ⟨⟨ys, ys[i], hy, e1⟩, At F (Inv (i + 1)), fun σ2 H2 p2 => ⟨_, by omega, rfl, hlt, p2⟩, fun x H2 y => ?_⟩
      obtain ⟨rfl, y⟩ := y
      have ex : x = ys[i] := by
        have z := y ys hy
        rw [e1] at z
        exact (Option.some.inj z).symm
      subst ex
      exact hs i _ _ σ' m' _ e2 p (hyw i _ _ e1 e2)
    · have e : i = ds.length := by omega
      subst e
      exact .inl ⟨⟨ys, hy, by omega⟩, hd σ' m' H' p hS'⟩
/-- over an owned list that stays owned, as it is -/
theorem g_forO {l : Addr} (hS : S F m H) (Inv : Nat → L2.St → List Sx → Prop) (h0 : Inv 0 σ m) (hm : ∀ i σ' m', Inv i σ' m' → Ls K l ds ∈ m')
    (hs : ∀ i d w σ' m' H', ds[i]? = some d → Inv i σ' m' → S (dat K w d :: F) m' H' → g w σ' H' fun σ2 H2 => t ⟨At F (Inv (i + 1)), rt, nx, At F (Inv (i + 1))⟩ σ2 H2)
    (hd : ∀ σ' m' H', Inv ds.length σ' m' → S F m' H' → nx σ' H') : ForS K (.ref l) g t ⟨nx, rt, bk, ct⟩ σ H := by
  obtain ⟨xs, hx, hl, hw⟩ := own_list hS (hm _ _ _ h0)
  refine ⟨l, rfl, .inl ⟨⟨xs, SqL.of hx⟩, ?_⟩⟩
  refine ⟨fun i k σ' H' => k = ds.length - i ∧ i ≤ ds.length ∧ At F (Inv i) σ' H', ⟨_, rfl, Nat.zero_le _, m, h0, hS⟩, ?_⟩
  rintro i k σ' H' ⟨rfl, hi, m', p, hS'⟩
  obtain ⟨ys, hy', hyl, hyw⟩ := own_list hS' (hm _ _ _ p)
  have hy : SqL K H' l ys := SqL.of hy'
  by_cases hlt : i < ds.length
  · have e1 : ys[i]? = some ys[i] := List.getElem?_eq_getElem (by omega)
    have e2 : ds[i]? = some ds[i] := List.getElem?_eq_getElem hlt
    refine .inr ⟨⟨ys, ys[i], hy, e1⟩, At F (Inv (i + 1)), fun σ2 H2 p2 => ⟨_, by omega, rfl, hlt, p2⟩, fun x H2 y => ?_⟩
    obtain ⟨rfl, y⟩ := y
    have ex : x = ys[i] := by
      have z := y ys hy
      rw [e1] at z
      exact (Option.some.inj z).symm
    subst ex
    exact hs i _ _ σ' m' _ e2 p (hyw i _ _ e1 e2)
  · have e : i = ds.length := by omega
    subst e
    exact .inl ⟨⟨ys, hy, by omega⟩, hd σ' m' H' p hS'⟩
def ForR1 (vs : List V) (g : TG) (tb : TS) (D : Ends) (σ : L2.St) (H1 : Hp) : Prop := ∃ j : Int, vs = [.int j] ∧ -(2 ^ 62) ≤ j ∧ j < 2 ^ 62 ∧ ForJ (Itr 0 j.toNat) g tb D σ H1
def ForR2 (vs : List V) (g : TG) (tb : TS) (D : Ends) (σ : L2.St) (H1 : Hp) : Prop := ∃ i j : Int, vs = [.int i, .int j] ∧ (-(2 ^ 62) ≤ i ∧ i < 2 ^ 62 ∧ -(2 ^ 62) ≤ j ∧ j < 2 ^ 62) ∧ ForJ (Itr i (j - i).toNat) g tb D σ H1
theorem g_forR1 {tr : TA} {D : Ends} (h : tr σ H fun vs H1 => ForR1 vs g t D σ H1) : tFor (iRng1 tr) g t D σ H := h
theorem g_forR2 {tr : TA} {D : Ends} (h : tr σ H fun vs H1 => ForR2 vs g t D σ H1) : tFor (iRng2 tr) g t D σ H := h
theorem forJ_range {lo : Int} {n : Nat} (hS : S F m H) (Inv : Nat → L2.St → List Sx → Prop) (h0 : Inv 0 σ m)
    (hs : ∀ i σ' m' H', i < n → Inv i σ' m' → S F m' H' → g (.int (lo + (i : Nat))) σ' H' fun σ2 H2 => t ⟨At F (Inv (i + 1)), rt, nx, At F (Inv (i + 1))⟩ σ2 H2)
    (hd : ∀ σ' m' H', Inv n σ' m' → S F m' H' → nx σ' H') : ForJ (Itr lo n) g t ⟨nx, rt, bk, ct⟩ σ H :=
  for_range (fun i σ' H' => At F (Inv i) σ' H') ⟨m, h0, hS⟩ (fun i σ' H' hi ⟨m', p, hS'⟩ => hs i σ' m' H' hi p hS') fun σ' H' ⟨m', p, hS'⟩ => hd σ' m' H' p hS'
theorem g_range {n : Int} (hS : S F m H) (hn : -(2 ^ 62) ≤ n ∧ n < 2 ^ 62) (Inv : Nat → L2.St → List Sx → Prop) (h0 : Inv 0 σ m)
    (hs : ∀ (i : Nat) σ' m' H', (i : Int) < n → Inv i σ' m' → S F m' H' → g (.int (i : Nat)) σ' H' fun σ2 H2 => t ⟨At F (Inv (i + 1)), rt, nx, At F (Inv (i + 1))⟩ σ2 H2)
    (hd : ∀ σ' m' H', Inv n.toNat σ' m' → S F m' H' → nx σ' H') : ForR1 [.int n] g t ⟨nx, rt, bk, ct⟩ σ H :=
  ⟨n, rfl, hn.1, hn.2, forJ_range hS Inv h0 (fun i σ' m' H' hi p q => by rw [Int.zero_add]; exact hs i σ' m' H' (by omega) p q) hd⟩
/-- while -/
def WhB (W : Nat → L2.St → Hp → Prop) (tb : TS) (D : Ends) (k : Nat) (σ : L2.St) (b : Bool) (H1 : Hp) : Prop :=
  if b = true then ∃ N : L2.St → Hp → Prop, (∀ σ' H', N σ' H' → ∃ m', m' < k ∧ W m' σ' H') ∧ tb { D with nx := N, ct := N, bk := D.nx } σ H1 else D.nx σ H1
theorem g_while (hS : S F m H) (Inv : Nat → L2.St → List Sx → Prop) (k0 : Nat) (h0 : Inv k0 σ m)
    (hs : ∀ k σ' m' H', Inv k σ' m' → S F m' H' → c σ' H' fun b H1 => if b = true then t ⟨fun σ3 H3 => ∃ k3, k3 < k ∧ At F (Inv k3) σ3 H3, rt, nx, fun σ3 H3 => ∃ k3, k3 < k ∧ At F (Inv k3) σ3 H3⟩ σ' H1 else nx σ' H1)
    (mono : ∀ σ H Q Q', (∀ b H1, Q b H1 → Q' b H1) → c σ H Q → c σ H Q') : tWhile c t ⟨nx, rt, bk, ct⟩ σ H := by
  refine ⟨fun k σ' H' => At F (Inv k) σ' H', ⟨k0, m, h0, hS⟩, ?_⟩
  rintro k σ' H' ⟨m', p, hS'⟩
  refine mono σ' H' _ _ (fun b H1 q => ?_) (hs k σ' m' H' p hS')
  cases b with
  | true => exact ⟨_, fun σ3 H3 ⟨k3, l, w⟩ => ⟨k3, l, w⟩, q⟩
  | false => exact q
/-! ### list comprehensions -/
def LcJ (J : It) (g : TG) (tt : TT) (te : TE) (vs : List Nat) (σ : L2.St) (H1 : Hp) (Q : VK) : Prop := ∀ D, H1 D = none → ∃ W : Nat → Nat → Hp → Prop, (∃ m, W 0 m (upd H1 D (.lst []))) ∧ ∀ i m H, W i m H →
  (J.stop i H ∧ Q (.ref D) H) ∨ (J.go i H ∧ ∃ Nx : Hp → Prop, (∀ H', Nx H' → ∃ m', m' < m ∧ W (i + 1) m' H') ∧ ∀ x H', J.yld i H x H' → g x (wipe σ vs) H' fun σ2 H2 => wipe σ2 vs = wipe σ vs ∧ tt σ2 H2 fun b H3 =>
    if b = true then te σ2 H3 fun y H4 => ∃ acc, H4 D = some (.lst acc) ∧ acc.length < sizeLine ∧ Nx (upd H4 D (.lst (acc ++ [y]))) else Nx H3)
def LcS (K : PySem.W.Frag) (x : V) (g : TG) (tt : TT) (te : TE) (vs : List Nat) (σ : L2.St) (H : Hp) (Q : VK) : Prop := SeqJ K x H fun J => LcJ J g tt te vs σ H Q
variable {tt : TT} {ws : List Nat} {Q : VK}
theorem g_lcS {tl : TE} (h : tl σ H fun x H1 => LcS K x g tt te ws σ H1 Q) : tLc (iSeq K tl) g tt te ws σ H Q := h
def LcR1 (vs : List V) (g : TG) (tt : TT) (te : TE) (ws : List Nat) (σ : L2.St) (H : Hp) (Q : VK) : Prop := ∃ j : Int, vs = [.int j] ∧ -(2 ^ 62) ≤ j ∧ j < 2 ^ 62 ∧ LcJ (Itr 0 j.toNat) g tt te ws σ H Q
theorem g_lcR1 {tr : TA} (h : tr σ H fun vs H1 => LcR1 vs g tt te ws σ H1 Q) : tLc (iRng1 tr) g tt te ws σ H Q := h
/-- a turn of a comprehension: the new list at D has acc; kept: one more -/
def LcT (K : PySem.W.Frag) (F : List Fc) (Inv : List PyData → List Sx → Prop) (D : Addr) (acc : List PyData) (tt : TT) (te : TE) (σ0 : L2.St) (ws : List Nat) : L2.St → Hp → Prop := fun σ2 H2 =>
  wipe σ2 ws = σ0 ∧ tt σ2 H2 fun b H3 => if b = true then te σ2 H3 fun y H4 => ∃ e m4, Inv (acc ++ [e]) m4 ∧ S (dat K y e :: F) (Ls K D acc :: m4) H4 else ∃ m4, Inv acc m4 ∧ S F (Ls K D acc :: m4) H3
def MonoTE (te : TE) : Prop := ∀ σ H (Q Q' : VK), (∀ v H1, Q v H1 → Q' v H1) → te σ H Q → te σ H Q'
def MonoTT (tt : TT) : Prop := ∀ σ H (Q Q' : Bool → Hp → Prop), (∀ v H1, Q v H1 → Q' v H1) → tt σ H Q → tt σ H Q'
def MonoTG (g : TG) : Prop := ∀ v σ H (Q Q' : L2.St → Hp → Prop), (∀ v H1, Q v H1 → Q' v H1) → g v σ H Q → g v σ H Q'
theorem lc_turn {Inv : List PyData → List Sx → Prop} {Nx : Hp → Prop} {D : Addr} {acc : List PyData} (mg : MonoTG g) (mt : MonoTT tt) (me : MonoTE te) (hz : acc.length < 1000000)
    (hN : ∀ acc' m' H', acc'.length ≤ acc.length + 1 → Inv acc' m' → S F (Ls K D acc' :: m') H' → Nx H') {σ1 : L2.St}
    (h : g x σ1 H (LcT K F Inv D acc tt te σ1 ws)) : g x σ1 H fun σ2 H2 => wipe σ2 ws = σ1 ∧ tt σ2 H2 fun b H3 => if b = true then te σ2 H3 fun y H4 => ∃ acc, H4 D = some (.lst acc) ∧ acc.length < sizeLine ∧ Nx (upd H4 D (.lst (acc ++ [y]))) else Nx H3 := by
  refine mg _ _ _ _ _ (fun σ2 H2 ⟨h1, h2⟩ => ⟨h1, mt _ _ _ _ (fun b H3 h3 => ?_) h2⟩) h
  cases b with
  | true =>
    refine me _ _ _ _ (fun y H4 h4 => ?_) h3
    obtain ⟨e, m4, hi, hS⟩ := h4
    obtain ⟨G, vs, _, f, ho, ha⟩ := own_at (i := 0) (ds := acc) hS rfl
    refine ⟨vs, ho, by rw [ha.len]; exact Nat.lt_of_lt_of_le hz (by decide), hN (acc ++ [e]) m4 _ (by simp) hi (S.pop (upd_setAt (i := 0) (G := G) hS rfl fun G' vs' f' ho' ha' => ?_))⟩
    rw [ho] at ho'
    cases ho'
    exact ha'.app (.cons (f' _ (.head _)) .nil)
  | false =>
    obtain ⟨m4, hi, hS⟩ := h3
    exact hN acc m4 _ (Nat.le_succ _) hi hS
theorem g_lc (hS : S F m H) (hv : Has K F v (.tuple ds) ∨ Has K F v (.list ds)) (mg : MonoTG g) (mt : MonoTT tt) (me : MonoTE te) (hz : ds.length < 1000000) (Inv : Nat → List PyData → List Sx → Prop) (h0 : Inv 0 [] m)
    (hs : ∀ i d w D acc m' H', ds[i]? = some d → acc.length ≤ i → Inv i acc m' → S (dat K w d :: F) (Ls K D acc :: m') H' → g w (wipe σ ws) H' (LcT K F (Inv (i + 1)) D acc tt te (wipe σ ws) ws))
    (hd : ∀ D acc m' H', acc.length ≤ ds.length → Inv ds.length acc m' → S F (Ls K D acc :: m') H' → Q (.ref D) H') : LcS K v g tt te ws σ H Q := by
  obtain ⟨a, rfl, h⟩ := src_seq (R := fun _ => True) hS hv
  rcases h with h | h
  · obtain ⟨xs, hx, hl, hw⟩ := h m H hS
    refine ⟨a, rfl, .inr ⟨⟨xs, hx⟩, fun D hD => ?_⟩⟩
    refine ⟨fun i k H' => k = ds.length - i ∧ i ≤ ds.length ∧ ∃ acc m', acc.length ≤ i ∧ Inv i acc m' ∧ S F (Ls K D acc :: m') H', ⟨_, rfl, Nat.zero_le _, [], m, Nat.le_refl _, h0, hS.put hD (Ls K D []) rfl fun G g => ⟨[], rfl, .nil⟩⟩, ?_⟩
    rintro i k H' ⟨rfl, hi, acc, m', hacc, p, hS'⟩
    obtain ⟨ys, hy, hyl, hyw⟩ := h _ H' hS'
    by_cases hlt : i < ds.length
    · have e1 : ys[i]? = some ys[i] := List.getElem?_eq_getElem (by omega)
      have e2 : ds[i]? = some ds[i] := List.getElem?_eq_getElem hlt
      refine .inr ⟨⟨ys, ys[i], hy, e1⟩, fun H2 => ∃ acc m', acc.length ≤ i + 1 ∧ Inv (i + 1) acc m' ∧ S F (Ls K D acc :: m') H2, fun H2 p2 => ⟨_, by omega, rfl, hlt, p2⟩, fun x H2 y => ?_⟩
      obtain ⟨rfl, y⟩ := y
      have ex : x = ys[i] := by
        have z := y ys hy
        rw [e1] at z
        exact (Option.some.inj z).symm
      subst ex
      exact lc_turn (acc := acc) (Inv := Inv (i + 1)) mg mt me (by omega) (fun acc' m2 H2 hl2 h2 h3 => ⟨acc', m2, by omega, h2, h3⟩) (hs i _ _ D acc m' _ e2 hacc p (hyw i _ _ e1 e2))
    · have e : i = ds.length := by omega
      subst e
      exact .inl ⟨⟨ys, hy, by omega⟩, hd D acc m' H' hacc p hS'⟩
  · obtain ⟨xs, hx, hl, hw⟩ := h m H hS
    refine ⟨a, rfl, .inl ⟨⟨xs, hx⟩, fun D hD => ?_⟩⟩
    refine ⟨fun i k H' => k = ds.length - i ∧ i ≤ ds.length ∧ ∃ acc m', acc.length ≤ i ∧ Inv i acc m' ∧ S F (Ls K D acc :: m') H', ⟨_, rfl, Nat.zero_le _, [], m, Nat.le_refl _, h0, hS.put hD (Ls K D []) rfl fun G g => ⟨[], rfl, .nil⟩⟩, ?_⟩
    rintro i k H' ⟨rfl, hi, acc, m', hacc, p, hS'⟩
    obtain ⟨ys, hy, hyl, hyw⟩ := h _ H' hS'
    by_cases hlt : i < ds.length
    · have e1 : ys[i]? = some ys[i] := List.getElem?_eq_getElem (by omega)
      have e2 : ds[i]? = some ds[i] := List.getElem?_eq_getElem hlt
      refine .inr ⟨⟨ys, ys[i], hy, e1⟩, fun H2 => ∃ acc m', acc.length ≤ i + 1 ∧ Inv (i + 1) acc m' ∧ S F (Ls K D acc :: m') H2, fun H2 p2 => ⟨_, by omega, rfl, hlt, p2⟩, fun x H2 y => ?_⟩
      obtain ⟨rfl, y⟩ := y
      have ex : x = ys[i] := by
        have z := y ys hy
        rw [e1] at z
        exact (Option.some.inj z).symm
      subst ex
      exact lc_turn (acc := acc) (Inv := Inv (i + 1)) mg mt me (by omega) (fun acc' m2 H2 hl2 h2 h3 => ⟨acc', m2, by omega, h2, h3⟩) (hs i _ _ D acc m' _ e2 hacc p (hyw i _ _ e1 e2))
    · have e : i = ds.length := by omega
      subst e
      exact .inl ⟨⟨ys, hy, by omega⟩, hd D acc m' H' hacc p hS'⟩
theorem g_lcR {n : Int} (hS : S F m H) (hn : -(2 ^ 62) ≤ n ∧ n < 1000000) (mg : MonoTG g) (mt : MonoTT tt) (me : MonoTE te) (Inv : Nat → List PyData → List Sx → Prop) (h0 : Inv 0 [] m)
    (hs : ∀ (i : Nat) D acc m' H', (i : Int) < n → acc.length ≤ i → Inv i acc m' → S F (Ls K D acc :: m') H' → g (.int (i : Nat)) (wipe σ ws) H' (LcT K F (Inv (i + 1)) D acc tt te (wipe σ ws) ws))
    (hd : ∀ D acc m' H', acc.length ≤ n.toNat → Inv n.toNat acc m' → S F (Ls K D acc :: m') H' → Q (.ref D) H') : LcR1 [.int n] g tt te ws σ H Q := by
  refine ⟨n, rfl, hn.1, by omega, fun D hD => ?_⟩
  refine ⟨fun i k H' => k = n.toNat - i ∧ i ≤ n.toNat ∧ ∃ acc m', acc.length ≤ i ∧ Inv i acc m' ∧ S F (Ls K D acc :: m') H', ⟨_, rfl, Nat.zero_le _, [], m, Nat.le_refl _, h0, hS.put hD (Ls K D []) rfl fun G g => ⟨[], rfl, .nil⟩⟩, ?_⟩
  rintro i k H' ⟨rfl, hi, acc, m', hacc, p, hS'⟩
  by_cases hlt : i < n.toNat
  · refine .inr ⟨hlt, fun H2 => ∃ acc m', acc.length ≤ i + 1 ∧ Inv (i + 1) acc m' ∧ S F (Ls K D acc :: m') H2, fun H2 p2 => ⟨_, by omega, rfl, hlt, p2⟩, fun x H2 y => ?_⟩
    obtain ⟨rfl, rfl⟩ := y
    refine lc_turn (acc := acc) (Inv := Inv (i + 1)) mg mt me (by omega) (fun acc' m2 H2 hl2 h2 h3 => ⟨acc', m2, by omega, h2, h3⟩) ?_
    rw [Int.zero_add]
    exact hs i D acc m' _ (by omega) hacc p hS'
  · have e : i = n.toNat := by omega
    subst e
    exact .inl ⟨Nat.le_refl _, hd D acc m' H' hacc p hS'⟩
theorem g_lcT {Inv : List PyData → List Sx → Prop} {D : Addr} {acc : List PyData} {i : Nat} {σ0 : L2.St} (h1 : wipe (σ0.set i (some v)) ws = σ0)
    (h : tt (σ0.set i (some v)) H fun b H3 => if b = true then te (σ0.set i (some v)) H3 fun y H4 => ∃ e m4, Inv (acc ++ [e]) m4 ∧ S (dat K y e :: F) (Ls K D acc :: m4) H4 else ∃ m4, Inv acc m4 ∧ S F (Ls K D acc :: m4) H3) :
    gName i v σ0 H (LcT K F Inv D acc tt te σ0 ws) := ⟨h1, h⟩
theorem g_yes {QB : Bool → Hp → Prop} (h : QB true H) : tYes σ H QB := h
/-- sum of a list of ints -/
theorem g_sum {ns : List Int} (hS : S F m H) (hv : Has K F v (.list (ns.map PyData.int))) (q : Q (.int ns.sum) H) : rSum K [v] H Q := by
  have z := hS.dp hv
  cases z with
  | lst hs ha =>
    have e := ha.ints
    subst e
    exact ⟨_, ns, rfl, hs, q⟩
theorem g_sumO {l : Addr} {ns : List Int} (hS : S F m H) (hm : Ls K l (ns.map PyData.int) ∈ m) (q : Q (.int ns.sum) H) : rSum K [.ref l] H Q := by
  obtain ⟨G, e, f, own, nd⟩ := hS.ex
  obtain ⟨_, o, ho, vs, rfl, ha⟩ := own _ hm
  have e := ha.ints
  subst e
  exact ⟨_, ns, rfl, SqL.of ho, q⟩
theorem frzL {l : Addr} (h : S F (Ls K l ds :: m) H) : S (dat K (.ref l) (.list ds) :: F) m H := h.frz _ fun G o f ⟨vs, h1, h2⟩ h3 => .lst (SqL.of (by rw [h1] at h3; exact h3)) h2
end
end Qe

namespace Qe
open PySem PySem.Spec PyProof.Rows L2

/-! ### + of ints, texts, lists, tuples -/
def rAddStr : R2 := fun x y H Q => ∃ i j, x = .str i ∧ y = .str j ∧ i.length + j.length ≤ sizeLine ∧ Q (.str (i ++ j)) H
def rCatL (K : PySem.W.Frag) : R2 := fun x y H Q => ∃ l b xs zs, x = .ref l ∧ y = .ref b ∧ SqL K H l xs ∧ SqL K H b zs ∧ xs.length + zs.length ≤ sizeLine ∧ ∀ p, H p = none → Q (.ref p) (upd H p (.lst (xs ++ zs)))
theorem op_catL {X : Cx} : OpR X (binaryOp .Add) (rCatL X.K) := by
  intro pins s σ H x y v u Q I rx ry h
  obtain ⟨l, b, xs, zs, rfl, rfl, hH, hB, hz, q⟩ := h
  cases rx
  cases ry
  obtain ⟨its, r, ⟨⟨c1, d1, t1, s1⟩, n1, e1, hc1, hz1, hd1⟩, hl⟩ := I.list hH
  obtain ⟨its2, r2, ⟨⟨c2, d2, t2, s2⟩, n2, e2, hc2, hz2, hd2⟩, hl2⟩ := I.list hB
  simp only at hc1 hz1 hd1 hc2 hz2 hd2
  subst hc1 hz1 hd1 hc2 hz2 hd2
  have q1 := r.length
  have q2 := r2.length
  have ea : its.toArray ++ its2.toArray = (its ++ its2).toArray := by simp
  refine concat_meets ⟨_, e1, rfl⟩ ⟨_, e2, rfl⟩ noFill_list_add seq_list_add F.slot_list_add F.entry_list_add (F.args_list_add_2 _ _) (list_addW l b its.toArray its2.toArray n1 n2 none none s1 s2 (by rw [List.size_toArray, List.size_toArray]; omega)) ⟨e1, e2, ?_⟩
  rw [ea]
  exact ⟨.ref _, _, I.lnew (t' := s.toks) (r.append r2) (by rw [List.length_append]; omega), rfl, q _ I.fresh⟩
def rAddU (K : PySem.W.Frag) : R2 := fun x y H Q => rAddI x y H Q ∨ rAddStr x y H Q ∨ rCatA K x y H Q ∨ rCatL K x y H Q
theorem op_addU {X : Cx} : OpR X (binaryOp .Add) (rAddU X.K) := OpR.or op_addI (OpR.or op_add_str (OpR.or op_catA op_catL))
/-! ### isinstance -/
def tyOf : PyData → String
  | .none => "NoneType"
  | .bool _ => "bool"
  | .int _ => "int"
  | .str _ => "str"
  | .list _ => "list"
  | .tuple _ => "tuple"
  | .dict _ => "dict"
section
variable {K : PySem.W.Frag} {F : List Fc} {m : List Sx} {H : Hp} {σ : L2.St} {Q : VK} {v x y : V} {d e : PyData} {ds es : List PyData} {ta tb : TE} {QB : Bool → Hp → Prop}
theorem tyx {G : Hp} (h : Dp K G v d) : TyX K G v (.type (tyOf d)) := by
  cases h with
  | non => exact .base .non
  | bl b => exact .base (.bl b)
  | int i => exact .base (.int i)
  | str x => exact .base (.str x)
  | lst hs ha =>
    rcases hs with (h | ⟨o, h⟩) | ⟨o, its, n, e, hc, _⟩
    · exact .base (.lst h)
    · exact .base (.frz h)
    · exact .kList e hc
  | tup hs ha =>
    rcases hs with (h | ⟨o, h⟩) | h
    · exact .base (.tup h)
    · exact .fTuple h
    · obtain ⟨o, its, n, e, hc, _⟩ := h
      exact .kTuple e hc
def isiB (n : String) (d : PyData) : Bool := (kitB (tyOf d) n).getD false
theorem g_isi {n : String} (hS : S F m H) (hv : Has K F v d) (hk : (kitB (tyOf d) n).isSome = true) (q : Q (.bl (isiB n d)) H) : rIsi K [v, .ty n] H Q := by
  obtain ⟨b, hb⟩ := Option.isSome_iff_exists.mp hk
  refine ⟨v, .ty n, _, _, b, rfl, .ty n, tyx (hS.dp hv), kit_ty hb, ?_⟩
  have e : isiB n d = b := by unfold isiB; rw [hb] <;> rfl
  rw [← e]
  exact q
theorem kit_some (n : String) (hn : n = "int" ∨ n = "bool" ∨ n = "str" ∨ n = "list" ∨ n = "tuple") : ∀ d : PyData, (kitB (tyOf d) n).isSome = true := by
  intro d
  rcases hn with rfl | rfl | rfl | rfl | rfl <;> cases d <;> (dsimp only [tyOf]; decide +kernel)
def isD (n : String) : PyData → Bool
  | .none => false
  | .bool _ => n == "bool" || n == "int"
  | .int _ => n == "int"
  | .str _ => n == "str"
  | .list _ => n == "list"
  | .tuple _ => n == "tuple"
  | .dict _ => false
theorem isi_eq (n : String) (hn : n = "int" ∨ n = "bool" ∨ n = "str" ∨ n = "list" ∨ n = "tuple") : ∀ d : PyData, isiB n d = isD n d := by
  intro d
  rcases hn with rfl | rfl | rfl | rfl | rfl <;> cases d <;> (dsimp only [isiB, isD, tyOf]; decide +kernel)
theorem g_isiN {n : String} (hS : S F m H) (hv : Has K F v d) (hn : n = "int" ∨ n = "bool" ∨ n = "str" ∨ n = "list" ∨ n = "tuple") (q : Q (.bl (isD n d)) H) : rIsi K [v, .ty n] H Q :=
  g_isi hS hv (kit_some n hn d) (by rw [isi_eq n hn]; exact q)
def isSeqD : PyData → Bool
  | .list _ => true
  | .tuple _ => true
  | _ => false
theorem kitAny2 {a : String} {b1 b2 : Bool} (h1 : kitB a "list" = some b1) (h2 : kitB a "tuple" = some b2) : PySem.W.kitAny K (.type a) [.type "list", .type "tuple"] = some (b1 || b2) := by
  have e1 : PySem.W.kitOne K (.type a) (.type "list") = some b1 := kit_ty h1
  have e2 : PySem.W.kitOne K (.type a) (.type "tuple") = some b2 := kit_ty h2
  simp only [PySem.W.kitAny, e1, e2]
  cases b1 <;> cases b2 <;> rfl
theorem g_isiT (hS : S F m H) (hv : Has K F v d) (q : ∀ H', S F m H' → Q (.bl (isSeqD d)) H') (R : VK) (hR : ∀ p H', rIsiT K [v, .ref p] H' Q → R (.ref p) H') : MkT [V.ty "list", .ty "tuple"] H R := by
  refine ⟨by decide, fun p hp => hR _ _ ?_⟩
  have hS' : S F m (upd H p (.tup [.ty "list", .ty "tuple"])) := S.pop (hS.putF (o := .tup [.ty "list", .ty "tuple"]) hp ⟨fun _ => True, fun _ _ _ h => h⟩ fun _ _ _ => trivial)
  have hh : ∃ b, PySem.W.kitAny K (.type (tyOf d)) [.type "list", .type "tuple"] = some b ∧ b = isSeqD d := by
    cases d <;> (dsimp only [tyOf, isSeqD]; first | exact ⟨_, kitAny2 (b1 := false) (b2 := false) (by decide +kernel) (by decide +kernel), rfl⟩ | exact ⟨_, kitAny2 (b1 := true) (b2 := false) (by decide +kernel) (by decide +kernel), rfl⟩ | exact ⟨_, kitAny2 (b1 := false) (b2 := true) (by decide +kernel) (by decide +kernel), rfl⟩)
  obtain ⟨b, hb, e⟩ := hh
  refine ⟨v, p, _, _, _, b, rfl, upd_same, .cons (.ty "list") (.cons (.ty "tuple") .nil), tyx (hS'.dp hv), hb, ?_⟩
  rw [e]
  exact q _ hS'
theorem g_addUI {i j : Int} (q : Q (.int (i + j)) H) : rAddU K (.int i) (.int j) H Q := .inl ⟨i, j, rfl, rfl, q⟩
theorem g_addUS {i j : Str} (hz : i.length + j.length ≤ sizeLine) (q : Q (.str (i ++ j)) H) : rAddU K (.str i) (.str j) H Q := .inr (.inl ⟨i, j, rfl, rfl, hz, q⟩)
theorem g_addUT (hS : S F m H) (hx : Has K F x (.tuple ds)) (hy : Has K F y (.tuple es)) (hz : ds.length + es.length ≤ 1000000) (q : ResH K F m (.tuple (ds ++ es)) Q) : rAddU K x y H Q := by
  obtain ⟨G, ee, f, own, nd⟩ := hS.ex
  have z1 := hx G f
  have z2 := hy G f
  cases z1 with
  | tup h1 a1 =>
    cases z2 with
    | tup h2 a2 =>
      have l1 := a1.len
      have l2 := a2.len
      refine .inr (.inr (.inl ⟨_, _, _, _, rfl, rfl, same_t ee h1, same_t ee h2, ?_, fun e => ?_, fun _ e => ?_, fun _ _ p hp => ?_⟩))
      · rw [l1, l2]
        exact Nat.le_trans hz (by decide)
      · rw [e] at l1
        have e0 : ds = [] := List.length_eq_zero_iff.mp l1.symm
        subst e0
        rw [List.nil_append] at q
        exact q _ _ (hS.addD hy)
      · rw [e] at l2
        have e0 : es = [] := List.length_eq_zero_iff.mp l2.symm
        subst e0
        rw [List.append_nil] at q
        exact q _ _ (hS.addD hx)
      · exact q _ _ (putG ee f own nd hp _ fun G' s' e' => .tup (SqT.of e') ((dps_mono s' _ _ a1).app (dps_mono s' _ _ a2)))
/-- list + list: a new list, owned -/
theorem g_addUL (hS : S F m H) (hx : Has K F x (.list ds) ∨ ∃ l, x = .ref l ∧ Ls K l ds ∈ m) (hy : Has K F y (.list es) ∨ ∃ l, y = .ref l ∧ Ls K l es ∈ m) (hz : ds.length + es.length ≤ 1000000) (q : ∀ p H', S F (Ls K p (ds ++ es) :: m) H' → Q (.ref p) H') : rAddU K x y H Q := by
  obtain ⟨G, ee, f, own, nd⟩ := hS.ex
  have key : ∀ {z : V} {us : List PyData}, (Has K F z (.list us) ∨ ∃ l, z = .ref l ∧ Ls K l us ∈ m) → ∃ a vs, z = .ref a ∧ SqL K H a vs ∧ DpAll K G vs us := by
    intro z us h
    rcases h with h | ⟨l, rfl, h⟩
    · have z1 := h G f
      cases z1 with
      | lst h1 a1 => exact ⟨_, _, rfl, ee.seq h1, a1⟩
    · obtain ⟨_, o, ho, vs, rfl, ha⟩ := own _ h
      exact ⟨l, vs, rfl, SqL.of ho, ha⟩
  obtain ⟨a, xs, rfl, h1, a1⟩ := key hx
  obtain ⟨b, ys, rfl, h2, a2⟩ := key hy
  refine .inr (.inr (.inr ⟨a, b, xs, ys, rfl, rfl, h1, h2, ?_, fun p hp => q p _ (putO ee f own nd hp (Ls K p (ds ++ es)) rfl ⟨_, rfl, a1.app a2⟩)⟩))
  rw [a1.len, a2.len]
  exact Nat.le_trans hz (by decide)
theorem g_chain {r r' : R2} {tc : TE} (h : ta σ H fun x H1 => tb σ H1 fun y H2 => r x y H2 fun z H3 => ∃ k, z = .bl k ∧ (if k = true then tc σ H3 fun w' H4 => r' y w' H4 Q else Q (.bl false) H3)) : tChain r r' ta tb tc σ H Q := h
def NotR (K : PySem.W.Frag) (x : V) (H : Hp) (Q : VK) : Prop := ∃ k, TruV K x H k ∧ Q (.bl (!k)) H
theorem g_notT (h : ta σ H fun x H1 => NotR K x H1 Q) : tNotT K ta σ H Q := by
  have e : (fun (x : V) (H1 : Hp) => NotR K x H1 Q) = fun x H1 => ∃ k, TruV K x H1 k ∧ Q (.bl (!k)) H1 := rfl
  exact h
theorem g_notB {b : Bool} (q : Q (.bl (!b)) H) : NotR K (.bl b) H Q := ⟨b, rfl, q⟩
/-! ### slices -/
def cutD (xs : List PyData) (lo hi : Option Int) : List PyData := (xs.drop (HT.sIx xs.length 0 lo)).take (HT.sIx xs.length xs.length hi - HT.sIx xs.length 0 lo)
end
theorem sl_strU {X : Cx} : SlR X rSlS := sl_str
def rSlU (K : PySem.W.Frag) : V → Option Int → Option Int → Hp → VK → Prop := fun x lo hi H Q => rSlL K x lo hi H Q ∨ rSlA K x lo hi H Q ∨ rSlS x lo hi H Q
theorem SlR.or' {X : Cx} {r r' : V → Option Int → Option Int → Hp → VK → Prop} (h : SlR X r) (h' : SlR X r') : SlR X (fun x lo hi H Q => r x lo hi H Q ∨ r' x lo hi H Q) := by
  intro pins s σ H x v vl vu lo hi sl Q I rx hs pl pu q
  rcases q with q | q
  · exact h pins s σ H x v vl vu lo hi sl Q I rx hs pl pu q
  · exact h' pins s σ H x v vl vu lo hi sl Q I rx hs pl pu q
/-- list * int -/
def rMulU : R2 := fun x y H Q => rMulI x y H Q ∨ rRep x y H Q
theorem op_mulU {X : Cx} : OpR X (binaryOp .Mult) rMulU := OpR.or op_mulI op_rep
theorem sl_U {X : Cx} : SlR X (rSlU X.K) := SlR.or' sl_list (SlR.or' sl_tupA sl_str)
end Qe

namespace Qe
open PySem PySem.Spec PyProof.Rows L2

/-- a def of the module that keeps its promise -/
structure Fn (P : Program) (w : World) (K : PySem.W.Frag) (mg : Str → Option Value) (base : Heap) (CX : CXT) (k : Nat) (x : Str) (ps : List Str) (sp : Sp) : Prop where
  ex : ∃ f fd, mg x = some (.ref f) ∧ PySem.W.keepIn K (.ref f) = true ∧ Binds K fd ps [] ∧ FnOk P w K mg base CX k f fd ps sp
theorem pe_fn {X : Cx} {CX : CXT} {k : Nat} {x : Str} {ps : List Str} {sp : Sp} {e : Expr} {es : List Expr} {t : TA} {p pos : Pos} {E : XK} (h : Fn X.prog X.w X.K X.mg X.base CX k x ps sp) (hr : Room k X.A) (hx : Passes CX X E) (ha : PA X (e :: es) t) (hg : Gl X x := by rfl)
    (hd : (x == ("__debug__" : Str)) = false := by decide +kernel)
    (he : starEach (e :: es) X.env = (false, eval e X.env) :: starEach es X.env := by rfl) (hpl : (backTo pos (starEach es X.env)).any (·.1) = false := by rfl) :
    PE X (.Call (.Name x p) (e :: es) [] pos) (tCall sp [] E t) := by
  obtain ⟨f, fd, hm, hk, hb, F⟩ := h.ex
  exact pe_call F hr hg hm hk hb .nil hx ha hd he hpl
theorem pe_globI {X : Cx} {x : Str} {i : Int} {pos : Pos} (hg : Gl X x) (hm : ∃ t, X.mg x = some (.int i t)) (hd : (x == ("__debug__" : Str)) = false := by decide +kernel) : PE X (.Name x pos) (tC (.int i)) := by
  obtain ⟨t, hm⟩ := hm
  exact pe_glob hg hm ⟨t, rfl⟩ hd
/-- the built-in names that the module does not bind -/
structure Tx (mg : Str → Option Value) : Prop where
  isinstance : mg "isinstance" = none
  len : mg "len" = none
  int : mg "int" = none
  bool : mg "bool" = none
  str : mg "str" = none
  list : mg "list" = none
  tuple : mg "tuple" = none
  range : mg "range" = none
  sum : mg "sum" = none
  sorted : mg "sorted" = none
  enumerate : mg "enumerate" = none
  reversed : mg "reversed" = none
  set : mg "set" = none
  dict : mg "dict" = none
  ValueError : mg "ValueError" = none
  LookupError : mg "LookupError" = none
  ArithmeticError : mg "ArithmeticError" = none
def txFa : List He.Fa := [.free "isinstance", .free "len", .free "int", .free "bool", .free "str", .free "list", .free "tuple", .free "range", .free "sum", .free "sorted", .free "enumerate", .free "reversed", .free "set", .free "dict", .free "ValueError", .free "LookupError", .free "ArithmeticError"]
theorem tx_of {K : PySem.W.Frag} {h : Heap} {mg : Str → Option Value} (X : K.In h) (G : h.Ns mainGlobals mg) {fa : List He.Fa} (hs : ∀ f ∈ txFa, f ∈ fa) (c : ∀ f ∈ fa, f.ok K = true) : Tx mg := by
  have z : ∀ x : Str, He.Fa.free x ∈ txFa → mg x = none := fun x hx => He.free_ok X G (c _ (hs _ hx))
  refine ⟨z _ ?_, z _ ?_, z _ ?_, z _ ?_, z _ ?_, z _ ?_, z _ ?_, z _ ?_, z _ ?_, z _ ?_, z _ ?_, z _ ?_, z _ ?_, z _ ?_, z _ ?_, z _ ?_, z _ ?_⟩ <;> (unfold txFa; repeat (first | exact List.Mem.head _ | refine List.Mem.tail _ ?_))
theorem hu5_of {A : Around} {k : Nat} (hr : Room k A) : A.units + 65 < cLine := by
  have := hr.un
  omega
end Qe
namespace Qe
open PySem PySem.Spec PyProof.Rows L2
section
variable {K : PySem.W.Frag} {F : List Fc} {m : List Sx} {H : Hp} {Q : VK} {α : Type} {v : V} {d e : PyData} {ds : List PyData}
theorem res_int {j : Int} (q : S F m H → Q (.int j) H) : Res K F m H (.int j) Q := fun w h => by
  obtain ⟨rfl, h2⟩ := popInt h
  exact q h2
theorem res_str {j : Str} (q : S F m H → Q (.str j) H) : Res K F m H (.str j) Q := fun w h => by
  obtain ⟨rfl, h2⟩ := popStr h
  exact q h2
theorem res_bl {j : Bool} (q : S F m H → Q (.bl j) H) : Res K F m H (.bool j) Q := fun w h => by
  obtain ⟨rfl, h2⟩ := popBl h
  exact q h2
theorem res_non (q : S F m H → Q .non H) : Res K F m H .none Q := fun w h => by
  obtain ⟨rfl, h2⟩ := popNon h
  exact q h2
theorem resH_int {j : Int} (q : ∀ H', S F m H' → Q (.int j) H') : ResH K F m (.int j) Q := fun w H' h => by
  obtain ⟨rfl, h2⟩ := popInt h
  exact q H' h2
theorem resH_str {j : Str} (q : ∀ H', S F m H' → Q (.str j) H') : ResH K F m (.str j) Q := fun w H' h => by
  obtain ⟨rfl, h2⟩ := popStr h
  exact q H' h2
theorem resH_non (q : ∀ H', S F m H' → Q .non H') : ResH K F m .none Q := fun w H' h => by
  obtain ⟨rfl, h2⟩ := popNon h
  exact q H' h2
theorem resH_bl {j : Bool} (q : ∀ H', S F m H' → Q (.bl j) H') : ResH K F m (.bool j) Q := fun w H' h => by
  obtain ⟨rfl, h2⟩ := popBl h
  exact q H' h2
theorem at0 {a : PyData} {l : List PyData} : atI (a :: l) 0 = some a := by
  unfold atI ixN
  rw [if_pos (by decide), if_pos (by rw [List.length_cons]; omega)]
  rfl
theorem at1 {a b : PyData} {l : List PyData} : atI (a :: b :: l) 1 = some b := by
  unfold atI ixN
  rw [if_pos (by decide), if_pos (by simp only [List.length_cons]; omega)]
  rfl
theorem at2 {a b c : PyData} {l : List PyData} : atI (a :: b :: c :: l) 2 = some c := by
  unfold atI ixN
  rw [if_pos (by decide), if_pos (by simp only [List.length_cons]; omega)]
  rfl
theorem at3 {a b c d : PyData} {l : List PyData} : atI (a :: b :: c :: d :: l) 3 = some d := by
  unfold atI ixN
  rw [if_pos (by decide), if_pos (by simp only [List.length_cons]; omega)]
  rfl
theorem at_nat {l : List PyData} {i : Nat} : atI l (i : Int) = l[i]? := by
  unfold atI ixN
  rw [if_pos (by omega)]
  by_cases h : (i : Int) < l.length
  · rw [if_pos h]
    rfl
  · rw [if_neg h]
    have h' : l.length ≤ i := by omega
    rw [List.getElem?_eq_none h'] <;> rfl
theorem at_int {l : List PyData} {i : Int} (h0 : 0 ≤ i) {d : PyData} (h : l[i.toNat]? = some d) : atI l i = some d := by
  have e : i = (i.toNat : Int) := by omega
  rw [e, at_nat]
  exact h
end
end Qe
namespace Qe
open PySem PySem.Spec PyProof.Rows L2
theorem S.wk {F F' : List Fc} {m m' : List Sx} {H : Hp} (h : S F m H) (hf : ∀ f ∈ F', f ∈ F) (hm : m'.Sublist m) : S F' m' H := (h.imp fun _ q g hg => q g (hf g hg)).sub hm
theorem qb {F : List Fc} {m : List Sx} {H : Hp} {Q : VK} {b c : Bool} (q : ∀ H', S F m H' → Q (.bl b) H') (hS : S F m H) (e : c = b) : Q (.bl c) H := by
  subst e
  exact q _ hS
end Qe
namespace Qe
open PySem PySem.Spec PyProof.Rows L2
theorem mono_truVar {K : PySem.W.Frag} {i : Nat} : ∀ (σ : L2.St) (H : Hp) (Q Q' : Bool → Hp → Prop), (∀ b H1, Q b H1 → Q' b H1) → tTruU K (tVar i) σ H Q → tTruU K (tVar i) σ H Q' := by
  rintro σ H Q Q' h ⟨v, e, k, t, q⟩
  exact ⟨v, e, k, t, h _ _ q⟩
theorem mono_var {i : Nat} : MonoTE (tVar i) := by
  rintro σ H Q Q' h ⟨v, e, q⟩
  exact ⟨v, e, h _ _ q⟩
theorem mono_c {v : V} : MonoTE (tC v) := fun σ H Q Q' h q => h _ _ q
theorem mono_yes : MonoTT tYes := fun σ H Q Q' h q => h _ _ q
theorem mono_name {i : Nat} : MonoTG (gName i) := fun v σ H Q Q' h q => h _ _ q
/-- a promise that may be weakened -/
def MonoSp (sp : Sp) : Prop := ∀ vs H (Q Q' : VK) (E : XK), (∀ v H1, Q v H1 → Q' v H1) → sp vs H Q E → sp vs H Q' E
theorem mono_nil {σ : L2.St} {H : Hp} {Q Q' : List V → Hp → Prop} (h : ∀ v H1, Q v H1 → Q' v H1) (q : tNil σ H Q) : tNil σ H Q' := h _ _ q
def MonoTA (ta : TA) : Prop := ∀ σ H (Q Q' : List V → Hp → Prop), (∀ v H1, Q v H1 → Q' v H1) → ta σ H Q → ta σ H Q'
theorem monoA_nil : MonoTA tNil := fun σ H Q Q' h q => h _ _ q
theorem monoA_cons {te : TE} {ta : TA} (h1 : MonoTE te) (h2 : MonoTA ta) : MonoTA (tCons te ta) := fun σ H Q Q' h q => h1 _ _ _ _ (fun v H1 q1 => h2 _ _ _ _ (fun vs H2 q2 => h _ _ q2) q1) q
theorem mono_call {sp : Sp} {dvs : List V} {E : XK} {ta : TA} (hs : MonoSp sp) (ha : MonoTA ta) : MonoTE (tCall sp dvs E ta) := fun σ H Q Q' h q => ha _ _ _ _ (fun vs H1 q1 => hs _ _ _ _ _ h q1) q
def MonoR2 (r : R2) : Prop := ∀ x y H (Q Q' : VK), (∀ v H1, Q v H1 → Q' v H1) → r x y H Q → r x y H Q'
theorem mono_op {r : R2} {ta tb : TE} (hr : MonoR2 r) (ha : MonoTE ta) (hb : MonoTE tb) : MonoTE (tOp r ta tb) := fun σ H Q Q' h q => ha _ _ _ _ (fun x H1 q1 => hb _ _ _ _ (fun y H2 q2 => hr _ _ _ _ _ h q2) q1) q
theorem monoR_addI : MonoR2 rAddI := fun x y H Q Q' h ⟨i, j, a, b, q⟩ => ⟨i, j, a, b, h _ _ q⟩
theorem monoR_ltI : MonoR2 rLtI := fun x y H Q Q' h ⟨i, j, a, b, q⟩ => ⟨i, j, a, b, h _ _ q⟩
theorem monoR_gtI : MonoR2 rGtI := fun x y H Q Q' h ⟨i, j, a, b, q⟩ => ⟨i, j, a, b, h _ _ q⟩
theorem monoR_isN : MonoR2 rIsN := fun x y H Q Q' h ⟨a, q⟩ => ⟨a, h _ _ q⟩
theorem monoR_notN : MonoR2 rNotN := fun x y H Q Q' h ⟨a, q⟩ => ⟨a, h _ _ q⟩
theorem monoR_addU {K : PySem.W.Frag} : MonoR2 (rAddU K) := fun x y H Q Q' h q => by
  rcases q with ⟨i, j, a, b, q⟩ | ⟨i, j, a, b, c, q⟩ | ⟨a, b, xs, ys, e1, e2, e3, e4, e5, e6, e7, e8⟩ | ⟨a, b, xs, ys, e1, e2, e3, e4, e5, e6⟩
  · exact .inl ⟨i, j, a, b, h _ _ q⟩
  · exact .inr (.inl ⟨i, j, a, b, c, h _ _ q⟩)
  · exact .inr (.inr (.inl ⟨a, b, xs, ys, e1, e2, e3, e4, e5, fun z => h _ _ (e6 z), fun z y => h _ _ (e7 z y), fun z y p hp => h _ _ (e8 z y p hp)⟩))
  · exact .inr (.inr (.inr ⟨a, b, xs, ys, e1, e2, e3, e4, e5, fun p hp => h _ _ (e6 p hp)⟩))
theorem monoR_ix {K : PySem.W.Frag} : MonoR2 (rIx K) := fun x y H Q Q' h q => by
  rcases q with ⟨p, xs, i, v, a, b, c, d, q⟩ | ⟨p, xs, i, v, a, b, c, d, q⟩ | ⟨z, i, c, a, b, d, e, q⟩
  · exact .inl ⟨p, xs, i, v, a, b, c, d, h _ _ q⟩
  · exact .inr (.inl ⟨p, xs, i, v, a, b, c, d, h _ _ q⟩)
  · exact .inr (.inr ⟨z, i, c, a, b, d, e, h _ _ q⟩)
theorem monoR_eqU {K : PySem.W.Frag} : MonoR2 (rEqU K) := fun x y H Q Q' h q => q.imp (fun ⟨d, e, a, b, c, f, q⟩ => ⟨d, e, a, b, c, f, h _ _ q⟩) fun ⟨a, q⟩ => ⟨a, h _ _ q⟩
theorem monoR_neU {K : PySem.W.Frag} : MonoR2 (rNeU K) := fun x y H Q Q' h q => q.imp (fun ⟨d, e, a, b, c, f, q⟩ => ⟨d, e, a, b, c, f, h _ _ q⟩) fun ⟨a, q⟩ => ⟨a, h _ _ q⟩
theorem monoR_inU {K : PySem.W.Frag} {b : Bool} : MonoR2 (rInU K b) := fun x y H Q Q' h ⟨d, e, a, b, c, f, q⟩ => ⟨d, e, a, b, c, f, h _ _ q⟩
theorem mono_tup {ta : TA} (ha : MonoTA ta) : MonoTE (tTup ta) := fun σ H Q Q' h q => ha _ _ _ _ (fun vs H1 ⟨a, q1⟩ => ⟨a, fun p hp => h _ _ (q1 p hp)⟩) q
theorem mono_lst {ta : TA} (ha : MonoTA ta) : MonoTE (tLst ta) := fun σ H Q Q' h q => ha _ _ _ _ (fun vs H1 ⟨a, q1⟩ => ⟨a, fun p hp => h _ _ (q1 p hp)⟩) q
def MonoRC (r : List V → Hp → VK → Prop) : Prop := ∀ vs H (Q Q' : VK), (∀ v H1, Q v H1 → Q' v H1) → r vs H Q → r vs H Q'
theorem mono_cb {r : List V → Hp → VK → Prop} {ta : TA} (hr : MonoRC r) (ha : MonoTA ta) : MonoTE (tCB r ta) := fun σ H Q Q' h q => ha _ _ _ _ (fun vs H1 q1 => hr _ _ _ _ h q1) q
theorem monoC_list {K : PySem.W.Frag} : MonoRC (rList K) := fun vs H Q Q' h ⟨p, ys, a, b, q⟩ => ⟨p, ys, a, b, fun l hl => h _ _ (q l hl)⟩
theorem monoC_tuple {K : PySem.W.Frag} : MonoRC (rTuple K) := fun vs H Q Q' h ⟨p, ys, a, q⟩ => ⟨p, ys, a, q.imp (fun ⟨b, q⟩ => ⟨b, fun l hl => h _ _ (q l hl)⟩) fun ⟨b, q⟩ => ⟨b, h _ _ q⟩⟩
theorem monoC_len {K : PySem.W.Frag} : MonoRC (rLenU K) := fun vs H Q Q' h ⟨x, n, a, b, q⟩ => ⟨x, n, a, b, h _ _ q⟩
theorem monoC_sum {K : PySem.W.Frag} : MonoRC (rSum K) := fun vs H Q Q' h ⟨x, n, a, b, q⟩ => ⟨x, n, a, b, h _ _ q⟩
theorem mono_lcJ {J : It} {g : TG} {tt : TT} {te : TE} {vs : List Nat} {σ : L2.St} {H : Hp} {Q Q' : VK} (h : ∀ v H1, Q v H1 → Q' v H1) (q : LcJ J g tt te vs σ H Q) : LcJ J g tt te vs σ H Q' := fun D hD => by
  obtain ⟨W, w0, st⟩ := q D hD
  exact ⟨W, w0, fun i m H' hw => (st i m H' hw).imp (fun ⟨a, b⟩ => ⟨a, h _ _ b⟩) id⟩
theorem mono_lc {wi : TI} {g : TG} {tt : TT} {te : TE} {vs : List Nat} (hw : ∀ σ H (R R' : It → Hp → Prop), (∀ J H1, R J H1 → R' J H1) → wi σ H R → wi σ H R') : MonoTE (tLc wi g tt te vs) := fun σ H Q Q' h q => hw _ _ _ _ (fun J H1 q1 => mono_lcJ h q1) q
theorem mono_iSeq {K : PySem.W.Frag} {te : TE} (ht : MonoTE te) : ∀ σ H (R R' : It → Hp → Prop), (∀ J H1, R J H1 → R' J H1) → iSeq K te σ H R → iSeq K te σ H R' := fun σ H R R' h q => ht _ _ _ _ (fun x H1 ⟨a, e, q⟩ => ⟨a, e, q.imp (fun ⟨b, q⟩ => ⟨b, h _ _ q⟩) fun ⟨b, q⟩ => ⟨b, h _ _ q⟩⟩) q
theorem mono_iRng1 {ta : TA} (ht : MonoTA ta) : ∀ σ H (R R' : It → Hp → Prop), (∀ J H1, R J H1 → R' J H1) → iRng1 ta σ H R → iRng1 ta σ H R' := fun σ H R R' h q => ht _ _ _ _ (fun x H1 ⟨a, e, b, c, q⟩ => ⟨a, e, b, c, h _ _ q⟩) q
theorem mono_test {te : TE} (h : MonoTE te) : MonoTT (tTest te) := fun σ H Q Q' hq q => h _ _ _ _ (fun v H1 ⟨k, e, q⟩ => ⟨k, e, hq _ _ q⟩) q
theorem mono_tru {K : PySem.W.Frag} {te : TE} (h : MonoTE te) : MonoTT (tTruU K te) := fun σ H Q Q' hq q => h _ _ _ _ (fun v H1 ⟨k, e, q⟩ => ⟨k, e, hq _ _ q⟩) q
theorem mono_and {t u : TT} (h1 : MonoTT t) (h2 : MonoTT u) : MonoTT (tAnd t u) := fun σ H Q Q' hq q => h1 _ _ _ _ (fun b H1 q => by
  cases b with
  | true => exact h2 _ _ _ _ hq q
  | false => exact hq _ _ q) q
theorem mono_or {t u : TT} (h1 : MonoTT t) (h2 : MonoTT u) : MonoTT (tOr t u) := fun σ H Q Q' hq q => h1 _ _ _ _ (fun b H1 q => by
  cases b with
  | true => exact hq _ _ q
  | false => exact h2 _ _ _ _ hq q) q
theorem mono_not {t : TT} (h1 : MonoTT t) : MonoTT (tNot t) := fun σ H Q Q' hq q => h1 _ _ _ _ (fun b H1 q => hq _ _ q) q
theorem mono_ifE {t : TT} {ta tb : TE} (h1 : MonoTT t) (h2 : MonoTE ta) (h3 : MonoTE tb) : MonoTE (tIf t ta tb) := fun σ H Q Q' hq q => h1 _ _ _ _ (fun b H1 q => by
  cases b with
  | true => exact h2 _ _ _ _ hq q
  | false => exact h3 _ _ _ _ hq q) q
/-- the law's place in its row of draws -/
def Spot (l : Addr) : Sx := ⟨l, fun _ o => ∃ n : Int, 0 ≤ n ∧ o = .lst [.int n], fun _ _ _ _ h => h⟩
section
variable {K : PySem.W.Frag} {F : List Fc} {m : List Sx} {H : Hp} {Q : VK} {v : V} {ds : List PyData} {l : Addr}
theorem g_ixSpot {Q : VK} (hS : S F m H) (hm : Spot l ∈ m) (q : ∀ n : Int, 0 ≤ n → H l = some (.lst [.int n]) → Q (.int n) H) : rIx K (.ref l) (.int 0) H Q := by
  obtain ⟨G, e, f, own, nd⟩ := hS.ex
  obtain ⟨_, o, ho, n, hn, rfl⟩ := own _ hm
  exact .inl ⟨l, _, 0, .int n, rfl, rfl, SqL.of ho, rfl, q n hn ho⟩
theorem g_setSpot {Q : Hp → Prop} {n : Int} (hS : S F m H) (hm : Spot l ∈ m) (hn : 0 ≤ n) (q : ∀ H', S F m H' → H' l = some (.lst [.int n]) → Q H') : rSetL (.ref l) (.int 0) (.int n) H Q := by
  obtain ⟨i, hi⟩ := List.getElem?_of_mem hm
  obtain ⟨G, e, f, own, nd⟩ := hS.ex
  obtain ⟨_, o, ho, n0, hn0, rfl⟩ := own _ hm
  refine ⟨l, _, 0, 0, rfl, rfl, ho, rfl, q _ ?_ upd_same⟩
  have z := hS.setAt (i := i) (x := Spot l) (y := Spot l) (o' := .lst ([V.int n0].set 0 (.int n))) hi rfl fun _ _ _ _ _ => ⟨n, hn, rfl⟩
  have e : m.set i (Spot l) = m := by
    refine List.ext_getElem? fun j => ?_
    by_cases hij : i = j
    · subst hij
      rw [List.getElem?_set_self (List.getElem?_eq_some_iff.mp hi).1, hi]
    · rw [List.getElem?_set_ne hij]
  rw [e] at z
  exact z
theorem g_ixSpot' {Q : VK} {n : Int} (h : H l = some (.lst [.int n])) (q : Q (.int n) H) : rIx K (.ref l) (.int 0) H Q := .inl ⟨l, _, 0, .int n, rfl, rfl, SqL.of h, rfl, q⟩
/-- a list that is made of one number becomes the place -/
theorem spot_of {n : Int} (hS : S F (Ls K l [.int n] :: m) H) (hn : 0 ≤ n) : S F (Spot l :: m) H := by
  obtain ⟨G, e, f, own, nd⟩ := hS.ex
  refine ⟨G, e, f, fun x hx => ?_, nd⟩
  cases hx with
  | head =>
    obtain ⟨g, o, ho, vs, rfl, ha⟩ := own _ (.head _)
    refine ⟨g, _, ho, n, hn, ?_⟩
    cases ha with
    | cons h1 h2 =>
      cases h1
      cases h2
      rfl
  | tail _ hx => exact own x (.tail _ hx)
/-- l[lo:hi] of a list that stays: a new list -/
theorem g_slL {lo hi : Option Int} (hS : S F m H) (hv : Has K F v (.list ds)) (q : ResH K F m (.list (cutD ds lo hi)) Q) : rSlU K v lo hi H Q := by
  obtain ⟨G, e, f, own, nd⟩ := hS.ex
  have z := hv G f
  cases z with
  | lst hs ha =>
    refine .inl ⟨_, _, rfl, e.seq hs, fun l hl => q _ _ (putG e f own nd hl _ fun G' s' e' => .lst (SqL.of e') ?_)⟩
    have ha' := dps_mono s' _ _ ha
    unfold cutV cutD
    rw [ha.len]
    exact (ha'.drop _).take _
theorem cutD_mem {lo hi : Option Int} {d : PyData} (h : d ∈ cutD ds lo hi) : d ∈ ds := List.mem_of_mem_drop (List.mem_of_mem_take h)
theorem cutD_len {lo hi : Option Int} : (cutD ds lo hi).length ≤ ds.length := by
  unfold cutD
  rw [List.length_take, List.length_drop]
  omega
end
end Qe
namespace Qe
open PySem PySem.Spec PyProof.Rows L2
section
variable {σ : L2.St} {H : Hp} {Q : VK} {te : TE} {tl th : TO} {QO : Option Int → Hp → Prop} {r : V → Option Int → Option Int → Hp → VK → Prop}
theorem g_sl (h : te σ H fun x H1 => tl σ H1 fun l H2 => th σ H2 fun u H3 => r x l u H3 Q) : tSl r te tl th σ H Q := h
theorem g_noPart (q : QO none H) : tNoPart σ H QO := q
theorem g_part (h : te σ H fun x H1 => ∃ i, x = .int i ∧ QO (some i) H1) : tPart te σ H QO := h
end
end Qe

namespace Qe
open PySem PySem.Spec PyProof.Rows L2
/-! ### loops whose word holds facts too -/
section
variable {K : PySem.W.Frag} {F : List Fc} {m : List Sx} {H : Hp} {σ : L2.St} {nx bk ct : L2.St → Hp → Prop} {rt : VK} {v x y : V} {d e : PyData} {ds es : List PyData} {t u : TS} {g : TG} {c : TT}
abbrev AtF (F : List Fc) (Inv : L2.St → List Fc → List Sx → Prop) : L2.St → Hp → Prop := fun σ H => ∃ fs m, Inv σ fs m ∧ S (fs ++ F) m H
theorem Has.app {fs : List Fc} (h : Has K F v d) : Has K (fs ++ F) v d := fun G q => h G fun g hg => q g (List.mem_append_right _ hg)
theorem src_seqF (hS : S F m H) (hv : Has K F v (.tuple ds) ∨ Has K F v (.list ds)) :
    ∃ a, v = .ref a ∧ ((∀ fs m' H', S (fs ++ F) m' H' → ∃ xs, SqT K H' a xs ∧ xs.length = ds.length ∧ ∀ (i : Nat) (w : V) (d : PyData), xs[i]? = some w → ds[i]? = some d → S (dat K w d :: (fs ++ F)) m' H') ∨
      (∀ fs m' H', S (fs ++ F) m' H' → ∃ xs, SqL K H' a xs ∧ xs.length = ds.length ∧ ∀ (i : Nat) (w : V) (d : PyData), xs[i]? = some w → ds[i]? = some d → S (dat K w d :: (fs ++ F)) m' H')) := by
  rcases hv with hv | hv
  · have z := hS.dp hv
    generalize hz : PyData.tuple ds = zz at z
    cases z with
    | tup hs ha =>
      cases hz
      refine ⟨_, rfl, .inl fun fs m' H' h' => ?_⟩
      obtain ⟨G, e, f, own, nd⟩ := h'.ex
      have z := hv.app (fs := fs) G f
      cases z with
      | tup hs' ha' =>
        refine ⟨_, same_t e hs', ha'.len, fun i w d h1 h2 => ?_⟩
        obtain ⟨w', e1, e2⟩ := ha'.get h2
        rw [h1] at e1
        cases e1
        exact ⟨G, e, fun g hg => by cases hg with | head => exact e2 | tail _ hg => exact f g hg, own, nd⟩
    | _ => cases hz
  · have z := hS.dp hv
    generalize hz : PyData.list ds = zz at z
    cases z with
    | lst hs ha =>
      cases hz
      refine ⟨_, rfl, .inr fun fs m' H' h' => ?_⟩
      obtain ⟨G, e, f, own, nd⟩ := h'.ex
      have z := hv.app (fs := fs) G f
      cases z with
      | lst hs' ha' =>
        refine ⟨_, e.seq hs', ha'.len, fun i w d h1 h2 => ?_⟩
        obtain ⟨w', e1, e2⟩ := ha'.get h2
        rw [h1] at e1
        cases e1
        exact ⟨G, e, fun g hg => by cases hg with | head => exact e2 | tail _ hg => exact f g hg, own, nd⟩
    | _ => cases hz
theorem g_forF (hS : S F m H) (hv : Has K F v (.tuple ds) ∨ Has K F v (.list ds)) (Inv : Nat → L2.St → List Fc → List Sx → Prop) (fs0 : List Fc) (hS0 : S (fs0 ++ F) m H) (h0 : Inv 0 σ fs0 m)
    (hs : ∀ i d w σ' fs m' H', ds[i]? = some d → Inv i σ' fs m' → S (dat K w d :: (fs ++ F)) m' H' → g w σ' H' fun σ2 H2 => t ⟨AtF F (Inv (i + 1)), rt, nx, AtF F (Inv (i + 1))⟩ σ2 H2)
    (hd : ∀ σ' fs m' H', Inv ds.length σ' fs m' → S (fs ++ F) m' H' → nx σ' H') : ForS K v g t ⟨nx, rt, bk, ct⟩ σ H := by
  obtain ⟨a, rfl, h⟩ := src_seqF hS hv
  rcases h with h | h
  · obtain ⟨xs, hx, hl, hw⟩ := h fs0 m H hS0
    refine ⟨a, rfl, .inr ⟨⟨xs, hx⟩, ?_⟩⟩
    refine ⟨fun i k σ' H' => k = ds.length - i ∧ i ≤ ds.length ∧ AtF F (Inv i) σ' H', ⟨_, rfl, Nat.zero_le _, fs0, m, h0, hS0⟩, ?_⟩
    rintro i k σ' H' ⟨rfl, hi, fs, m', p, hS'⟩
    obtain ⟨ys, hy, hyl, hyw⟩ := h fs m' H' hS'
    by_cases hlt : i < ds.length
    · have e1 : ys[i]? = some ys[i] := List.getElem?_eq_getElem (by omega)
      have e2 : ds[i]? = some ds[i] := List.getElem?_eq_getElem hlt
      refine .inr ⟨⟨ys, ys[i], hy, e1⟩, AtF F (Inv (i + 1)), fun σ2 H2 p2 => ⟨_, by omega, rfl, hlt, p2⟩, fun x H2 y => ?_⟩
      obtain ⟨rfl, y⟩ := y
      have ex : x = ys[i] := by
        have z := y ys hy
        rw [e1] at z
        exact (Option.some.inj z).symm
      subst ex
      exact hs i _ _ σ' fs m' _ e2 p (hyw i _ _ e1 e2)
    · have e : i = ds.length := by omega
      subst e
      exact .inl ⟨⟨ys, hy, by omega⟩, hd σ' fs m' H' p hS'⟩
  · obtain ⟨xs, hx, hl, hw⟩ := h fs0 m H hS0
    refine ⟨a, rfl, .inl ⟨⟨xs, hx⟩, ?_⟩⟩
    refine ⟨fun i k σ' H' => k = ds.length - i ∧ i ≤ ds.length ∧ AtF F (Inv i) σ' H', ⟨_, rfl, Nat.zero_le _, fs0, m, h0, hS0⟩, ?_⟩
    rintro i k σ' H' ⟨rfl, hi, fs, m', p, hS'⟩
    obtain ⟨ys, hy, hyl, hyw⟩ := h fs m' H' hS'
    by_cases hlt : i < ds.length
    · have e1 : ys[i]? = some ys[i] := List.getElem?_eq_getElem (by omega)
      have e2 : ds[i]? = some ds[i] := List.getElem?_eq_getElem hlt
      refine .inr ⟨⟨ys, ys[i], hy, e1⟩, AtF F (Inv (i + 1)), fun σ2 H2 p2 => ⟨_, by omega, rfl, hlt, p2⟩, fun x H2 y => ?_⟩
      obtain ⟨rfl, y⟩ := y
      have ex : x = ys[i] := by
        have z := y ys hy
        rw [e1] at z
        exact (Option.some.inj z).symm
      subst ex
      exact hs i _ _ σ' fs m' _ e2 p (hyw i _ _ e1 e2)
    · have e : i = ds.length := by omega
      subst e
      exact .inl ⟨⟨ys, hy, by omega⟩, hd σ' fs m' H' p hS'⟩
theorem g_forOF {l : Addr} (Inv : Nat → L2.St → List Fc → List Sx → Prop) (fs0 : List Fc) (hS : S (fs0 ++ F) m H) (h0 : Inv 0 σ fs0 m) (hm : ∀ i σ' fs m', Inv i σ' fs m' → Ls K l ds ∈ m')
    (hs : ∀ i d w σ' fs m' H', ds[i]? = some d → Inv i σ' fs m' → S (dat K w d :: (fs ++ F)) m' H' → g w σ' H' fun σ2 H2 => t ⟨AtF F (Inv (i + 1)), rt, nx, AtF F (Inv (i + 1))⟩ σ2 H2)
    (hd : ∀ σ' fs m' H', Inv ds.length σ' fs m' → S (fs ++ F) m' H' → nx σ' H') : ForS K (.ref l) g t ⟨nx, rt, bk, ct⟩ σ H := by
  obtain ⟨xs, hx, hl, hw⟩ := own_list hS (hm _ _ _ _ h0)
  refine ⟨l, rfl, .inl ⟨⟨xs, SqL.of hx⟩, ?_⟩⟩
  refine ⟨fun i k σ' H' => k = ds.length - i ∧ i ≤ ds.length ∧ AtF F (Inv i) σ' H', ⟨_, rfl, Nat.zero_le _, fs0, m, h0, hS⟩, ?_⟩
  rintro i k σ' H' ⟨rfl, hi, fs, m', p, hS'⟩
  obtain ⟨ys, hy', hyl, hyw⟩ := own_list hS' (hm _ _ _ _ p)
  have hy : SqL K H' l ys := SqL.of hy'
  by_cases hlt : i < ds.length
  · have e1 : ys[i]? = some ys[i] := List.getElem?_eq_getElem (by omega)
    have e2 : ds[i]? = some ds[i] := List.getElem?_eq_getElem hlt
    refine .inr ⟨⟨ys, ys[i], hy, e1⟩, AtF F (Inv (i + 1)), fun σ2 H2 p2 => ⟨_, by omega, rfl, hlt, p2⟩, fun x H2 y => ?_⟩
    obtain ⟨rfl, y⟩ := y
    have ex : x = ys[i] := by
      have z := y ys hy
      rw [e1] at z
      exact (Option.some.inj z).symm
    subst ex
    exact hs i _ _ σ' fs m' _ e2 p (hyw i _ _ e1 e2)
  · have e : i = ds.length := by omega
    subst e
    exact .inl ⟨⟨ys, hy, by omega⟩, hd σ' fs m' H' p hS'⟩
theorem g_rangeF {n : Int} (hn : -(2 ^ 62) ≤ n ∧ n < 2 ^ 62) (Inv : Nat → L2.St → List Fc → List Sx → Prop) (fs0 : List Fc) (hS : S (fs0 ++ F) m H) (h0 : Inv 0 σ fs0 m)
    (hs : ∀ (i : Nat) σ' fs m' H', (i : Int) < n → Inv i σ' fs m' → S (fs ++ F) m' H' → g (.int (i : Nat)) σ' H' fun σ2 H2 => t ⟨AtF F (Inv (i + 1)), rt, nx, AtF F (Inv (i + 1))⟩ σ2 H2)
    (hd : ∀ σ' fs m' H', Inv n.toNat σ' fs m' → S (fs ++ F) m' H' → nx σ' H') : ForR1 [.int n] g t ⟨nx, rt, bk, ct⟩ σ H :=
  ⟨n, rfl, hn.1, hn.2, for_range (fun i σ' H' => AtF F (Inv i) σ' H') ⟨fs0, m, h0, hS⟩ (fun i σ' H' hi ⟨fs, m', p, hS'⟩ => by rw [Int.zero_add]; exact hs i σ' fs m' H' (by omega) p hS') fun σ' H' ⟨fs, m', p, hS'⟩ => hd σ' fs m' H' p hS'⟩
theorem g_rangeF2 {lo n : Int} (hn : -(2 ^ 62) ≤ lo ∧ lo < 2 ^ 62 ∧ -(2 ^ 62) ≤ n ∧ n < 2 ^ 62) (Inv : Nat → L2.St → List Fc → List Sx → Prop) (fs0 : List Fc) (hS : S (fs0 ++ F) m H) (h0 : Inv 0 σ fs0 m)
    (hs : ∀ (i : Nat) σ' fs m' H', lo + (i : Int) < n → Inv i σ' fs m' → S (fs ++ F) m' H' → g (.int (lo + (i : Nat))) σ' H' fun σ2 H2 => t ⟨AtF F (Inv (i + 1)), rt, nx, AtF F (Inv (i + 1))⟩ σ2 H2)
    (hd : ∀ σ' fs m' H', Inv (n - lo).toNat σ' fs m' → S (fs ++ F) m' H' → nx σ' H') : ForR2 [.int lo, .int n] g t ⟨nx, rt, bk, ct⟩ σ H :=
  ⟨lo, n, rfl, hn, for_range (fun i σ' H' => AtF F (Inv i) σ' H') ⟨fs0, m, h0, hS⟩ (fun i σ' H' hi ⟨fs, m', p, hS'⟩ => hs i σ' fs m' H' (by omega) p hS') fun σ' H' ⟨fs, m', p, hS'⟩ => hd σ' fs m' H' p hS'⟩
theorem g_whileF (Inv : Nat → L2.St → List Fc → List Sx → Prop) (k0 : Nat) (fs0 : List Fc) (hS : S (fs0 ++ F) m H) (h0 : Inv k0 σ fs0 m)
    (hs : ∀ k σ' fs m' H', Inv k σ' fs m' → S (fs ++ F) m' H' → c σ' H' fun b H1 => if b = true then t ⟨fun σ3 H3 => ∃ k3, k3 < k ∧ AtF F (Inv k3) σ3 H3, rt, nx, fun σ3 H3 => ∃ k3, k3 < k ∧ AtF F (Inv k3) σ3 H3⟩ σ' H1 else nx σ' H1)
    (mono : ∀ σ H Q Q', (∀ b H1, Q b H1 → Q' b H1) → c σ H Q → c σ H Q') : tWhile c t ⟨nx, rt, bk, ct⟩ σ H := by
  refine ⟨fun k σ' H' => AtF F (Inv k) σ' H', ⟨k0, fs0, m, h0, hS⟩, ?_⟩
  rintro k σ' H' ⟨fs, m', p, hS'⟩
  refine mono σ' H' _ _ (fun b H1 q => ?_) (hs k σ' fs m' H' p hS')
  cases b with
  | true => exact ⟨_, fun σ3 H3 ⟨k3, l, w⟩ => ⟨k3, l, w⟩, q⟩
  | false => exact q
end
end Qe
namespace Qe
open PySem PySem.Spec PyProof.Rows L2
/-- [e for k in range(n)], e always the same data -/
theorem g_lcRep {K : PySem.W.Frag} {F : List Fc} {m : List Sx} {H : Hp} {σ : L2.St} {te : TE} {ws : List Nat} {i : Nat} {Q : VK} {n : Int} {e0 : PyData} (hS : S F m H) (hn : -(2 ^ 62) ≤ n ∧ n < 1000000) (me : MonoTE te) (hw : ∀ v, wipe ((wipe σ ws).set i (some v)) ws = wipe σ ws)
    (ht : ∀ v D acc H', S F (Ls K D acc :: m) H' → te ((wipe σ ws).set i (some v)) H' (fun y H4 => S (dat K y e0 :: F) (Ls K D acc :: m) H4))
    (hd : ∀ D H', S F (Ls K D (List.replicate n.toNat e0) :: m) H' → Q (.ref D) H') : LcR1 [.int n] (gName i) tYes te ws σ H Q := by
  refine g_lcR (K := K) hS hn mono_name mono_yes me (fun i acc m' => acc = List.replicate i e0 ∧ m' = m) ⟨rfl, rfl⟩ ?_ ?_
  · rintro j D acc m' H' hi hacc ⟨rfl, rfl⟩ hS'
    refine g_lcT (hw _) ?_
    refine g_yes ?_
    refine g_ite (fun _ => ?_) (fun h => by cases h)
    exact me _ _ _ _ (fun y H4 h4 => ⟨e0, m', ⟨by rw [List.replicate_succ'], rfl⟩, h4⟩) (ht _ D _ H' hS')
  · rintro D acc m' H' hacc ⟨rfl, rfl⟩ hS'
    exact hd D H' hS'
end Qe
namespace Qe
open PySem PySem.Spec PyProof.Rows L2
theorem sub_nil {f : Fc} {F : List Fc} : f ∈ ([] : List Fc) → f ∈ F := fun h => (List.not_mem_nil h).elim
theorem sub_cons {f x : Fc} {F F' : List Fc} (h1 : x ∈ F) (h2 : f ∈ F' → f ∈ F) : f ∈ x :: F' → f ∈ F := fun h => by
  rcases List.mem_cons.mp h with rfl | h
  · exact h1
  · exact h2 h
end Qe

namespace Qe
section
open PySem
/-! ### enumerate(t), t a tuple -/
theorem enum_newT {v : Value} {o : Obj} {B0 : Heap → Prop} (B : Begins v o B0) :
    Meets (Builtin.«enumerate.__new__» ⟨[.type "enumerate", v], []⟩) (fun _ R s => B0 s.heap ∧
      R (.ok (.ret (.ref (s.heap.push o).objs.size))) { s with heap := (s.heap.push o).push { cls := .type "enumerate", data := .fields #[.none, .bool false, .ref s.heap.objs.size, rawInt 0, .none, .none] } }) :=
  .of_wp fun prog w A R s h => by
    obtain ⟨hp, g, d, tk, os⟩ := s; obtain ⟨h1, h⟩ := h
    have hsub := sub_enumerate
    have q1 : ∀ {A' : Around} {E : Value → Shared → Prop} {Q : Value → Shared → Prop}, Q (.ref hp.objs.size) ⟨hp.push o, g, d, tk, os⟩ → wpAny (model prog w) A' (pyIter v) Q E ⟨hp, g, d, tk, os⟩ :=
      fun q => B.iter prog w _ _ ⟨hp, g, d, tk, os⟩ _ h1 q
    wp_walk using q1
    refine wpAny_stack_any fun st => wpAny_pure ?_
    split
    · rename_i c _ _ _ _ _
      cases (c == Value.type "enumerate")
      · wp_walk using q1
        exact ⟨_, rfl, h⟩
      · wp_walk using q1
        exact ⟨_, rfl, h⟩
    · wp_walk using q1
      exact ⟨_, rfl, h⟩
theorem call_enumT {prog : Program} {w : World} {A : Around} {E : Value → Shared → Prop} {s : Shared} {v : Value} {o : Obj} {B0 : Heap → Prop} {Q : Value → Shared → Prop} (B : Begins v o B0) (h1 : B0 s.heap)
    (h : ∀ h', IsEnum h' (s.heap.objs.size + 1) s.heap.objs.size 0 .none → h'.get? s.heap.objs.size = some o → h'.objs.size = s.heap.objs.size + 2 →
      (∀ b o, s.heap.get? b = some o → h'.get? b = some o) → Q (.ref (s.heap.objs.size + 1)) { s with heap := h' }) :
    wpAny (model prog w) A (call (.type "enumerate") [v]) Q E s := by
  refine callType_new F.called_enumerate (by decide) (F.typeCall_enumerate_1 _) (F.newCall_enumerate_1 _) (fun obj => F.args_object_init_2 obj _) F.entry_enumerate_new
    (enum_newT B) ⟨h1, ?_⟩
  have hz : (s.heap.push o).objs.size = s.heap.objs.size + 1 := Heap.size_push ..
  show _ ∧ _
  rw [hz]
  have he : IsEnum ((s.heap.push o).push { cls := .type "enumerate", data := .fields #[.none, .bool false, .ref s.heap.objs.size, rawInt 0, .none, .none] }) (s.heap.objs.size + 1) s.heap.objs.size 0 .none := by
    have := Heap.get?_push_size (s.heap.push o) (o := { cls := .type "enumerate", data := .fields #[.none, .bool false, .ref s.heap.objs.size, rawInt 0, .none, .none] }) rfl
    rw [hz] at this; exact this
  refine ⟨⟨_, he, rfl⟩, h _ he (Heap.get?_push_of_some _ (Heap.get?_push_size _ B.free)) (by rw [Heap.size_push, hz]) fun b o x => Heap.get?_push_of_some _ (Heap.get?_push_of_some _ x)⟩
end
open PySem PySem.Spec PyProof.Rows L2
/-- the tuple at a, each item in a new pair -/
def IteT (K : PySem.W.Frag) (a : Addr) (n : Nat) : It :=
  ⟨fun i H => ∃ (xs : List V) (x : V), SqT K H a xs ∧ xs.length = n ∧ xs[i]? = some x, fun i H v H' => ∃ T x, v = .ref T ∧ H T = none ∧ H' = upd H T (.tup [.int (i : Nat), x]) ∧ ∀ xs, SqT K H a xs → xs[i]? = some x, fun i H => ∃ xs : List V, SqT K H a xs ∧ xs.length = n ∧ n ≤ i⟩
theorem turn_enumT {P : Program} {w : World} {K : PySem.W.Frag} {elts : List Expr} {kk : Nat} {tpos : Pos} (a e it : Addr) (n : Nat) :
    Turn P w K (.Tuple elts kk tpos) (IteT K a n) [e, it] e (fun i h => i ≤ n ∧ (∃ old, IsEnum h e it ((i : Nat) : Int) old) ∧ h.IsTupleIter it a i ∧ e ≠ it ∧ a ≠ it ∧ e ≠ a) where
  mem := by simp
  obj := fun i h st b hb => by
    obtain ⟨_, ⟨old, he⟩, ⟨o, ho, hc, hd⟩, _⟩ := st
    have e' : b = e ∨ b = it := by simpa using hb
    rcases e' with z | z
    · rw [z]; exact ⟨_, he, fun v q => nomatch q⟩
    · rw [z]; exact ⟨o, ho, fun v q => by rw [hd] at q; cases q⟩
  keep := fun i h h' st k => let ⟨hin, ⟨old, he⟩, hi, hne⟩ := st; ⟨hin, ⟨old, k e (by simp) _ he⟩, hi.at fun o q => k it (by simp) o q, hne⟩
  item := by
    intro X hP hw hK hc i pins s σ H E I hf st hg
    subst hP hw hK
    obtain ⟨hin, ⟨old, he⟩, hit, hne, hna, hea⟩ := st
    obtain ⟨xs, x, hq, hxl, hx⟩ := hg
    obtain ⟨its, rv, p, hz⟩ := I.tuple hq
    obtain ⟨u, hu, ru⟩ := rv.get hx
    have hel : e < s.heap.objs.size := Heap.lt_size he
    have hil : it < s.heap.objs.size := by obtain ⟨_, q, _⟩ := hit; exact Heap.lt_size q
    have D := Draws.tuple (prog := X.prog) (w := X.w) (A := X.A.in1) (I.ok.hd hc) it a hna its.toArray
    have hlt : i < its.toArray.size := by
      have := (List.getElem?_eq_some_iff.mp hu).1
      rw [List.size_toArray]; exact this
    refine wpAny_pyNext_enum_itemD D he ⟨hit, p⟩ hlt hne (by simp [hne, hea]) fun x' h' tk hP ho hst hT hsz hk => ?_
    have hxu : x' = u := by
      have h0 : its.toArray[i]? = some x' := hP
      have h1 : its.toArray[i]? = some u := by simpa using hu
      rw [h1] at h0
      exact (Option.some.inj h0).symm
    subst hxu
    obtain ⟨hit', _⟩ := hst
    refine ⟨_, rfl, wpAny_letOwnedTupleGo_enum (s := { s with heap := h', toks := tk + 1 }) ho fun h'' he' sb => ?_⟩
    have hT2 : h''.get? s.heap.objs.size = some { cls := .type "tuple", data := .seq #[.int i tk, x'] } := (sb.2 _ (Nat.ne_of_gt hel)).trans hT
    have new : ObjOk X.prog X.w (upd H s.heap.objs.size (.tup [.int (i : Nat), x])) h'' s.heap.objs.size (.tup [.int (i : Nat), x]) :=
      ⟨by show 2 ≤ sizeLine; decide, [.int i tk, x'], .cons ⟨_, rfl⟩ (.cons ru .nil), ⟨_, hT2, rfl, _, rfl⟩⟩
    have I1 : Inv X pins σ (upd H s.heap.objs.size (.tup [.int (i : Nat), x])) { s with heap := h'', toks := tk + 1 } :=
      I.turnedNew (ch := [e, it]) (fun b ob hb q => (sb.2 b (fun z => hb (by simp [z]))).trans (hk b ob (fun z => hb (by simp [z])) (fun z => hb (by simp [z])) q)) hf (Nat.le_refl _) new
    refine ⟨.ref s.heap.objs.size, _, I1, rfl, ⟨_, x, rfl, I.hok.fresh (Nat.le_refl _), rfl, fun ys hy => by rw [I.tuple_inj hy hq]; exact hx⟩, ⟨by have := (List.getElem?_eq_some_iff.mp hx).1; omega, ⟨x', ?_⟩, hit'.at fun o q => (sb.2 it (Ne.symm hne)).trans q, hne, hna, hea⟩, fun b hb => ?_⟩
    · have e1 : ((i + 1 : Nat) : Int) = (i : Int) + 1 := by omega
      rw [e1]; exact he'
    · have hb' : b < s.heap.objs.size := by
        have e' : b = e ∨ b = it := by simpa using hb
        rcases e' with z | z
        · rw [z]; exact hel
        · rw [z]; exact hil
      rw [upd_ne (Nat.ne_of_lt hb')]
      exact (hf b hb).1
  done := by
    intro X hP hw hK hc i pins s σ H E I hf st hg
    subst hP hw hK
    obtain ⟨hin, ⟨old, he⟩, hit, hne, hna, hea⟩ := st
    obtain ⟨xs, hq, hxl, hx⟩ := hg
    obtain ⟨its, rv, p, hz⟩ := I.tuple hq
    obtain ⟨f0, f1, f2, f3, f4, f5⟩ := hf it (by simp)
    have hl := rv.length
    have D := Draws.tuple (prog := X.prog) (w := X.w) (A := X.A.in1) (I.ok.hd hc) it a hna its.toArray
    have e0 : its.toArray.size = i := by rw [List.size_toArray]; omega
    rw [← e0] at hit
    exact wpAny_pyNext_enum_endD D he ⟨hit, p⟩ fun h' eb => ⟨rfl, I.turned (t' := s.toks) (fun b o hb q => eb b o hb q) f0 f1 f3 f4 f5⟩
  self := fun A i s Q E st h => let ⟨_, ⟨_, he⟩, _⟩ := st; wpAny_pyIter_enum he h
/-- enumerate over a list or a tuple -/
def iEnumU (K : PySem.W.Frag) (ta : TA) : TI := fun σ H R => ta σ H fun vs H1 => ∃ a, vs = [.ref a] ∧ ((∃ xs, SqL K H1 a xs ∧ R (Ite K a) H1) ∨ ∃ xs, SqT K H1 a xs ∧ R (IteT K a xs.length) H1)
theorem pi_enumU {X : Cx} {e : Expr} {ta : TA} {p pos tpos : Pos} {elts : List Expr} {kk : Nat} (hg : Gl X "enumerate") (hm : X.mg "enumerate" = none) (ha : PA X [e] ta) (hs : starEach [e] X.env = [(false, eval e X.env)] := by rfl) :
    PI X (.Tuple elts kk tpos) (.Call (.Name "enumerate" p) [e] [] pos) (iEnumU X.K ta) := by
  refine ⟨fun pins s σ H R I h => ?_⟩
  refine Call_ (ld_blt I hg hm boot_enumerate (PyProof.Rows.callWith_type1 (thn (ha.run pos pins s σ H _ I h) fun us s1 ⟨vs, H1, I1, r1, q1⟩ => ?_) hs rfl))
  obtain ⟨a, ex, q1⟩ := q1
  subst ex
  have fp : ∀ b, b = s1.heap.objs.size + 1 ∨ b = s1.heap.objs.size → FpOk X pins H1 b := fun b e' => by
    have hle : s1.heap.objs.size ≤ b := by
      rcases e' with z | z
      · rw [z]; exact Nat.le_add_right _ _
      · rw [z]; exact Nat.le_refl _
    exact I1.fpOk hle (I1.hok.fresh hle)
  cases r1 with
  | cons r rr =>
    cases rr
    cases r
    rcases q1 with ⟨xs, hq, q⟩ | ⟨xs, hq, q⟩
    · obtain ⟨its, rv, p', hz⟩ := I1.list hq
      refine call_enumerate_list p'.isList fun h' he hit hsz hk => wpAny_pyIter_enum he ?_
      have I2 : Inv X pins σ H1 { s1 with heap := h' } := I1.kept (t' := s1.toks) hk
      exact ⟨s1.heap.objs.size + 1, [s1.heap.objs.size + 1, s1.heap.objs.size], _, _, H1, rfl, I2, turn_enum a (s1.heap.objs.size + 1) s1.heap.objs.size, ⟨⟨.none, he⟩, hit, Nat.succ_ne_self _⟩, fun b hb => fp b (by simpa using hb), q⟩
    · obtain ⟨its, rv, p', hz⟩ := I1.tuple hq
      have hlt : a < s1.heap.objs.size := by obtain ⟨_, q, _⟩ := p'; exact Heap.lt_size q
      refine call_enumT (begins_tuple a its.toArray) p' fun h' he hit hsz hk => wpAny_pyIter_enum he ?_
      have I2 : Inv X pins σ H1 { s1 with heap := h' } := I1.kept (t' := s1.toks) hk
      exact ⟨s1.heap.objs.size + 1, [s1.heap.objs.size + 1, s1.heap.objs.size], _, _, H1, rfl, I2, turn_enumT a (s1.heap.objs.size + 1) s1.heap.objs.size xs.length, ⟨Nat.zero_le _, ⟨.none, he⟩, ⟨_, hit, rfl, rfl⟩, Nat.succ_ne_self _, Nat.ne_of_lt hlt, Nat.ne_of_gt (Nat.lt_succ_of_lt hlt)⟩, fun b hb => fp b (by simpa using hb), q⟩
end Qe

namespace Qe
open PySem PySem.Spec PyProof.Rows L2
/-! ### list.count -/
def rCount (K : PySem.W.Frag) : V → List V → Hp → VK → Prop := fun x vs H Q => ∃ l xs v d, x = .ref l ∧ vs = [v] ∧ Dp K H x (.list xs) ∧ Dp K H v d ∧ PyData.plainAll xs = true ∧ d.plain = true ∧ d.depth ≤ 16 ∧ Q (.int ((xs.countP fun y => PyData.eqv y d : Nat) : Int)) H
theorem mt_count {X : Cx} (hu : X.A.units + 64 < cLine) : MtR X "list.count" (rCount X.K) := by
  intro pins s σ H x vs v us Q I rx rv h
  obtain ⟨l, xs, w, d, rfl, rfl, hx, hd, hp, hpd, hdd, q⟩ := h
  cases rx
  obtain ⟨u, rfl, ru⟩ := rv.one
  obtain ⟨bs, rd⟩ := Dp.reads I d w u hd ru
  cases hx with
  | lst hs ha =>
    obtain ⟨its, r, p, hl⟩ := I.list hs
    obtain ⟨as, rs⟩ := Dp.readsAll I xs _ its ha r
    refine PySem.SeqAt.count_list_data p.isList (by simpa using rs) rd hp hpd (by omega) ⟨.int _, H, I.tok _, ⟨_, rfl⟩, q⟩

/-! ### own classes -/
structure FnA (P : Program) (w : World) (K : PySem.W.Frag) (mg : Str → Option Value) (base : Heap) (CX : CXT) (k : Nat) (f : Addr) (ps : List Str) (sp : Sp) : Prop where
  ex : ∃ fd, Binds K fd ps [] ∧ FnOk P w K mg base CX k f fd ps sp
section
variable {X : Cx} {CX : CXT} {k : Nat} {C f p g : Addr} {ps : List Str} {sp : Sp} {x m : Str} {e : Expr} {es : List Expr} {t : TA} {np pos : Pos} {E : XK} {ta : TE}
theorem pe_mkN (M : Mk X.K C f) (h : FnA X.prog X.w X.K X.mg X.base CX k f ps sp) (hr : Room (k + 1) X.A) (hm : X.mg x = some (.ref C)) (hx : Passes CX X E) (ha : PA X (e :: es) t) (hg : Gl X x := by rfl)
    (hdb : (x == ("__debug__" : Str)) = false := by decide) (he : starEach (e :: es) X.env = (false, eval e X.env) :: starEach es X.env := by rfl) (hpl : (backTo pos (starEach es X.env)).any (·.1) = false := by rfl) :
    PE X (.Call (.Name x np) (e :: es) [] pos) (tMake C sp [] E t) := by
  obtain ⟨fd, b, F⟩ := h.ex
  exact pe_make M F hr hg hm b .nil hx ha hdb he hpl
theorem pe_prpN (he : PE X e ta) (c : Cls X.K C) (hp : PropOf X.K C m p g) (h : FnA X.prog X.w X.K X.mg X.base CX k g ps sp) (hr : Room (k + 1) X.A) (hx : Passes CX X.nox E)
    (hab : attributeBase e m X.env (eval e X.env) = eval e X.env := by rfl) : PE X (.Attribute e m pos) (tProp C sp [] E ta) := by
  obtain ⟨fd, b, F⟩ := h.ex
  exact pe_prop he c hp F hr b .nil hx hab
end
/-- fields with their data -/
def FldOk (K : PySem.W.Frag) (G : Hp) : List (Str × V) → List (Str × PyData) → Prop
  | [], [] => True
  | p :: fs, q :: ds => p.1 = q.1 ∧ Dp K G p.2 q.2 ∧ FldOk K G fs ds
  | _, _ => False
theorem FldOk.mono {K : PySem.W.Frag} {G H : Hp} (e : Same G H) : ∀ {fs : List (Str × V)} {ds : List (Str × PyData)}, FldOk K G fs ds → FldOk K H fs ds
  | [], [], _ => trivial
  | p :: fs, q :: ds, h => ⟨h.1, dp_mono e _ _ h.2.1, FldOk.mono e h.2.2⟩
  | [], _ :: _, h => h.elim
  | _ :: _, [], h => h.elim
theorem FldOk.get {K : PySem.W.Frag} {G : Hp} {f : Str} {d : PyData} : ∀ {fs : List (Str × V)} {ds : List (Str × PyData)}, FldOk K G fs ds → ds.lookup f = some d → ∃ v, fs.lookup f = some v ∧ Dp K G v d
  | [], [], _, h => by cases h
  | p :: fs, q :: ds, h, e => by
    obtain ⟨a, v⟩ := p
    obtain ⟨b, c⟩ := q
    obtain ⟨h1, h2, h3⟩ := h
    simp only at h1 h2
    subst h1
    rw [List.lookup_cons] at e ⊢
    cases hb : (f == a) with
    | true =>
      rw [hb] at e
      cases e
      exact ⟨v, rfl, h2⟩
    | false =>
      rw [hb] at e
      exact FldOk.get h3 e
  | [], _ :: _, h, _ => h.elim
  | _ :: _, [], h, _ => h.elim
/-- an object that stays -/
def ins (K : PySem.W.Frag) (C : Addr) (v : V) (ds : List (Str × PyData)) : Fc :=
  ⟨fun G => ∃ a dx fs, v = .ref a ∧ G a = some (.ins C dx fs) ∧ FldOk K G fs ds, fun _ _ e ⟨a, dx, fs, h1, h2, h3⟩ => ⟨a, dx, fs, h1, e _ _ h2, h3.mono e⟩⟩
def Tells (F : List Fc) (f : Fc) : Prop := ∀ G, Facts F G → f.P G
section
variable {K : PySem.W.Frag} {F : List Fc} {m : List Sx} {H : Hp} {σ : L2.St} {Q : VK} {v x y : V} {d e : PyData} {ds : List (Str × PyData)} {ta tb : TE} {C : Addr} {f : Str} {g : Fc} {fs : List (Str × V)} {a : Addr} {E : XK}
theorem Tells.here : Tells (g :: F) g := fun _ h => h _ (.head _)
theorem Tells.there {g' : Fc} (h : Tells F g) : Tells (g' :: F) g := fun G q => h G fun z hz => q z (.tail _ hz)
theorem S.tells (h : S F m H) (q : Tells F g) : g.P H := q H h.facts
theorem S.addT (h : S F m H) (q : Tells F g) : S (g :: F) m H := h.add q
def FldR (K : PySem.W.Frag) (x : V) (f : Str) (H : Hp) (Q : VK) : Prop := ∃ a C dx fs v, x = .ref a ∧ H a = some (.ins C dx fs) ∧ Cls K C ∧ NoAttr K C f ∧ fs.lookup f = some v ∧ Q v H
theorem g_fldS (h : ta σ H fun x H1 => FldR K x f H1 Q) : tFld K ta f σ H Q := h
theorem g_fld (hS : S F m H) (hT : Tells F (ins K C x ds)) (c : Cls K C) (n : NoAttr K C f) (hl : ds.lookup f = some d) (q : ∀ w, S (dat K w d :: F) m H → Q w H) : FldR K x f H Q := by
  obtain ⟨G, e, fa, own, nd⟩ := id hS.ex
  obtain ⟨a, dx, fs, rfl, h2, h3⟩ := hT G fa
  obtain ⟨v, hv, hd⟩ := h3.get hl
  exact ⟨a, C, dx, fs, v, rfl, e _ _ h2, c, n, hv, q v ⟨G, e, fun z hz => by cases hz with | head => exact hd | tail _ hz => exact fa z hz, own, nd⟩⟩
def PrpR (C : Addr) (sp : Sp) (x : V) (H : Hp) (Q : VK) : Prop := ∃ a dx fs, x = .ref a ∧ H a = some (.ins C dx fs) ∧ sp (.ref a :: []) H Q E0
theorem g_prpS {sp : Sp} (h : ta σ H fun x H1 => PrpR C sp x H1 Q) : tProp C sp [] E0 ta σ H Q := h
theorem g_prp (hS : S F m H) (hT : Tells F (ins K C x ds)) (hl : ds.lookup f = some d) (q : ∀ w, S (dat K w d :: F) m H → Q w H) : PrpR C (getSp C f) x H Q := by
  obtain ⟨G, e, fa, own, nd⟩ := id hS.ex
  obtain ⟨a, dx, fs, rfl, h2, h3⟩ := hT G fa
  obtain ⟨v, hv, hd⟩ := h3.get hl
  exact ⟨a, dx, fs, rfl, e _ _ h2, a, dx, fs, v, rfl, e _ _ h2, hv, q v ⟨G, e, fun z hz => by cases hz with | head => exact hd | tail _ hz => exact fa z hz, own, nd⟩⟩
/-- a field is read of an object that is being made -/
theorem g_fldO {dx : Addr} (hS : S F m H) (hm : Raw a (.ins C dx fs) ∈ m) (c : Cls K C) (n : NoAttr K C f) {w : V} (hl : fs.lookup f = some w) (q : Q w H) : FldR K (.ref a) f H Q := by
  obtain ⟨G, e, fa, own, nd⟩ := hS.ex
  obtain ⟨_, o, ho, hp⟩ := own _ hm
  have hp' : o = .ins C dx fs := hp
  subst hp'
  exact ⟨a, C, dx, fs, w, rfl, ho, c, n, hl, q⟩
def SetR (K : PySem.W.Frag) (x y : V) (f : Str) (H : Hp) (Q : Hp → Prop) : Prop := ∃ a C dx fs, x = .ref a ∧ H a = some (.ins C dx fs) ∧ Cls K C ∧ NoAttr K C f ∧ fs.length < 1000 ∧ Q (upd H a (.ins C dx (putF f y fs)))
theorem g_sFldS {D : Ends} (h : tb σ H fun y H1 => ta σ H1 fun x H2 => SetR K x y f H2 fun H3 => D.nx σ H3) : sFld K ta tb f D σ H := h
theorem g_sFld {dx : Addr} {Q : Hp → Prop} (hS : S F (Raw a (.ins C dx fs) :: m) H) (c : Cls K C) (n : NoAttr K C f) (hl : fs.length < 1000) (q : ∀ H', S F (Raw a (.ins C dx (putF f y fs)) :: m) H' → Q H') : SetR K (.ref a) y f H Q := by
  obtain ⟨G, o, e, fa, ho, hp⟩ := hS.at0
  have hp' : o = .ins C dx fs := hp
  subst hp'
  exact ⟨a, C, dx, fs, rfl, ho, c, n, hl, q _ (hS.set0 (x := Raw a (.ins C dx fs)) (y := Raw a (.ins C dx (putF f y fs))) rfl fun _ _ _ _ _ => rfl)⟩
/-- an object is made -/
def MakR (C : Addr) (sp : Sp) (vs : List V) (H : Hp) (Q : VK) : Prop := ∀ x dx, H x = none → H dx = none → dx ≠ x → sp (.ref x :: (vs ++ [])) (upd (upd H dx (.own x)) x (.ins C dx [])) (fun v H2 => v = .non ∧ Q (.ref x) H2) E0
theorem g_makS {sp : Sp} {t : TA} (h : t σ H fun vs H1 => MakR C sp vs H1 Q) : tMake C sp [] E0 t σ H Q := h
theorem g_mak {sp : Sp} {vs : List V} (hS : S F m H) (q : ∀ x dx H', S F (Raw x (.ins C dx []) :: m) H' → sp (.ref x :: (vs ++ [])) H' (fun v H2 => v = .non ∧ Q (.ref x) H2) E0) : MakR C sp vs H Q := by
  intro x dx hx hd hn
  have h1 := hS.put hd (Raw dx (.own x)) rfl (fun _ _ => rfl)
  have h2 := h1.put (p := x) (o := .ins C dx []) (by rw [upd_ne (Ne.symm hn)]; exact hx) (Raw x (.ins C dx [])) rfl (fun _ _ => rfl)
  exact q x dx _ (h2.sub (.cons₂ _ (.cons _ (.refl _))))
theorem frzI {dx : Addr} (hS : S F (Raw a (.ins C dx fs) :: m) H) (hf : ∀ G, Facts F G → FldOk K G fs ds) : S (ins K C (.ref a) ds :: F) m H :=
  hS.frz (ins K C (.ref a) ds) fun G o fa hp e => by
    have hp' : o = .ins C dx fs := hp
    subst hp'
    exact ⟨a, dx, fs, rfl, e, hf G fa⟩
/-- what isinstance asks of a class of one's own and of a value's type -/
theorem g_isiC {t : Value} {b : Bool} (ty : TyX K H x t) (hb : PySem.W.kitOne K t (.ref C) = some b) (q : Q (.bl b) H) : rIsi K [x, .ref C] H Q := ⟨x, .ref C, t, _, b, rfl, .own C, ty, hb, q⟩
theorem tyx_ins (hS : S F m H) (hT : Tells F (ins K C x ds)) (c : C8.InsC K C) : TyX K H x (.ref C) := by
  obtain ⟨a, dx, fs, rfl, h2, h3⟩ := hS.tells hT
  exact .base (.ins h2 c.cl c.ha c.hn c.htk c.hm)
theorem g_isiI (hS : S F m H) (hT : Tells F (ins K C x ds)) (c : C8.InsC K C) (q : Q (.bl true) H) : rIsi K [x, .ref C] H Q := g_isiC (tyx_ins hS hT c) c.me q
theorem g_isiD (hS : S F m H) (hv : Has K F x d) (hb : PySem.W.kitOne K (.type (tyOf d)) (.ref C) = some false) (q : Q (.bl false) H) : rIsi K [x, .ref C] H Q := g_isiC (tyx (hS.dp hv)) hb q
end
end Qe

namespace Qe
open PySem PySem.Spec PyProof.Rows L2
/-! ### what is walked, as data -/
structure Src (K : PySem.W.Frag) (F0 : List Fc) (keep : List Sx → Prop) (J : It) (n : Nat) (item : Nat → PyData → Prop) : Prop where
  go : ∀ fs m H i, keep m → S (fs ++ F0) m H → i < n → J.go i H ∧ ∀ x H', J.yld i H x H' → ∃ d, item i d ∧ S (dat K x d :: (fs ++ F0)) m H'
  stop : ∀ fs m H, keep m → S (fs ++ F0) m H → J.stop n H
section
variable {K : PySem.W.Frag} {F F0 : List Fc} {m : List Sx} {H : Hp} {σ : L2.St} {nx bk ct : L2.St → Hp → Prop} {rt Q : VK} {v x y : V} {d e : PyData} {ds es : List PyData} {t u : TS} {g : TG} {c tt : TT} {te ta : TE} {l a : Addr} {J : It} {n : Nat} {item : Nat → PyData → Prop} {keep : List Sx → Prop} {ws : List Nat}
theorem src_tup (hv : Has K F0 (.ref a) (.tuple ds)) : Src K F0 (fun _ => True) (Itt K a) ds.length (fun i d => ds[i]? = some d) := by
  have key : ∀ fs m H, S (fs ++ F0) m H → ∃ xs, SqT K H a xs ∧ xs.length = ds.length ∧ ∀ (i : Nat) (w : V) (d : PyData), xs[i]? = some w → ds[i]? = some d → S (dat K w d :: (fs ++ F0)) m H := by
    intro fs m' H' h'
    obtain ⟨G, e, f, own, nd⟩ := h'.ex
    have z := hv.app (fs := fs) G f
    cases z with
    | tup hs' ha' =>
      refine ⟨_, same_t e hs', ha'.len, fun i w d h1 h2 => ?_⟩
      obtain ⟨w', e1, e2⟩ := ha'.get h2
      rw [h1] at e1
      cases e1
      exact ⟨G, e, fun g hg => by cases hg with | head => exact e2 | tail _ hg => exact f g hg, own, nd⟩
  refine ⟨fun fs m H i _ hS hi => ?_, fun fs m H _ hS => ?_⟩
  · obtain ⟨xs, h1, h2, h3⟩ := key fs m H hS
    have e1 : xs[i]? = some xs[i] := List.getElem?_eq_getElem (by omega)
    have e2 : ds[i]? = some ds[i] := List.getElem?_eq_getElem hi
    refine ⟨⟨xs, xs[i], h1, e1⟩, fun x H2 y => ?_⟩
    obtain ⟨rfl, y⟩ := y
    have ex := y xs h1
    rw [e1] at ex
    cases ex
    exact ⟨_, e2, h3 i _ _ e1 e2⟩
  · obtain ⟨xs, h1, h2, h3⟩ := key fs m H hS
    exact ⟨xs, h1, by omega⟩
theorem src_lst (hv : Has K F0 (.ref a) (.list ds)) : Src K F0 (fun _ => True) (Itl K a) ds.length (fun i d => ds[i]? = some d) := by
  have key : ∀ fs m H, S (fs ++ F0) m H → ∃ xs, SqL K H a xs ∧ xs.length = ds.length ∧ ∀ (i : Nat) (w : V) (d : PyData), xs[i]? = some w → ds[i]? = some d → S (dat K w d :: (fs ++ F0)) m H := by
    intro fs m' H' h'
    obtain ⟨G, e, f, own, nd⟩ := h'.ex
    have z := hv.app (fs := fs) G f
    cases z with
    | lst hs' ha' =>
      refine ⟨_, e.seq hs', ha'.len, fun i w d h1 h2 => ?_⟩
      obtain ⟨w', e1, e2⟩ := ha'.get h2
      rw [h1] at e1
      cases e1
      exact ⟨G, e, fun g hg => by cases hg with | head => exact e2 | tail _ hg => exact f g hg, own, nd⟩
  refine ⟨fun fs m H i _ hS hi => ?_, fun fs m H _ hS => ?_⟩
  · obtain ⟨xs, h1, h2, h3⟩ := key fs m H hS
    have e1 : xs[i]? = some xs[i] := List.getElem?_eq_getElem (by omega)
    have e2 : ds[i]? = some ds[i] := List.getElem?_eq_getElem hi
    refine ⟨⟨xs, xs[i], h1, e1⟩, fun x H2 y => ?_⟩
    obtain ⟨rfl, y⟩ := y
    have ex := y xs h1
    rw [e1] at ex
    cases ex
    exact ⟨_, e2, h3 i _ _ e1 e2⟩
  · obtain ⟨xs, h1, h2, h3⟩ := key fs m H hS
    exact ⟨xs, h1, by omega⟩
theorem src_own : Src K F0 (fun m => Ls K l ds ∈ m) (Itl K l) ds.length (fun i d => ds[i]? = some d) := by
  refine ⟨fun fs m H i hm hS hi => ?_, fun fs m H hm hS => ?_⟩
  · obtain ⟨xs, h1, h2, h3⟩ := own_list hS hm
    have e1 : xs[i]? = some xs[i] := List.getElem?_eq_getElem (by omega)
    have e2 : ds[i]? = some ds[i] := List.getElem?_eq_getElem hi
    have h0 : SqL K H l xs := SqL.of h1
    refine ⟨⟨xs, xs[i], h0, e1⟩, fun x H2 y => ?_⟩
    obtain ⟨rfl, y⟩ := y
    have ex := y xs h0
    rw [e1] at ex
    cases ex
    exact ⟨_, e2, h3 i _ _ e1 e2⟩
  · obtain ⟨xs, h1, h2, h3⟩ := own_list hS hm
    exact ⟨xs, SqL.of h1, by omega⟩
theorem src_rng {lo : Int} : Src K F0 (fun _ => True) (Itr lo n) n (fun i d => d = .int (lo + (i : Nat))) := by
  refine ⟨fun fs m H i _ hS hi => ⟨hi, fun x H2 y => ?_⟩, fun fs m H _ hS => Nat.le_refl _⟩
  obtain ⟨rfl, rfl⟩ := y
  exact ⟨_, rfl, hS.addD Has.int⟩
theorem src_rngC {lo c : Int} : Src K F0 (fun _ => True) (Itc lo c n) n (fun i d => d = .int (lo + (i : Nat) * c)) := by
  refine ⟨fun fs m H i _ hS hi => ⟨hi, fun x H2 y => ?_⟩, fun fs m H _ hS => Nat.le_refl _⟩
  obtain ⟨rfl, rfl⟩ := y
  exact ⟨_, rfl, hS.addD Has.int⟩
/-- enumerate's pairs -/
def enIt (ds : List PyData) (i : Nat) (d : PyData) : Prop := ∃ e, ds[i]? = some e ∧ d = .tuple [.int (i : Nat), e]
theorem src_enumT (hv : Has K F0 (.ref a) (.tuple ds)) : Src K F0 (fun _ => True) (IteT K a ds.length) ds.length (enIt ds) := by
  have B := src_tup (K := K) (a := a) hv
  refine ⟨fun fs m H i hm hS hi => ?_, fun fs m H hm hS => ?_⟩
  · obtain ⟨_, h3⟩ := B.go fs m H i hm hS hi
    have hx : ∃ xs x, SqT K H a xs ∧ xs.length = ds.length ∧ xs[i]? = some x := by
      have z := hS.dp (hv.app (fs := fs))
      cases z with
      | tup hs ha => exact ⟨_, _, hs, ha.len, List.getElem?_eq_getElem (by rw [ha.len]; exact hi)⟩
    obtain ⟨xs, x, h1, hl, h2⟩ := hx
    refine ⟨⟨xs, x, h1, hl, h2⟩, fun w H2 y => ?_⟩
    obtain ⟨T, x', rfl, hT, rfl, y⟩ := y
    have ex := y xs h1
    rw [h2] at ex
    cases ex
    obtain ⟨d, hd, hS2⟩ := h3 x H ⟨rfl, y⟩
    obtain ⟨G, ee, f, own, nd⟩ := hS2.ex
    refine ⟨_, ⟨d, hd, rfl⟩, ?_⟩
    have f' : Facts (fs ++ F0) G := fun g hg => f g (.tail _ hg)
    exact putG ee f' own nd hT (dat K (.ref T) (.tuple [.int (i : Nat), d])) fun G' s' e' => .tup (SqT.of e') (.cons (.int _) (.cons (dp_mono s' _ _ (f _ (.head _))) .nil))
  · have z := hS.dp (hv.app (fs := fs))
    cases z with
    | tup hs ha => exact ⟨_, hs, ha.len, Nat.le_refl _⟩
theorem src_enumL (hv : Has K F0 (.ref a) (.list ds)) : Src K F0 (fun _ => True) (Ite K a) ds.length (enIt ds) := by
  have B := src_lst (K := K) (a := a) hv
  refine ⟨fun fs m H i hm hS hi => ?_, fun fs m H hm hS => ?_⟩
  · obtain ⟨⟨xs, x, h1, h2⟩, h3⟩ := B.go fs m H i hm hS hi
    refine ⟨⟨xs, x, h1, h2⟩, fun w H2 y => ?_⟩
    obtain ⟨T, x', rfl, hT, rfl, y⟩ := y
    have ex := y xs h1
    rw [h2] at ex
    cases ex
    obtain ⟨d, hd, hS2⟩ := h3 x H ⟨rfl, y⟩
    obtain ⟨G, ee, f, own, nd⟩ := hS2.ex
    refine ⟨_, ⟨d, hd, rfl⟩, ?_⟩
    have f' : Facts (fs ++ F0) G := fun g hg => f g (.tail _ hg)
    exact putG ee f' own nd hT (dat K (.ref T) (.tuple [.int (i : Nat), d])) fun G' s' e' => .tup (SqT.of e') (.cons (.int _) (.cons (dp_mono s' _ _ (f _ (.head _))) .nil))
  · exact B.stop fs m H hm hS
end
end Qe
namespace Qe
open PySem PySem.Spec PyProof.Rows L2
section
variable {K : PySem.W.Frag} {F F0 : List Fc} {m : List Sx} {H : Hp} {σ : L2.St} {nx bk ct : L2.St → Hp → Prop} {rt Q : VK} {v x y : V} {d e : PyData} {ds es : List PyData} {t u : TS} {g : TG} {c tt : TT} {te ta tb : TE} {l a : Addr} {J : It} {n : Nat} {item : Nat → PyData → Prop} {keep : List Sx → Prop} {ws : List Nat} {wi : TI} {D : Ends}
theorem forJ (hJ : Src K F0 keep J n item) (Inv : Nat → L2.St → List Fc → List Sx → Prop) (fs0 : List Fc) (hS : S (fs0 ++ F0) m H) (h0 : Inv 0 σ fs0 m) (hk : ∀ i σ fs m, Inv i σ fs m → keep m)
    (hs : ∀ i d x σ' fs m' H', i < n → item i d → Inv i σ' fs m' → S (dat K x d :: (fs ++ F0)) m' H' → g x σ' H' fun σ2 H2 => t ⟨AtF F0 (Inv (i + 1)), rt, nx, AtF F0 (Inv (i + 1))⟩ σ2 H2)
    (hd : ∀ σ' fs m' H', Inv n σ' fs m' → S (fs ++ F0) m' H' → nx σ' H') : ForJ J g t ⟨nx, rt, bk, ct⟩ σ H := by
  refine ⟨fun i k σ' H' => k = n - i ∧ i ≤ n ∧ AtF F0 (Inv i) σ' H', ⟨_, rfl, Nat.zero_le _, fs0, m, h0, hS⟩, ?_⟩
  rintro i k σ' H' ⟨rfl, hi, fs, m', p, hS'⟩
  by_cases hlt : i < n
  · obtain ⟨h1, h2⟩ := hJ.go fs m' H' i (hk _ _ _ _ p) hS' hlt
    refine .inr ⟨h1, AtF F0 (Inv (i + 1)), fun σ2 H2 p2 => ⟨_, by omega, rfl, hlt, p2⟩, fun x H2 y => ?_⟩
    obtain ⟨d, hd', hS2⟩ := h2 x H2 y
    exact hs i d x σ' fs m' H2 hlt hd' p hS2
  · have e : i = n := by omega
    subst e
    exact .inl ⟨hJ.stop fs m' H' (hk _ _ _ _ p) hS', hd σ' fs m' H' p hS'⟩
theorem g_forJ (h : wi σ H fun J H1 => ForJ J g t D σ H1) : tFor wi g t D σ H := h
/-- what the element of a comprehension is told into -/
def LcP (D : Addr) (Nx : Hp → Prop) : VK := fun y H4 => ∃ acc, H4 D = some (.lst acc) ∧ acc.length < sizeLine ∧ Nx (upd H4 D (.lst (acc ++ [y])))
def LcX (D : Addr) (Nx : Hp → Prop) (tt : TT) (te : TE) (ws : List Nat) (σ0 : L2.St) : L2.St → Hp → Prop := fun σ2 H2 => wipe σ2 ws = σ0 ∧ tt σ2 H2 fun b H3 => if b = true then te σ2 H3 (LcP D Nx) else Nx H3
theorem lcP {acc : List PyData} {Dd : Addr} {Nx : Hp → Prop} (hS : S F (Ls K Dd acc :: m) H) (hy : Has K F y e) (hz : acc.length < 1000000) (q : ∀ H', S F (Ls K Dd (acc ++ [e]) :: m) H' → Nx H') : LcP Dd Nx y H := by
  obtain ⟨G, vs, _, f, ho, ha⟩ := own_at (i := 0) (ds := acc) hS rfl
  refine ⟨vs, ho, by rw [ha.len]; exact Nat.lt_of_lt_of_le hz (by decide), q _ (upd_setAt (i := 0) (G := G) hS rfl fun G' vs' f' ho' ha' => ?_)⟩
  rw [ho] at ho'
  cases ho'
  exact ha'.app (.cons (hy G' f') .nil)
theorem lcX {Dd : Addr} {Nx : Hp → Prop} {σ0 : L2.St} (hw : wipe σ ws = σ0) (h : tt σ H fun b H3 => if b = true then te σ H3 (LcP Dd Nx) else Nx H3) : LcX Dd Nx tt te ws σ0 σ H := ⟨hw, h⟩
theorem lcJ (hJ : Src K F0 keep J n item) (hz : n < 1000000) (Inv : Nat → List PyData → List Sx → Prop) (hS : S F0 m H) (h0 : Inv 0 [] m) (hk : ∀ i acc m D, Inv i acc m → keep (Ls K D acc :: m))
    (hs : ∀ i d x Dd acc m' H' Nx, i < n → item i d → acc.length ≤ i → Inv i acc m' → S (dat K x d :: F0) (Ls K Dd acc :: m') H' → (∀ acc' m2 H2, acc'.length ≤ i + 1 → Inv (i + 1) acc' m2 → S F0 (Ls K Dd acc' :: m2) H2 → Nx H2) → g x (wipe σ ws) H' (LcX Dd Nx tt te ws (wipe σ ws)))
    (hd : ∀ Dd acc m' H', acc.length ≤ n → Inv n acc m' → S F0 (Ls K Dd acc :: m') H' → Q (.ref Dd) H') : LcJ J g tt te ws σ H Q := by
  intro Dd hD
  refine ⟨fun i k H' => k = n - i ∧ i ≤ n ∧ ∃ acc m', acc.length ≤ i ∧ Inv i acc m' ∧ S F0 (Ls K Dd acc :: m') H', ⟨_, rfl, Nat.zero_le _, [], m, Nat.le_refl _, h0, hS.put hD (Ls K Dd []) rfl fun G g => ⟨[], rfl, .nil⟩⟩, ?_⟩
  rintro i k H' ⟨rfl, hi, acc, m', hacc, p, hS'⟩
  by_cases hlt : i < n
  · obtain ⟨h1, h2⟩ := hJ.go [] _ H' i (hk _ _ _ _ p) hS' hlt
    refine .inr ⟨h1, fun H2 => ∃ acc m', acc.length ≤ i + 1 ∧ Inv (i + 1) acc m' ∧ S F0 (Ls K Dd acc :: m') H2, fun H2 p2 => ⟨_, by omega, rfl, hlt, p2⟩, fun x H2 y => ?_⟩
    obtain ⟨d, hd', hS2⟩ := h2 x H2 y
    exact hs i d x Dd acc m' H2 _ hlt hd' hacc p hS2 fun acc' m2 H3 h1 h2 h3 => ⟨acc', m2, h1, h2, h3⟩
  · have e : i = n := by omega
    subst e
    exact .inl ⟨hJ.stop [] _ H' (hk _ _ _ _ p) hS', hd Dd acc m' H' hacc p hS'⟩
theorem g_lcJ (h : wi σ H fun J H1 => LcJ J g tt te ws σ H1 Q) : tLc wi g tt te ws σ H Q := h
/-! what is walked: readings -/
theorem w_seq {R : It → Hp → Prop} (h : te σ H fun x H1 => SeqJ K x H1 fun J => R J H1) : iSeq K te σ H R := h
theorem w_data {R : It → Prop} (hS : S F m H) (hv : Has K F v (.tuple ds) ∨ Has K F v (.list ds)) (h : ∀ J, Src K F (fun _ => True) J ds.length (fun i d => ds[i]? = some d) → R J) : SeqJ K v H R := by
  obtain ⟨a, rfl, z⟩ := src_seq (R := fun _ => True) hS hv
  have z2 := z.imp (fun q => q m H hS) (fun q => q m H hS)
  have key : ∃ d, (d = .tuple ds ∨ d = .list ds) ∧ Has K F (.ref a) d := by
    rcases hv with hv | hv
    · exact ⟨_, .inl rfl, hv⟩
    · exact ⟨_, .inr rfl, hv⟩
  rcases hv with hv | hv
  · have z := hS.dp hv
    cases z with
    | tup hs ha => exact ⟨a, rfl, .inr ⟨⟨_, hs⟩, h _ (src_tup hv)⟩⟩
  · have z := hS.dp hv
    cases z with
    | lst hs ha => exact ⟨a, rfl, .inl ⟨⟨_, hs⟩, h _ (src_lst hv)⟩⟩
theorem w_own {R : It → Prop} (hS : S F m H) (hm : Ls K l ds ∈ m) (h : ∀ J, Src K F (fun m => Ls K l ds ∈ m) J ds.length (fun i d => ds[i]? = some d) → R J) : SeqJ K (.ref l) H R := by
  obtain ⟨xs, h1, h2, h3⟩ := own_list hS hm
  exact ⟨l, rfl, .inl ⟨⟨xs, SqL.of h1⟩, h _ src_own⟩⟩
def EnumJ (K : PySem.W.Frag) (vs : List V) (H1 : Hp) (R : It → Prop) : Prop := ∃ a, vs = [.ref a] ∧ ((∃ xs, SqL K H1 a xs ∧ R (Ite K a)) ∨ ∃ xs, SqT K H1 a xs ∧ R (IteT K a xs.length))
theorem w_enum {R : It → Hp → Prop} {tas : TA} (h : tas σ H fun vs H1 => EnumJ K vs H1 fun J => R J H1) : iEnumU K tas σ H R := h
theorem w_enumD {R : It → Prop} (hS : S F m H) (hv : Has K F v (.tuple ds) ∨ Has K F v (.list ds)) (h : ∀ J, Src K F (fun _ => True) J ds.length (enIt ds) → R J) : EnumJ K [v] H R := by
  obtain ⟨a, rfl, z⟩ := src_seq (R := fun _ => True) hS hv
  rcases hv with hv | hv
  · have z := hS.dp hv
    cases z with
    | tup hs ha =>
      refine ⟨a, rfl, .inr ⟨_, hs, h _ ?_⟩⟩
      rw [ha.len]
      exact src_enumT hv
  · have z := hS.dp hv
    cases z with
    | lst hs ha => exact ⟨a, rfl, .inl ⟨_, hs, h _ (src_enumL hv)⟩⟩
def RngJ1 (vs : List V) (R : It → Prop) : Prop := ∃ j : Int, vs = [.int j] ∧ -(2 ^ 62) ≤ j ∧ j < 2 ^ 62 ∧ R (Itr 0 j.toNat)
theorem w_rng1 {R : It → Hp → Prop} {tas : TA} (h : tas σ H fun vs H1 => RngJ1 vs fun J => R J H1) : iRng1 tas σ H R := h
theorem w_rngD {R : It → Prop} {j : Int} (hj : -(2 ^ 62) ≤ j ∧ j < 2 ^ 62) (h : ∀ J, Src K F (fun _ => True) J j.toNat (fun i d => d = .int ((i : Nat) : Int)) → R J) : RngJ1 [.int j] R := by
  refine ⟨j, rfl, hj.1, hj.2, h _ ?_⟩
  have z := src_rng (K := K) (F0 := F) (n := j.toNat) (lo := 0)
  simp only [Int.zero_add] at z
  exact z
end
end Qe

namespace Qe
open PySem PySem.Spec PyProof.Rows L2
/-- an owned dict, as a function -/
def DkOk (K : PySem.W.Frag) (G : Hp) (g : Key → Option PyData) (vs : List (Key × V)) : Prop := ∀ k, match valV vs k, g k with
  | some v, some d => Dp K G v d
  | none, none => True
  | _, _ => False
theorem DkOk.mono {K : PySem.W.Frag} {G H : Hp} (e : Same G H) {g : Key → Option PyData} {vs : List (Key × V)} (h : DkOk K G g vs) : DkOk K H g vs := fun k => by
  have := h k
  cases h1 : valV vs k <;> cases h2 : g k <;> rw [h1, h2] at this <;> first | exact trivial | exact this.elim | exact dp_mono e _ _ this
def Dk (K : PySem.W.Frag) (l : Addr) (g : Key → Option PyData) (n : Nat) : Sx := ⟨l, fun G o => ∃ vs, o = .dK vs ∧ vs.length ≤ n ∧ DkOk K G g vs, fun _ _ _ e ⟨vs, h1, h2, h3⟩ => ⟨vs, h1, h2, h3.mono e⟩⟩
def setG (g : Key → Option PyData) (k : Key) (d : PyData) : Key → Option PyData := fun j => if j = k then some d else g j
section
variable {K : PySem.W.Frag} {F F0 : List Fc} {m : List Sx} {H : Hp} {σ : L2.St} {nx bk ct : L2.St → Hp → Prop} {rt Q : VK} {v x y : V} {d e : PyData} {ds es : List PyData} {t u : TS} {c tt : TT} {te ta tb tv td ty : TE} {l a : Addr} {n : Nat} {g : Key → Option PyData} {k : Key} {D : Ends}
def GetR (x y : V) (H : Hp) (Q : VK) : Prop := ∃ a v, x = .ref a ∧ DGet H a y (some v) ∧ Q v H
theorem g_dgetS (h : td σ H fun x H1 => ty σ H1 fun y H2 => GetR x y H2 Q) : tDGet td ty σ H Q := h
theorem g_dget (hS : S F m H) (hm : Dk K l g n ∈ m) (hk : y = kV k) (hg : g k = some d) (q : ∀ v, S (dat K v d :: F) m H → Q v H) : GetR (.ref l) y H Q := by
  obtain ⟨G, ee, f, own, nd⟩ := id hS.ex
  obtain ⟨_, o, ho, vs, rfl, hl, hv⟩ := own _ hm
  have z := hv k
  rw [hg] at z
  cases h1 : valV vs k with
  | none => rw [h1] at z; exact z.elim
  | some v =>
    rw [h1] at z
    refine ⟨l, v, rfl, .inl ⟨vs, k, .inl ho, hk, h1.symm⟩, q v ⟨G, ee, fun w hw => by cases hw with | head => exact z | tail _ hw => exact f w hw, own, nd⟩⟩
def InR (neg : Bool) (y x : V) (H : Hp) (Q : VK) : Prop := ∃ a o, x = .ref a ∧ DGet H a y o ∧ Q (.bl (if neg then !o.isSome else o.isSome)) H
theorem g_dinS (h : ty σ H fun y H1 => td σ H1 fun x H2 => InR false y x H2 Q) : tDIn ty td σ H Q := h
theorem g_dninS (h : ty σ H fun y H1 => td σ H1 fun x H2 => InR true y x H2 Q) : tDNotIn ty td σ H Q := h
theorem g_din {neg : Bool} (hS : S F m H) (hm : Dk K l g n ∈ m) (hk : y = kV k) (q : Q (.bl (if neg then !(g k).isSome else (g k).isSome)) H) : InR neg y (.ref l) H Q := by
  obtain ⟨G, ee, f, own, nd⟩ := id hS.ex
  obtain ⟨_, o, ho, vs, rfl, hl, hv⟩ := own _ hm
  have z := hv k
  refine ⟨l, valV vs k, rfl, .inl ⟨vs, k, .inl ho, hk, rfl⟩, ?_⟩
  have e : (valV vs k).isSome = (g k).isSome := by
    cases h1 : valV vs k <;> cases h2 : g k <;> rw [h1, h2] at z <;> first | rfl | exact z.elim
  rw [e]
  exact q
theorem g_dinI {neg : Bool} {i : Int} (hS : S F m H) (hm : Dk K l g n ∈ m) (q : Q (.bl (if neg then !(g (.inl i)).isSome else (g (.inl i)).isSome)) H) : InR neg (.int i) (.ref l) H Q := g_din hS hm rfl q
theorem g_dgetI {i : Int} (hS : S F m H) (hm : Dk K l g n ∈ m) (hg : g (.inl i) = some d) (q : Res K F m H d Q) : GetR (.ref l) (.int i) H Q := g_dget hS hm rfl hg q
def PutR (x y v : V) (H : Hp) (Q : Hp → Prop) : Prop := ∃ a H', x = .ref a ∧ DPut H a y v H' ∧ Q H'
theorem g_dputS (h : tv σ H fun v H1 => td σ H1 fun x H2 => ty σ H2 fun y H3 => PutR x y v H3 fun H4 => D.nx σ H4) : sDPut td ty tv D σ H := h
theorem putK_le (c : List (Key × V)) (k : Key) (x : V) : (putK c k x).length ≤ c.length + 1 := by
  unfold putK
  split
  · rw [List.length_map]; omega
  · rw [List.length_append]; simp
theorem g_dput {Q : Hp → Prop} (i : Nat) (hS : S F m H) (hm : m[i]? = some (Dk K l g n)) (hk : y = kV k) (hv : Has K F v d) (hn : n < 1000000) (q : ∀ H', S F (m.set i (Dk K l (setG g k d) (n + 1))) H' → Q H') : PutR (.ref l) y v H Q := by
  obtain ⟨G, ee, f, own, nd⟩ := id hS.ex
  obtain ⟨_, o, ho, vs, rfl, hl, hv2⟩ := own _ (List.mem_of_getElem? hm)
  have ho : H l = some (.dK vs) := ho
  refine ⟨l, _, rfl, .inl ⟨vs, k, ho, hk, Nat.lt_of_le_of_lt hl (Nat.lt_of_lt_of_le hn (by decide)), rfl⟩, q _ ?_⟩
  refine hS.setAt (x := Dk K l g n) (y := Dk K l (setG g k d) (n + 1)) hm rfl fun G' o' f' e' ⟨vs', h1, h2, h3⟩ => ?_
  have e' : H l = some o' := e'
  rw [ho] at e'
  cases e'
  cases h1
  refine ⟨_, rfl, by have := putK_le vs k v; omega, fun j => ?_⟩
  rw [valV_put]
  unfold setG
  by_cases hj : j = k
  · rw [if_pos hj, if_pos hj]
    exact hv G' f'
  · rw [if_neg hj, if_neg hj]
    exact h3 j
theorem g_dput0 {Q : Hp → Prop} (hS : S F (Dk K l g n :: m) H) (hk : y = kV k) (hv : Has K F v d) (hn : n < 1000000) (q : ∀ H', S F (Dk K l (setG g k d) (n + 1) :: m) H' → Q H') : PutR (.ref l) y v H Q := g_dput 0 hS rfl hk hv hn q
theorem g_dnew (hS : S F m H) (q : ∀ p H', S F (Dk K p (fun _ => none) 0 :: m) H' → Q (.ref p) H') : tDNewK σ H Q := fun p hp =>
  q p _ (hS.put hp (Dk K p (fun _ => none) 0) rfl fun G f => ⟨[], rfl, Nat.le_refl _, fun k => by rw [valV_nil]; exact trivial⟩)
/-! ### slices, reversed lists, repeated lists -/
theorem g_slT {lo hi : Option Int} (hS : S F m H) (hv : Has K F v (.tuple ds)) (q : ResH K F m (.tuple (cutD ds lo hi)) Q) : rSlU K v lo hi H Q := by
  obtain ⟨G, e, f, own, nd⟩ := hS.ex
  have z := hv G f
  cases z with
  | tup hs ha =>
    refine .inr (.inl ⟨_, _, rfl, same_t e hs, fun hw => ?_, fun hw l hl => q _ _ (putG e f own nd hl _ fun G' s' e' => .tup (SqT.of e') ?_)⟩)
    · have e0 : cutD ds lo hi = ds := by
        unfold cutD
        rw [← ha.len, hw.1, hw.2, List.drop_zero, ha.len, Nat.sub_zero, List.take_length]
      rw [e0] at q
      exact q _ _ (hS.addD hv)
    · have ha' := dps_mono s' _ _ ha
      unfold cutV cutD
      rw [ha.len]
      exact (ha'.drop _).take _
theorem g_slO {lo hi : Option Int} (hS : S F m H) (hm : Ls K l ds ∈ m) (q : ResH K F m (.list (cutD ds lo hi)) Q) : rSlU K (.ref l) lo hi H Q := by
  obtain ⟨G, e, f, own, nd⟩ := hS.ex
  obtain ⟨_, o, ho, vs, rfl, ha⟩ := own _ hm
  refine .inl ⟨_, _, rfl, SqL.of ho, fun p hp => q _ _ (putG e f own nd hp _ fun G' s' e' => .lst (SqL.of e') ?_)⟩
  have ha' := dps_mono s' _ _ ha
  unfold cutV cutD
  rw [ha.len]
  exact (ha'.drop _).take _
def RevR (K : PySem.W.Frag) (x : V) (H1 : Hp) (Q : VK) : Prop := ∃ a xs, x = .ref a ∧ SqL K H1 a xs ∧ ∀ p, H1 p = none → Q (.ref p) (upd H1 p (.lst xs.reverse))
theorem g_revS (h : te σ H fun x H1 => RevR K x H1 Q) : tRevL K te σ H Q := h
theorem g_revO (hS : S F m H) (hm : Ls K l ds ∈ m) (q : ∀ p H', S F (Ls K p ds.reverse :: m) H' → Q (.ref p) H') : RevR K (.ref l) H Q := by
  obtain ⟨G, e, f, own, nd⟩ := hS.ex
  obtain ⟨_, o, ho, vs, rfl, ha⟩ := own _ hm
  exact ⟨l, vs, rfl, SqL.of ho, fun p hp => q p _ (putO e f own nd hp (Ls K p ds.reverse) rfl ⟨_, rfl, ha.rev⟩)⟩
theorem g_mulUI {i j : Int} (c : CMul i j) (q : Q (.int (i * j)) H) : rMulU (.int i) (.int j) H Q := .inl ⟨i, j, rfl, rfl, c, q⟩
theorem dps_rep {G : Hp} {vs : List V} (h : DpAll K G vs ds) : ∀ n : Nat, DpAll K G (List.replicate n vs).flatten (List.replicate n ds).flatten
  | 0 => .nil
  | n + 1 => by
    rw [List.replicate_succ, List.replicate_succ, List.flatten_cons, List.flatten_cons]
    exact h.app (dps_rep h n)
theorem g_mulUL {j : Int} (hS : S F m H) (hm : Ls K l ds ∈ m) (hj : -(2 ^ 63) ≤ j ∧ j < 2 ^ 63) (hz : ds.length * j.toNat ≤ 1000000) (q : ∀ p H', S F (Ls K p (List.replicate j.toNat ds).flatten :: m) H' → Q (.ref p) H') : rMulU (.ref l) (.int j) H Q := by
  obtain ⟨G, e, f, own, nd⟩ := hS.ex
  obtain ⟨_, o, ho, vs, rfl, ha⟩ := own _ hm
  refine .inr ⟨l, j, vs, rfl, rfl, ho, hj.1, hj.2, by rw [ha.len]; exact Nat.le_trans hz (by decide), fun p hp => q p _ (putO e f own nd hp (Ls K p (List.replicate j.toNat ds).flatten) rfl ⟨_, rfl, dps_rep ha _⟩)⟩
theorem g_count (hS : S F m H) (hx : Has K F x (.list ds)) (hv : Has K F v d) (hp : PyData.plainAll ds = true) (hd : d.plain = true) (hdd : d.depth ≤ 16) (q : Q (.int ((ds.countP fun y => PyData.eqv y d : Nat) : Int)) H) : rCount K x [v] H Q := by
  have z := hS.dp hx
  obtain ⟨l, xs, e⟩ : ∃ l xs, x = .ref l ∧ SqL K H l xs := by
    cases z with
    | lst hs ha => exact ⟨_, _, rfl, hs⟩
  exact ⟨l, ds, v, d, e.1, rfl, hS.dp hx, hS.dp hv, hp, hd, hdd, q⟩
/-- reversed(range(n)) -/
def RevRg (a b : Int) (R : It → Prop) : Prop := -(2 ^ 62) ≤ a ∧ a < 2 ^ 62 ∧ -(2 ^ 62) ≤ b ∧ b < 2 ^ 62 ∧ R (Itc (a + (((b - a).toNat : Nat) : Int) - 1) (-1) (b - a).toNat)
theorem w_rev {R : It → Hp → Prop} {tr : L2.St → Hp → (Int → Int → Hp → Prop) → Prop} (h : tr σ H fun a b H1 => RevRg a b fun J => R J H1) : iRevR tr σ H R := h
theorem w_revD {R : It → Prop} {b : Int} (h0 : 0 ≤ b) (hb : b < 2 ^ 62) (h : ∀ J, Src K F (fun _ => True) J b.toNat (fun i d => d = .int (b - 1 - ((i : Nat) : Int))) → R J) : RevRg 0 b R := by
  refine ⟨by decide, by decide, by omega, hb, h _ ?_⟩
  have z := src_rngC (K := K) (F0 := F) (n := (b - 0).toNat) (lo := 0 + (((b - 0).toNat : Nat) : Int) - 1) (c := -1)
  have e : (b - 0).toNat = b.toNat := by omega
  rw [e] at z ⊢
  refine ⟨fun fs m H i hm hS hi => ?_, z.stop⟩
  obtain ⟨h1, h2⟩ := z.go fs m H i hm hS hi
  refine ⟨h1, fun x H' hy => ?_⟩
  obtain ⟨d, hd, hS2⟩ := h2 x H' hy
  refine ⟨d, ?_, hS2⟩
  rw [hd]
  congr 1
  omega
end
end Qe

namespace Qe
open PySem PySem.Spec PyProof.Rows L2
theorem hu1_of {k : Nat} {A : Around} (r : Room k A) : A.units + 1 < cLine := by
  have := r.un
  omega
/-- a property's getter -/
def gtA (K : PySem.W.Frag) (C : Addr) (f : Str) : Addr := match PySem.W.recIn K (He.ma K C f) "property" with
  | some (.ref g :: _) => g
  | _ => 0
def prpB (K : PySem.W.Frag) (C : Addr) (f : Str) : Bool := He.eqO (PySem.W.findIn K (.ref C) f) (some (some (.ref (He.ma K C f)))) && (He.eqO (PySem.W.specialIn K (.ref (He.ma K C f)) "__get__") (some (some (.builtin "property.__get__"))) &&
  (decide (PySem.W.takesIn K (.ref (He.ma K C f)) = some true) && (match PySem.W.recIn K (He.ma K C f) "property" with
    | some (.ref _ :: _) => true
    | _ => false)))
theorem prpB_ok {K : PySem.W.Frag} {C : Addr} {f : Str} (h : prpB K C f = true) : PropOf K C f (He.ma K C f) (gtA K C f) := by
  obtain ⟨h1, h⟩ := He.ba h
  obtain ⟨h2, h⟩ := He.ba h
  obtain ⟨h3, h4⟩ := He.ba h
  refine ⟨He.eqO_ok h1, He.eqO_ok h2, of_decide_eq_true h3, ?_⟩
  unfold gtA
  split at h4
  · rename_i g r e
    exact ⟨r, by rw [e]⟩
  · cases h4
/-- isinstance asks of a class -/
def insB (K : PySem.W.Frag) (C : Addr) : Bool := He.eqO (PySem.W.findIn K (.ref C) "__class__") (some (some (.builtin "object.__class__"))) && (He.eqO (PySem.W.specialIn K (.builtin "object.__class__") "__get__") (some (some (.builtin "getset_descriptor.__get__"))) &&
  (decide (PySem.W.takesIn K (.builtin "object.__class__") = some true) && (decide (PySem.W.mroIn K C (.type "object") = some true) && decide (PySem.W.kitOne K (.ref C) (.ref C) = some true))))
theorem insB_ok {K : PySem.W.Frag} {C : Addr} (c : Cls K C) (h : insB K C = true) : C8.InsC K C := by
  obtain ⟨h1, h⟩ := He.ba h
  obtain ⟨h2, h⟩ := He.ba h
  obtain ⟨h3, h⟩ := He.ba h
  obtain ⟨h4, h5⟩ := He.ba h
  exact ⟨c, He.eqO_ok h1, He.eqO_ok h2, of_decide_eq_true h3, of_decide_eq_true h4, of_decide_eq_true h5⟩
/-- data is no instance of the class -/
def notB (K : PySem.W.Frag) (C : Addr) : Bool := ["NoneType", "bool", "int", "str", "list", "tuple", "dict"].all fun t => decide (PySem.W.kitOne K (.type t) (.ref C) = some false)
theorem notB_ok {K : PySem.W.Frag} {C : Addr} (h : notB K C = true) (d : PyData) : PySem.W.kitOne K (.type (tyOf d)) (.ref C) = some false := by
  have z := List.all_eq_true.mp h
  refine of_decide_eq_true (z (tyOf d) ?_)
  cases d <;> simp [tyOf]
/-- a module's tuple of texts -/
theorem tupS_ok {K : PySem.W.Frag} {x : Str} {ts : List Str} (h : He.tupB K x (ts.map He.Dv.str) = true) (H : Hp) : Dp K H (.ref (He.ga K x)) (.tuple (ts.map PyData.str)) := by
  refine .tup (He.tupB_ok h H) ?_
  clear h
  induction ts with
  | nil => exact .nil
  | cons t ts ih => exact .cons (.str t) ih
/-! ### the Hook -/
def obsQ (ex : PySem.W.Frag → Bool) (fa : List He.Fa) (fn : List He5.DefA) (K : PySem.W.Frag) : He.AlD := ((fa.all fun f => f.ok K) && ((fn.all fun d => d.ok K) && ex K), fn.map fun d => He5.fnA K (d.at_ K))
def valQ (fn : List He5.DefA) : He.AlD := (true, fn.map He5.DefA.val)
def SaysQ (ex : PySem.W.Frag → Bool) (fa : List He.Fa) (fn : List He5.DefA) (K : PySem.W.Frag) : Prop := obsQ ex fa fn K = valQ fn
def obsQG (n : Nat) (ex : PySem.W.Frag → Bool) (fa : List He.Fa) (fn : List He5.DefA) (g : Addr → Option Obj) : He.AlD := obsQ ex fa fn (He.frG g (He5.asA g n))
def hookQ (n : Nat) (ex : PySem.W.Frag → Bool) (fa : List He.Fa) (fn : List He5.DefA) : PySem.W.Hook where
  α := He.AlD
  obs := fun s => obsQG n ex fa fn s.heap.get?
  val := fun _ => valQ fn
  says := fun _ h => ∃ K : PySem.W.Frag, K.In h ∧ SaysQ ex fa fn K
  of := fun _ _ e => ⟨_, He.frG_in, e⟩
  keeps := fun _ _ _ ⟨K, hK, c⟩ k => ⟨K, PySem.W.Frag.In.keeps hK k, c⟩
theorem obsQG_eq {n : Nat} {ex : PySem.W.Frag → Bool} {fa : List He.Fa} {fn : List He5.DefA} {g : Addr → Option Obj} {s : Shared} (h : ∀ a, g a = s.heap.get? a) : obsQG n ex fa fn g = (hookQ n ex fa fn).obs s := by
  have e : g = s.heap.get? := funext h
  rw [e] <;> rfl
section
variable {fa : List He.Fa} {fn : List He5.DefA} {K : PySem.W.Frag} {ex : PySem.W.Frag → Bool}
theorem SaysQ.fact (c : SaysQ ex fa fn K) (i : Nat) {f : He.Fa} (h : fa[i]? = some f := by rfl) : f.ok K = true := by
  have c1 := (He.ba (show ((fa.all fun f => f.ok K) && ((fn.all fun d => d.ok K) && ex K)) = true from congrArg (fun z : He.AlD => z.1) c)).1
  exact List.all_eq_true.mp c1 f (List.mem_of_getElem? h)
theorem SaysQ.more (c : SaysQ ex fa fn K) : ex K = true :=
  (He.ba (He.ba (show ((fa.all fun f => f.ok K) && ((fn.all fun d => d.ok K) && ex K)) = true from congrArg (fun z : He.AlD => z.1) c)).2).2
theorem SaysQ.def_ (c : SaysQ ex fa fn K) (i : Nat) {d : He5.DefA} (h : fn[i]? = some d := by rfl) : ∃ fd, L2.FunD K d.name d.qual d.params d.body d.scope (d.dvs K) (d.kws K) (d.at_ K) fd := by
  have c2 := (He.ba (He.ba (show ((fa.all fun f => f.ok K) && ((fn.all fun d => d.ok K) && ex K)) = true from congrArg (fun z : He.AlD => z.1) c)).2).1
  have e : fn.map (fun d => He5.fnA K (d.at_ K)) = fn.map He5.DefA.val := congrArg (fun z : He.AlD => z.2) c
  have e2 : (fn.map fun d => He5.fnA K (d.at_ K))[i]? = (fn.map He5.DefA.val)[i]? := by rw [e]
  rw [List.getElem?_map, List.getElem?_map, h] at e2
  exact He5.DefA.funD (Option.some.inj e2) (List.all_eq_true.mp c2 d (List.mem_of_getElem? h))
end
structure SchK (K : PySem.W.Frag) : Prop where
  cl : Cls K (He.ga K "Schema")
  n1 : NoAttr K (He.ga K "Schema") "_root"
  n2 : NoAttr K (He.ga K "Schema") "_rules"
  ii : C8.InsC K (He.ga K "Schema")
  nd : ∀ d : PyData, PySem.W.kitOne K (.type (tyOf d)) (.ref (He.ga K "Schema")) = some false
def HowsK (K : PySem.W.Frag) : Prop := ∀ H : Hp, Dp K H (.ref (He.ga K "HOWS")) (.tuple ((["one", "maybe", "any", "some"] : List Str).map PyData.str))
end Qe

namespace Qe
open PySem PySem.Spec PyProof.Rows L2
section
variable {K : PySem.W.Frag} {F F0 : List Fc} {m : List Sx} {H : Hp} {σ : L2.St} {nx bk ct : L2.St → Hp → Prop} {rt Q : VK} {v x y : V} {d e : PyData} {ds es : List PyData} {t u : TS} {g : TG} {c tt : TT} {te ta tb : TE} {l a : Addr} {J : It} {n : Nat} {item : Nat → PyData → Prop} {keep : List Sx → Prop} {ws : List Nat} {wi : TI} {D : Ends} {tas : TA}
theorem g_forE (h : tas σ H fun vs H1 => EnumJ K vs H1 fun J => ForJ J g t D σ H1) : tFor (iEnumU K tas) g t D σ H := h
theorem g_lcE (h : tas σ H fun vs H1 => EnumJ K vs H1 fun J => LcJ J g tt te ws σ H1 Q) : tLc (iEnumU K tas) g tt te ws σ H Q := h
def RevX (x : V) (R : It → Prop) : Prop := ∃ n, x = .int n ∧ RevRg 0 n R
theorem g_forRev (h : ta σ H fun x H1 => RevX x fun J => ForJ J g t D σ H1) : tFor (iRevR (tRg1 ta)) g t D σ H := h
theorem w_revX {R : It → Prop} {b : Int} (h0 : 0 ≤ b) (hb : b < 2 ^ 62) (h : ∀ J, Src K F (fun _ => True) J b.toNat (fun i d => d = .int (b - 1 - ((i : Nat) : Int))) → R J) : RevX (.int b) R := ⟨b, rfl, w_revD h0 hb h⟩
theorem lcX1 {Dd : Addr} {Nx : Hp → Prop} {σ0 : L2.St} (hw : wipe σ ws = σ0) (h : te σ H (LcP Dd Nx)) : LcX Dd Nx tYes te ws σ0 σ H := ⟨hw, h⟩
theorem lcX2 {Dd : Addr} {Nx : Hp → Prop} {σ0 : L2.St} (hw : wipe σ ws = σ0) (h : tt σ H fun b H3 => if b = true then te σ H3 (LcP Dd Nx) else Nx H3) : LcX Dd Nx tt te ws σ0 σ H := ⟨hw, h⟩
theorem lcD (hS : S F m H) (hv : Has K F v (.tuple ds) ∨ Has K F v (.list ds)) (hz : ds.length < 1000000) (Inv : Nat → List PyData → List Sx → Prop) (h0 : Inv 0 [] m)
    (hs : ∀ i d x Dd acc m' H' Nx, i < ds.length → ds[i]? = some d → acc.length ≤ i → Inv i acc m' → S (dat K x d :: F) (Ls K Dd acc :: m') H' → (∀ acc' m2 H2, acc'.length ≤ i + 1 → Inv (i + 1) acc' m2 → S F (Ls K Dd acc' :: m2) H2 → Nx H2) → g x (wipe σ ws) H' (LcX Dd Nx tt te ws (wipe σ ws)))
    (hd : ∀ Dd acc m' H', acc.length ≤ ds.length → Inv ds.length acc m' → S F (Ls K Dd acc :: m') H' → Q (.ref Dd) H') : LcS K v g tt te ws σ H Q :=
  w_data (R := fun J => LcJ J g tt te ws σ H Q) hS hv fun J hJ => lcJ hJ hz Inv hS h0 (fun _ _ _ _ _ => trivial) hs hd
theorem filt_take {p : PyData → Bool} {f : PyData → PyData} {i : Nat} (h : ds[i]? = some d) : ((ds.take (i + 1)).filter p).map f = ((ds.take i).filter p).map f ++ (if p d = true then [f d] else []) := by
  obtain ⟨hl, e⟩ := List.getElem?_eq_some_iff.mp h
  rw [List.take_succ_eq_append_getElem hl, e, List.filter_append, List.map_append]
  congr 1
  cases hp : p d <;> simp [hp]
theorem lcFMJ (p : PyData → Bool) (f : PyData → PyData) (hJ : Src K F keep J ds.length (fun i d => ds[i]? = some d)) (hS : S F m H) (hk : ∀ D acc, keep (Ls K D acc :: m)) (hz : ds.length < 1000000)
    (hs : ∀ (i : Nat) (d : PyData) x Dd acc H' Nx, ds[i]? = some d → S (dat K x d :: F) (Ls K Dd acc :: m) H' → (p d = true → ∀ y H2, S (dat K y (f d) :: F) (Ls K Dd acc :: m) H2 → LcP Dd Nx y H2) → (p d = false → ∀ H2, S F (Ls K Dd acc :: m) H2 → Nx H2) → g x (wipe σ ws) H' (LcX Dd Nx tt te ws (wipe σ ws)))
    (hd : ∀ Dd H', S F (Ls K Dd ((ds.filter p).map f) :: m) H' → Q (.ref Dd) H') : LcJ J g tt te ws σ H Q := by
  refine lcJ hJ hz (fun i acc m' => acc = ((ds.take i).filter p).map f ∧ m' = m) hS ⟨rfl, rfl⟩ ?_ ?_ ?_
  · rintro i acc m' D ⟨_, rfl⟩
    exact hk D acc
  · rintro i d x Dd acc m' H' Nx hi hd' hacc ⟨rfl, rfl⟩ hS' hN
    refine hs i d x Dd _ H' Nx hd' hS' (fun hp y H2 h2 => ?_) (fun hp H2 h2 => ?_)
    · refine lcP h2 Has.here (by omega) fun H3 h3 => hN _ _ _ (by rw [List.length_append, List.length_singleton]; omega) ⟨?_, rfl⟩ h3.pop
      rw [filt_take hd', if_pos hp]
    · refine hN _ _ _ (by omega) ⟨?_, rfl⟩ h2
      rw [filt_take hd', hp, if_neg (by simp), List.append_nil]
  · rintro Dd acc m' H' hacc ⟨rfl, rfl⟩ hS'
    rw [List.take_length] at hS'
    exact hd Dd H' hS'
/-- [f(x) for x in ds if p(x)] -/
theorem lcFM (p : PyData → Bool) (f : PyData → PyData) (hS : S F m H) (hv : Has K F v (.tuple ds) ∨ Has K F v (.list ds)) (hz : ds.length < 1000000)
    (hs : ∀ (i : Nat) (d : PyData) x Dd acc H' Nx, ds[i]? = some d → S (dat K x d :: F) (Ls K Dd acc :: m) H' → (p d = true → ∀ y H2, S (dat K y (f d) :: F) (Ls K Dd acc :: m) H2 → LcP Dd Nx y H2) → (p d = false → ∀ H2, S F (Ls K Dd acc :: m) H2 → Nx H2) → g x (wipe σ ws) H' (LcX Dd Nx tt te ws (wipe σ ws)))
    (hd : ∀ Dd H', S F (Ls K Dd ((ds.filter p).map f) :: m) H' → Q (.ref Dd) H') : LcS K v g tt te ws σ H Q :=
  w_data (R := fun J => LcJ J g tt te ws σ H Q) hS hv fun J hJ => lcFMJ p f hJ hS (fun _ _ => trivial) hz hs hd
/-- .. over an owned list -/
theorem lcFMO (p : PyData → Bool) (f : PyData → PyData) (hS : S F m H) (hm : Ls K l ds ∈ m) (hz : ds.length < 1000000)
    (hs : ∀ (i : Nat) (d : PyData) x Dd acc H' Nx, ds[i]? = some d → S (dat K x d :: F) (Ls K Dd acc :: m) H' → (p d = true → ∀ y H2, S (dat K y (f d) :: F) (Ls K Dd acc :: m) H2 → LcP Dd Nx y H2) → (p d = false → ∀ H2, S F (Ls K Dd acc :: m) H2 → Nx H2) → g x (wipe σ ws) H' (LcX Dd Nx tt te ws (wipe σ ws)))
    (hd : ∀ Dd H', S F (Ls K Dd ((ds.filter p).map f) :: m) H' → Q (.ref Dd) H') : LcS K (.ref l) g tt te ws σ H Q :=
  w_own (R := fun J => LcJ J g tt te ws σ H Q) hS hm fun J hJ => lcFMJ p f hJ hS (fun _ _ => List.mem_cons_of_mem _ hm) hz hs hd
theorem lcM (f : PyData → PyData) (hS : S F m H) (hv : Has K F v (.tuple ds) ∨ Has K F v (.list ds)) (hz : ds.length < 1000000)
    (hs : ∀ (i : Nat) (d : PyData) x Dd acc H' Nx, ds[i]? = some d → S (dat K x d :: F) (Ls K Dd acc :: m) H' → (∀ y H2, S (dat K y (f d) :: F) (Ls K Dd acc :: m) H2 → LcP Dd Nx y H2) → g x (wipe σ ws) H' (LcX Dd Nx tt te ws (wipe σ ws)))
    (hd : ∀ Dd H', S F (Ls K Dd (ds.map f) :: m) H' → Q (.ref Dd) H') : LcS K v g tt te ws σ H Q := by
  refine lcFM (fun _ => true) f hS hv hz (fun i d x Dd acc H' Nx h1 h2 h3 _ => hs i d x Dd acc H' Nx h1 h2 (h3 rfl)) (fun Dd H' h => hd Dd H' ?_)
  have e : ds.filter (fun _ => true) = ds := List.filter_eq_self.mpr fun _ _ => rfl
  rw [e] at h
  exact h
theorem g_tyD {r : V → List V → Hp → VK → Prop} {tr : TA} (hS : S F m H) (hv : Has K F v (.list ds)) (h : tr σ H fun xs H2 => r v xs H2 Q) : MtB K "list" r v H σ tr Q := by
  have z := hS.dp hv
  cases z with
  | lst hs ha => exact ⟨.inl ⟨rfl, _, hs⟩, h⟩
/-- a tuple or a list is taken apart -/
def gTU (K : PySem.W.Frag) (n : Nat) (t1 : TGs) : TG := fun v σ H Q => gTup K n t1 v σ H Q ∨ gLst K n t1 v σ H Q
theorem g_tupU2 {t1 : TGs} {d1 d2 : PyData} {QS : L2.St → Hp → Prop} (hS : S F m H) (hv : Has K F v (.tuple [d1, d2]) ∨ Has K F v (.list [d1, d2])) (q : ∀ w1 w2, S (dat K w1 d1 :: dat K w2 d2 :: F) m H → t1 [w1, w2] σ H QS) : gTU K 2 t1 v σ H QS := by
  obtain ⟨G, e, f, own, nd⟩ := id hS.ex
  rcases hv with hv | hv
  · have z := hv G f
    cases z with
    | tup hs ha =>
      cases ha with
      | cons h1 ha =>
        cases ha with
        | cons h2 ha =>
          cases ha
          refine .inl ⟨_, _, rfl, same_t e hs, rfl, q _ _ ⟨G, e, fun g hg => ?_, own, nd⟩⟩
          cases hg with
          | head => exact h1
          | tail _ hg =>
            cases hg with
            | head => exact h2
            | tail _ hg =>
              exact f g hg
  · have z := hv G f
    cases z with
    | lst hs ha =>
      cases ha with
      | cons h1 ha =>
        cases ha with
        | cons h2 ha =>
          cases ha
          refine .inr ⟨_, _, rfl, e.seq hs, rfl, q _ _ ⟨G, e, fun g hg => ?_, own, nd⟩⟩
          cases hg with
          | head => exact h1
          | tail _ hg =>
            cases hg with
            | head => exact h2
            | tail _ hg =>
              exact f g hg
theorem g_tupU3 {t1 : TGs} {d1 d2 d3 : PyData} {QS : L2.St → Hp → Prop} (hS : S F m H) (hv : Has K F v (.tuple [d1, d2, d3]) ∨ Has K F v (.list [d1, d2, d3])) (q : ∀ w1 w2 w3, S (dat K w1 d1 :: dat K w2 d2 :: dat K w3 d3 :: F) m H → t1 [w1, w2, w3] σ H QS) : gTU K 3 t1 v σ H QS := by
  obtain ⟨G, e, f, own, nd⟩ := id hS.ex
  rcases hv with hv | hv
  · have z := hv G f
    cases z with
    | tup hs ha =>
      cases ha with
      | cons h1 ha =>
        cases ha with
        | cons h2 ha =>
          cases ha with
          | cons h3 ha =>
            cases ha
            refine .inl ⟨_, _, rfl, same_t e hs, rfl, q _ _ _ ⟨G, e, fun g hg => ?_, own, nd⟩⟩
            cases hg with
            | head => exact h1
            | tail _ hg =>
              cases hg with
              | head => exact h2
              | tail _ hg =>
                cases hg with
                | head => exact h3
                | tail _ hg =>
                  exact f g hg
  · have z := hv G f
    cases z with
    | lst hs ha =>
      cases ha with
      | cons h1 ha =>
        cases ha with
        | cons h2 ha =>
          cases ha with
          | cons h3 ha =>
            cases ha
            refine .inr ⟨_, _, rfl, e.seq hs, rfl, q _ _ _ ⟨G, e, fun g hg => ?_, own, nd⟩⟩
            cases hg with
            | head => exact h1
            | tail _ hg =>
              cases hg with
              | head => exact h2
              | tail _ hg =>
                cases hg with
                | head => exact h3
                | tail _ hg =>
                  exact f g hg
theorem g_tupU4 {t1 : TGs} {d1 d2 d3 d4 : PyData} {QS : L2.St → Hp → Prop} (hS : S F m H) (hv : Has K F v (.tuple [d1, d2, d3, d4]) ∨ Has K F v (.list [d1, d2, d3, d4])) (q : ∀ w1 w2 w3 w4, S (dat K w1 d1 :: dat K w2 d2 :: dat K w3 d3 :: dat K w4 d4 :: F) m H → t1 [w1, w2, w3, w4] σ H QS) : gTU K 4 t1 v σ H QS := by
  obtain ⟨G, e, f, own, nd⟩ := id hS.ex
  rcases hv with hv | hv
  · have z := hv G f
    cases z with
    | tup hs ha =>
      cases ha with
      | cons h1 ha =>
        cases ha with
        | cons h2 ha =>
          cases ha with
          | cons h3 ha =>
            cases ha with
            | cons h4 ha =>
              cases ha
              refine .inl ⟨_, _, rfl, same_t e hs, rfl, q _ _ _ _ ⟨G, e, fun g hg => ?_, own, nd⟩⟩
              cases hg with
              | head => exact h1
              | tail _ hg =>
                cases hg with
                | head => exact h2
                | tail _ hg =>
                  cases hg with
                  | head => exact h3
                  | tail _ hg =>
                    cases hg with
                    | head => exact h4
                    | tail _ hg =>
                      exact f g hg
  · have z := hv G f
    cases z with
    | lst hs ha =>
      cases ha with
      | cons h1 ha =>
        cases ha with
        | cons h2 ha =>
          cases ha with
          | cons h3 ha =>
            cases ha with
            | cons h4 ha =>
              cases ha
              refine .inr ⟨_, _, rfl, e.seq hs, rfl, q _ _ _ _ ⟨G, e, fun g hg => ?_, own, nd⟩⟩
              cases hg with
              | head => exact h1
              | tail _ hg =>
                cases hg with
                | head => exact h2
                | tail _ hg =>
                  cases hg with
                  | head => exact h3
                  | tail _ hg =>
                    cases hg with
                    | head => exact h4
                    | tail _ hg =>
                      exact f g hg
theorem popInt2 {f : Fc} {i : Int} (h : S (f :: dat K v (.int i) :: F) m H) : v = .int i ∧ S (f :: F) m H := by
  have q : Dp K H v (.int i) := h.dp (Has.there Has.here)
  cases q
  exact ⟨rfl, h.wk (fun g hg => by cases hg with | head => exact .head _ | tail _ hg => exact .tail _ (.tail _ hg)) (.refl _)⟩
theorem popStr2 {f : Fc} {i : Str} (h : S (f :: dat K v (.str i) :: F) m H) : v = .str i ∧ S (f :: F) m H := by
  have q : Dp K H v (.str i) := h.dp (Has.there Has.here)
  cases q
  exact ⟨rfl, h.wk (fun g hg => by cases hg with | head => exact .head _ | tail _ hg => exact .tail _ (.tail _ hg)) (.refl _)⟩
theorem popBl2 {f : Fc} {i : Bool} (h : S (f :: dat K v (.bool i) :: F) m H) : v = .bl i ∧ S (f :: F) m H := by
  have q : Dp K H v (.bool i) := h.dp (Has.there Has.here)
  cases q
  exact ⟨rfl, h.wk (fun g hg => by cases hg with | head => exact .head _ | tail _ hg => exact .tail _ (.tail _ hg)) (.refl _)⟩
theorem popNon2 {f : Fc} (h : S (f :: dat K v .none :: F) m H) : v = .non ∧ S (f :: F) m H := by
  have q : Dp K H v .none := h.dp (Has.there Has.here)
  cases q
  exact ⟨rfl, h.wk (fun g hg => by cases hg with | head => exact .head _ | tail _ hg => exact .tail _ (.tail _ hg)) (.refl _)⟩
theorem g_gCons {tg1 : TG} {tgs : TGs} {vs : List V} {QS : L2.St → Hp → Prop} (h : tg1 v σ H fun σ2 H2 => tgs vs σ2 H2 QS) : gCons tg1 tgs (v :: vs) σ H QS := ⟨v, vs, rfl, h⟩
theorem g_gNil {QS : L2.St → Hp → Prop} (h : QS σ H) : gNil [] σ H QS := ⟨rfl, h⟩
theorem pg_tu {X : Cx} {es : List Expr} {k : Nat} {t1 : TGs} {n : Nat} {pos : Pos} (hc : X.calm = true) (h : PGs X es t1)
    (hn : (assignEach es X.env).length = n := by rfl) (hst : (assignEach es X.env).findIdx? (·.1) = none := by rfl) : PG X (.Tuple es k pos) (gTU X.K n t1) := by
  refine ⟨fun pins s σ H v u Q I r hw => ?_⟩
  rcases hw with hw | hw
  · exact (pg_tup hc h hn hst).run pins s σ H v u Q I r hw
  · exact (pg_lst hc h hn hst).run pins s σ H v u Q I r hw
end
end Qe

namespace Qe
open PySem PySem.Spec PyProof.Rows L2
/-! ### a cut: what holds between two pieces -/
theorem g_cut {t u : TS} {nx bk ct : L2.St → Hp → Prop} {rt : VK} {σ : L2.St} {H : Hp} (P : L2.St → Hp → Prop) (h1 : ∀ nx' : L2.St → Hp → Prop, (∀ σ H, P σ H → nx' σ H) → t ⟨nx', rt, bk, ct⟩ σ H) (h2 : ∀ σ H, P σ H → u ⟨nx, rt, bk, ct⟩ σ H) : tSeq t u ⟨nx, rt, bk, ct⟩ σ H := h1 _ h2
theorem g_ifCut {c : TT} {t u : TS} {D : Ends} {σ : L2.St} {H : Hp} (P : Bool → Hp → Prop) (h1 : ∀ QB : Bool → Hp → Prop, (∀ b H, P b H → QB b H) → c σ H QB) (h2 : ∀ b H, P b H → if b = true then t D σ H else u D σ H) : tIfS c t u D σ H := h1 _ h2
theorem g_teCut {te : TE} {σ : L2.St} {H : Hp} {Q : VK} (P : VK) (h1 : ∀ Q : VK, (∀ v H, P v H → Q v H) → te σ H Q) (h2 : ∀ v H, P v H → Q v H) : te σ H Q := h1 _ h2
theorem isSeqIf {c : TT} {t u w : TS} {D : Ends} {σ : L2.St} {H : Hp} (h : tSeq (tIfS c t u) w D σ H) : tSeq (tIfS c t u) w D σ H := h
theorem g_iteT {b : Bool} {A B : Prop} (h : b = true) (q : A) : if b = true then A else B := by
  subst h
  exact q
theorem g_iteF {b : Bool} {A B : Prop} (h : b = false) (q : B) : if b = true then A else B := by
  subst h
  exact q
end Qe

namespace Qe
open PySem PySem.Spec PyProof.Rows L2
/-! ### own errors over Exception, their __init__ keeping one field -/
abbrev exT : List Value := [.type "Exception", .type "BaseException", .type "object"]
/-- the class C of errors, its __init__ at fI, its field f -/
structure ErrK (K : PySem.W.Frag) (C fI : Addr) (f : Str) : Prop where
  q : PySem.W.excInitIn K C exT "Exception.__new__" = true
  ov : PySem.W.excOver K C exT = true
  dc : PySem.W.hasDictIn K C = true
  tk : PySem.W.takerIn K C f = some none
  no : PySem.W.findIn K (.ref C) f = some none
  sa : PySem.W.findIn K (.ref C) "__setattr__" = some (some (.builtin "object.__setattr__"))
  ex : PySem.W.subIn K (.ref C) (.type "BaseException") = some true
  ty : PySem.W.typeIn K (.ref C) = some (.type "type")
  kp : PySem.W.keepIn K (.ref C) = true
  iC : PySem.W.findIn K (.ref C) "__init__" = some (some (.ref fI))
  tI : PySem.W.typeIn K (.ref fI) = some (.type "function")
  xf : XfC K C
def errB (K : PySem.W.Frag) (C fI : Addr) (f : Str) : Bool :=
  PySem.W.excInitIn K C exT "Exception.__new__" && (PySem.W.excOver K C exT && (PySem.W.hasDictIn K C && (decide (PySem.W.takerIn K C f = some none) && (decide (PySem.W.findIn K (.ref C) f = some none) &&
  (He.eqO (PySem.W.findIn K (.ref C) "__setattr__") (some (some (.builtin "object.__setattr__"))) && (decide (PySem.W.subIn K (.ref C) (.type "BaseException") = some true) && (decide (PySem.W.typeIn K (.ref C) = some (.type "type")) &&
  (PySem.W.keepIn K (.ref C) && (He.eqO (PySem.W.findIn K (.ref C) "__init__") (some (some (.ref fI))) && (decide (PySem.W.typeIn K (.ref fI) = some (.type "function")) && xfB K C))))))))))
theorem errB_ok {K : PySem.W.Frag} {C fI : Addr} {f : Str} (h : errB K C fI f = true) : ErrK K C fI f := by
  obtain ⟨h1, h⟩ := He.ba h
  obtain ⟨h2, h⟩ := He.ba h
  obtain ⟨h3, h⟩ := He.ba h
  obtain ⟨h4, h⟩ := He.ba h
  obtain ⟨h5, h⟩ := He.ba h
  obtain ⟨h6, h⟩ := He.ba h
  obtain ⟨h7, h⟩ := He.ba h
  obtain ⟨h8, h⟩ := He.ba h
  obtain ⟨h9, h⟩ := He.ba h
  obtain ⟨h10, h⟩ := He.ba h
  obtain ⟨h11, h12⟩ := He.ba h
  exact ⟨h1, h2, h3, of_decide_eq_true h4, of_decide_eq_true h5, He.eqO_ok h6, of_decide_eq_true h7, of_decide_eq_true h8, h9, He.eqO_ok h10, of_decide_eq_true h11, xfB_ok h12⟩
section
variable {X : Cx} {pins : List (Addr × Obj)} {σ : L2.St} {H : Hp} {s : Shared} {A : Around} {E : Value → Shared → Prop} {a C fI : Addr} {f : Str} {y : V} {u : Value}
open Builtin Builtin.ObjectAttr in
/-- the first store into such an object: its dict is made -/
theorem ose_raw {prog : Program} {w : World} {R : Result → Shared → Prop} {hp : Heap} {g : Array GenState} {d : Drawn} {t : Nat} {os : OsState} {K : PySem.W.Frag} {x : Addr} {tk : Tok} {fv : Array Value} {v : Value} (T : ErrK K C fI f) (Y : K.In hp)
    (hx : hp.get? x = some { cls := .ref C, data := .fields fv })
    (hq : ∀ h2 tk2 dx, hp.objs.size ≤ dx → dx ≠ x → (∀ b o, b ≠ x → hp.get? b = some o → h2.get? b = some o) → h2.Ns1 dx (fun z => if z = f then some v else none) → h2.get? x = some { cls := .ref C, dict := some dx, data := .fields fv } →
      R (.ok (.ret .none)) ⟨h2, g, d, tk2, os⟩) : codeAny (model prog w) A (.call (.builtin "object.__setattr__") ⟨[.ref x, .str f tk, v], []⟩) R ⟨hp, g, d, t, os⟩ := by
  have In : PySem.W.InstAt hp x { cls := .ref C, data := .fields fv } C none := ⟨hx, rfl, rfl, trivial⟩
  obtain ⟨cd, hcd, hdc⟩ := PySem.W.any_some T.dc
  have lcd : PySem.W.Looks (model prog w) hp (classData C) cd := PySem.W.looks_clsIn Y hcd
  have xne : x ≠ hp.objs.size := Nat.ne_of_lt (Heap.lt_size hx)
  refine PySem.W.osa_openX PySem.F.store_Exception (s := ⟨hp, g, d, t, os⟩) Y In T.ov T.tk (fun b => ?_)
  obtain ⟨n1, n2, n3, n4, n5, n6, n7, n8, n9, n10, n11⟩ := cd
  dsimp only at hdc
  subst hdc
  show wpAny _ _ (storeInOwnDict (.ref x) (.ref C) (.str f tk) f v b) _ _ _
  unfold storeInOwnDict ownDictForStores
  repeat (first | (with_reducible refine PySem.HandSPX.store_in_new ?_ ?_) | (with_reducible refine wpAny_loadPart_at hx ?_) | (with_reducible refine lcd.at ?_) | wp_step)
  · exact ⟨_, #[], _, (Heap.get?_update_ne _ _ _ _ (Ne.symm xne)).trans (Heap.get?_push_at rfl rfl), rfl, fun _ e => absurd e (by simp), fun _ => rfl⟩
  · intro h2 tk2 nh sb
    have hx2 : (hp.push { cls := .type "dict", data := .dict #[] }).get? x = some { cls := .ref C, data := .fields fv } := Heap.get?_push_of_some _ hx
    refine hq h2 tk2 hp.objs.size (Nat.le_refl _) (Ne.symm xne) (fun b o nb e => ?_) nh ?_
    · rw [sb.2 b (Nat.ne_of_lt (Heap.lt_size e)), Heap.get?_update_ne _ _ _ _ nb]
      exact Heap.get?_push_of_some _ e
    · rw [sb.2 x xne]
      exact Heap.get?_update_self _ hx2 rfl
theorem ose_new {Q : Unit → Shared → Prop} (T : ErrK X.K C fI f) (I : Inv X pins σ H s) (e : H a = some (exo a C none)) (ry : RelV y u)
    (hq : ∀ dx s2, H dx = none → dx ≠ a → Inv X pins σ (upd (upd H dx (exd dx [(f, y)])) a (exo a C (some dx))) s2 → Q () s2) : wpAny (model X.prog X.w) A (setAttr (.ref a) f u) Q E s := by
  obtain ⟨tt, hat⟩ := exo_at I.hok e
  obtain ⟨hp, gs, dr, tk, os⟩ := s
  have J : PySem.W.InstAt hp a { cls := .ref C, data := .fields #[.ref tt, .none, .none, .none, .bool false, .none] } C none := ⟨hat, rfl, rfl, trivial⟩
  refine PySem.W.set_plain I.kIn J T.sa ?_
  refine ose_raw T I.kIn hat fun h2 tk2 dx big ne keep nh nx => ?_
  have free : H dx = none := I.hok.fresh big
  have nota : ∀ {b : Addr}, H b = none → b ≠ a := fun {b} z w => by
    rw [w, e] at z
    cases z
  have notd : ∀ {b : Addr} {o : Obj}, hp.get? b = some o → b ≠ dx := fun {b o} z w => by
    have z2 := Heap.lt_size z
    rw [w] at z2
    exact absurd z2 (Nat.not_lt.mpr big)
  have look : ∀ {b : Addr}, b ≠ a → b ≠ dx → (upd (upd H dx (exd dx [(f, y)])) a (exo a C (some dx))) b = H b := fun {b} z w => by rw [upd_ne z, upd_ne w]
  have U : Un X.fs [] H (upd (upd H dx (exd dx [(f, y)])) a (exo a C (some dx))) hp h2 := by
    refine ⟨?_, ?_, ?_, ?_, ?_, ?_, ?_⟩
    · intro b o z n _ _
      exact keep b o (nota n) z
    · intro b o z n _ _
      exact ⟨o.slots, keep b o (nota n) z⟩
    · intro b o z n _
      rw [look (nota n) (notd z)]
      exact n
    · intro b o z _
      by_cases hb : b = a
      · exact ⟨_, hb ▸ nx⟩
      · exact ⟨o, keep b o hb z⟩
    · intro b xs z
      rw [look (at_ne e z exo_tup) (ne_of_none z free)]
      exact z
    · intro b o v z
      rw [look (at_ne e z exo_frz) (ne_of_none z free)]
      exact z
    · intro b ps z
      refine ⟨#[], ?_⟩
      rw [look (at_ne e z exo_tbl) (ne_of_none z free), z]
      simp
  refine hq dx _ free ne (I.un (t' := tk2) U fun b o z => ?_)
  by_cases hb : b = a
  · subst hb
    rw [upd_same] at z
    cases z
    exact exo_ok nx
  by_cases hd : b = dx
  · subst hd
    rw [upd_ne hb, upd_same] at z
    cases z
    exact exd_ok nh (relO_put (fs := []) ry fun _ => True.intro)
  rw [look hb hd] at z
  refine (I.hok b o z).stay (fun c v hc w => keep c v ?_ w) (fun c hc => ?_) fun c xs hc => ?_
  · rcases hc with hc | hc
    · rw [hc]
      exact hb
    · exact at_ne e hc exo_own
  · rw [look (at_ne e hc exo_own) (ne_of_none hc free)]
    exact hc
  · rw [look (at_ne e hc exo_tup) (ne_of_none hc free)]
    exact hc
end
/-- self.f = e, in such an __init__ -/
def tOse (K : PySem.W.Frag) (f : Str) (to te : TE) : TS := fun D σ H => te σ H fun y H1 => to σ H1 fun x H2 => ∃ a C fI : Addr, x = .ref a ∧ ErrK K C fI f ∧ H2 a = some (exo a C none) ∧
  ∀ dx, H2 dx = none → dx ≠ a → D.nx σ (upd (upd H2 dx (exd dx [(f, y)])) a (exo a C (some dx)))
/-- an error is made -/
def tErr (C : Addr) (f : Str) (ta : TA) : L2.St → Hp → XK → Prop := fun σ H Q => ta σ H fun vs H1 => ∃ v, vs = [v] ∧ ∀ d, H1 d = none → Q (.ref C) (some d) (upd H1 d (.xd [(f, v)]))
section
variable {X : Cx} {o e : Expr} {es : List Expr} {to te : TE} {ta : TA} {f x : Str} {p p2 pos : Pos} {C fI : Addr} {k : Nat}
theorem ps_ose (ho : PE X o to) (he : PE X e te) (hs : swapsWith e (some (.Attribute o f p2)) pos.line X.env = pure false := by rfl) : PS X (.Assign [.Attribute o f p2] e pos) (tOse X.K f to te) := by
  refine ⟨fun pins s σ H D I h => plainObj_wpAny_Assign_Attribute (thn (he.run pins s σ H _ I h) fun v s1 hv => ?_) hs⟩
  obtain ⟨y, H1, I1, r1, q1⟩ := hv
  refine thn (ho.run pins s1 σ H1 _ I1 q1) fun u s2 hu => ?_
  obtain ⟨z, H2, I2, r2, a, C, fI, ez, T, ea, q⟩ := hu
  subst ez
  obtain rfl : u = Value.ref a := r2
  exact ose_new T I2 ea r1 fun dx s3 n ne J => ⟨σ, _, J, q dx n ne⟩
/-- what such an __init__ promises -/
def errSp (K : PySem.W.Frag) (f : Str) : Sp := fun vs H Q _ => ∃ (a C fI : Addr) (v : V), vs = [.ref a, v] ∧ ErrK K C fI f ∧ H a = some (exo a C none) ∧ ∀ dx, H dx = none → dx ≠ a → Q .non (upd (upd H dx (exd dx [(f, v)])) a (exo a C (some dx)))
theorem l_errSp {K : PySem.W.Frag} {f : Str} {vs : List V} {H : Hp} {Q : VK} {E : XK} (h : errSp K f vs H Q E) : vs.length = 2 := by
  obtain ⟨_, _, _, _, rfl, _⟩ := h
  rfl
theorem r_errSp {K : PySem.W.Frag} {f : Str} {vs : List V} {H : Hp} {Q : VK} {E : XK} {N : List Str} (hN : N.length = 2) (h : errSp K f vs H Q E) : tOse K f (tVar 0) (tVar 1) { nx := fun _ H' => Q .non H', rt := Q } (start N vs) H := by
  obtain ⟨a, C, fI, v, rfl, T, e, q⟩ := h
  obtain ⟨x, y, rfl⟩ : ∃ x y, N = [x, y] := by
    match N, hN with
    | [x, y], _ => exact ⟨x, y, rfl⟩
  exact ⟨v, rfl, .ref a, rfl, a, C, fI, rfl, T, e, q⟩
theorem pmk_err {CX : CXT} {ps : List Str} (h : FnA X.prog X.w X.K X.mg X.base CX k fI ps (errSp X.K f)) (hr : Room (k + 1) X.A) (hx : Passes CX X E0) (T : ErrK X.K C fI f) (hm : X.mg x = some (.ref C)) (ha : PA X (e :: es) ta) (hg : Gl X x := by rfl)
    (hdb : (x == ("__debug__" : Str)) = false := by decide) (he : starEach (e :: es) X.env = (false, eval e X.env) :: starEach es X.env := by rfl) (hpl : (backTo pos (starEach es X.env)).any (·.1) = false := by rfl) :
    L2N.PMk X (.Call (.Name x p) (e :: es) [] pos) (tErr C f ta) := by
  intro pins s σ H Q I hh
  obtain ⟨fd, hb, F1⟩ := h.ex
  refine wpAny_Call_Name_kw (ld_glob I hg hm ?_ hdb)
  refine PySem.W.callWith_K (h₀ := X.base) I.ok.mod.kin T.kp (thn (ha.run pos pins s σ H _ I hh) fun us s1 hv => ?_) he hpl
  obtain ⟨vs, H1, I1, r1, v, rfl, q⟩ := hv
  refine ⟨I1.kIn, ?_⟩
  show wpAny _ _ (call (.ref C) us) _ _ _
  obtain ⟨hp, g, dr, tk, os⟩ := s1
  obtain ⟨nm, N, qn, bs, bm, hdct, sn, sub, ab, col, dd, k0, k1, k2, k3, k5, hC, hT⟩ := PySem.W.excInit_of I1.kIn T.q
  have big : hp.objs.size ≤ hp.objs.size + 1 := Nat.le_succ _
  have nn : H1 (hp.objs.size + 1) = none := I1.hok.fresh big
  have kk : ∀ b o, hp.get? b = some o → ((hp.push (PySem.W.kdv_tup us)).push (PySem.HandSPX.excO C hp.objs.size)).get? b = some o := fun b o z => Heap.get?_push_of_some _ (Heap.get?_push_of_some _ z)
  have at1 : ((hp.push (PySem.W.kdv_tup us)).push (PySem.HandSPX.excO C hp.objs.size)).get? (hp.objs.size + 1) = some (PySem.HandSPX.excO C hp.objs.size) := by heap_get
  have I2 := I1.laid (t' := tk) (a := hp.objs.size + 1) (o := exo (hp.objs.size + 1) C none) (h' := (hp.push (PySem.W.kdv_tup us)).push (PySem.HandSPX.excO C hp.objs.size)) kk big (exo_ok at1)
  have r2 : Vals [V.ref (hp.objs.size + 1), v] (Value.ref (hp.objs.size + 1) :: us) := .cons rfl r1
  have hsp : errSp X.K f [.ref (hp.objs.size + 1), v] (upd H1 (hp.objs.size + 1) (exo (hp.objs.size + 1) C none)) (fun z H2 => z = .non ∧ ∃ (d : Addr) (fs : List (Str × V)), H2 (hp.objs.size + 1) = some (exo (hp.objs.size + 1) C (some d)) ∧ H2 d = some (exd d fs) ∧ H1 d = none ∧ Q (.ref C) (some d) (upd (del H2 (hp.objs.size + 1)) d (.xd fs))) E0 := by
    refine ⟨_, C, fI, v, rfl, T, upd_same, fun dx n ne => ⟨rfl, dx, [(f, v)], upd_same, ?_, ?_, ?_⟩⟩
    · rw [upd_ne ne, upd_same]
    · rw [upd_ne ne] at n
      exact n
    · rw [upd_ne ne] at n
      have ee : upd (del (upd (upd (upd H1 (hp.objs.size + 1) (exo (hp.objs.size + 1) C none)) dx (exd dx [(f, v)])) (hp.objs.size + 1) (exo (hp.objs.size + 1) C (some dx))) (hp.objs.size + 1)) dx (.xd [(f, v)]) = upd H1 dx (.xd [(f, v)]) := by
        funext b
        by_cases h1 : b = dx
        · rw [h1, upd_same, upd_same]
        · rw [upd_ne h1, upd_ne h1]
          by_cases h2 : b = hp.objs.size + 1
          · rw [h2, del_same, nn]
          · rw [del_ne h2, upd_ne h2, upd_ne h1, upd_ne h2]
      rw [ee]
      exact q dx n
  have hlen : (Value.ref (hp.objs.size + 1) :: us).length = ps.length := by
    rw [← r2.length]
    exact F1.len _ _ _ _ hsp
  have hus : us.length ≤ sizeLine := by
    have := r1.length
    rw [← this]
    exact Nat.le_trans (Nat.le_refl 1) (by decide)
  have hbb := hb _ (Value.ref (hp.objs.size + 1) :: us) I2.kIn (by rw [List.append_nil]; exact hlen)
  rw [List.append_nil] at hbb
  refine wpAny_call (PySem.HandSPX.call_own PySem.F.excBase_Exception hT hC (PySem.W.looks_findIn I1.kIn T.iC) (fun self => PySem.W.bind_fn I1.kIn self T.tI) hus
    (codeAny_mono (F1.run _ X.stack _ _ ⟨Value.ref (hp.objs.size + 1) :: us, []⟩ (Value.ref (hp.objs.size + 1) :: us) _ _ E0 (hr.make C us []) (I2.env0.make C us []) hbb r2 hsp) fun r s2 hh2 => ?_))
  cases r with
  | error er => exact hx pins σ _ _ er s2 I2 hh2
  | ok fl =>
    cases fl with
    | ret u =>
      obtain ⟨z, H2, os2, bare2, un2, hok2, rv, ev, d, fs, ea, ed, hd1, q2⟩ := hh2
      subst ev
      obtain ⟨h2, g2, d2, t2, os3⟩ := s2
      obtain ⟨t0, G, J, kG, ge, hoe, na⟩ := mk_end0 (d2 := d2) (t2 := t2) I1 big kk un2 hok2 os2 bare2 ea ed hd1
      exact ⟨rv, _, _, _, ⟨G, g2, d2, t2, os3⟩, _, .ref C, some d, rfl, J, kG, ge, hoe, ⟨rfl, rfl, fun vs z => by cases z; rfl⟩, rfl, rfl, na, rfl, bare2, raises_own T.ex T.ty, q2⟩
    | next => exact False.elim hh2
    | brk => exact False.elim hh2
    | cont => exact False.elim hh2
end

/-! ### the error classes of a program, by names -/
/-- is the class named n the class named c, or the base of all? -/
def errIs (c n : Str) : Bool := decide (n = "EditError") || decide (c = n)
structure ErrT (K : PySem.W.Frag) (tab : List (Str × Str)) : Prop where
  k : ∀ p ∈ tab, ErrK K (He.ga K p.1) (He.ma K (He.ga K p.1) "__init__") p.2
  m : ∀ p ∈ tab, ∀ n ∈ ("EditError" : Str) :: tab.map (·.1), PySem.W.exmOne K (.ref (He.ga K p.1)) (.ref (He.ga K n)) = some (errIs p.1 n)
def errTB (K : PySem.W.Frag) (tab : List (Str × Str)) : Bool := tab.all fun p => errB K (He.ga K p.1) (He.ma K (He.ga K p.1) "__init__") p.2 && (("EditError" : Str) :: tab.map (·.1)).all fun n => decide (PySem.W.exmOne K (.ref (He.ga K p.1)) (.ref (He.ga K n)) = some (errIs p.1 n))
theorem errTB_ok {K : PySem.W.Frag} {tab : List (Str × Str)} (h : errTB K tab = true) : ErrT K tab := by
  have h := List.all_eq_true.mp h
  refine ⟨fun p hp => errB_ok (He.ba (h p hp)).1, fun p hp n hn => ?_⟩
  exact of_decide_eq_true (List.all_eq_true.mp (He.ba (h p hp)).2 n hn)
/-- raise C(e) -/
def tRaise (mk : L2.St → Hp → XK → Prop) (W : WX) : TS := fun _ σ H => mk σ H fun cls d H2 => W cls d σ H2
/-- what lets a def's errors out -/
abbrev WOf (E : XK) : WX := fun cls d _ H => E cls d H
/-! ### try .. except A as n: .. except B as n: .. -/
def Ends.wiped (D : Ends) (i : Nat) : Ends := ⟨fun σ H => D.nx (σ.set i none) H, D.rt, fun σ H => D.bk (σ.set i none) H, fun σ H => D.ct (σ.set i none) H⟩
abbrev Hdl := Str × Nat × (Addr → Value → Option Addr → TS)
def wErr (K : PySem.W.Frag) (tab : List (Str × Str)) (Wout : WX) (D : Ends) (l : List Hdl) : WX := fun cls d σ H => ∃ p ∈ tab, cls = .ref (He.ga K p.1) ∧
  (go p l) cls d σ H
where go (p : Str × Str) : List Hdl → WX
  | [] => Wout
  | (n, i, ts) :: r => fun cls d σ H => if errIs p.1 n = true then ∀ a, H a = none → ts a cls d (Ends.wiped D i) (σ.set i (some (.ref a))) H else go p r cls d σ H
inductive HdlOk (X : Cx) (tab : List (Str × Str)) : List ExceptHandler → List Hdl → Prop
  | nil : HdlOk X tab [] []
  | cons {c n : Str} {i : Nat} {ts : Addr → Value → Option Addr → TS} {b0 : Stmt} {suite : List Stmt} {np hpos : Pos} {hds : List ExceptHandler} {l : List Hdl} (hm : c ∈ ("EditError" : Str) :: tab.map (·.1)) (hc : Names X c (.ref (He.ga X.K c))) (hN : X.N.Nodup) (hi : X.N[i]? = some n) (hl : X.env.kindOf n = some .local)
      (hsu : ∀ (a : Addr) (oe : Obj) (cls : Value) (d : Option Addr) (pn : List (Addr × Obj)), L2N.Zn cls d oe → (∃ vs, oe.data = .fields vs) → PSs (X.suite a ((a, oe) :: pn)) (b0 :: suite) (ts a cls d)) (r : HdlOk X tab hds l) :
      HdlOk X tab (.ExceptHandler (some (.Name c np)) (some n) (b0 :: suite) hpos :: hds) ((c, i, ts) :: l)
section
variable {X : Cx} {body : List Stmt} {h0 : ExceptHandler} {hds : List ExceptHandler} {l : List Hdl} {pos : Pos} {tb : WX → TS} {Wout : WX} {tab : List (Str × Str)}
theorem ps_tryErr (T : ErrT X.K tab) (hs : X.stack = X.env :: X.outer) (hf : X.env.frame = some X.env.locals) (tk : L2N.Takes X Wout)
    (hb : ∀ (W : WX) (pn : List (Addr × Obj)) (xe : Value → Shared → Prop), L2N.Takes (X.tr pn xe) W → PassesOwn (model X.prog X.w) X.A X.env xe → PSs (X.tr pn xe) body (tb W))
    (hh : HdlOk X tab (h0 :: hds) l) : PS X (.Try body (h0 :: hds) [] [] pos) (fun D σ H => tb (wErr X.K tab Wout D l) D σ H) := by
  refine ⟨fun pins s σ H D I h => ?_⟩
  have ok := I.ok
  have fr : X.A.frames = some (X.env :: X.outer) := hs ▸ ok.frames
  refine wpAny_Try_except (wpAny_mono ((hb (wErr X.K tab Wout D l) (X.pn ++ pins) (fun e s1 => wpAny (model X.prog X.w) X.A (noteFrame e X.env) (fun _ s2 => wpAny (model X.prog X.w) X.A (setFlight e none)
    (fun _ s3 => wpAny (model X.prog X.w) X.A (handleBy e X.env (h0 :: hds)) (SP X pins D) X.xe s3) X.xe s2) X.xe s1) (fun u s1 air => ?_) PassesOwn.looking).run [] s σ H D (I.toTry _) h) (fun f s1 end1 => ?_) (fun _ _ z => z))
  · obtain ⟨a, B, sI, pins1, σ1, H1, cls, d, rfl, J0, nb, up, sky, na, os, ag, p, hp, rfl, wish⟩ := air
    have J : Inv X pins σ1 H1 sI := J0.ofTry ok
    rw [hs] at sky
    show wpAny (model X.prog X.w) X.A (noteFrame (.ref a) X.env) _ _ _
    refine L2N.Sky.land L2N.Zn.steady fr hf sky fun h2 fly up2 => ?_
    have J2 : Inv X pins σ1 H1 { s1 with heap := h2 } := J.landed nb fly.1 (up.trans up2) os ag
    obtain ⟨oe, vs, ea, za, da⟩ := fly.there
    have nin : a ∉ frs (X.env :: X.outer) := fun hm => by
      obtain ⟨_, o2, e2, hno⟩ := fly.2.2.1.mem hm
      rw [ea] at e2
      cases e2
      exact hno _ da
    have nl : a ≠ X.env.locals := fun z => nin (List.mem_filterMap.mpr ⟨X.env, List.mem_cons_self, by rw [hf, z]⟩)
    have nf : a ∉ X.fs := fun hm => by
      obtain ⟨v, hv, z⟩ := List.mem_filterMap.mp hm
      exact nin (List.mem_filterMap.mpr ⟨v, List.mem_cons_of_mem _ hv, z⟩)
    have S2 := J2.suite ea da na nl nf
    have each : ∀ {hds2 : List ExceptHandler} {l2 : List Hdl}, HdlOk X tab hds2 l2 → wErr.go Wout D p l2 (.ref (He.ga X.K p.1)) d σ1 H1 → wpAny (model X.prog X.w) X.A (handleBy (.ref a) X.env hds2) (SP X pins D) X.xe { s1 with heap := h2 } := by
      intro hds2 l2 hk
      induction hk with
      | nil =>
        intro wish
        refine wpAny_handleBy_nil ?_
        obtain ⟨_, _, _, oe2, vs2, T2, oT, ts2, ea2, _, da2, at1, _⟩ := id fly
        unfold PySem.passOn
        refine wpAny_bind (wpAny_field ea2 da2 at1 ?_)
        rw [if_neg (show ¬ ((Value.ref T2 == Value.none) = true) from by simp)]
        have last : wpAny (model X.prog X.w) X.A (setFlight (.ref a) X.env.frame) (fun _ s4 => wpAny (model X.prog X.w) X.A (throw (.ref a) : Sem Flow) (SP X pins D) X.xe s4) X.xe { s1 with heap := h2 } := by
          rw [hf]
          exact HandSPX.setFlight_upZ fly fun h3 held up3 => wpAny_throw (tk _ _ ⟨a, B, sI, pins, σ1, H1, _, d, rfl, J, nb, (up.trans up2).trans up3, .inr (.inr (by rw [hs]; exact held)), na, os, ag, wish⟩)
        first
          | exact wpAny_bind (wpAny_pure (wpAny_bind last))
          | exact wpAny_bind last
      | @cons c n i ts b0 suite np hpos hds3 l3 hm hc hN hi hl hsu r ih =>
        intro wish
        refine wpAny_handleBy_cons (codeAny_handlers_test ?_) (by intro q; cases q)
        have look : PySem.W.Looks (model X.prog X.w) h2 (typeOf (.ref a)) (.ref (He.ga X.K p.1)) := fun A Q E s k q => wpAny_typeOf_ref (k _ _ ea) (by rw [za.1]; exact q)
        have same := PySem.W.exm_one (M := model X.prog X.w) J2.kIn look (T.m p hp c hm)
        have name : ∀ {Q E : Value → Shared → Prop}, Q (.ref (He.ga X.K c)) { s1 with heap := h2 } → wpAny (model X.prog X.w) (X.A.mark (some (.ref a))) (eval (.Name c np) X.env) Q E { s1 with heap := h2 } := fun {Q E} q => by
          obtain ⟨g1, g2, g3 | ⟨g3, g4, g5⟩⟩ := hc
          · exact ld_glob (X := X.suite a ((a, oe) :: (X.pn ++ pins))) S2 g1 g3 q g2
          · exact ld_blt (X := X.suite a ((a, oe) :: (X.pn ++ pins))) S2 g1 g3 g4 q g5 g2
        refine name (same.here ?_)
        have wish : if errIs p.1 c = true then ∀ a, H1 a = none → ts a (.ref (He.ga X.K p.1)) d (Ends.wiped D i) (σ1.set i (some (.ref a))) H1 else wErr.go Wout D p l3 (.ref (He.ga X.K p.1)) d σ1 H1 := wish
        cases hb : errIs p.1 c with
        | true =>
          rw [hb, if_pos rfl] at wish
          refine codeAny_handlers_suite_as (HandSPX.lands_againZ fly fun h3 fly3 up3 => ?_)
          have J3 : Inv X pins σ1 H1 { s1 with heap := h3 } := J.landed nb fly3.1 ((up.trans up2).trans up3) os ag
          obtain ⟨oe3, vs3, ea3, za3, da3⟩ := fly3.there
          have S3 := J3.suite ea3 da3 na nl nf
          refine store_ok (X := X.suite a ((a, oe3) :: (X.pn ++ pins))) (v := .ref a) S3 hN hi (.inl hl) rfl (fun s4 S4 => ?_) (.inr hl)
          refine wpAny_mono ((hsu a oe3 (.ref (He.ga X.K p.1)) d (X.pn ++ pins) za3 ⟨_, da3⟩).run [] s4 _ H1 _ S4 (wish a na)) (fun f s5 end5 => ?_) (fun _ _ z => False.elim z)
          have gone : ∀ {σ5 : L2.St} {H5 : Hp} {Q : Shared → Prop}, Inv (X.suite a ((a, oe3) :: (X.pn ++ pins))) [] σ5 H5 s5 → (∀ s6, Inv X pins (σ5.set i none) H5 s6 → Q s6) → wpAny (model X.prog X.w) X.A (do bindName X.env n .none; unbindBehindTheSuite X.env n hpos) (fun _ s6 => Q s6) X.xe s5 :=
            fun {σ5 H5 Q} S5 hq => gone_ok (S5.unsuite ok) hN hi hl hq
          cases f with
          | next =>
            obtain ⟨σ5, H5, S5, q5⟩ := end5
            exact gone S5 fun s6 J6 => ⟨_, _, J6, q5⟩
          | brk =>
            obtain ⟨σ5, H5, S5, q5⟩ := end5
            exact gone S5 fun s6 J6 => ⟨_, _, J6, q5⟩
          | cont =>
            obtain ⟨σ5, H5, S5, q5⟩ := end5
            exact gone S5 fun s6 J6 => ⟨_, _, J6, q5⟩
          | ret u =>
            obtain ⟨v5, σ5, H5, S5, r5, q5⟩ := end5
            exact gone S5 fun s6 J6 => ⟨_, _, _, J6, r5, q5⟩
        | false =>
          rw [hb, if_neg Bool.false_ne_true] at wish
          show wpAny _ X.A (handleBy (.ref a) X.env hds3) _ _ _
          exact ih wish
    exact each hh wish
  · cases f with
    | next =>
      obtain ⟨σ1, H1, J1, q⟩ := end1
      exact wpAny_execs_nil ⟨σ1, H1, J1.ofTry ok, q⟩
    | brk =>
      obtain ⟨σ1, H1, J1, q⟩ := end1
      exact ⟨σ1, H1, J1.ofTry ok, q⟩
    | cont =>
      obtain ⟨σ1, H1, J1, q⟩ := end1
      exact ⟨σ1, H1, J1.ofTry ok, q⟩
    | ret u =>
      obtain ⟨v, σ1, H1, J1, r, q⟩ := end1
      exact ⟨v, σ1, H1, J1.ofTry ok, r, q⟩
end
end Qe

namespace Qe
open PySem PySem.Spec PyProof.Rows L2
/-! ### contexts of defs that raise -/
theorem takesX {P : Program} {w : World} {K : PySem.W.Frag} {mg : Str → Option Value} {base : Heap} {N : List Str} {qual : Str} {scope : Scope} {f : Addr} {cd : Value} {A : Around} {outer : List Env} {s : Shared} {H : Hp} {E : XK} :
    L2N.Takes (cxOf (L2N.CX P w) P w K mg base N qual scope f cd A outer s H E) (WOf E) := L2N.takes_of rfl rfl rfl rfl
theorem passX {X : Cx} {E : XK} (tk : L2N.Takes X (WOf E)) : Passes (L2N.CX X.prog X.w) X E := L2N.passes_call tk fun _ _ _ _ h => h
theorem passN {X : Cx} : Passes (L2N.CX X.prog X.w) X E0 := fun _ _ _ _ _ _ _ h => by
  obtain ⟨_, _, _, _, _, _, _, _, _, _, _, _, z⟩ := h
  exact z.elim
theorem takesN {X : Cx} : L2N.Takes X (fun _ _ _ _ => False) := fun _ _ x => by
  obtain ⟨_, _, _, _, _, _, _, _, _, _, _, _, _, _, _, _, z⟩ := x
  exact z.elim
/-- an error of a call in a try's body, whatever the slots -/
def EAll (n : Nat) (W : WX) : XK := fun cls d H => ∀ σ : L2.St, σ.length = n → W cls d σ H
theorem passA {X : Cx} {W : WX} (tk : L2N.Takes X W) : Passes (L2N.CX X.prog X.w) X (EAll X.N.length W) := fun _ σ _ _ e s2 I c => tk e s2 (L2N.XE.of_call I (fun _ _ _ h => h σ I.len) c)
theorem passS {X : Cx} {W : WX} (tk : L2N.Takes X W) (σ : L2.St) : PassesAt (L2N.CX X.prog X.w) X σ (WE W σ) := L2N.passAt tk σ
theorem pe_fnS {X : Cx} {k : Nat} {x : Str} {ps : List Str} {sp : Sp} {e : Expr} {es : List Expr} {t : TA} {p pos : Pos} {W : WX} (h : Fn X.prog X.w X.K X.mg X.base (L2N.CX X.prog X.w) k x ps sp) (hr : Room k X.A) (tk : L2N.Takes X W) (ha : PA X (e :: es) t) (hg : Gl X x := by rfl)
    (hd : (x == ("__debug__" : Str)) = false := by decide +kernel)
    (he : starEach (e :: es) X.env = (false, eval e X.env) :: starEach es X.env := by rfl) (hpl : (backTo pos (starEach es X.env)).any (·.1) = false := by rfl) :
    PE X (.Call (.Name x p) (e :: es) [] pos) (tCallS sp (WE W) t) := by
  obtain ⟨f, fd, hm, hk, hb, F⟩ := h.ex
  exact pe_callS F hr hg hm hk hb (passS tk) ha hd he hpl
/-! ### the readings -/
section
variable {K : PySem.W.Frag} {F : List Fc} {m : List Sx} {H : Hp} {σ : L2.St} {Q : VK} {v x : V} {d : PyData} {ds : List (Str × PyData)} {ta te : TE} {tr : TA} {C a : Addr} {f : Str} {W : WX} {D : Ends} {sp : Sp} {tb : WX → TS} {tab : List (Str × Str)} {l : List Hdl} {Wout : WX}
/-- an error's dict -/
def xdF (K : PySem.W.Frag) (a : Addr) (ds : List (Str × PyData)) : Fc := ⟨fun G => ∃ fs, G a = some (.xd fs) ∧ FldOk K G fs ds, fun _ _ e ⟨fs, h1, h2⟩ => ⟨fs, e _ _ h1, h2.mono e⟩⟩
def RaiseR (C : Addr) (f : Str) (vs : List V) (H : Hp) (E : XK) : Prop := ∃ v, vs = [v] ∧ ∀ d, H d = none → E (.ref C) (some d) (upd H d (.xd [(f, v)]))
theorem g_raiseS (h : tr σ H fun vs H1 => RaiseR C f vs H1 fun cls d H2 => W cls d σ H2) : tRaise (tErr C f tr) W D σ H := h
/-- the promise of an error: class c, its field -/
def Rs (K : PySem.W.Frag) (F : List Fc) (m : List Sx) (c f : Str) (d : PyData) (E : XK) : Prop := ∀ a H, S (xdF K a [(f, d)] :: F) m H → E (.ref (He.ga K c)) (some a) H
theorem g_raise {c : Str} {E : XK} (hS : S F m H) (hv : Has K F v d) (q : Rs K F m c f d E) : RaiseR (He.ga K c) f [v] H E :=
  ⟨v, rfl, fun a ha => q a _ (hS.putF ha _ fun G g e => ⟨_, e, rfl, hv G g, trivial⟩)⟩
theorem Rs.wk {F' : List Fc} {m' : List Sx} {c : Str} {E : XK} (q : Rs K F m c f d E) (hf : ∀ g ∈ F, g ∈ F') (hm : m.Sublist m') : Rs K F' m' c f d E := fun a H h => q a H (h.wk (fun g hg => by
  cases hg with
  | head => exact .head _
  | tail _ hg => exact .tail _ (hf g hg)) hm)
theorem g_callS {E : L2.St → XK} (h : tr σ H fun vs H1 => sp vs H1 Q (E σ)) : tCallS sp E tr σ H Q := h
/-- a call that may raise, in a def that lets it out -/
theorem g_callX {E : XK} (h : tr σ H fun vs H1 => sp vs H1 Q E) : tCall sp [] E tr σ H Q := g_call h
def MakX (C : Addr) (sp : Sp) (vs : List V) (E : XK) (H : Hp) (Q : VK) : Prop := ∀ x dx, H x = none → H dx = none → dx ≠ x → sp (.ref x :: (vs ++ [])) (upd (upd H dx (.own x)) x (.ins C dx [])) (fun v H2 => v = .non ∧ Q (.ref x) H2) E
theorem g_makX {t : TA} {E : XK} (h : t σ H fun vs H1 => MakX C sp vs E H1 Q) : tMake C sp [] E t σ H Q := h
theorem g_mkX {vs : List V} {E : XK} (hS : S F m H) (q : ∀ x dx H', S F (Raw x (.ins C dx []) :: m) H' → sp (.ref x :: (vs ++ [])) H' (fun v H2 => v = .non ∧ Q (.ref x) H2) E) : MakX C sp vs E H Q := by
  intro x dx hx hd hn
  have h1 := hS.put hd (Raw dx (.own x)) rfl (fun _ _ => rfl)
  have h2 := h1.put (p := x) (o := .ins C dx []) (by rw [upd_ne (Ne.symm hn)]; exact hx) (Raw x (.ins C dx [])) rfl (fun _ _ => rfl)
  exact q x dx _ (h2.sub (.cons₂ _ (.cons _ (.refl _))))
/-! ### try -/
def tTry (K : PySem.W.Frag) (tab : List (Str × Str)) (Wout : WX) (l : List Hdl) (tb : WX → TS) : TS := fun D σ H => tb (wErr K tab Wout D l) D σ H
theorem g_try (h : tb (wErr K tab Wout D l) D σ H) : tTry K tab Wout l tb D σ H := h
theorem w_err {c : Str} {d : Option Addr} (hc : (c, f) ∈ tab) (h : wErr.go Wout D (c, f) l (.ref (He.ga K c)) d σ H) : wErr K tab Wout D l (.ref (He.ga K c)) d σ H := ⟨(c, f), hc, rfl, h⟩
/-- an error's field, in its suite -/
def tErrF (K : PySem.W.Frag) (tab : List (Str × Str)) (a : Addr) (cls : Value) (d : Option Addr) (f : Str) (te : TE) : TE := fun σ H Q => te σ H fun x H1 => x = .ref a ∧ ∃ p ∈ tab, cls = .ref (He.ga K p.1) ∧ p.2 = f ∧ ∃ (dd : Addr) (fs : List (Str × V)) (v : V), d = some dd ∧ H1 dd = some (.xd fs) ∧ fs.lookup f = some v ∧ Q v H1
theorem pe_errF {X : Cx} {a : Addr} {oe : Obj} {cls : Value} {d : Option Addr} {pn : List (Addr × Obj)} {e : Expr} {te : TE} {pos : Pos} {n : Str} {tab : List (Str × Str)} (T : ErrT X.K tab)
    (hz : L2N.Zn cls d oe) (hf : ∃ vs, oe.data = .fields vs) (he : PE (X.suite a ((a, oe) :: pn)) e te) (hb : attributeBase e n X.env (eval e X.env) = eval e X.env := by rfl) :
    PE (X.suite a ((a, oe) :: pn)) (.Attribute e n pos) (tErrF X.K tab a cls d n te) := by
  refine ⟨fun pins s σ H Q I h => attr_of hb (thn (he.run pins s σ H _ I h) fun u s1 hu => ?_)⟩
  obtain ⟨x, H1, I1, rx, rfl, p, hp, rfl, rfl, dd, fs, v, rfl, ea, lk, q⟩ := hu
  obtain rfl : u = Value.ref a := rx
  have E := T.k p hp
  have pn1 := (I1.pin (a, oe) (List.mem_append_left _ List.mem_cons_self)).1
  obtain ⟨vs, hd⟩ := hf
  have ho : ObjOk X.prog X.w H1 s1.heap dd (.xd fs) := I1.hok dd _ ea
  obtain ⟨mA, ns, rel⟩ := ho
  obtain ⟨od, at1, lk2⟩ := lookIn_ns ns
  obtain ⟨u2, hu2, r2⟩ := RelO.some_of (v := v) (o := mA p.2) (by rw [← lk]; exact rel p.2)
  have J : PySem.W.InstAt s1.heap a oe (He.ga X.K p.1) (some od) := ⟨pn1, hz.1, by unfold PySem.W.notCls; rw [hd] <;> rfl, by rw [hz.2.1]; exact at1⟩
  exact HandSPX.exc_get I1.kIn J E.xf.ga E.xf.gg E.xf.exC (PySem.W.findObj_own E.dc E.no rfl (by rw [lk2, hu2])) (handed_of r2) ⟨v, H1, I1.tok _, r2, q⟩
def ErrFR (K : PySem.W.Frag) (tab : List (Str × Str)) (a : Addr) (cls : Value) (d : Option Addr) (f : Str) (x : V) (H1 : Hp) (Q : VK) : Prop := x = .ref a ∧ ∃ p ∈ tab, cls = .ref (He.ga K p.1) ∧ p.2 = f ∧ ∃ (dd : Addr) (fs : List (Str × V)) (v : V), d = some dd ∧ H1 dd = some (.xd fs) ∧ fs.lookup f = some v ∧ Q v H1
theorem g_errFS {cls : Value} {d : Option Addr} (h : te σ H fun x H1 => ErrFR K tab a cls d f x H1 Q) : tErrF K tab a cls d f te σ H Q := h
theorem g_errF {c : Str} {dd : Addr} (hS : S F m H) (hT : Tells F (xdF K dd [(f, d)])) (hc : (c, f) ∈ tab) (q : Res K F m H d Q) : ErrFR K tab a (.ref (He.ga K c)) (some dd) f (.ref a) H Q := by
  obtain ⟨G, e, fa, own, nd⟩ := hS.ex
  obtain ⟨fs, h1, h2⟩ := hT G fa
  obtain ⟨v, h3, h4⟩ := h2.get (f := f) (d := d) (by simp [List.lookup])
  exact ⟨rfl, (c, f), hc, rfl, rfl, dd, fs, v, rfl, e _ _ h1, h3, q v ⟨G, e, fun g hg => by cases hg with | head => exact h4 | tail _ hg => exact fa g hg, own, nd⟩⟩
end
/-! ### in a suite: defs that are called there -/
theorem hot_suite {X : Cx} {a : Addr} {oe : Obj} {pn : List (Addr × Obj)} {cls : Value} {d : Option Addr} (hz : L2N.Zn cls d oe) (hf : ∃ vs, oe.data = .fields vs) : L2H.HotC (X.suite a ((a, oe) :: pn)) := by
  obtain ⟨vs, h⟩ := hf
  exact ⟨(a, oe), ⟨rfl, vs, h, hz.2.2 vs h⟩, List.mem_cons_self⟩
structure Fnh (P : Program) (w : World) (K : PySem.W.Frag) (mg : Str → Option Value) (base : Heap) (k : Nat) (x : Str) (ps : List Str) (sp : Sp) : Prop where
  ex : ∃ f fd, mg x = some (.ref f) ∧ PySem.W.keepIn K (.ref f) = true ∧ Binds K fd ps [] ∧ L2H.FnH P w K mg base CX0 k f fd ps sp
theorem pe_fnh {X : Cx} {k : Nat} {x : Str} {ps : List Str} {sp : Sp} {e : Expr} {es : List Expr} {t : TA} {p pos : Pos} (h : Fnh X.prog X.w X.K X.mg X.base k x ps sp) (hr : L2H.RoomH k X.A) (hot : L2H.HotC X) (ha : PA X (e :: es) t) (hg : Gl X x := by rfl)
    (hd : (x == ("__debug__" : Str)) = false := by decide +kernel)
    (he : starEach (e :: es) X.env = (false, eval e X.env) :: starEach es X.env := by rfl) (hpl : (backTo pos (starEach es X.env)).any (·.1) = false := by rfl) :
    PE X (.Call (.Name x p) (e :: es) [] pos) (tCallS sp (fun _ => E0) t) := by
  obtain ⟨f, fd, hm, hk, hb, F⟩ := h.ex
  exact L2H.pe_callH F hr hot hg hm hk hb (fun _ _ _ _ _ _ _ z => z.elim) ha hd he hpl
theorem _root_.L2.FunD.okH {P : Program} {w : World} {K : PySem.W.Frag} {mg : Str → Option Value} {base : Heap} {x qual : Str} {params : Arguments} {body : List Stmt} {scope : Scope} {dvs : List V} {kws : List (Str × V)} {f : Addr} {fd : FuncData}
    {CX : CXT} {N ps : List Str} {k : Nat} {sp : Sp} (F : FunD K x qual params body scope dvs kws f fd) (S : FnScope N ps scope) (len : ∀ vs H Q E, sp vs H Q E → vs.length = ps.length)
    (hbody : ∀ (cdv : Value) (A : Around) (outer : List Env) (s : Shared) (H : Hp) (vs : List V) (Q : VK) (E : XK) (p : Addr × Obj), L2H.Hot1 A p → L2H.RoomH k (A.deeper (envOfC qual scope s.heap.objs.size f cdv)) → sp vs H Q E →
      ∃ t, PSs (L2H.cxH CX P w K mg base N qual scope f cdv A outer s H E p) body t ∧ t { nx := fun _ H' => Q .non H', rt := Q } (start N vs) H) : L2H.FnH P w K mg base CX (k + 1) f fd ps sp := by
  obtain ⟨oc, od, dV, kV, doc, pm, an, cdv, ct, osl, rfl, lk, hcd, _, _⟩ := F.ex
  exact L2H.fn_ofH lk hcd S len fun A outer s H vs Q E p hot hr hsp => hbody cdv A outer s H vs Q E p hot hr hsp
theorem hot_cx {CX : CXT} {P : Program} {w : World} {K : PySem.W.Frag} {mg : Str → Option Value} {base : Heap} {N : List Str} {qual : Str} {scope : Scope} {f : Addr} {cd : Value} {A : Around} {outer : List Env} {s : Shared} {H : Hp} {E : XK} {p : Addr × Obj} (h : L2H.Hot1 A p) :
    L2H.HotC (L2H.cxH CX P w K mg base N qual scope f cd A outer s H E p) := ⟨p, h, List.mem_cons_self⟩
/-! ### isinstance of an error, in its suite -/
structure ErrI (K : PySem.W.Frag) (tab : List (Str × Str)) : Prop where
  c : ∀ p ∈ tab, ExcC K (He.ga K p.1)
  own : ∀ p ∈ tab, ∀ q ∈ tab, PySem.W.kitOne K (.ref (He.ga K p.1)) (.ref (He.ga K q.1)) = some (decide (p.1 = q.1))
  blt : ∀ p ∈ tab, ∀ n ∈ (["ValueError", "LookupError", "ArithmeticError"] : List String), PySem.W.kitOne K (.ref (He.ga K p.1)) (.type n) = some false
def excCB (K : PySem.W.Frag) (D : Addr) : Bool := He.eqO (PySem.W.findIn K (.ref D) "__getattribute__") (some (some (.builtin "BaseException.__getattribute__"))) && (He.eqO (PySem.W.findIn K (.ref D) "__getattr__") (some none) && (decide (PySem.W.subIn K (.ref D) (.type "BaseException") = some true) &&
  (PySem.W.hasDictIn K D && (He.eqO (PySem.W.findIn K (.ref D) "__class__") (some (some (.builtin "object.__class__"))) && (He.eqO (PySem.W.specialIn K (.builtin "object.__class__") "__get__") (some (some (.builtin "getset_descriptor.__get__"))) &&
  (decide (PySem.W.takesIn K (.builtin "object.__class__") = some true) && decide (PySem.W.mroIn K D (.type "object") = some true)))))))
theorem excCB_ok {K : PySem.W.Frag} {D : Addr} (h : excCB K D = true) : ExcC K D := by
  obtain ⟨h1, h⟩ := He.ba h
  obtain ⟨h2, h⟩ := He.ba h
  obtain ⟨h3, h⟩ := He.ba h
  obtain ⟨h4, h⟩ := He.ba h
  obtain ⟨h5, h⟩ := He.ba h
  obtain ⟨h6, h⟩ := He.ba h
  obtain ⟨h7, h8⟩ := He.ba h
  exact ⟨He.eqO_ok h1, He.eqO_ok h2, of_decide_eq_true h3, h4, He.eqO_ok h5, He.eqO_ok h6, of_decide_eq_true h7, of_decide_eq_true h8⟩
def errIB (K : PySem.W.Frag) (tab : List (Str × Str)) : Bool := tab.all fun p => excCB K (He.ga K p.1) && ((tab.all fun q => decide (PySem.W.kitOne K (.ref (He.ga K p.1)) (.ref (He.ga K q.1)) = some (decide (p.1 = q.1)))) &&
  (["ValueError", "LookupError", "ArithmeticError"] : List String).all fun n => decide (PySem.W.kitOne K (.ref (He.ga K p.1)) (.type n) = some false))
theorem errIB_ok {K : PySem.W.Frag} {tab : List (Str × Str)} (h : errIB K tab = true) : ErrI K tab := by
  have h := List.all_eq_true.mp h
  refine ⟨fun p hp => excCB_ok (He.ba (h p hp)).1, fun p hp q hq => ?_, fun p hp n hn => ?_⟩
  · exact of_decide_eq_true (List.all_eq_true.mp (He.ba (He.ba (h p hp)).2).1 q hq)
  · exact of_decide_eq_true (List.all_eq_true.mp (He.ba (He.ba (h p hp)).2).2 n hn)
def rIsErr (K : PySem.W.Frag) (tab : List (Str × Str)) (a : Addr) (cls : Value) (d : Option Addr) : List V → Hp → VK → Prop := fun xs H Q => ∃ (c : V) (cv : Value) (b : Bool) (p : Str × Str) (dd : Addr) (fs : List (Str × V)), xs = [.ref a, c] ∧ (∀ u, RelV c u → u = cv) ∧ p ∈ tab ∧ cls = .ref (He.ga K p.1) ∧ d = some dd ∧ H dd = some (.xd fs) ∧
  PySem.W.kitOne K cls cv = some b ∧ Q (.bl b) H
theorem call_isErr {X : Cx} {a : Addr} {cls : Value} {d : Option Addr} {oe : Obj} {pn : List (Addr × Obj)} {tab : List (Str × Str)} (T : ErrI X.K tab) (hz : L2N.Zn cls d oe) (hf : ∃ vs, oe.data = .fields vs) : CallR (X.suite a ((a, oe) :: pn)) (.builtin "isinstance") (rIsErr X.K tab a cls d) := by
  intro pins s σ H xs us Q I r h
  obtain ⟨c, cv, b, p, dd, fs, rfl, hcv, hp, rfl, rfl, hx, e, q⟩ := h
  obtain ⟨u1, u2, rfl, r1, r2⟩ := vals2 r
  obtain rfl := hcv _ r2
  obtain rfl : u1 = Value.ref a := r1
  have C := T.c p hp
  have pn1 := (I.pin (a, oe) (List.mem_append_left _ List.mem_cons_self)).1
  obtain ⟨vs, hd⟩ := hf
  have ho : ObjOk X.prog X.w H s.heap dd (.xd fs) := I.hok dd _ hx
  obtain ⟨mA, ns, rel⟩ := ho
  obtain ⟨od, at1, _⟩ := lookIn_ns ns
  have J : PySem.W.InstAt s.heap a oe (He.ga X.K p.1) (some od) := ⟨pn1, hz.1, by unfold PySem.W.notCls; rw [hd] <;> rfl, by rw [hz.2.1]; exact at1⟩
  have cl : (PySem.W.clsIn X.K (He.ga X.K p.1)).isSome = true := by
    obtain ⟨cd, hc, _⟩ := PySem.W.any_some C.hd
    rw [hc] <;> rfl
  exact PySem.W.kia_one (PySem.W.kitx_exc (od := some od) (ox := oe) cl C.hg C.hk C.hs C.ha C.hn C.ht C.hm) I.kIn J e (fun z => nomatch z) fun tk => ⟨.bl b, H, I.tok tk, rfl, q⟩
def IsErrR (K : PySem.W.Frag) (tab : List (Str × Str)) (a : Addr) (cls : Value) (d : Option Addr) (xs : List V) (H : Hp) (Q : VK) : Prop := rIsErr K tab a cls d xs H Q
theorem g_isErr {K : PySem.W.Frag} {F : List Fc} {m : List Sx} {H : Hp} {Q : VK} {tab : List (Str × Str)} {a dd : Addr} {c f n : Str} {d : PyData} (I : ErrI K tab) (hS : S F m H) (hT : Tells F (xdF K dd [(f, d)])) (hc : (c, f) ∈ tab) {g : Str} (hn : (n, g) ∈ tab) (q : Q (.bl (decide (c = n))) H) :
    rIsErr K tab a (.ref (He.ga K c)) (some dd) [.ref a, .ref (He.ga K n)] H Q := by
  obtain ⟨fs, h1, h2⟩ := hS.tells hT
  exact ⟨.ref (He.ga K n), .ref (He.ga K n), _, (c, f), dd, fs, rfl, fun u h => h, hc, rfl, rfl, h1, I.own (c, f) hc (n, g) hn, q⟩
theorem g_isErrT {K : PySem.W.Frag} {F : List Fc} {m : List Sx} {H : Hp} {Q : VK} {tab : List (Str × Str)} {a dd : Addr} {c f : Str} {n : String} {d : PyData} (I : ErrI K tab) (hS : S F m H) (hT : Tells F (xdF K dd [(f, d)])) (hc : (c, f) ∈ tab) (hn : n ∈ (["ValueError", "LookupError", "ArithmeticError"] : List String)) (q : Q (.bl false) H) :
    rIsErr K tab a (.ref (He.ga K c)) (some dd) [.ref a, .ty n] H Q := by
  obtain ⟨fs, h1, h2⟩ := hS.tells hT
  exact ⟨.ty n, .type n, _, (c, f), dd, fs, rfl, fun u h => h, hc, rfl, rfl, h1, I.blt (c, f) hc n hn, q⟩
section
variable {K : PySem.W.Frag} {H : Hp} {σ : L2.St} {tab : List (Str × Str)} {Wout : WX} {D : Ends} {r : List Hdl} {c n f : Str} {i : Nat} {dd : Option Addr} {ts : Addr → Value → Option Addr → TS}
theorem w_hit (hc : (c, f) ∈ tab) (hb : errIs c n = true) (q : ∀ a, H a = none → ts a (.ref (He.ga K c)) dd ⟨fun σ H => D.nx (σ.set i none) H, D.rt, fun σ H => D.bk (σ.set i none) H, fun σ H => D.ct (σ.set i none) H⟩ (σ.set i (some (.ref a))) H) : wErr K tab Wout D ((n, i, ts) :: r) (.ref (He.ga K c)) dd σ H :=
  ⟨(c, f), hc, rfl, by
    show if errIs c n = true then _ else _
    rw [if_pos hb]
    exact q⟩
theorem w_miss (hc : (c, f) ∈ tab) (hb : errIs c n = false) (q : wErr.go Wout D (c, f) r (.ref (He.ga K c)) dd σ H) : wErr K tab Wout D ((n, i, ts) :: r) (.ref (He.ga K c)) dd σ H :=
  ⟨(c, f), hc, rfl, by
    show if errIs c n = true then _ else _
    rw [if_neg (by rw [hb]; exact Bool.false_ne_true)]
    exact q⟩
theorem w_go (hc : (c, f) ∈ tab) {l : List Hdl} (q : wErr.go Wout D (c, f) l (.ref (He.ga K c)) dd σ H) : wErr K tab Wout D l (.ref (He.ga K c)) dd σ H := ⟨(c, f), hc, rfl, q⟩
theorem w_un {l : List Hdl} (hc : (c, f) ∈ tab) (hu : ∀ p ∈ tab, He.ga K p.1 = He.ga K c → p = (c, f)) (q : wErr K tab Wout D l (.ref (He.ga K c)) dd σ H) : wErr.go Wout D (c, f) l (.ref (He.ga K c)) dd σ H := by
  obtain ⟨p, hp, e, q⟩ := q
  rw [hu p hp (Value.ref.inj e).symm] at q
  exact q
end
end Qe

namespace Qe
open PySem PySem.Spec PyProof.Rows L2
/-! ### calls whose arguments are all named, in the order of the parameters -/
structure KAll (K : PySem.W.Frag) (fd : FuncData) (ps : List Str) : Prop where
  to : ∀ (s : Shared) (ws : List Value), K.In s.heap → ws.length = ps.length → BindsTo s fd ⟨[], ps.zip ws⟩ (ps.zip ws)
theorem _root_.L2.FunD.kall {K : PySem.W.Frag} {x qual : Str} {params : Arguments} {body : List Stmt} {scope : Scope} {kws : List (Str × V)} {f : Addr} {fd : FuncData} {ps : List Str} (F : FunD K x qual params body scope [] kws f fd)
    (h : ∀ (kV doc pm : Value) (an : Option Addr) (cdv ct : Value) (ws : List Value), ws.length = ps.length → bindArgs (PySem.W.fnOf x qual params body scope .none kV doc pm an cdv ct) ⟨[], ps.zip ws⟩ = pure (ps.zip ws)) : KAll K fd ps := by
  obtain ⟨oc, od, dV, kV, doc, pm, an, cdv, ct, osl, rfl, lk, hcd, hD, hK⟩ := F.ex
  rcases hD with ⟨_, rfl⟩ | ⟨e, _⟩
  · exact ⟨fun s ws _ hl => .of_eq (h kV doc pm an cdv ct ws hl)⟩
  · exact absurd rfl e
/-- .. of a method of a class: self comes ahead -/
structure KSelf (K : PySem.W.Frag) (fd : FuncData) (p0 : Str) (ps : List Str) : Prop where
  to : ∀ (s : Shared) (u : Value) (ws : List Value), K.In s.heap → ws.length = ps.length → BindsTo s fd ⟨[u], ps.zip ws⟩ ((p0 :: ps).zip (u :: ws))
theorem _root_.L2.FunD.kself {K : PySem.W.Frag} {x qual : Str} {params : Arguments} {body : List Stmt} {scope : Scope} {kws : List (Str × V)} {f : Addr} {fd : FuncData} {p0 : Str} {ps : List Str} (F : FunD K x qual params body scope [] kws f fd)
    (h : ∀ (kV doc pm : Value) (an : Option Addr) (cdv ct : Value) (u : Value) (ws : List Value), ws.length = ps.length → bindArgs (PySem.W.fnOf x qual params body scope .none kV doc pm an cdv ct) ⟨[u], ps.zip ws⟩ = pure ((p0 :: ps).zip (u :: ws))) : KSelf K fd p0 ps := by
  obtain ⟨oc, od, dV, kV, doc, pm, an, cdv, ct, osl, rfl, lk, hcd, hD, hK⟩ := F.ex
  rcases hD with ⟨_, rfl⟩ | ⟨e, _⟩
  · exact ⟨fun s u ws _ hl => .of_eq (h kV doc pm an cdv ct u ws hl)⟩
  · exact absurd rfl e
structure FnK (P : Program) (w : World) (K : PySem.W.Frag) (mg : Str → Option Value) (base : Heap) (CX : CXT) (k : Nat) (x : Str) (ps : List Str) (sp : Sp) : Prop where
  ex : ∃ f fd, mg x = some (.ref f) ∧ PySem.W.keepIn K (.ref f) = true ∧ KAll K fd ps ∧ FnOk P w K mg base CX k f fd ps sp
structure FnAK (P : Program) (w : World) (K : PySem.W.Frag) (mg : Str → Option Value) (base : Heap) (CX : CXT) (k : Nat) (f : Addr) (p0 : Str) (ps : List Str) (sp : Sp) : Prop where
  ex : ∃ fd, KSelf K fd p0 ps ∧ FnOk P w K mg base CX k f fd (p0 :: ps) sp
section
variable {X : Cx} {CX : CXT} {k : Nat} {x p0 : Str} {ps : List Str} {sp : Sp} {kws : List Keyword} {tk : TA} {p pos : Pos} {E : XK} {C f : Addr}
theorem pe_fnK (h : FnK X.prog X.w X.K X.mg X.base CX k x ps sp) (hr : Room k X.A) (hx : Passes CX X E) (hkw : PK X kws tk) (hg : Gl X x := by rfl) (hd : (x == ("__debug__" : Str)) = false := by decide +kernel)
    (hall : (backToKw pos (keywordEach kws X.env)).all (·.1.isSome) = true := by rfl) (hks : (backToKw pos (keywordEach kws X.env)).filterMap (·.1) = ps := by rfl)
    (hpl : ((backTo pos (starEach [] X.env)).any (·.1) || (backToKw pos (keywordEach kws X.env)).any (·.1.isNone)) = false := by rfl) : PE X (.Call (.Name x p) [] kws pos) (tCall sp [] E tk) := by
  obtain ⟨a, fd, hm, hk, hb, F⟩ := h.ex
  refine ⟨fun pins s σ H Q I h => ?_⟩
  refine wpAny_Call_Name_kw (ld_glob I hg hm ?_ hd)
  refine PySem.W.callWith_KW0 (h₀ := X.base) I.ok.mod.kin hk hall ?_ hpl
  refine thn (hkw.run pos pins s σ H _ I h) fun ws s2 hv => ?_
  obtain ⟨vs, H2, I2, rz, q2⟩ := hv
  refine ⟨I2.kIn, ?_⟩
  rw [hks]
  rw [List.append_nil] at q2
  have hl : ws.length = ps.length := by
    rw [← rz.length]
    exact F.len _ _ _ _ q2
  refine wpAny_call (codeAny_mono (F.run X.A X.stack s2 H2 ⟨[], ps.zip ws⟩ ws vs Q E hr I2.env0 (hb.to s2 ws I2.kIn hl) rz q2) fun r s3 hh => ?_)
  cases r with
  | error e => exact hx pins σ H2 s2 e s3 I2 hh
  | ok fl =>
    cases fl with
    | ret u => exact I2.after hh
    | next => exact False.elim hh
    | brk => exact False.elim hh
    | cont => exact False.elim hh
theorem pe_mkK {n : Nat} (M : Mk X.K C f) (h : FnAK X.prog X.w X.K X.mg X.base CX k f p0 ps sp) (hr : Room (k + 1) X.A) (hm : X.mg x = some (.ref C)) (hx : Passes CX X E) (hkw : PK X kws tk) (hg : Gl X x := by rfl) (hd : (x == ("__debug__" : Str)) = false := by decide)
    (hall : (backToKw pos (keywordEach kws X.env)).all (·.1.isSome) = true := by rfl) (hks : (backToKw pos (keywordEach kws X.env)).filterMap (·.1) = ps := by rfl)
    (hpl : ((backTo pos (starEach [] X.env)).any (·.1) || (backToKw pos (keywordEach kws X.env)).any (·.1.isNone)) = false := by rfl) (hn : ps.length = n := by rfl) : PE X (.Call (.Name x p) [] kws pos) (tMakeK C 0 n sp (fun vs zs => vs ++ zs) E tNil tk) := by
  obtain ⟨fd, hb, F⟩ := h.ex
  subst hn
  refine pe_makeK0 M F hr hg hm ⟨fun s us ws Y l1 l2 => ?_, fun r1 r2 => r1.append r2⟩ hx hkw hall hks hd hpl
  match us, l1 with
  | [u], _ => exact hb.to s u ws Y l2
end
def MakK (C : Addr) (n : Nat) (sp : Sp) (zs : List V) (E : XK) (H2 : Hp) (Q : VK) : Prop := zs.length = n ∧ ∀ x dx, H2 x = none → H2 dx = none → dx ≠ x → sp (.ref x :: zs) (upd (upd H2 dx (.own x)) x (.ins C dx [])) (fun v H3 => v = .non ∧ Q (.ref x) H3) E
theorem g_makK {C : Addr} {n : Nat} {sp : Sp} {E : XK} {tk : TA} {σ : L2.St} {H : Hp} {Q : VK} (h : tk σ H fun zs H2 => MakK C n sp zs E H2 Q) : tMakeK C 0 n sp (fun vs zs => vs ++ zs) E tNil tk σ H Q := by
  have e : (fun (zs : List V) (H2 : Hp) => ([] : List V).length = 0 ∧ zs.length = n ∧ ∀ x dx, H2 x = none → H2 dx = none → dx ≠ x → sp ([.ref x] ++ zs) (upd (upd H2 dx (.own x)) x (.ins C dx [])) (fun v H3 => v = .non ∧ Q (.ref x) H3) E) = fun zs H2 => MakK C n sp zs E H2 Q := by
    funext zs H2
    exact propext ⟨fun ⟨_, b, c⟩ => ⟨b, c⟩, fun ⟨b, c⟩ => ⟨rfl, b, c⟩⟩
  show tk σ H fun zs H2 => _
  exact e ▸ h
theorem g_mkK {K : PySem.W.Frag} {F : List Fc} {m : List Sx} {H : Hp} {Q : VK} {C : Addr} {n : Nat} {sp : Sp} {zs : List V} {E : XK} (hl : zs.length = n) (hS : S F m H) (q : ∀ x dx H', S F (Raw x (.ins C dx []) :: m) H' → sp (.ref x :: zs) H' (fun v H2 => v = .non ∧ Q (.ref x) H2) E) : MakK C n sp zs E H Q := by
  refine ⟨hl, fun x dx hx hd hn => ?_⟩
  have h1 := hS.put hd (Raw dx (.own x)) rfl (fun _ _ => rfl)
  have h2 := h1.put (p := x) (o := .ins C dx []) (by rw [upd_ne (Ne.symm hn)]; exact hx) (Raw x (.ins C dx [])) rfl (fun _ _ => rfl)
  exact q x dx _ (h2.sub (.cons₂ _ (.cons _ (.refl _))))
/-! ### == by an own __eq__ -/
def rEqO (K : PySem.W.Frag) (C : Addr) (sp : Sp) : R2 := fun x y H Q => ∃ a dx fs, x = .ref a ∧ H a = some (.ins C dx fs) ∧ ((∃ b dy gs, y = .ref b ∧ H b = some (.ins C dy gs)) ∨ ∃ d, Dp K H y d) ∧ sp [x, y] H (fun v H2 => ∃ b, v = .bl b ∧ Q (.bl b) H2) E0
def eqOB (K : PySem.W.Frag) (C f : Addr) : Bool := He.eqO (PySem.W.findIn K (.ref C) "__eq__") (some (some (.ref f))) && (PySem.W.isFn K (.ref f) && ["NoneType", "bool", "int", "str", "list", "tuple", "dict"].all fun t => PySem.W.notFirst K C (.type t))
structure EqO (K : PySem.W.Frag) (C f : Addr) : Prop where
  ins : C8.InsC K C
  he : PySem.W.findIn K (.ref C) "__eq__" = some (some (.ref f))
  hf : PySem.W.isFn K (.ref f) = true
  nf : ∀ d : PyData, PySem.W.notFirst K C (.type (tyOf d)) = true
theorem eqOB_ok {K : PySem.W.Frag} {C f : Addr} (c : C8.InsC K C) (h : eqOB K C f = true) : EqO K C f := by
  obtain ⟨h1, h⟩ := He.ba h
  obtain ⟨h2, h3⟩ := He.ba h
  have z := List.all_eq_true.mp h3
  exact ⟨c, He.eqO_ok h1, h2, fun d => z (tyOf d) (by cases d <;> simp [tyOf])⟩
theorem op_eqO {X : Cx} {CX : CXT} {k : Nat} {C f : Addr} {ps : List Str} {sp : Sp} (T : EqO X.K C f) (h : FnA X.prog X.w X.K X.mg X.base CX k f ps sp) (hr : Room k X.A) (hx : Passes CX X E0) :
    OpR X (compareOp .Eq) (rEqO X.K C sp) := by
  obtain ⟨fd, hb, F⟩ := h.ex
  intro pins s σ H x y v u Q I rx ry hq
  obtain ⟨a, dx, fs, rfl, ha, hty, hsp⟩ := hq
  obtain ⟨t, ty, nf⟩ : ∃ t, TyX X.K H y t ∧ PySem.W.notFirst X.K C t = true := by
    rcases hty with ⟨b, dy, gs, rfl, hb2⟩ | ⟨d, hd⟩
    · exact ⟨_, .base (.ins hb2 T.ins.cl T.ins.ha T.ins.hn T.ins.htk T.ins.hm), by unfold PySem.W.notFirst; simp⟩
    · exact ⟨_, tyx hd, T.nf d⟩
  obtain rfl : v = Value.ref a := rx
  obtain ⟨mA, J, _⟩ := ins_get I.hok ha
  obtain ⟨od, J, _⟩ := J.look
  obtain ⟨mf, hF⟩ := I.fr
  obtain ⟨P, Z, pz, hxx⟩ := kit_of I ry ty
  show wpAny (model X.prog X.w) X.A (richCompare .Eq (.ref a) u) (EP X pins σ Q) X.xe s
  refine PySem.W.cmp_K (op := .Eq) (tb := t) hr.units0 hF I.ok.mod.kin J (Z.ty _ _ I.kIn pz) nf T.he T.hf ?_
  have hl : [Value.ref a, u].length = ps.length := (F.len _ _ _ _ hsp)
  have hbb := hb s [.ref a, u] I.kIn (by rw [List.append_nil]; exact hl)
  rw [List.append_nil] at hbb
  refine wpAny_call (codeAny_mono (F.run X.A X.stack s H ⟨[.ref a, u], []⟩ [.ref a, u] [.ref a, y] _ E0 hr I.env0 hbb (.cons rfl (.cons ry .nil)) hsp) fun r s2 hh => ?_)
  cases r with
  | error e => exact hx pins σ H s e s2 I hh
  | ok fl =>
    cases fl with
    | ret z =>
      obtain ⟨z2, H2, I2, rz, b, rfl, q2⟩ := I.after hh
      cases rz
      exact ⟨.bl b, H2, I2, rfl, q2⟩
    | next => exact False.elim hh
    | brk => exact False.elim hh
    | cont => exact False.elim hh
end Qe

namespace Qe
open PySem PySem.Spec PyProof.Rows L2
/-! ### lists that are lent to a call and written again behind it -/
/-- the part that stayed, as it was -/
def snapF (G0 : Hp) : Fc := ⟨fun G => Same G0 G, fun _ _ e h => h.trans e⟩
/-- a list as it stands -/
def exF (a : Addr) (xs : List V) : Fc := ⟨fun G => G a = some (.lst xs), fun _ _ e h => e _ _ h⟩
section
variable {K : PySem.W.Frag} {F F0 : List Fc} {m : List Sx} {H G0 : Hp} {σ : L2.St} {Q : VK} {v : V} {d : PyData} {ds : List PyData} {a g : Addr} {xs : List V}
theorem S.snap (h : S F m H) : ∃ G0, Facts F G0 ∧ S (snapF G0 :: F) m H := by
  obtain ⟨G, e, f, own, nd⟩ := h.ex
  refine ⟨G, f, G, e, fun g hg => ?_, own, nd⟩
  cases hg with
  | head => exact fun _ _ z => z
  | tail _ hg => exact f g hg
theorem S.snapFree (h : S F m H) (hs : snapF G0 ∈ F) {x : Sx} (hx : x ∈ m) : G0 x.a = none := by
  obtain ⟨G, e, f, own, nd⟩ := h.ex
  have s : Same G0 G := f _ hs
  have n := (own x hx).1
  cases q : G0 x.a with
  | none => rfl
  | some u =>
    rw [s _ _ q] at n
    cases n
/-- an owned list of data, as it stands -/
theorem S.toRaw {l : Addr} (h : S F (Ls K l ds :: m) H) : ∃ xs, S (dats K xs ds :: F) (Raw l (.lst xs) :: m) H := by
  obtain ⟨G, e, f, own, nd⟩ := h.ex
  obtain ⟨hn, o, ho, vs, rfl, hd⟩ := own _ (.head _)
  refine ⟨vs, G, e, fun g hg => ?_, fun x hx => ?_, nd⟩
  · cases hg with
    | head => exact hd
    | tail _ hg => exact f g hg
  · cases hx with
    | head => exact ⟨hn, _, ho, rfl⟩
    | tail _ hx => exact own x (.tail _ hx)
theorem S.frzRaw {l : Addr} (h : S F (Raw l (.lst xs) :: m) H) : S (exF l xs :: F) m H := h.frz (exF l xs) fun G o f hp e => by
  have hp : o = .lst xs := hp
  subst hp
  exact e
/-- the heap without some addresses -/
def minus (G : Hp) (A : List Addr) : Hp := fun b => if b ∈ A then none else G b
theorem minus_in {G : Hp} {A : List Addr} {b : Addr} (h : b ∈ A) : minus G A b = none := if_pos h
theorem minus_out {G : Hp} {A : List Addr} {b : Addr} (h : b ∉ A) : minus G A b = G b := if_neg h
mutual
/-- data without lists -/
def noL : PyData → Bool
  | .list _ => false
  | .dict _ => false
  | .tuple ds => noLs ds
  | .none => true
  | .bool _ => true
  | .int _ => true
  | .str _ => true
def noLs : List PyData → Bool
  | [] => true
  | d :: ds => noL d && noLs ds
end
theorem rd_minus {G : Hp} {A : List Addr} (hA : ∀ a ∈ A, ∃ xs, G a = some (.lst xs)) {a : Addr} {xs : List V} (h : SqT K G a xs) : SqT K (minus G A) a xs := by
  have key : ∀ o, G a = some o → (∀ ys, o ≠ .lst ys) → minus G A a = some o := fun o e n => by
    rw [minus_out fun hm => ?_]
    · exact e
    · obtain ⟨ys, z⟩ := hA a hm
      rw [e] at z
      exact n ys (Option.some.inj z)
  rcases h with (h | ⟨o, h⟩) | h
  · exact .inl (.inl (key _ h fun ys z => by cases z))
  · exact .inl (.inr ⟨o, key _ h fun ys z => by cases z⟩)
  · exact .inr h
mutual
theorem dp_minus {G : Hp} {A : List Addr} (hA : ∀ a ∈ A, ∃ xs, G a = some (.lst xs)) : ∀ (d : PyData) (v : V), noL d = true → Dp K G v d → Dp K (minus G A) v d
  | .none, _, _, h => by cases h; exact .non
  | .bool b, _, _, h => by cases h; exact .bl b
  | .int i, _, _, h => by cases h; exact .int i
  | .str x, _, _, h => by cases h; exact .str x
  | .list ds, _, n, _ => by cases n
  | .tuple ds, _, n, h => by
    cases h with
    | tup hs ha => exact .tup (rd_minus hA hs) (dps_minus hA ds _ n ha)
  | .dict _, _, n, _ => by cases n
theorem dps_minus {G : Hp} {A : List Addr} (hA : ∀ a ∈ A, ∃ xs, G a = some (.lst xs)) : ∀ (ds : List PyData) (vs : List V), noLs ds = true → DpAll K G vs ds → DpAll K (minus G A) vs ds
  | [], _, _, h => by cases h; exact .nil
  | d :: ds, _, n, h => by
    cases h with
    | cons h1 h2 =>
      obtain ⟨n1, n2⟩ := Bool.and_eq_true_iff.mp (show (noL d && noLs ds) = true from n)
      exact .cons (dp_minus hA d _ n1 h1) (dps_minus hA ds _ n2 h2)
end
theorem fld_minus {G : Hp} {A : List Addr} (hA : ∀ a ∈ A, ∃ xs, G a = some (.lst xs)) : ∀ {fs : List (Str × V)} {ds : List (Str × PyData)}, (∀ q ∈ ds, noL q.2 = true) → FldOk K G fs ds → FldOk K (minus G A) fs ds
  | [], [], _, _ => trivial
  | p :: fs, q :: ds, n, h => ⟨h.1, dp_minus hA _ _ (n q (.head _)) h.2.1, fld_minus hA (fun z hz => n z (.tail _ hz)) h.2.2⟩
  | [], _ :: _, _, h => h.elim
  | _ :: _, [], _, h => h.elim
theorem ins_minus {G : Hp} {A : List Addr} {C : Addr} {fl : List (Str × PyData)} (hA : ∀ a ∈ A, ∃ xs, G a = some (.lst xs)) (n : ∀ q ∈ fl, noL q.2 = true) (h : (ins K C v fl).P G) : (ins K C v fl).P (minus G A) := by
  obtain ⟨a, dx, fs, h1, h2, h3⟩ := h
  refine ⟨a, dx, fs, h1, ?_, fld_minus hA n h3⟩
  rw [minus_out fun hm => ?_]
  · exact h2
  · obtain ⟨ys, z⟩ := hA a hm
    rw [h2] at z
    cases z
/-- two lists that were lent come back; f: made meanwhile, no list in it -/
theorem S.back {f : Fc} {g a : Addr} {xs ys : List V} (h : S F m H) (hs : snapF G0 ∈ F) (f0 : Facts F0 G0) (hg : exF g xs ∈ F) (ha : exF a ys ∈ F) (hne : g ≠ a) (ng : G0 g = none) (na : G0 a = none) (hf : f ∈ F)
    (hm : ∀ x ∈ m, ∀ G G' o, x.P G o → x.P G' o) (hk : ∀ G, (∀ b ∈ [g, a], ∃ xs, G b = some (.lst xs)) → f.P G → f.P (minus G [g, a])) : S (f :: F0) (Raw g (.lst xs) :: Raw a (.lst ys) :: m) H := by
  obtain ⟨G, e, fa, own, nd⟩ := h.ex
  have eg : G g = some (.lst xs) := fa _ hg
  have ea : G a = some (.lst ys) := fa _ ha
  have s0 : Same G0 G := fa _ hs
  have hA : ∀ b ∈ [g, a], ∃ xs, G b = some (.lst xs) := fun b hb => by
    rcases List.mem_cons.mp hb with rfl | hb
    · exact ⟨_, eg⟩
    · rw [List.mem_singleton.mp hb]
      exact ⟨_, ea⟩
  have s1 : Same (minus G [g, a]) G := fun b u z => by
    by_cases q : b ∈ [g, a]
    · rw [minus_in q] at z
      cases z
    · rw [minus_out q] at z
      exact z
  have s2 : Same G0 (minus G [g, a]) := fun b u z => by
    rw [minus_out fun q => ?_]
    · exact s0 b u z
    · rcases List.mem_cons.mp q with rfl | q
      · rw [ng] at z
        cases z
      · rw [List.mem_singleton.mp q, na] at z
        cases z
  have nm : ∀ x ∈ m, x.a ≠ g ∧ x.a ≠ a := fun x hx => by
    have := (own x hx).1
    refine ⟨fun z => ?_, fun z => ?_⟩
    · rw [z, eg] at this
      cases this
    · rw [z, ea] at this
      cases this
  refine ⟨minus G [g, a], s1.trans e, fun q hq => ?_, fun x hx => ?_, ?_⟩
  · cases hq with
    | head => exact hk G hA (fa _ hf)
    | tail _ hq => exact q.mono _ _ s2 (f0 q hq)
  · cases hx with
    | head => exact ⟨minus_in (.head _), _, e _ _ eg, rfl⟩
    | tail _ hx =>
      cases hx with
      | head => exact ⟨minus_in (.tail _ (.head _)), _, e _ _ ea, rfl⟩
      | tail _ hx =>
        obtain ⟨n, o, ho, hp⟩ := own x hx
        exact ⟨by rw [minus_out fun q => ?_]; exact n; rcases List.mem_cons.mp q with q | q; exact (nm x hx).1 q; exact (nm x hx).2 (List.mem_singleton.mp q), o, ho, hm x hx _ _ o hp⟩
  · rw [List.map_cons, List.map_cons, List.nodup_cons, List.nodup_cons]
    refine ⟨fun z => ?_, fun z => ?_, nd⟩
    · rcases List.mem_cons.mp z with z | z
      · exact hne z
      · obtain ⟨x, hx, q⟩ := List.mem_map.mp z
        exact (nm x hx).1 q
    · obtain ⟨x, hx, q⟩ := List.mem_map.mp z
      exact (nm x hx).2 q
/-! ### comprehensions whose list holds what is owned -/
theorem lcPV {Dd : Addr} {vs : List V} {Nx : Hp → Prop} {y : V} (hS : S F (Raw Dd (.lst vs) :: m) H) (hz : vs.length < 1000000) (q : ∀ H', S F (Raw Dd (.lst (vs ++ [y])) :: m) H' → Nx H') : LcP Dd Nx y H := by
  obtain ⟨G, o, e, fa, ho, hp⟩ := hS.at0
  have hp : o = .lst vs := hp
  subst hp
  exact ⟨vs, ho, Nat.lt_of_lt_of_le hz (by decide), q _ (hS.set0 (x := Raw Dd (.lst vs)) (y := Raw Dd (.lst (vs ++ [y]))) rfl fun _ _ _ _ _ => rfl)⟩
theorem lcV {J : It} {n : Nat} {item : Nat → PyData → Prop} {keep : List Sx → Prop} {gt : TG} {tt : TT} {te : TE} {ws : List Nat} (hJ : Src K F keep J n item) (hz : n < 1000000) (Inv : Nat → List V → List Sx → Prop) (hS : S F m H) (h0 : Inv 0 [] m) (hk : ∀ i vs m D, Inv i vs m → keep (Raw D (.lst vs) :: m))
    (hs : ∀ i d x Dd vs m' H' Nx, i < n → item i d → vs.length = i → Inv i vs m' → S (dat K x d :: F) (Raw Dd (.lst vs) :: m') H' → (∀ y m2 H2, Inv (i + 1) (vs ++ [y]) m2 → S F (Raw Dd (.lst vs) :: m2) H2 → LcP Dd Nx y H2) → gt x (wipe σ ws) H' (LcX Dd Nx tt te ws (wipe σ ws)))
    (hd : ∀ Dd vs m' H', vs.length = n → Inv n vs m' → S F (Raw Dd (.lst vs) :: m') H' → Q (.ref Dd) H') : LcJ J gt tt te ws σ H Q := by
  intro Dd hD
  refine ⟨fun i k H' => k = n - i ∧ i ≤ n ∧ ∃ vs m', vs.length = i ∧ Inv i vs m' ∧ S F (Raw Dd (.lst vs) :: m') H', ⟨_, rfl, Nat.zero_le _, [], m, rfl, h0, hS.put hD (Raw Dd (.lst [])) rfl fun _ _ => rfl⟩, ?_⟩
  rintro i k H' ⟨rfl, hi, vs, m', hl, p, hS'⟩
  by_cases hlt : i < n
  · obtain ⟨h1, h2⟩ := hJ.go [] _ H' i (hk _ _ _ _ p) hS' hlt
    refine .inr ⟨h1, fun H2 => ∃ vs m', vs.length = i + 1 ∧ Inv (i + 1) vs m' ∧ S F (Raw Dd (.lst vs) :: m') H2, fun H2 p2 => ⟨_, by omega, rfl, hlt, p2⟩, fun x H2 y => ?_⟩
    obtain ⟨d, hd', hS2⟩ := h2 x H2 y
    exact hs i d x Dd vs m' H2 _ hlt hd' hl p hS2 fun y m2 H3 h3 h4 => lcPV h4 (by omega) fun H5 h5 => ⟨vs ++ [y], m2, by simp [hl], h3, h5⟩
  · have e : i = n := by omega
    subst e
    exact .inl ⟨hJ.stop [] _ H' (hk _ _ _ _ p) hS', hd Dd vs m' H' hl p hS'⟩
/-- l.append(v), l as it stands -/
theorem g_appRaw {l : Addr} {y : V} (hS : S F (Raw l (.lst xs) :: m) H) (hz : xs.length < 1000000) (q : ∀ H', S F (Raw l (.lst (xs ++ [y])) :: m) H' → Q .non H') : rAppend (.ref l) [y] H Q := by
  obtain ⟨G, o, e, fa, ho, hp⟩ := hS.at0
  have hp : o = .lst xs := hp
  subst hp
  exact ⟨l, xs, y, rfl, rfl, ho, Nat.lt_of_lt_of_le hz (by decide), q _ (hS.set0 (x := Raw l (.lst xs)) (y := Raw l (.lst (xs ++ [y]))) rfl fun _ _ _ _ _ => rfl)⟩
end
theorem w_goHit {H : Hp} {σ : L2.St} {Wout : WX} {D : Ends} {r : List Hdl} {c n f : Str} {i : Nat} {dd : Option Addr} {ts : Addr → Value → Option Addr → TS} {cls : Value} (hb : errIs c n = true)
    (q : ∀ a, H a = none → ts a cls dd ⟨fun σ H => D.nx (σ.set i none) H, D.rt, fun σ H => D.bk (σ.set i none) H, fun σ H => D.ct (σ.set i none) H⟩ (σ.set i (some (.ref a))) H) : wErr.go Wout D (c, f) ((n, i, ts) :: r) cls dd σ H := by
  show if errIs c n = true then _ else _
  rw [if_pos hb]
  exact q
end Qe
namespace Qe
open PySem PySem.Spec PyProof.Rows L2
section
variable {K : PySem.W.Frag} {F F0 : List Fc} {m : List Sx} {H G0 : Hp} {σ : L2.St} {Q : VK} {v : V} {d : PyData} {ds : List PyData} {a g : Addr} {xs : List V}
theorem frzAll : ∀ (l : List (Addr × List PyData)) (F : List Fc), S F (l.map (fun p => Ls K p.1 p.2) ++ m) H → ∃ F', S F' m H ∧ (∀ f ∈ F, f ∈ F') ∧ ∀ p ∈ l, dat K (.ref p.1) (.list p.2) ∈ F'
  | [], F, h => ⟨F, h, fun _ h => h, fun _ h => (List.not_mem_nil h).elim⟩
  | p :: l, F, h => by
    have h1 : S (dat K (.ref p.1) (.list p.2) :: F) (l.map (fun p => Ls K p.1 p.2) ++ m) H := frzL h
    obtain ⟨F', h2, h3, h4⟩ := frzAll l _ h1
    refine ⟨F', h2, fun f hf => h3 f (.tail _ hf), fun q hq => ?_⟩
    cases hq with
    | head => exact h3 _ (.head _)
    | tail _ hq => exact h4 q hq
theorem dps_refs {G : Hp} : ∀ (l : List (Addr × List PyData)), (∀ p ∈ l, Dp K G (.ref p.1) (.list p.2)) → DpAll K G (l.map fun p => V.ref p.1) (l.map fun p => PyData.list p.2)
  | [], _ => .nil
  | p :: l, h => .cons (h p (.head _)) (dps_refs l fun q hq => h q (.tail _ hq))
/-- a list of lists is lent -/
theorem lend {l : List (Addr × List PyData)} {a0 : Addr} {d0 : List PyData} (h : S F (Raw g (.lst ((l ++ [(a0, d0)]).reverse.map fun p => V.ref p.1)) :: ((l ++ [(a0, d0)]).map (fun p => Ls K p.1 p.2) ++ m)) H) (hs : snapF G0 ∈ F) :
    G0 g = none ∧ G0 a0 = none ∧ g ≠ a0 ∧ ∃ F' ws, ws.length = d0.length ∧ S F' m H ∧ (∀ f ∈ F, f ∈ F') ∧ exF g ((l ++ [(a0, d0)]).reverse.map fun p => V.ref p.1) ∈ F' ∧ exF a0 ws ∈ F' ∧ Has K F' (.ref g) (.list ((l ++ [(a0, d0)]).reverse.map fun p => .list p.2)) := by
  have ng : G0 g = none := h.snapFree hs (x := Raw g _) (.head _)
  have ma : Ls K a0 d0 ∈ (l ++ [(a0, d0)]).map (fun p => Ls K p.1 p.2) ++ m := List.mem_append_left _ (List.mem_map.mpr ⟨(a0, d0), List.mem_append_right _ (.head _), rfl⟩)
  have na : G0 a0 = none := h.snapFree hs (x := Ls K a0 d0) (.tail _ ma)
  have ne : g ≠ a0 := fun z => by
    obtain ⟨G, e, fa, own, nd⟩ := h.ex
    rw [List.map_cons, List.nodup_cons] at nd
    exact nd.1 (List.mem_map.mpr ⟨_, ma, z.symm⟩)
  refine ⟨ng, na, ne, ?_⟩
  have h1 := h.frzRaw
  rw [List.map_append, List.append_assoc] at h1
  obtain ⟨F', h2, h3, h4⟩ := frzAll l _ h1
  have h2 : S F' (Ls K a0 d0 :: m) H := h2
  obtain ⟨ws, h5⟩ := h2.toRaw
  have h6 := h5.frzRaw
  have hlen : ws.length = d0.length := by
    obtain ⟨G, e, fa, own, nd⟩ := h5.ex
    exact DpAll.len (fa (dats K ws d0) (.head _))
  refine ⟨_, ws, hlen, h6, fun f hf => .tail _ (.tail _ (h3 f (.tail _ hf))), .tail _ (.tail _ (h3 _ (.head _))), .head _, fun G fa => ?_⟩
  have e1 : G g = some (.lst ((l ++ [(a0, d0)]).reverse.map fun p => V.ref p.1)) := fa _ (.tail _ (.tail _ (h3 _ (.head _))))
  refine .lst (SqL.of e1) (dps_refs _ fun p hp => ?_)
  rcases List.mem_append.mp (List.mem_reverse.mp hp) with hp | hp
  · exact fa _ (.tail _ (.tail _ (h4 p hp)))
  · rw [List.mem_singleton.mp hp]
    have e2 : G a0 = some (.lst ws) := fa _ (.head _)
    exact .lst (SqL.of e2) (fa _ (.tail _ (.head _)))
theorem raw_at {l : Addr} (hS : S F m H) (hm : Raw l (.lst xs) ∈ m) : H l = some (.lst xs) := by
  obtain ⟨G, e, fa, own, nd⟩ := hS.ex
  obtain ⟨_, o, ho, hp⟩ := own _ hm
  have hp : o = .lst xs := hp
  subst hp
  exact ho
theorem g_tyRaw {l : Addr} {r : V → List V → Hp → VK → Prop} {tr : TA} {Q : VK} (hS : S F m H) (hm : Raw l (.lst xs) ∈ m) (h : tr σ H fun xs H2 => r (.ref l) xs H2 Q) : MtB K "list" r (.ref l) H σ tr Q := ⟨.inl ⟨rfl, xs, SqL.of (raw_at hS hm)⟩, h⟩
theorem g_ixRaw0 {l : Addr} {w : V} {r : List V} (hS : S F m H) (hm : Raw l (.lst (w :: r)) ∈ m) (q : Q w H) : rIx K (.ref l) (.int 0) H Q := .inl ⟨l, w :: r, 0, w, rfl, rfl, SqL.of (raw_at hS hm), by
  unfold atI ixN
  rw [if_pos (by decide), if_pos (by rw [List.length_cons]; omega)]
  rfl, q⟩
end
end Qe

namespace Qe
open PySem PySem.Spec PyProof.Rows L2
/-! ### the walk's words -/
local macro_rules | `(tactic| walk_at "mem") => `(tactic| first | with_reducible exact List.mem_cons_self | with_reducible assumption | ((with_reducible apply List.mem_cons_of_mem); walk_at "mem"))
local macro_rules | `(tactic| walk_at "has") => `(tactic| first | with_reducible assumption | with_reducible exact Has.here | with_reducible exact Has.int | with_reducible exact Has.bl | with_reducible exact Has.str | with_reducible exact Has.non | ((with_reducible apply Has.there); walk_at "has"))
local macro_rules | `(tactic| walk_at "hasU") => `(tactic| first | with_reducible assumption | ((with_reducible refine Or.imp Has.there Has.there ?_); walk_at "hasU"))
local macro_rules | `(tactic| walk_at "has2") => `(tactic| first | (apply Or.inl; walk_at "has") | (apply Or.inr; walk_at "has") | walk_at "hasU")
local macro_rules | `(tactic| walk_at "hasA") => `(tactic| first | with_reducible exact HasA.nil | with_reducible exact HasA.here | ((with_reducible apply HasA.cons); (· walk_at "has"); walk_at "hasA"))
local macro_rules | `(tactic| walk_at "at") => `(tactic| first | with_reducible exact at0 | with_reducible exact at1 | with_reducible exact at2 | with_reducible exact at3 | with_reducible assumption)
local macro_rules | `(tactic| walk_at "res") => `(tactic| first
  | ((with_reducible refine res_int ?_); intro hS) | ((with_reducible refine res_str ?_); intro hS) | ((with_reducible refine res_bl ?_); intro hS) | ((with_reducible refine res_non ?_); intro hS)
  | ((with_reducible refine resH_int ?_); intro H hS) | ((with_reducible refine resH_bl ?_); intro H hS) | (intro w H hS) | (intro w hS))
local macro_rules | `(tactic| walk_at "call") => `(tactic| fail "no call")
local macro_rules | `(tactic| walk_at "go1") => `(tactic| first
  | with_reducible refine g_seq ?_ | with_reducible refine g_asg ?_ | with_reducible refine g_cons ?_ | with_reducible refine g_nil ?_ | with_reducible refine g_op ?_
  | ((with_reducible refine' g_var ?k1 ?_); (case k1 => rfl)) | with_reducible refine g_c ?_ | with_reducible refine g_name ?_
  | with_reducible refine g_cb ?_ | with_reducible refine g_call ?_ | with_reducible refine g_tup ?_ | with_reducible refine g_lst ?_
  | with_reducible refine g_ifS ?_ | with_reducible refine g_test ?_ | with_reducible refine g_tB ?_ | with_reducible refine g_bl ?_ | with_reducible refine g_isI ?_
  | with_reducible refine g_not ?_ | with_reducible refine g_and ?_ | with_reducible refine g_or ?_ | with_reducible refine g_tru ?_ | with_reducible refine g_truB ?_ | with_reducible refine g_truN ?_ | with_reducible refine g_truI ?_
  | with_reducible refine g_if ?_ | with_reducible refine g_andV ?_ | with_reducible refine g_orV ?_ | with_reducible refine g_notT ?_ | with_reducible refine g_notB ?_ | with_reducible refine g_chain ?_ | with_reducible refine g_un ?_
  | with_reducible refine g_ret ?_ | with_reducible refine g_retN ?_ | with_reducible refine g_next ?_ | with_reducible refine g_brk ?_ | with_reducible refine g_cnt ?_ | with_reducible refine g_drop ?_
  | with_reducible refine g_addUI ?_ | with_reducible refine g_subI ?_ | with_reducible refine g_ltI ?_ | with_reducible refine g_leI ?_ | with_reducible refine g_gtI ?_ | with_reducible refine g_geI ?_ | with_reducible refine g_negI ?_
  | with_reducible refine g_eqI ?_ | with_reducible refine g_neI ?_ | with_reducible refine g_eqB ?_ | with_reducible refine g_neB ?_ | with_reducible refine g_eqS ?_ | with_reducible refine g_neS ?_ | with_reducible refine g_isN ?_ | with_reducible refine g_notN ?_ | with_reducible refine g_int ?_
  | with_reducible refine g_sl ?_ | with_reducible refine g_noPart ?_ | with_reducible refine g_part ?_
  | with_reducible refine g_bm ?_ | with_reducible refine g_bm0 ?_ | with_reducible refine g_gsub ?_ | with_reducible refine g_forS ?_ | with_reducible refine g_forR1 ?_ | with_reducible refine g_forR2 ?_ | with_reducible refine g_lcS ?_ | with_reducible refine g_lcR1 ?_ | with_reducible refine g_yes ?_
  | ((with_reducible refine' g_augI ?k1 ?_); (case k1 => rfl))
  | ((with_reducible refine' g_modI ?k1 ?_); (case k1 => first | omega | decide)) | ((with_reducible refine' g_divI ?k1 ?_); (case k1 => first | exact ⟨by decide, by decide⟩ | exact ⟨by omega, by omega⟩))
  | ((with_reducible refine' g_mulI ?k1 ?_); (case k1 => first | exact Or.inr ⟨by omega, by omega⟩ | exact Or.inl ⟨by omega, by omega⟩)) | ((with_reducible refine' g_powI ?k1 ?_); (case k1 => exact ⟨by decide, by decide, by decide⟩))
  | ((with_reducible refine' g_ix ?k1 ?k2 ?k3 ?_); (case k1 => assumption); (case k2 => walk_at "has2"); (case k3 => walk_at "at"); walk_at "res")
  | ((with_reducible refine' g_ixO ?k1 ?k2 ?k3 ?_); (case k1 => assumption); (case k2 => walk_at "mem"); (case k3 => walk_at "at"); walk_at "res")
  | ((with_reducible refine' g_len ?k1 ?k2 ?_); (case k1 => assumption); (case k2 => walk_at "has2"))
  | ((with_reducible refine' g_lenO ?k1 ?k2 ?_); (case k1 => assumption); (case k2 => walk_at "mem"))
  | ((with_reducible refine' g_truL ?k1 ?k2 ?_); (case k1 => assumption); (case k2 => walk_at "mem"))
  | ((with_reducible refine' g_truD ?k1 ?k2 ?_); (case k1 => assumption); (case k2 => walk_at "has2"))
  | ((with_reducible refine' g_isiN ?k1 ?k2 ?k3 ?_); (case k1 => assumption); (case k2 => walk_at "has"); (case k3 => first | exact .inl rfl | exact .inr (.inl rfl) | exact .inr (.inr (.inl rfl)) | exact .inr (.inr (.inr (.inl rfl))) | exact .inr (.inr (.inr (.inr rfl)))))
  | ((with_reducible refine' g_newT (K := ‹PySem.W.Frag›) ?k1 ?k2 ?k3 ?_); (case k1 => assumption); (case k2 => walk_at "hasA"); (case k3 => first | exact Nat.le_of_ble_eq_true rfl | simp); walk_at "res")
  | ((with_reducible refine' g_tyO ?k1 ?k2 ?_); (case k1 => assumption); (case k2 => walk_at "mem"))
  | ((with_reducible refine' g_tyO0 ?k1 ?k2 ?_); (case k1 => assumption); (case k2 => walk_at "mem"))
  | ((with_reducible refine' g_tuple ?k1 ?k2 ?_); (case k1 => assumption); (case k2 => walk_at "has2"); walk_at "res")
  | ((with_reducible refine' g_tupleO ?k1 ?k2 ?_); (case k1 => assumption); (case k2 => walk_at "mem"); walk_at "res")
  | with_reducible refine g_fldS ?_ | with_reducible refine g_prpS ?_ | with_reducible refine g_dgetS ?_ | with_reducible refine g_dinS ?_ | with_reducible refine g_dninS ?_ | with_reducible refine g_dputS ?_ | with_reducible refine g_sFldS ?_ | with_reducible refine g_revS ?_
  | with_reducible refine g_forE ?_ | with_reducible refine g_lcE ?_ | with_reducible refine g_forRev ?_ | with_reducible refine g_gCons ?_ | with_reducible refine g_gNil ?_ | with_reducible refine g_makS ?_
  | with_reducible refine g_callS ?_ | with_reducible refine g_raiseS ?_ | with_reducible refine g_try ?_ | with_reducible refine g_errFS ?_ | with_reducible refine g_makX ?_ | with_reducible refine g_makK ?_ | with_reducible refine g_callX ?_
  | with_reducible refine lcX1 rfl ?_ | with_reducible refine lcX2 rfl ?_
  | ((with_reducible refine' g_mulUI ?k1 ?_); (case k1 => first | exact Or.inr ⟨by omega, by omega⟩ | exact Or.inl ⟨by omega, by omega⟩))
  | ((with_reducible refine' g_dinI ?k1 ?k2 ?_); (case k1 => assumption); (case k2 => walk_at "mem"))
  | ((with_reducible refine' g_dgetI ?k1 ?k2 ?k3 ?_); (case k1 => assumption); (case k2 => walk_at "mem"); (case k3 => with_reducible assumption); walk_at "res")
  | ((with_reducible refine' g_tupU2 ?k1 ?k2 ?_); (case k1 => assumption); (case k2 => walk_at "has2"); intro w1 w2 hS; (try (first | (obtain ⟨hw, hS'⟩ := popInt hS; clear hS; have hS := hS'; clear hS'; subst hw) | (obtain ⟨hw, hS'⟩ := popStr hS; clear hS; have hS := hS'; clear hS'; subst hw) | (obtain ⟨hw, hS'⟩ := popBl hS; clear hS; have hS := hS'; clear hS'; subst hw) | (obtain ⟨hw, hS'⟩ := popNon hS; clear hS; have hS := hS'; clear hS'; subst hw))); (try (first | (obtain ⟨hw, hS'⟩ := popInt hS; clear hS; have hS := hS'; clear hS'; subst hw) | (obtain ⟨hw, hS'⟩ := popStr hS; clear hS; have hS := hS'; clear hS'; subst hw) | (obtain ⟨hw, hS'⟩ := popBl hS; clear hS; have hS := hS'; clear hS'; subst hw) | (obtain ⟨hw, hS'⟩ := popNon hS; clear hS; have hS := hS'; clear hS'; subst hw) | (obtain ⟨hw, hS'⟩ := popInt2 hS; clear hS; have hS := hS'; clear hS'; subst hw) | (obtain ⟨hw, hS'⟩ := popStr2 hS; clear hS; have hS := hS'; clear hS'; subst hw) | (obtain ⟨hw, hS'⟩ := popBl2 hS; clear hS; have hS := hS'; clear hS'; subst hw) | (obtain ⟨hw, hS'⟩ := popNon2 hS; clear hS; have hS := hS'; clear hS'; subst hw))))
  | ((with_reducible refine' g_prp ?k1 ?k2 ?k3 ?_); (case k1 => assumption); (case k2 => walk_at "tells"); (case k3 => rfl); intro w hS; (try (first | (obtain ⟨hw, hS'⟩ := popInt hS; clear hS; have hS := hS'; clear hS'; subst hw) | (obtain ⟨hw, hS'⟩ := popStr hS; clear hS; have hS := hS'; clear hS'; subst hw) | (obtain ⟨hw, hS'⟩ := popBl hS; clear hS; have hS := hS'; clear hS'; subst hw) | (obtain ⟨hw, hS'⟩ := popNon hS; clear hS; have hS := hS'; clear hS'; subst hw))))
  | walk_at "call")
local macro_rules | `(tactic| walk_at "tells") => `(tactic| first | with_reducible assumption | with_reducible exact Tells.here | ((with_reducible apply Tells.there); walk_at "tells"))
local macro_rules | `(tactic| walk_at "go") => `(tactic| repeat walk_at "go1")
local macro_rules | `(tactic| walk_at "memF") => `(tactic| first | exact List.mem_cons_self | (apply List.mem_cons_of_mem; walk_at "memF"))
local macro_rules | `(tactic| walk_at "sub") => `(tactic| (intro _; walk_at "sub1"))
local macro_rules | `(tactic| walk_at "sub1") => `(tactic| first | exact sub_nil | (intro h; first | exact h | exact (List.mem_cons_of_mem _ h) | exact (List.mem_cons_of_mem _ (List.mem_cons_of_mem _ h)) | exact (List.mem_cons_of_mem _ (List.mem_cons_of_mem _ (List.mem_cons_of_mem _ h))) | exact (List.mem_cons_of_mem _ (List.mem_cons_of_mem _ (List.mem_cons_of_mem _ (List.mem_cons_of_mem _ h)))) | exact (List.mem_cons_of_mem _ (List.mem_cons_of_mem _ (List.mem_cons_of_mem _ (List.mem_cons_of_mem _ (List.mem_cons_of_mem _ h))))) | exact (List.mem_cons_of_mem _ (List.mem_cons_of_mem _ (List.mem_cons_of_mem _ (List.mem_cons_of_mem _ (List.mem_cons_of_mem _ (List.mem_cons_of_mem _ h)))))) | exact (List.mem_cons_of_mem _ (List.mem_cons_of_mem _ (List.mem_cons_of_mem _ (List.mem_cons_of_mem _ (List.mem_cons_of_mem _ (List.mem_cons_of_mem _ (List.mem_cons_of_mem _ h))))))) | exact (List.mem_cons_of_mem _ (List.mem_cons_of_mem _ (List.mem_cons_of_mem _ (List.mem_cons_of_mem _ (List.mem_cons_of_mem _ (List.mem_cons_of_mem _ (List.mem_cons_of_mem _ (List.mem_cons_of_mem _ h)))))))) | exact (List.mem_cons_of_mem _ (List.mem_cons_of_mem _ (List.mem_cons_of_mem _ (List.mem_cons_of_mem _ (List.mem_cons_of_mem _ (List.mem_cons_of_mem _ (List.mem_cons_of_mem _ (List.mem_cons_of_mem _ (List.mem_cons_of_mem _ h))))))))) | exact (List.mem_cons_of_mem _ (List.mem_cons_of_mem _ (List.mem_cons_of_mem _ (List.mem_cons_of_mem _ (List.mem_cons_of_mem _ (List.mem_cons_of_mem _ (List.mem_cons_of_mem _ (List.mem_cons_of_mem _ (List.mem_cons_of_mem _ (List.mem_cons_of_mem _ h)))))))))) | exact (List.mem_cons_of_mem _ (List.mem_cons_of_mem _ (List.mem_cons_of_mem _ (List.mem_cons_of_mem _ (List.mem_cons_of_mem _ (List.mem_cons_of_mem _ (List.mem_cons_of_mem _ (List.mem_cons_of_mem _ (List.mem_cons_of_mem _ (List.mem_cons_of_mem _ (List.mem_cons_of_mem _ h))))))))))) | exact (List.mem_cons_of_mem _ (List.mem_cons_of_mem _ (List.mem_cons_of_mem _ (List.mem_cons_of_mem _ (List.mem_cons_of_mem _ (List.mem_cons_of_mem _ (List.mem_cons_of_mem _ (List.mem_cons_of_mem _ (List.mem_cons_of_mem _ (List.mem_cons_of_mem _ (List.mem_cons_of_mem _ (List.mem_cons_of_mem _ h)))))))))))) | exact (List.mem_cons_of_mem _ (List.mem_cons_of_mem _ (List.mem_cons_of_mem _ (List.mem_cons_of_mem _ (List.mem_cons_of_mem _ (List.mem_cons_of_mem _ (List.mem_cons_of_mem _ (List.mem_cons_of_mem _ (List.mem_cons_of_mem _ (List.mem_cons_of_mem _ (List.mem_cons_of_mem _ (List.mem_cons_of_mem _ (List.mem_cons_of_mem _ h)))))))))))))) | (refine sub_cons ?_ ?_; (· walk_at "memF"); walk_at "sub1"))
local macro_rules | `(tactic| walk_at "sl") => `(tactic| first | with_reducible exact List.Sublist.refl _ | ((with_reducible refine List.Sublist.cons₂ _ ?_); walk_at "sl") | ((with_reducible refine List.Sublist.cons _ ?_); walk_at "sl"))
local macro_rules | `(tactic| walk_at "wk") => `(tactic| (refine S.wk (by assumption) ?_ ?_; (· walk_at "sub"); (· walk_at "sl")))
local macro_rules | `(tactic| walk_at "mono") => `(tactic| repeat (first | exact mono_var | exact mono_c | exact monoA_nil | exact monoR_addU | exact monoR_ltI | exact monoR_gtI | exact monoR_isN | exact monoR_notN | exact monoR_ix | exact monoR_eqU | exact monoR_neU | exact monoR_inU | exact monoC_list | exact monoC_tuple | exact monoC_len | exact monoC_sum | exact mono_yes | exact mono_name | with_reducible apply monoA_cons | with_reducible apply mono_tup | with_reducible apply mono_lst | with_reducible apply mono_call | with_reducible apply mono_cb | with_reducible apply mono_op | with_reducible apply mono_lc | with_reducible apply mono_iRng1 | with_reducible apply mono_iSeq | with_reducible apply mono_test | with_reducible apply mono_tru | with_reducible apply mono_and | with_reducible apply mono_or | with_reducible apply mono_not | with_reducible apply mono_ifE))
local macro_rules | `(tactic| walk_at "goIf") => `(tactic| repeat ((fail_if_success (with_reducible refine isSeqIf ?_)); walk_at "go1"))
local macro_rules | `(tactic| walk_at "qe_ite") => `(tactic| first | refine g_iteF rfl ?_ | refine g_iteT rfl ?_)
local macro_rules | `(tactic| walk_at "qe_run") => `(tactic| (walk_at "go"; repeat (walk_at "qe_ite"; walk_at "go")))
/-! ### predicates of data -/
def spP (K : PySem.W.Frag) (f : PyData → Bool) : Sp := fun vs H Q _ => ∃ F m v d, vs = [v] ∧ S F m H ∧ Has K F v d ∧ ∀ H', S F m H' → Q (.bl (f d)) H'
theorem c_P {K : PySem.W.Frag} {f : PyData → Bool} {F : List Fc} {m : List Sx} {H : Hp} {v : V} {d : PyData} {Q : VK} {E : XK} (hS : S F m H) (hv : Has K F v d) (q : ∀ H', S F m H' → Q (.bl (f d)) H') : spP K f [v] H Q E := ⟨F, m, v, d, rfl, hS, hv, q⟩
local macro_rules | `(tactic| walk_at "call") => `(tactic| ((with_reducible refine' c_P ?k1 ?k2 ?_); (case k1 => assumption); (case k2 => walk_at "has"); intro H hS))
theorem l_P {K : PySem.W.Frag} {f : PyData → Bool} {vs : List V} {H : Hp} {Q : VK} {E : XK} (h : spP K f vs H Q E) : vs.length = 1 := by
  obtain ⟨_, _, _, _, rfl, _⟩ := h
  rfl
def intD : PyData → Bool
  | .int _ => true
  | _ => false
abbrev sp_is_integer (K : PySem.W.Frag) : Sp := spP K intD
abbrev sp_is_sequence (K : PySem.W.Frag) : Sp := spP K isSeqD
def labD : PyData → Bool
  | .int i => decide (0 ≤ i) && decide (i ≤ 4)
  | _ => false
abbrev sp_is_label (K : PySem.W.Frag) : Sp := spP K labD
def t_is_integer (K : PySem.W.Frag)   : TS :=
  (tRet (tAndV (tCB (rIsi K) (tCons (tVar 0) (tCons (tC (.ty "int")) tNil))) (tNotT K (tCB (rIsi K) (tCons (tVar 0) (tCons (tC (.ty "bool")) tNil))))))
abbrev N_is_integer : List Str := ["value"]
def t_is_sequence (K : PySem.W.Frag)   : TS :=
  (tRet (tCB (rIsiT K) (tCons (tVar 0) (tCons (tTup (tCons (tC (.ty "list")) (tCons (tC (.ty "tuple")) tNil))) tNil))))
abbrev N_is_sequence : List Str := ["value"]
def t_is_label (K : PySem.W.Frag)   : TS :=
  (tRet (tAndV (tCall (sp_is_integer K) [] E0 (tCons (tVar 0) tNil)) (tChain rLeI rLeI (tC (.int 0)) (tVar 0) (tC (.int 4)))))
abbrev N_is_label : List Str := ["value"]
theorem l_is_integer {K : PySem.W.Frag} {vs : List V} {H : Hp} {Q : VK} {E : XK} (h : sp_is_integer K vs H Q E) : vs.length = 1 := l_P h
theorem l_is_sequence {K : PySem.W.Frag} {vs : List V} {H : Hp} {Q : VK} {E : XK} (h : sp_is_sequence K vs H Q E) : vs.length = 1 := l_P h
theorem l_is_label {K : PySem.W.Frag} {vs : List V} {H : Hp} {Q : VK} {E : XK} (h : sp_is_label K vs H Q E) : vs.length = 1 := l_P h
theorem r_is_integer {K : PySem.W.Frag} {vs : List V} {H : Hp} {Q : VK} {E : XK} (h : sp_is_integer K vs H Q E) : t_is_integer K { nx := fun _ H' => Q .non H', rt := Q } (start N_is_integer vs) H := by
  obtain ⟨F, m, v, d, rfl, hS, hv, q⟩ := h
  unfold t_is_integer
  walk_at "go"
  refine g_ite (fun h => ?_) (fun h => ?_)
  · walk_at "go"
    exact qb q hS (by cases d <;> first | rfl | cases h)
  · exact qb q hS (by cases d <;> first | rfl | cases h)
theorem r_is_sequence {K : PySem.W.Frag} {vs : List V} {H : Hp} {Q : VK} {E : XK} (h : sp_is_sequence K vs H Q E) : t_is_sequence K { nx := fun _ H' => Q .non H', rt := Q } (start N_is_sequence vs) H := by
  obtain ⟨F, m, v, d, rfl, hS, hv, q⟩ := h
  unfold t_is_sequence
  walk_at "go"
  refine g_isiT (by assumption) hv q _ (fun p H' h => ?_)
  walk_at "go"
  exact h
theorem r_is_label {K : PySem.W.Frag} {vs : List V} {H : Hp} {Q : VK} {E : XK} (h : sp_is_label K vs H Q E) : t_is_label K { nx := fun _ H' => Q .non H', rt := Q } (start N_is_label vs) H := by
  obtain ⟨F, m, v, d, rfl, hS, hv, q⟩ := h
  unfold t_is_label
  walk_at "go"
  refine g_ite (fun h => ?_) (fun h => ?_)
  · cases d with
    | int i =>
      have hS2 := hS.addD hv
      obtain ⟨rfl, _⟩ := popInt hS2
      walk_at "go"
      refine g_ite (fun h => ?_) (fun h => ?_)
      · walk_at "go"
        exact qb q (by assumption) (by simp only [labD, h, Bool.true_and])
      · exact qb q (by assumption) (by simp only [labD, h, Bool.false_and])
    | _ => cases h
  · exact qb q (by assumption) (by cases d <;> first | rfl | cases h)
/-! ### trees told apart -/
mutual
/-- the size of a tree; none of what is no tree -/
def trSz : PyData → Option Nat
  | .list [a, b] => if labD a then (match b with
    | .list ks => (trSzs ks).map (· + 1)
    | .tuple ks => (trSzs ks).map (· + 1)
    | _ => none) else none
  | .tuple [a, b] => if labD a then (match b with
    | .list ks => (trSzs ks).map (· + 1)
    | .tuple ks => (trSzs ks).map (· + 1)
    | _ => none) else none
  | _ => none
def trSzs : List PyData → Option Nat
  | [] => some 0
  | d :: ds => match trSz d, trSzs ds with
    | some a, some b => some (a + b)
    | _, _ => none
end
/-- the children of a node -/
def kidsD : PyData → Option (List PyData)
  | .list [a, b] => if labD a then (match b with
    | .list ks => some ks
    | .tuple ks => some ks
    | _ => none) else none
  | .tuple [a, b] => if labD a then (match b with
    | .list ks => some ks
    | .tuple ks => some ks
    | _ => none) else none
  | _ => none
theorem trSz_kids (d : PyData) : trSz d = (kidsD d).bind fun ks => (trSzs ks).map (· + 1) := by
  unfold trSz kidsD
  split <;> (try split) <;> (try split) <;> simp_all
def nodeD (d : PyData) : Bool := (kidsD d).isSome
theorem trSzs_app : ∀ (a b : List PyData), trSzs (a ++ b) = (trSzs a).bind fun x => (trSzs b).map fun y => x + y
  | [], b => by
    show trSzs b = _
    cases trSzs b <;> simp [trSzs]
  | d :: a, b => by
    show (match trSz d, trSzs (a ++ b) with | some x, some y => some (x + y) | _, _ => none) = _
    rw [trSzs_app a b]
    show _ = (match trSz d, trSzs a with | some x, some y => some (x + y) | _, _ => none).bind _
    cases trSz d <;> cases trSzs a <;> cases trSzs b <;> simp [Nat.add_assoc]
theorem trSz_pos {d : PyData} {n : Nat} (h : trSz d = some n) : 1 ≤ n := by
  rw [trSz_kids] at h
  cases e : kidsD d with
  | none => rw [e] at h; cases h
  | some ks =>
    rw [e] at h
    cases e2 : trSzs ks with
    | none => simp [e2] at h
    | some k =>
      simp [e2] at h
      omega
theorem trSzs_len : ∀ {ds : List PyData} {n : Nat}, trSzs ds = some n → ds.length ≤ n
  | [], _, _ => Nat.zero_le _
  | d :: ds, n, h => by
    have h' : (match trSz d, trSzs ds with | some x, some y => some (x + y) | _, _ => none) = some n := h
    cases e1 : trSz d with
    | none => rw [e1] at h'; cases h'
    | some a =>
      cases e2 : trSzs ds with
      | none => rw [e1, e2] at h'; cases h'
      | some b =>
        rw [e1, e2] at h'
        have e3 : a + b = n := Option.some.inj h'
        have h1 := trSz_pos e1
        have h2 := trSzs_len e2
        rw [List.length_cons]
        omega
/-- whether d is a tree of at most so many nodes -/
def trOk (most : Int) (d : PyData) : Bool := match trSz d with
  | some n => decide ((n : Int) ≤ most)
  | none => false
/-- what the loop has still to say -/
def trLp (most nodes : Int) (ds : List PyData) : Bool := match trSzs ds with
  | some n => decide (nodes + (n : Int) ≤ most)
  | none => false
mutual
def wtD : PyData → Nat
  | .list xs => wtDs xs + 1
  | .tuple xs => wtDs xs + 1
  | _ => 1
def wtDs : List PyData → Nat
  | [] => 0
  | d :: ds => wtD d + wtDs ds
end
theorem wtDs_app : ∀ a b : List PyData, wtDs (a ++ b) = wtDs a + wtDs b
  | [], b => by
    show wtDs b = wtDs [] + wtDs b
    simp [wtDs]
  | d :: a, b => by
    show wtD d + wtDs (a ++ b) = wtD d + wtDs a + wtDs b
    rw [wtDs_app a b, Nat.add_assoc]
theorem kids_wt {d : PyData} {ks : List PyData} (h : kidsD d = some ks) : wtDs ks < wtD d := by
  unfold kidsD at h
  split at h
  · split at h
    · split at h <;> first | (cases h; simp [wtD, wtDs]; omega) | cases h
    · cases h
  · split at h
    · split at h <;> first | (cases h; simp [wtD, wtDs]; omega) | cases h
    · cases h
  · cases h
theorem kids_form {d : PyData} {ks : List PyData} (h : kidsD d = some ks) : ∃ a b, labD a = true ∧ (d = .list [a, b] ∨ d = .tuple [a, b]) ∧ (b = .list ks ∨ b = .tuple ks) := by
  unfold kidsD at h
  split at h
  · rename_i a b
    split at h
    · rename_i hl
      split at h <;> first | (cases h; exact ⟨_, _, hl, .inl rfl, by first | exact .inl rfl | exact .inr rfl⟩) | cases h
    · cases h
  · rename_i a b
    split at h
    · rename_i hl
      split at h <;> first | (cases h; exact ⟨_, _, hl, .inr rfl, by first | exact .inl rfl | exact .inr rfl⟩) | cases h
    · cases h
  · cases h
abbrev sp_is_node (K : PySem.W.Frag) : Sp := spP K nodeD
theorem l_is_node {K : PySem.W.Frag} {vs : List V} {H : Hp} {Q : VK} {E : XK} (h : sp_is_node K vs H Q E) : vs.length = 1 := l_P h
theorem seq_form {d : PyData} (h : isSeqD d = true) : ∃ ds, d = .tuple ds ∨ d = .list ds := by
  cases d with
  | list ds => exact ⟨ds, .inr rfl⟩
  | tuple ds => exact ⟨ds, .inl rfl⟩
  | _ => cases h
theorem nodeD_seq {ds : List PyData} : nodeD (.tuple ds) = nodeD (.list ds) := by
  unfold nodeD kidsD
  rcases ds with _ | ⟨a, _ | ⟨b, _ | ⟨c, ds⟩⟩⟩ <;> rfl
theorem nodeD_two {a b : PyData} : nodeD (.list [a, b]) = (labD a && isSeqD b) := by
  unfold nodeD kidsD
  cases h : labD a <;> cases b <;> simp [isSeqD, h]
theorem nodeD_len {ds : List PyData} (h : ¬ ds.length = 2) : nodeD (.list ds) = false := by
  rcases ds with _ | ⟨a, _ | ⟨b, _ | ⟨c, ds⟩⟩⟩ <;> first | rfl | exact absurd rfl h
def t_is_node (K : PySem.W.Frag)   : TS :=
  (tRet (tAndV (tCall (sp_is_sequence K) [] E0 (tCons (tVar 0) tNil)) (tAndV (tOp (rEqU K) (tCB (rLenU K) (tCons (tVar 0) tNil)) (tC (.int 2))) (tAndV (tCall (sp_is_label K) [] E0 (tCons (tOp (rIx K) (tVar 0) (tC (.int 0))) tNil)) (tCall (sp_is_sequence K) [] E0 (tCons (tOp (rIx K) (tVar 0) (tC (.int 1))) tNil))))))
abbrev N_is_node : List Str := ["value"]
theorem r_is_node {K : PySem.W.Frag} {vs : List V} {H : Hp} {Q : VK} {E : XK} (h : sp_is_node K vs H Q E) : t_is_node K { nx := fun _ H' => Q .non H', rt := Q } (start N_is_node vs) H := by
  obtain ⟨F, m, v, d, rfl, hS, hv, q⟩ := h
  unfold t_is_node
  walk_at "go"
  refine g_ite (fun h => ?_) (fun h => ?_)
  · obtain ⟨ds, e⟩ := seq_form h
    have hv2 : Has K F v (.tuple ds) ∨ Has K F v (.list ds) := by
      rcases e with rfl | rfl
      · exact .inl hv
      · exact .inr hv
    have en : nodeD d = nodeD (.list ds) := by
      rcases e with rfl | rfl
      · exact nodeD_seq
      · rfl
    walk_at "go"
    refine g_ite (fun h => ?_) (fun h => ?_)
    · have hl : ds.length = 2 := by
        have := of_decide_eq_true h
        omega
      obtain ⟨a, b, rfl⟩ : ∃ a b, ds = [a, b] := by
        rcases ds with _ | ⟨a, _ | ⟨b, _ | ⟨c, ds⟩⟩⟩ <;> first | exact ⟨_, _, rfl⟩ | (exfalso; simp only [List.length_nil, List.length_cons] at hl; omega)
      walk_at "go"
      refine g_ite (fun h => ?_) (fun h => ?_)
      · walk_at "go"
        exact qb q (by walk_at "wk") (by rw [en, nodeD_two, h, Bool.true_and])
      · exact qb q (by walk_at "wk") (by rw [en, nodeD_two, h, Bool.false_and])
    · exact qb q (by assumption) (by rw [en, nodeD_len (fun z => of_decide_eq_false h (by omega))])
  · refine qb q (by assumption) ?_
    cases d <;> first | rfl | cases h
/-- is_small_tree(value, most) -/
def spTree (K : PySem.W.Frag) : Sp := fun vs H Q _ => ∃ F m v d, ∃ most : Int, vs = [v, .int most] ∧ S F m H ∧ Has K F v d ∧ 0 ≤ most ∧ most ≤ 1000 ∧ ∀ H', S F m H' → Q (.bl (trOk most d)) H'
abbrev sp_is_small_tree (K : PySem.W.Frag) : Sp := spTree K
theorem c_Tree {K : PySem.W.Frag} {F : List Fc} {m : List Sx} {H : Hp} {v : V} {d : PyData} {most : Int} {Q : VK} {E : XK} (hS : S F m H) (hv : Has K F v d) (h0 : 0 ≤ most) (h1 : most ≤ 1000) (q : ∀ H', S F m H' → Q (.bl (trOk most d)) H') : spTree K [v, .int most] H Q E := ⟨F, m, v, d, most, rfl, hS, hv, h0, h1, q⟩
theorem l_is_small_tree {K : PySem.W.Frag} {vs : List V} {H : Hp} {Q : VK} {E : XK} (h : sp_is_small_tree K vs H Q E) : vs.length = 2 := by
  obtain ⟨_, _, _, _, _, rfl, _⟩ := h
  rfl
def t_is_small_tree (K : PySem.W.Frag)   : TS :=
  (tSeq (tAsg (tC (.int 0)) (gName 2))
  (tSeq (tAsg (tLst (tCons (tVar 0) tNil)) (gName 3))
  (tSeq (tWhile (tTruU K (tVar 3))
  (tSeq (tAsg (tBM0 K "list" rPop (tVar 3)) (gName 4))
  (tSeq (tIfS (tNot (tTruU K (tCall (sp_is_node K) [] E0 (tCons (tVar 4) tNil))))
  (tRet (tC (.bl false)))
  tNext)
  (tSeq (tAug 2 (tC (.int 1)) (ipI fun i j => i + j))
  (tSeq (tIfS (tTest (tOp rGtI (tOp (rAddU K) (tOp (rAddU K) (tVar 2) (tCB (rLenU K) (tCons (tVar 3) tNil))) (tCB (rLenU K) (tCons (tOp (rIx K) (tVar 4) (tC (.int 1))) tNil))) (tVar 1)))
  (tRet (tC (.bl false)))
  tNext)
  (tDrop (tBM K "list" (rExt K) (tVar 3) (tCons (tOp (rIx K) (tVar 4) (tC (.int 1))) tNil))))))))
  (tRet (tC (.bl true))))))
abbrev N_is_small_tree : List Str := ["value", "most", "nodes", "waiting", "node"]
theorem trLp_node {most nodes : Int} {ds ks : List PyData} {d : PyData} (hk : kidsD d = some ks) : trLp most nodes (ds ++ [d]) = trLp most (nodes + 1) (ds ++ ks) := by
  unfold trLp
  rw [trSzs_app, trSzs_app]
  have e : trSzs [d] = (trSzs ks).map (· + 1) := by
    show (match trSz d, some 0 with | some x, some y => some (x + y) | _, _ => none) = _
    rw [trSz_kids, hk, Option.bind_some]
    cases trSzs ks <;> rfl
  rw [e]
  cases trSzs ds <;> cases trSzs ks <;> simp
  rename_i a b
  constructor <;> intro h <;> omega
theorem trLp_bad {most nodes : Int} {ds : List PyData} {d : PyData} (hk : kidsD d = none) : trLp most nodes (ds ++ [d]) = false := by
  unfold trLp
  rw [trSzs_app]
  have e : trSzs [d] = none := by
    show (match trSz d, some 0 with | some x, some y => some (x + y) | _, _ => none) = _
    rw [trSz_kids, hk] <;> rfl
  rw [e]
  cases trSzs ds <;> rfl
theorem trLp_many {most nodes : Int} {ds : List PyData} (h : most < nodes + (ds.length : Int)) : trLp most nodes ds = false := by
  unfold trLp
  cases e : trSzs ds with
  | none => rfl
  | some n =>
    have := trSzs_len e
    exact decide_eq_false (by omega)
theorem trLp_one {most : Int} {d : PyData} : trLp most 0 [d] = trOk most d := by
  unfold trLp trOk
  show (match (match trSz d, some 0 with | some x, some y => some (x + y) | _, _ => none) with | some n => decide ((0 : Int) + (n : Int) ≤ most) | none => false) = _
  cases trSz d with
  | none => rfl
  | some n => simp
theorem r_is_small_tree {K : PySem.W.Frag} {vs : List V} {H : Hp} {Q : VK} {E : XK} (h : sp_is_small_tree K vs H Q E) : t_is_small_tree K { nx := fun _ H' => Q .non H', rt := Q } (start N_is_small_tree vs) H := by
  obtain ⟨F, m, v, d, most, rfl, hS, hv, h0, h1, q⟩ := h
  unfold t_is_small_tree
  walk_at "go"
  refine g_newL (K := K) (ds := [d]) (by assumption) (.cons hv .nil) (Nat.le_of_ble_eq_true rfl) ?_
  intro p H hS
  walk_at "go"
  refine g_while (m := Ls K p [d] :: m) (by assumption) (fun k σ m' => ∃ (ds : List PyData) (nodes : Int) (x : Option V), σ = [some v, some (.int most), some (.int nodes), some (.ref p), x] ∧ m' = Ls K p ds :: m ∧ wtDs ds = k ∧ 0 ≤ nodes ∧ nodes ≤ most ∧ ds.length ≤ 1000 ∧ trLp most nodes ds = trOk most d)
    (wtDs [d]) ⟨[d], 0, none, rfl, rfl, rfl, Int.le_refl _, h0, Nat.le_of_ble_eq_true rfl, trLp_one⟩ ?_ mono_truVar
  rintro k σ' m' H' ⟨ds, nodes, x, rfl, rfl, hk, hn, hm, hl, he⟩ hS
  walk_at "go"
  refine g_ite (fun h => ?_) (fun h => ?_)
  · obtain ⟨ds', z, rfl⟩ : ∃ ds' z, ds = ds' ++ [z] := by
      rcases List.eq_nil_or_concat ds with rfl | ⟨ds', z, rfl⟩
      · cases h
      · exact ⟨ds', z, by simp⟩
    walk_at "go"
    refine g_pop0 (by assumption) ?_
    intro w H2 hS2
    walk_at "go"
    refine g_ite (fun h => ?_) (fun h => ?_)
    · walk_at "go"
      have hz : kidsD z = none := by
        cases e : kidsD z with
        | none => rfl
        | some ks =>
          unfold nodeD at h
          rw [e] at h
          cases h
      refine qb q (by walk_at "wk") ?_
      rw [← he, trLp_bad hz]
    · have hz : ∃ ks, kidsD z = some ks := by
        cases e : kidsD z with
        | none =>
          unfold nodeD at h
          rw [e] at h
          cases h
        | some ks => exact ⟨ks, rfl⟩
      obtain ⟨ks, hks⟩ := hz
      obtain ⟨a, b, hab, hzf, hbf⟩ := kids_form hks
      have hz2 : Has K (dat K w z :: F) w (.tuple [a, b]) ∨ Has K (dat K w z :: F) w (.list [a, b]) := by
        rcases hzf with rfl | rfl
        · exact .inr .here
        · exact .inl .here
      walk_at "go"
      rename_i w2 hS3
      have hb2 : Has K (dat K w2 b :: dat K w z :: F) w2 (.tuple ks) ∨ Has K (dat K w2 b :: dat K w z :: F) w2 (.list ks) := by
        rcases hbf with rfl | rfl
        · exact .inr .here
        · exact .inl .here
      walk_at "go"
      refine g_ite (fun h => ?_) (fun h => ?_)
      · walk_at "go"
        refine qb q (by walk_at "wk") ?_
        have h := of_decide_eq_true h
        rw [← he, trLp_node hks, trLp_many]
        rw [List.length_append]
        omega
      · have h := of_decide_eq_false h
        walk_at "go"
        rename_i w3 hS4
        have hb3 : Has K (dat K w3 b :: dat K w2 b :: dat K w z :: F) w3 (.tuple ks) ∨ Has K (dat K w3 b :: dat K w2 b :: dat K w z :: F) w3 (.list ks) := by
          rcases hbf with rfl | rfl
          · exact .inr .here
          · exact .inl .here
        have hlen : ds'.length + ks.length ≤ 1000 := by omega
        refine g_ext0 (by assumption) hb3 (by omega) ?_
        intro H5 hS5
        refine ⟨wtDs (ds' ++ ks), ?_, Ls K p (ds' ++ ks) :: m, ⟨ds' ++ ks, nodes + 1, _, rfl, rfl, rfl, by omega, by omega, by rw [List.length_append]; exact hlen, by rw [← he, trLp_node hks]⟩, by walk_at "wk"⟩
        have hw := kids_wt hks
        rw [← hk, wtDs_app, wtDs_app]
        have e1 : wtDs [z] = wtD z + 0 := rfl
        omega
  · have e : ds = [] := by
      cases ds with
      | nil => rfl
      | cons a b => cases h
    subst e
    walk_at "go"
    refine qb q (by walk_at "wk") ?_
    have z : trLp most nodes [] = decide (nodes + ((0 : Nat) : Int) ≤ most) := rfl
    rw [← he, z]
    exact (decide_eq_true (by omega)).symm
local macro_rules | `(tactic| walk_at "call") => `(tactic| ((with_reducible refine' c_Tree ?k1 ?k2 ?k3 ?k4 ?_); (case k1 => assumption); (case k2 => walk_at "has"); (case k3 => first | decide | omega); (case k4 => first | decide | omega); intro H hS))
abbrev sp_is_tree (K : PySem.W.Frag) : Sp := spP K (trOk 300)
theorem l_is_tree {K : PySem.W.Frag} {vs : List V} {H : Hp} {Q : VK} {E : XK} (h : sp_is_tree K vs H Q E) : vs.length = 1 := l_P h
def t_is_tree (K : PySem.W.Frag)   : TS :=
  (tRet (tCall (sp_is_small_tree K) [] E0 (tCons (tVar 0) (tCons (tC (.int 300)) tNil))))
abbrev N_is_tree : List Str := ["value"]
theorem r_is_tree {K : PySem.W.Frag} {vs : List V} {H : Hp} {Q : VK} {E : XK} (h : sp_is_tree K vs H Q E) : t_is_tree K { nx := fun _ H' => Q .non H', rt := Q } (start N_is_tree vs) H := by
  obtain ⟨F, m, v, d, rfl, hS, hv, q⟩ := h
  unfold t_is_tree
  walk_at "go"
  exact q _ (by assumption)
/-! ### the law's draws -/
def intL (ns : List Int) : List PyData := ns.map PyData.int
def spNumbers (K : PySem.W.Frag) : Sp := fun vs H Q _ => ∃ F m v, ∃ ns : List Int, vs = [v] ∧ S F m H ∧ Has K F v (.list (intL ns)) ∧ ns.length ≤ 63 ∧ ∀ r ms H', ms ≠ [] → S (dat K r (.list (intL ms)) :: F) m H' → Q r H'
abbrev sp_law_numbers (K : PySem.W.Frag) : Sp := spNumbers K
theorem l_law_numbers {K : PySem.W.Frag} {vs : List V} {H : Hp} {Q : VK} {E : XK} (h : sp_law_numbers K vs H Q E) : vs.length = 1 := by
  obtain ⟨_, _, _, _, rfl, _⟩ := h
  rfl
theorem intL_at {ns : List Int} {i : Nat} {d : PyData} (h : (intL ns)[i]? = some d) : ∃ n, d = .int n := by
  unfold intL at h
  rw [List.getElem?_map] at h
  cases e : ns[i]? with
  | none => rw [e] at h; cases h
  | some n =>
    rw [e] at h
    exact ⟨n, (Option.some.inj h).symm⟩
theorem cut_int {ns : List Int} {lo hi : Option Int} {i : Nat} {d : PyData} (h : (cutD (intL ns) lo hi)[i]? = some d) : ∃ n, d = .int n := by
  have z := cutD_mem (List.mem_of_getElem? h)
  unfold intL at z
  obtain ⟨n, _, e⟩ := List.mem_map.mp z
  exact ⟨n, e.symm⟩
theorem intL_app {ms : List Int} {n : Int} : intL ms ++ [.int n] = intL (ms ++ [n]) := by unfold intL; simp
theorem intL_len {ms : List Int} : (intL ms).length = ms.length := by unfold intL; simp
def t_law_numbers (K : PySem.W.Frag)   : TS :=
  (tSeq (tAsg (tLst tNil) (gName 1))
  (tSeq (tFor (iSeq K (tSl (rSlU K) (tVar 0) tNoPart (tPart (tC (.int 63))))) (gName 2)
  (tIfS (tTest (tOp rGeI (tVar 2) (tOp rPowI (tC (.int 10)) (tC (.int 18)))))
  (tSeq (tAsg (tVar 2) (gName 3))
  (tFor (iRng1 (tCons (tC (.int 60)) tNil)) (gName 4)
  (tSeq (tIfS (tTest (tOp (rEqU K) (tVar 3) (tC (.int 0))))
  tBreak
  tNext)
  (tSeq (tDrop (tBM K "list" rAppend (tVar 1) (tCons (tOp rModI (tCB rInt (tCons (tVar 3) tNil)) (tC (.int 997))) tNil)))
  (tAsg (tOp rDivI (tVar 3) (tC (.int 997))) (gName 3))))))
  (tFor (iRng1 (tCons (tC (.int 4)) tNil)) (gName 4)
  (tSeq (tAsg (tOp rModI (tCB rInt (tCons (tOp (rAddU K) (tOp (rAddU K) (tOp rMulU (tVar 2) (tC (.int 48271))) (tOp rMulU (tVar 4) (tC (.int 69621)))) (tC (.int 11))) tNil)) (tC (.int 2147483647))) (gName 5))
  (tDrop (tBM K "list" rAppend (tVar 1) (tCons (tOp rModI (tCB rInt (tCons (tOp (rAddU K) (tOp rMulU (tVar 5) (tC (.int 16807))) (tVar 4)) tNil)) (tC (.int 2147483629))) tNil)))))))
  (tSeq (tIfS (tTest (tOp (rEqU K) (tCB (rLenU K) (tCons (tVar 1) tNil)) (tC (.int 0))))
  (tDrop (tBM K "list" rAppend (tVar 1) (tCons (tC (.int 0)) tNil)))
  tNext)
  (tRet (tVar 1)))))
abbrev N_law_numbers : List Str := ["script", "row", "cell", "left", "k", "mixed"]


theorem r_law_numbers {K : PySem.W.Frag} {vs : List V} {H : Hp} {Q : VK} {E : XK} (h : sp_law_numbers K vs H Q E) : t_law_numbers K { nx := fun _ H' => Q .non H', rt := Q } (start N_law_numbers vs) H := by
  obtain ⟨F, m, v, ns, rfl, hS, hv, hl, q⟩ := h
  unfold t_law_numbers
  walk_at "go"
  refine g_newL (K := K) (ds := []) (by assumption) .nil (Nat.zero_le _) ?_
  intro p H1 hS1
  walk_at "go"
  refine g_slL (by assumption) hv ?_
  intro w H2 hS2
  have hlen : (cutD (intL ns) none (some 63)).length ≤ 63 := Nat.le_trans cutD_len (by rw [intL_len]; exact hl)
  refine g_for (F := dat K w (.list (cutD (intL ns) none (some 63))) :: F) (m := Ls K p [] :: m) (by assumption) (.inr .here)
    (fun i σ m' => ∃ (ms : List Int) (c l k x : Option V), σ = [some v, some (.ref p), c, l, k, x] ∧ m' = Ls K p (intL ms) :: m ∧ ms.length ≤ 60 * i) ⟨[], none, none, none, none, rfl, rfl, Nat.le_refl _⟩ ?_ ?_
  · rintro i d w2 σ' m' H3 hd ⟨ms, c, l, k, x, rfl, rfl, hms⟩ hS3
    have hi : i < 63 := Nat.lt_of_lt_of_le (List.getElem?_eq_some_iff.mp hd).1 hlen
    obtain ⟨n, rfl⟩ := cut_int hd
    obtain ⟨rfl, hS4⟩ := popInt hS3
    walk_at "go"
    refine g_ite (fun h => ?_) (fun h => ?_)
    · walk_at "go"
      refine g_range (by assumption) (by decide) (fun j σ m' => ∃ (ms : List Int) (left : Int) (k x : Option V), σ = [some v, some (.ref p), some (.int n), some (.int left), k, x] ∧ m' = Ls K p (intL ms) :: m ∧ ms.length ≤ 60 * i + j)
        ⟨ms, n, k, x, rfl, rfl, hms⟩ ?_ ?_
      · rintro j σ' m' H5 hj ⟨ms, left, k, x, rfl, rfl, hms⟩ hS5
        walk_at "go"
        refine g_ite (fun h => ?_) (fun h => ?_)
        · walk_at "go"
          exact ⟨_, ⟨ms, _, _, _, _, rfl, rfl, by omega⟩, by walk_at "wk"⟩
        · walk_at "go"
          refine g_app0 (by assumption) Has.int (by rw [intL_len]; omega) ?_
          intro H6 hS6
          walk_at "go"
          exact ⟨_, ⟨ms ++ [left % 997], _, _, _, rfl, rfl, by rw [List.length_append, List.length_singleton]; omega⟩, by rw [← intL_app]; walk_at "wk"⟩
      · rintro σ' m' H5 ⟨ms, left, k, x, rfl, rfl, hms⟩ hS5
        exact ⟨_, ⟨ms, _, _, _, _, rfl, rfl, by omega⟩, by walk_at "wk"⟩
    · walk_at "go"
      refine g_range (by assumption) (by decide) (fun j σ m' => ∃ (ms : List Int) (l k x : Option V), σ = [some v, some (.ref p), some (.int n), l, k, x] ∧ m' = Ls K p (intL ms) :: m ∧ ms.length ≤ 60 * i + j)
        ⟨ms, l, k, x, rfl, rfl, hms⟩ ?_ ?_
      · rintro j σ' m' H5 hj ⟨ms, l, k, x, rfl, rfl, hms⟩ hS5
        walk_at "go"
        refine g_app0 (by assumption) Has.int (by rw [intL_len]; omega) ?_
        intro H6 hS6
        exact ⟨_, ⟨ms ++ [(((n * 48271 + j * 69621 + 11) % 2147483647 * 16807 + j) % 2147483629)], _, _, _, rfl, rfl, by rw [List.length_append, List.length_singleton]; omega⟩, by rw [← intL_app]; walk_at "wk"⟩
      · rintro σ' m' H5 ⟨ms, l, k, x, rfl, rfl, hms⟩ hS5
        exact ⟨_, ⟨ms, _, _, _, _, rfl, rfl, by omega⟩, by walk_at "wk"⟩
  · rintro σ' m' H3 ⟨ms, c, l, k, x, rfl, rfl, hms⟩ hS3
    walk_at "go"
    refine g_ite (fun h => ?_) (fun h => ?_)
    · walk_at "go"
      refine g_app0 (by assumption) Has.int (by rw [intL_len]; omega) ?_
      intro H6 hS6
      walk_at "go"
      rw [intL_app] at hS6
      have hS7 := frzL hS6
      exact q _ (ms ++ [0]) _ (by simp) (by refine hS7.wk ?_ (List.Sublist.refl _); intro f hf; cases hf with | head => exact .head _ | tail _ hf => exact .tail _ (.tail _ hf))
    · walk_at "go"
      have hS7 := frzL hS3
      refine q _ ms _ ?_ (by refine hS7.wk ?_ (List.Sublist.refl _); intro f hf; cases hf with | head => exact .head _ | tail _ hf => exact .tail _ (.tail _ hf))
      rintro rfl
      exact of_decide_eq_false h rfl
def spDraw (K : PySem.W.Frag) : Sp := fun vs H Q _ => ∃ F m r, ∃ (ms : List Int) (n lim : Int), vs = [r, .int n, .int lim] ∧ S F m H ∧ Has K F r (.list (intL ms)) ∧ ms ≠ [] ∧ 0 ≤ n ∧ 0 < lim ∧ ∀ j H', 0 ≤ j → j < lim → S F m H' → Q (.int j) H'
abbrev sp_law_draw (K : PySem.W.Frag) : Sp := spDraw K
theorem l_law_draw {K : PySem.W.Frag} {vs : List V} {H : Hp} {Q : VK} {E : XK} (h : sp_law_draw K vs H Q E) : vs.length = 3 := by
  obtain ⟨_, _, _, _, _, _, rfl, _⟩ := h
  rfl
theorem at_intL {ms : List Int} {i : Int} (h0 : 0 ≤ i) (h1 : i < ms.length) : ∃ n, atI (intL ms) i = some (.int n) := by
  have hl : i.toNat < (intL ms).length := by rw [intL_len]; omega
  have e := List.getElem?_eq_getElem hl
  obtain ⟨n, hn⟩ := intL_at e
  exact ⟨n, at_int h0 (by rw [e, hn])⟩
def t_law_draw (K : PySem.W.Frag)   : TS :=
  (tSeq (tIfS (tTest (tOp rLtI (tVar 1) (tCB (rLenU K) (tCons (tVar 0) tNil))))
  (tRet (tOp rModI (tCB rInt (tCons (tOp (rIx K) (tVar 0) (tVar 1)) tNil)) (tVar 2)))
  tNext)
  (tSeq (tAsg (tOp rModI (tCB rInt (tCons (tOp (rAddU K) (tOp (rAddU K) (tOp rMulU (tOp (rIx K) (tVar 0) (tOp rModI (tCB rInt (tCons (tVar 1) tNil)) (tCB (rLenU K) (tCons (tVar 0) tNil)))) (tC (.int 40692))) (tOp rMulU (tVar 1) (tC (.int 7919)))) (tC (.int 3))) tNil)) (tC (.int 2147483399))) (gName 3))
  (tRet (tOp rModI (tCB rInt (tCons (tOp rModI (tCB rInt (tCons (tOp (rAddU K) (tOp rMulU (tVar 3) (tC (.int 48271))) (tVar 1)) tNil)) (tC (.int 2147483647))) tNil)) (tVar 2)))))
abbrev N_law_draw : List Str := ["row", "at", "limit", "mixed"]
theorem r_law_draw {K : PySem.W.Frag} {vs : List V} {H : Hp} {Q : VK} {E : XK} (h : sp_law_draw K vs H Q E) : t_law_draw K { nx := fun _ H' => Q .non H', rt := Q } (start N_law_draw vs) H := by
  obtain ⟨F, m, r, ms, n, lim, rfl, hS, hr, hne, hn, hlim, q⟩ := h
  have hpos : 0 < ms.length := List.length_pos_iff.mpr hne
  unfold t_law_draw
  walk_at "go"
  refine g_ite (fun h => ?_) (fun h => ?_)
  · have h := of_decide_eq_true h
    rw [intL_len] at h
    obtain ⟨j, hj⟩ := at_intL hn h
    walk_at "go"
    refine q _ _ (Int.emod_nonneg _ (by omega)) (Int.emod_lt_of_pos _ hlim) (by assumption)
  · walk_at "go"
    rw [intL_len]
    walk_at "go"
    obtain ⟨j, hj⟩ := at_intL (ms := ms) (i := n % (ms.length : Int)) (Int.emod_nonneg _ (by omega)) (Int.emod_lt_of_pos _ (by omega))
    walk_at "go"
    refine q _ _ (Int.emod_nonneg _ (by omega)) (Int.emod_lt_of_pos _ hlim) (by assumption)
def spTake (K : PySem.W.Frag) : Sp := fun vs H Q _ => ∃ F m r l, ∃ (ms : List Int) (lim : Int), vs = [r, .ref l, .int lim] ∧ S F m H ∧ Spot l ∈ m ∧ Has K F r (.list (intL ms)) ∧ ms ≠ [] ∧ 0 < lim ∧ ∀ j H', 0 ≤ j → j < lim → S F m H' → Q (.int j) H'
abbrev sp_law_take (K : PySem.W.Frag) : Sp := spTake K
theorem l_law_take {K : PySem.W.Frag} {vs : List V} {H : Hp} {Q : VK} {E : XK} (h : sp_law_take K vs H Q E) : vs.length = 3 := by
  obtain ⟨_, _, _, _, _, _, rfl, _⟩ := h
  rfl
theorem c_take {K : PySem.W.Frag} {F : List Fc} {m : List Sx} {H : Hp} {r : V} {l : Addr} {ms : List Int} {lim : Int} {Q : VK} {E : XK} (hS : S F m H) (hm : Spot l ∈ m) (hr : Has K F r (.list (intL ms))) (hne : ms ≠ []) (h0 : 0 < lim)
    (q : ∀ j H', 0 ≤ j → j < lim → S F m H' → Q (.int j) H') : spTake K [r, .ref l, .int lim] H Q E := ⟨F, m, r, l, ms, lim, rfl, hS, hm, hr, hne, h0, q⟩
def t_law_take (K : PySem.W.Frag)   : TS :=
  (tSeq (tAsg (tOp (rAddU K) (tOp (rIx K) (tVar 1) (tC (.int 0))) (tC (.int 1))) (gSub (tVar 1) (tC (.int 0)) rSetL))
  (tRet (tCall (sp_law_draw K) [] E0 (tCons (tVar 0) (tCons (tOp rSubI (tOp (rIx K) (tVar 1) (tC (.int 0))) (tC (.int 1))) (tCons (tVar 2) tNil))))))
abbrev N_law_take : List Str := ["row", "spot", "limit"]
theorem r_law_take {K : PySem.W.Frag} {vs : List V} {H : Hp} {Q : VK} {E : XK} (h : sp_law_take K vs H Q E) : t_law_take K { nx := fun _ H' => Q .non H', rt := Q } (start N_law_take vs) H := by
  obtain ⟨F, m, r, l, ms, lim, rfl, hS, hm, hr, hne, h0, q⟩ := h
  unfold t_law_take
  walk_at "go"
  refine g_ixSpot (by assumption) hm ?_
  intro n hn hH
  walk_at "go"
  refine g_setSpot (by assumption) hm (by omega) ?_
  intro H2 hS2 hH2
  walk_at "go"
  refine g_ixSpot' hH2 ?_
  walk_at "go"
  exact ⟨F, m, r, ms, _, lim, rfl, hS2, hr, hne, by omega, h0, q⟩
local macro_rules | `(tactic| walk_at "call") => `(tactic| ((with_reducible refine' c_take ?k1 ?k2 ?k3 ?k4 ?k5 ?_); (case k1 => assumption); (case k2 => walk_at "mem"); (case k3 => walk_at "has"); (case k4 => assumption); (case k5 => first | decide | omega); intro j H j0 j1 hS))


/-! ### the law's own comparison: it is asked of equal data -/
mutual
def plainD : PyData → Bool
  | .tuple ds => decide (ds.length ≤ 100000) && plainDs ds
  | .list _ => false
  | .dict _ => false
  | _ => true
def plainDs : List PyData → Bool
  | [] => true
  | d :: ds => plainD d && plainDs ds
end
mutual
def hgt : PyData → Nat
  | .tuple ds => hgts ds + 1
  | .list ds => hgts ds + 1
  | _ => 0
def hgts : List PyData → Nat
  | [] => 0
  | d :: ds => max (hgt d) (hgts ds)
end
theorem plain_at : ∀ {ds : List PyData} {i : Nat} {d : PyData}, plainDs ds = true → ds[i]? = some d → plainD d = true
  | [], i, d, _, e => by simp at e
  | a :: ds, 0, d, h, e => by
    have h' : (plainD a && plainDs ds) = true := h
    simp at e
    subst e
    exact (Bool.and_eq_true_iff.mp h').1
  | a :: ds, i + 1, d, h, e => by
    have h' : (plainD a && plainDs ds) = true := h
    exact plain_at (Bool.and_eq_true_iff.mp h').2 (by simpa using e)
theorem hgt_at : ∀ {ds : List PyData} {i : Nat} {d : PyData}, ds[i]? = some d → hgt d ≤ hgts ds
  | [], i, d, e => by simp at e
  | a :: ds, 0, d, e => by
    simp at e
    subst e
    exact Nat.le_max_left _ _
  | a :: ds, i + 1, d, e => Nat.le_trans (hgt_at (ds := ds) (by simpa using e)) (Nat.le_max_right _ _)
def sp_law_so (K : PySem.W.Frag) (n : Nat) : Sp := fun vs H Q _ => ∃ F m x y d, vs = [x, y] ∧ S F m H ∧ Has K F x d ∧ Has K F y d ∧ plainD d = true ∧ hgt d < n ∧ ∀ H', S F m H' → Q (.bl true) H'
theorem c_so {K : PySem.W.Frag} {n : Nat} {F : List Fc} {m : List Sx} {H : Hp} {x y : V} {d : PyData} {Q : VK} {E : XK} (hS : S F m H) (hx : Has K F x d) (hy : Has K F y d) (hp : plainD d = true) (hh : hgt d < n) (q : ∀ H', S F m H' → Q (.bl true) H') : sp_law_so K n [x, y] H Q E := ⟨F, m, x, y, d, rfl, hS, hx, hy, hp, hh, q⟩
theorem l_law_so {K : PySem.W.Frag} {n : Nat} {vs : List V} {H : Hp} {Q : VK} {E : XK} (h : sp_law_so K n vs H Q E) : vs.length = 2 := by
  obtain ⟨_, _, _, _, _, rfl, _⟩ := h
  rfl
theorem z_law_so {K : PySem.W.Frag} {vs : List V} {H : Hp} {Q : VK} {E : XK} (h : sp_law_so K 0 vs H Q E) : False := by
  obtain ⟨_, _, _, _, _, rfl, _, _, _, _, h, _⟩ := h
  exact Nat.not_lt_zero _ h
local macro_rules | `(tactic| walk_at "call") => `(tactic| ((with_reducible refine' c_so ?k1 ?k2 ?k3 ?k4 ?k5 ?_); (case k1 => assumption); (case k2 => walk_at "has"); (case k3 => walk_at "has"); (case k4 => first | assumption | rfl); (case k5 => first | assumption | exact Nat.zero_lt_succ _ | omega); intro H hS))
def t_law_so (K : PySem.W.Frag) (n : Nat)  : TS :=
  (tSeq (tIfS (tTest (tOp rIsN (tVar 1) (tC .non)))
  (tRet (tOp rIsN (tVar 0) (tC .non)))
  tNext)
  (tSeq (tIfS (tTruU K (tCB (rIsi K) (tCons (tVar 1) (tCons (tC (.ty "tuple")) tNil))))
  (tSeq (tIfS (tOr (tNot (tTruU K (tCB (rIsi K) (tCons (tVar 0) (tCons (tC (.ty "tuple")) tNil))))) (tTest (tOp (rNeU K) (tCB (rLenU K) (tCons (tVar 0) tNil)) (tCB (rLenU K) (tCons (tVar 1) tNil)))))
  (tRet (tC (.bl false)))
  tNext)
  (tSeq (tFor (iRng1 (tCons (tCB (rLenU K) (tCons (tVar 1) tNil)) tNil)) (gName 2)
  (tIfS (tNot (tTruU K (tCall (sp_law_so K n) [] E0 (tCons (tOp (rIx K) (tVar 0) (tVar 2)) (tCons (tOp (rIx K) (tVar 1) (tVar 2)) tNil)))))
  (tRet (tC (.bl false)))
  tNext))
  (tRet (tC (.bl true)))))
  tNext)
  (tSeq (tIfS (tOr (tTruU K (tCB (rIsi K) (tCons (tVar 1) (tCons (tC (.ty "bool")) tNil)))) (tTruU K (tCB (rIsi K) (tCons (tVar 0) (tCons (tC (.ty "bool")) tNil)))))
  (tRet (tAndV (tCB (rIsi K) (tCons (tVar 1) (tCons (tC (.ty "bool")) tNil))) (tAndV (tCB (rIsi K) (tCons (tVar 0) (tCons (tC (.ty "bool")) tNil))) (tOp (rEqU K) (tVar 0) (tVar 1)))))
  tNext)
  (tSeq (tIfS (tTruU K (tCB (rIsi K) (tCons (tVar 1) (tCons (tC (.ty "int")) tNil))))
  (tRet (tAndV (tCB (rIsi K) (tCons (tVar 0) (tCons (tC (.ty "int")) tNil))) (tOp (rEqU K) (tVar 0) (tVar 1))))
  tNext)
  (tRet (tAndV (tCB (rIsi K) (tCons (tVar 1) (tCons (tC (.ty "str")) tNil))) (tAndV (tCB (rIsi K) (tCons (tVar 0) (tCons (tC (.ty "str")) tNil))) (tOp (rEqU K) (tVar 0) (tVar 1)))))))))
abbrev N_law_so : List Str := ["found", "meant", "k"]
theorem r_law_so {K : PySem.W.Frag} {n : Nat} {vs : List V} {H : Hp} {Q : VK} {E : XK} (h : sp_law_so K (n + 1) vs H Q E) : t_law_so K n { nx := fun _ H' => Q .non H', rt := Q } (start N_law_so vs) H := by
  obtain ⟨F, m, x, y, d, rfl, hS, hx, hy, hp, hh, q⟩ := h
  unfold t_law_so
  cases d with
  | none =>
    obtain ⟨rfl, hS2⟩ := popNon (hS.addD hx)
    obtain ⟨rfl, hS2⟩ := popNon (hS.addD hy)
    walk_at "go"
    refine g_ite (fun h => ?_) (fun h => by cases h)
    walk_at "go"
    exact q _ (by assumption)
  | bool b =>
    obtain ⟨rfl, hS2⟩ := popBl (hS.addD hx)
    obtain ⟨rfl, hS2⟩ := popBl (hS.addD hy)
    clear hS2
    walk_at "go"
    refine g_ite (fun h => by cases h) (fun h => ?_)
    walk_at "go"
    refine g_ite (fun h => by cases h) (fun h => ?_)
    walk_at "go"
    refine g_ite (fun h => ?_) (fun h => by cases h)
    refine g_ite (fun h => ?_) (fun h => by cases h)
    walk_at "go"
    refine g_ite (fun h => ?_) (fun h => by cases h)
    walk_at "go"
    refine g_ite (fun h => ?_) (fun h => by cases h)
    walk_at "go"
    exact qb q (by assumption) (by cases b <;> rfl)
  | int i =>
    obtain ⟨rfl, hS2⟩ := popInt (hS.addD hx)
    obtain ⟨rfl, hS2⟩ := popInt (hS.addD hy)
    clear hS2
    walk_at "go"
    refine g_ite (fun h => by cases h) (fun h => ?_)
    walk_at "go"
    refine g_ite (fun h => by cases h) (fun h => ?_)
    walk_at "go"
    refine g_ite (fun h => by cases h) (fun h => ?_)
    walk_at "go"
    refine g_ite (fun h => by cases h) (fun h => ?_)
    walk_at "go"
    refine g_ite (fun h => ?_) (fun h => by cases h)
    walk_at "go"
    refine g_ite (fun h => ?_) (fun h => by cases h)
    walk_at "go"
    exact qb q (by assumption) (by simp)
  | str s =>
    obtain ⟨rfl, hS2⟩ := popStr (hS.addD hx)
    obtain ⟨rfl, hS2⟩ := popStr (hS.addD hy)
    clear hS2
    walk_at "go"
    refine g_ite (fun h => by cases h) (fun h => ?_)
    walk_at "go"
    refine g_ite (fun h => by cases h) (fun h => ?_)
    walk_at "go"
    refine g_ite (fun h => by cases h) (fun h => ?_)
    walk_at "go"
    refine g_ite (fun h => by cases h) (fun h => ?_)
    walk_at "go"
    refine g_ite (fun h => by cases h) (fun h => ?_)
    walk_at "go"
    refine g_ite (fun h => ?_) (fun h => by cases h)
    walk_at "go"
    refine g_ite (fun h => ?_) (fun h => by cases h)
    walk_at "go"
    exact qb q (by assumption) (decide_eq_true rfl)
  | tuple ds =>
    obtain ⟨hl, hp⟩ := Bool.and_eq_true_iff.mp (show (decide (ds.length ≤ 100000) && plainDs ds) = true from hp)
    have hl := of_decide_eq_true hl
    have hx2 : x ≠ .non := by
      rintro rfl
      cases hS.dp hx
    have hy2 : y ≠ .non := by
      rintro rfl
      cases hS.dp hy
    walk_at "go"
    refine g_ite (fun h => absurd (of_decide_eq_true h) hy2) (fun h => ?_)
    walk_at "go"
    refine g_ite (fun h => ?_) (fun h => by cases h)
    walk_at "go"
    refine g_ite (fun h => by cases h) (fun h => ?_)
    walk_at "go"
    refine g_ite (fun h => ?_) (fun h => ?_)
    · simp at h
    walk_at "go"
    refine g_range (by assumption) ⟨by omega, by omega⟩ (fun i σ m' => ∃ k : Option V, σ = [some x, some y, k] ∧ m' = m) ⟨none, rfl, rfl⟩ ?_ ?_
    · rintro i σ' m' H2 hi ⟨k, rfl, rfl⟩ hS2
      have hi' : i < ds.length := by omega
      have e := List.getElem?_eq_getElem hi'
      have hj : atI ds (i : Int) = some ds[i] := by rw [at_nat]; exact e
      have h1 := plain_at hp e
      have h2 := hgt_at e
      have h3 : hgt ds[i] < n := by
        have : hgt (.tuple ds) = hgts ds + 1 := rfl
        omega
      walk_at "go"
      refine g_ite (fun h => by cases h) (fun h => ?_)
      walk_at "go"
      exact ⟨_, ⟨_, rfl, rfl⟩, by walk_at "wk"⟩
    · rintro σ' m' H2 ⟨k, rfl, rfl⟩ hS2
      walk_at "go"
      exact q _ (by assumption)
  | list ds => cases hp
  | dict ds => cases hp


/-! ### loose values -/
mutual
def loose : PyData → Int → PyData
  | .tuple ds, t => if t % 2 = 0 then .list (looses ds (t + 1)) else .tuple (looses ds (t + 1))
  | .none, _ => .none
  | .bool b, _ => .bool b
  | .int i, _ => .int i
  | .str s, _ => .str s
  | .list ds, _ => .list ds
  | .dict ds, _ => .dict ds
def looses : List PyData → Int → List PyData
  | [], _ => []
  | d :: ds, t => loose d t :: looses ds t
end
theorem looses_map : ∀ (ds : List PyData) (t : Int), looses ds t = ds.map fun d => loose d t
  | [], _ => rfl
  | d :: ds, t => by
    show loose d t :: looses ds t = _
    rw [looses_map ds t] <;> rfl
def sp_law_loose (K : PySem.W.Frag) (n : Nat) : Sp := fun vs H Q _ => ∃ F m v d, ∃ t : Int, vs = [v, .int t] ∧ S F m H ∧ Has K F v d ∧ plainD d = true ∧ hgt d < n ∧ ResH K F m (loose d t) Q
theorem c_loose {K : PySem.W.Frag} {n : Nat} {F : List Fc} {m : List Sx} {H : Hp} {v : V} {d : PyData} {t : Int} {Q : VK} {E : XK} (hS : S F m H) (hv : Has K F v d) (hp : plainD d = true) (hh : hgt d < n) (q : ResH K F m (loose d t) Q) : sp_law_loose K n [v, .int t] H Q E := ⟨F, m, v, d, t, rfl, hS, hv, hp, hh, q⟩
theorem l_law_loose {K : PySem.W.Frag} {n : Nat} {vs : List V} {H : Hp} {Q : VK} {E : XK} (h : sp_law_loose K n vs H Q E) : vs.length = 2 := by
  obtain ⟨_, _, _, _, _, rfl, _⟩ := h
  rfl
theorem z_law_loose {K : PySem.W.Frag} {vs : List V} {H : Hp} {Q : VK} {E : XK} (h : sp_law_loose K 0 vs H Q E) : False := by
  obtain ⟨_, _, _, _, _, rfl, _, _, _, h, _⟩ := h
  exact Nat.not_lt_zero _ h
theorem mono_law_loose {K : PySem.W.Frag} {n : Nat} : MonoSp (sp_law_loose K n) := fun vs H Q Q' E h ⟨F, m, v, d, t, a, b, c, e, f, q⟩ => ⟨F, m, v, d, t, a, b, c, e, f, fun w H' z => h _ _ (q w H' z)⟩
local macro_rules | `(tactic| walk_at "call") => `(tactic| ((with_reducible refine' c_loose ?k1 ?k2 ?k3 ?k4 ?_); (case k1 => assumption); (case k2 => walk_at "has"); (case k3 => first | assumption | rfl); (case k4 => first | assumption | omega); walk_at "res"))
theorem take_succ {α : Type} {l : List α} {i : Nat} {x : α} (h : l[i]? = some x) : l.take (i + 1) = l.take i ++ [x] := by
  obtain ⟨hl, e⟩ := List.getElem?_eq_some_iff.mp h
  rw [List.take_succ_eq_append_getElem hl, e]
def t_law_loose (K : PySem.W.Frag) (n : Nat)  : TS :=
  (tSeq (tIfS (tTruU K (tCB (rIsi K) (tCons (tVar 0) (tCons (tC (.ty "tuple")) tNil))))
  (tSeq (tAsg (tLc (iSeq K (tVar 0)) (gName 3) tYes (tCall (sp_law_loose K n) [] E0 (tCons (tVar 3) (tCons (tOp (rAddU K) (tVar 1) (tC (.int 1))) tNil))) [3]) (gName 2))
  (tRet (tIf (tTest (tOp (rEqU K) (tOp rModI (tCB rInt (tCons (tVar 1) tNil)) (tC (.int 2))) (tC (.int 0)))) (tVar 2) (tCB (rTuple K) (tCons (tVar 2) tNil)))))
  tNext)
  (tRet (tVar 0)))
abbrev N_law_loose : List Str := ["value", "turn", "made", "one"]
theorem r_law_loose {K : PySem.W.Frag} {n : Nat} {vs : List V} {H : Hp} {Q : VK} {E : XK} (h : sp_law_loose K (n + 1) vs H Q E) : t_law_loose K n { nx := fun _ H' => Q .non H', rt := Q } (start N_law_loose vs) H := by
  obtain ⟨F, m, v, d, t, rfl, hS, hv, hp, hh, q⟩ := h
  unfold t_law_loose
  walk_at "go"
  refine g_ite (fun h => ?_) (fun h => ?_)
  · obtain ⟨ds, rfl⟩ : ∃ ds, d = .tuple ds := by
      cases d <;> first | exact ⟨_, rfl⟩ | cases h
    obtain ⟨hl, hp⟩ := Bool.and_eq_true_iff.mp (show (decide (ds.length ≤ 100000) && plainDs ds) = true from hp)
    have hl := of_decide_eq_true hl
    walk_at "go"
    refine g_lc (m := m) (by assumption) (.inl hv) mono_name mono_yes (mono_call mono_law_loose (monoA_cons mono_var (monoA_cons (mono_op monoR_addU mono_var mono_c) monoA_nil))) (by omega)
      (fun i acc m' => acc = looses (ds.take i) (t + 1) ∧ m' = m) ⟨rfl, rfl⟩ ?_ ?_
    · rintro i d w D acc m' H2 hd hacc ⟨rfl, rfl⟩ hS2
      have h1 := plain_at hp hd
      have h2 : hgt d < n := by
        have := hgt_at hd
        have : hgt (.tuple ds) = hgts ds + 1 := rfl
        omega
      refine g_lcT rfl ?_
      walk_at "go"
      refine g_ite (fun _ => ?_) (fun h => by cases h)
      walk_at "go"
      exact ⟨loose d (t + 1), m', ⟨by rw [looses_map, looses_map, take_succ hd, List.map_append] <;> rfl, rfl⟩, by refine S.wk (by assumption) ?_ (List.Sublist.refl _); intro f hf; cases hf with | head => exact .head _ | tail _ hf => exact .tail _ (.tail _ hf)⟩
    · rintro D acc m' H2 hacc ⟨rfl, rfl⟩ hS2
      rw [List.take_length] at hS2
      walk_at "go"
      refine g_ite (fun h => ?_) (fun h => ?_)
      · have h := of_decide_eq_true h
        have e : loose (.tuple ds) t = .list (looses ds (t + 1)) := if_pos h
        rw [e] at q
        walk_at "go"
        exact q _ _ (frzL hS2)
      · have h := of_decide_eq_false h
        have e : loose (.tuple ds) t = .tuple (looses ds (t + 1)) := if_neg h
        rw [e] at q
        walk_at "go"
        exact q _ _ (by walk_at "wk")
  · walk_at "go"
    have e : loose d t = d := by
      cases d <;> first | rfl | cases h
    rw [e] at q
    exact q _ _ (hS.addD hv)
/-! ### drawn trees -/
inductive Tr where
  | node (l : Int) (ks : List Tr)
mutual
def Tr.d : Tr → PyData
  | .node l ks => .tuple [.int l, .tuple (trDs ks)]
def trDs : List Tr → List PyData
  | [] => []
  | t :: ts => t.d :: trDs ts
end
mutual
def Tr.sz : Tr → Nat
  | .node _ ks => szs ks + 1
def szs : List Tr → Nat
  | [] => 0
  | t :: ts => t.sz + szs ts
end
mutual
def Tr.ht : Tr → Nat
  | .node _ ks => hts ks + 1
def hts : List Tr → Nat
  | [] => 0
  | t :: ts => max t.ht (hts ts)
end
mutual
/-- all labels lie below n -/
def Tr.okL (n : Int) : Tr → Prop
  | .node l ks => (0 ≤ l ∧ l < n) ∧ okLs n ks
def okLs (n : Int) : List Tr → Prop
  | [] => True
  | t :: ts => t.okL n ∧ okLs n ts
end
theorem trDs_map : ∀ ts : List Tr, trDs ts = ts.map Tr.d
  | [] => rfl
  | t :: ts => by
    show t.d :: trDs ts = _
    rw [trDs_map ts] <;> rfl
theorem trDs_len (ts : List Tr) : (trDs ts).length = ts.length := by rw [trDs_map, List.length_map]
theorem trDs_at {ts : List Tr} {i : Nat} {d : PyData} (h : (trDs ts)[i]? = some d) : ∃ t, ts[i]? = some t ∧ d = t.d := by
  rw [trDs_map, List.getElem?_map] at h
  cases e : ts[i]? with
  | none => rw [e] at h; cases h
  | some t =>
    rw [e] at h
    exact ⟨t, rfl, (Option.some.inj h).symm⟩
theorem trDs_app (ts : List Tr) (t : Tr) : trDs ts ++ [t.d] = trDs (ts ++ [t]) := by rw [trDs_map, trDs_map, List.map_append] <;> rfl
theorem szs_sum : ∀ ts : List Tr, szs ts = (ts.map Tr.sz).sum
  | [] => rfl
  | t :: ts => by
    show t.sz + szs ts = _
    rw [szs_sum ts] <;> rfl
theorem szs_app (ts : List Tr) (t : Tr) : szs (ts ++ [t]) = szs ts + t.sz := by simp [szs_sum]
theorem okLs_app {n : Int} : ∀ {ts : List Tr} {t : Tr}, okLs n ts → t.okL n → okLs n (ts ++ [t])
  | [], t, _, h => ⟨h, trivial⟩
  | a :: ts, t, h, q => ⟨h.1, okLs_app h.2 q⟩
theorem hts_at : ∀ {ts : List Tr} {i : Nat} {t : Tr}, ts[i]? = some t → t.ht ≤ hts ts
  | [], i, d, e => by simp at e
  | a :: ds, 0, d, e => by
    simp at e
    subst e
    exact Nat.le_max_left _ _
  | a :: ds, i + 1, d, e => Nat.le_trans (hts_at (ts := ds) (by simpa using e)) (Nat.le_max_right _ _)
theorem szs_at : ∀ {ts : List Tr} {i : Nat} {t : Tr}, ts[i]? = some t → t.sz ≤ szs ts
  | [], i, d, e => by simp at e
  | a :: ds, 0, d, e => by
    simp at e
    subst e
    exact Nat.le_add_right _ _
  | a :: ds, i + 1, d, e => Nat.le_trans (szs_at (ts := ds) (by simpa using e)) (Nat.le_add_left _ _)
mutual
theorem ht_sz : ∀ t : Tr, t.ht ≤ t.sz
  | .node l ks => by
    show hts ks + 1 ≤ szs ks + 1
    exact Nat.succ_le_succ (hts_szs ks)
theorem hts_szs : ∀ ts : List Tr, hts ts ≤ szs ts
  | [] => Nat.le_refl _
  | t :: ts => by
    show max t.ht (hts ts) ≤ t.sz + szs ts
    have h1 := ht_sz t
    have h2 := hts_szs ts
    omega
end
theorem sz_pos : ∀ t : Tr, 1 ≤ t.sz
  | .node l ks => Nat.succ_le_succ (Nat.zero_le _)
theorem szs_len : ∀ ts : List Tr, ts.length ≤ szs ts
  | [] => Nat.le_refl _
  | t :: ts => by
    show ts.length + 1 ≤ t.sz + szs ts
    have := sz_pos t
    have := szs_len ts
    omega
mutual
theorem plain_tr : ∀ t : Tr, t.sz ≤ 100000 → plainD t.d = true
  | .node l ks, h => by
    have h1 : plainDs (trDs ks) = true := plain_trs ks (by have : (Tr.node l ks).sz = szs ks + 1 := rfl; omega)
    have h2 := szs_len ks
    have h3 : (Tr.node l ks).sz = szs ks + 1 := rfl
    have h4 := trDs_len ks
    show (decide (2 ≤ 100000) && (true && ((decide ((trDs ks).length ≤ 100000) && plainDs (trDs ks)) && true))) = true
    rw [h1, decide_eq_true (by omega : (trDs ks).length ≤ 100000)] <;> rfl
theorem plain_trs : ∀ ts : List Tr, szs ts ≤ 100000 → plainDs (trDs ts) = true
  | [], _ => rfl
  | t :: ts, h => by
    have h' : t.sz + szs ts ≤ 100000 := h
    show (plainD t.d && plainDs (trDs ts)) = true
    rw [plain_tr t (by omega), plain_trs ts (by omega)] <;> rfl
end
mutual
theorem hgt_tr : ∀ t : Tr, hgt t.d ≤ 2 * t.ht
  | .node l ks => by
    show max 0 (max (hgts (trDs ks) + 1) 0) + 1 ≤ 2 * (hts ks + 1)
    have := hgts_tr ks
    omega
theorem hgts_tr : ∀ ts : List Tr, hgts (trDs ts) ≤ 2 * hts ts
  | [] => Nat.le_refl _
  | t :: ts => by
    show max (hgt t.d) (hgts (trDs ts)) ≤ 2 * max t.ht (hts ts)
    have := hgt_tr t
    have := hgts_tr ts
    omega
end
def sp_law_size (K : PySem.W.Frag) (n : Nat) : Sp := fun vs H Q _ => ∃ F m v, ∃ t : Tr, vs = [v] ∧ S F m H ∧ Has K F v t.d ∧ t.ht < n ∧ t.sz ≤ 900000 ∧ ∀ H', S F m H' → Q (.int t.sz) H'
theorem c_size {K : PySem.W.Frag} {n : Nat} {F : List Fc} {m : List Sx} {H : Hp} {v : V} {t : Tr} {Q : VK} {E : XK} (hS : S F m H) (hv : Has K F v t.d) (hh : t.ht < n) (hz : t.sz ≤ 900000) (q : ∀ H', S F m H' → Q (.int t.sz) H') : sp_law_size K n [v] H Q E := ⟨F, m, v, t, rfl, hS, hv, hh, hz, q⟩
theorem l_law_size {K : PySem.W.Frag} {n : Nat} {vs : List V} {H : Hp} {Q : VK} {E : XK} (h : sp_law_size K n vs H Q E) : vs.length = 1 := by
  obtain ⟨_, _, _, _, rfl, _⟩ := h
  rfl
theorem z_law_size {K : PySem.W.Frag} {vs : List V} {H : Hp} {Q : VK} {E : XK} (h : sp_law_size K 0 vs H Q E) : False := by
  obtain ⟨_, _, _, _, rfl, _, _, h, _⟩ := h
  exact Nat.not_lt_zero _ h
theorem mono_law_size {K : PySem.W.Frag} {n : Nat} : MonoSp (sp_law_size K n) := fun vs H Q Q' E h ⟨F, m, v, t, a, b, c, e, f, q⟩ => ⟨F, m, v, t, a, b, c, e, f, fun H' z => h _ _ (q H' z)⟩
local macro_rules | `(tactic| walk_at "call") => `(tactic| ((with_reducible refine' c_size ?k1 ?k2 ?k3 ?k4 ?_); (case k1 => assumption); (case k2 => walk_at "has"); (case k3 => first | assumption | omega); (case k4 => first | assumption | omega); intro H hS))
def t_law_size (K : PySem.W.Frag) (n : Nat)  : TS :=
  (tRet (tOp (rAddU K) (tC (.int 1)) (tCB (rSum K) (tCons (tLc (iSeq K (tOp (rIx K) (tVar 0) (tC (.int 1)))) (gName 1) tYes (tCall (sp_law_size K n) [] E0 (tCons (tVar 1) tNil)) [1]) tNil))))
abbrev N_law_size : List Str := ["tree", "one"]
theorem r_law_size {K : PySem.W.Frag} {n : Nat} {vs : List V} {H : Hp} {Q : VK} {E : XK} (h : sp_law_size K (n + 1) vs H Q E) : t_law_size K n { nx := fun _ H' => Q .non H', rt := Q } (start N_law_size vs) H := by
  obtain ⟨F, m, v, t, rfl, hS, hv, hh, hz, q⟩ := h
  obtain ⟨l, ks⟩ := t
  have hv : Has K F v (.tuple [.int l, .tuple (trDs ks)]) := hv
  have hz' : szs ks + 1 ≤ 900000 := hz
  unfold t_law_size
  walk_at "go"
  have hlen := szs_len ks
  refine g_lc (m := m) (by assumption) (.inl .here) mono_name mono_yes (mono_call mono_law_size (monoA_cons mono_var monoA_nil)) (by rw [trDs_len]; omega)
    (fun i acc m' => acc = (((ks.take i).map fun t => (t.sz : Int))).map PyData.int ∧ m' = m) ⟨rfl, rfl⟩ ?_ ?_
  · rintro i d w D acc m' H2 hd hacc ⟨rfl, rfl⟩ hS2
    obtain ⟨t, ht, rfl⟩ := trDs_at hd
    have h1 := hts_at ht
    have h2 : (Tr.node l ks).ht = hts ks + 1 := rfl
    have h3 : t.sz ≤ szs ks := by
      exact szs_at ht
    refine g_lcT rfl ?_
    walk_at "go"
    refine g_ite (fun _ => ?_) (fun h => by cases h)
    walk_at "go"
    exact ⟨.int t.sz, m', ⟨by rw [take_succ ht]; simp, rfl⟩, by refine S.addD ?_ Has.int; walk_at "wk"⟩
  · rintro D acc m' H2 hacc ⟨rfl, rfl⟩ hS2
    rw [trDs_len, List.take_length] at hS2
    walk_at "go"
    refine g_sumO (by assumption) (by walk_at "mem") ?_
    walk_at "go"
    have e : (1 : Int) + (ks.map fun t => (t.sz : Int)).sum = ((Tr.node l ks).sz : Int) := by
      have e2 : ((Tr.node l ks).sz : Int) = ((szs ks : Nat) : Int) + 1 := by
        show (((szs ks + 1 : Nat)) : Int) = _
        omega
      have e3 : ∀ l : List Tr, (l.map fun t => (t.sz : Int)).sum = ((szs l : Nat) : Int) := by
        intro l
        induction l with
        | nil => rfl
        | cons a l ih =>
          rw [List.map_cons, List.sum_cons, ih]
          show (a.sz : Int) + ((szs l : Nat) : Int) = ((a.sz + szs l : Nat) : Int)
          omega
      rw [e2, e3]
      omega
    rw [e]
    exact q _ (by walk_at "wk")
def sp_law_branch (K : PySem.W.Frag) (n : Nat) : Sp := fun vs H Q _ => ∃ F m r l, ∃ ms : List Int, ∃ labels many : Int, vs = [r, .ref l, .int labels, .int many] ∧ S F m H ∧ Spot l ∈ m ∧ Has K F r (.list (intL ms)) ∧ ms ≠ [] ∧ 0 < labels ∧ 1 ≤ many ∧ many < n ∧ many ≤ 13 ∧
  ∀ t : Tr, t.okL labels → (t.sz : Int) ≤ many → ResH K F m t.d Q
theorem c_branch {K : PySem.W.Frag} {n : Nat} {F : List Fc} {m : List Sx} {H : Hp} {r : V} {l : Addr} {ms : List Int} {labels many : Int} {Q : VK} {E : XK} (hS : S F m H) (hm : Spot l ∈ m) (hr : Has K F r (.list (intL ms))) (hne : ms ≠ []) (h0 : 0 < labels) (h1 : 1 ≤ many) (h2 : many < n) (h3 : many ≤ 13)
    (q : ∀ t : Tr, t.okL labels → (t.sz : Int) ≤ many → ResH K F m t.d Q) : sp_law_branch K n [r, .ref l, .int labels, .int many] H Q E := ⟨F, m, r, l, ms, labels, many, rfl, hS, hm, hr, hne, h0, h1, h2, h3, q⟩
theorem l_law_branch {K : PySem.W.Frag} {n : Nat} {vs : List V} {H : Hp} {Q : VK} {E : XK} (h : sp_law_branch K n vs H Q E) : vs.length = 4 := by
  obtain ⟨_, _, _, _, _, _, _, rfl, _⟩ := h
  rfl
theorem z_law_branch {K : PySem.W.Frag} {vs : List V} {H : Hp} {Q : VK} {E : XK} (h : sp_law_branch K 0 vs H Q E) : False := by
  obtain ⟨_, _, _, _, _, _, _, rfl, _, _, _, _, _, h, h2, _⟩ := h
  omega
local macro_rules | `(tactic| walk_at "call") => `(tactic| ((with_reducible refine' c_branch ?k1 ?k2 ?k3 ?k4 ?k5 ?k6 ?k7 ?k8 ?_); (case k1 => assumption); (case k2 => walk_at "mem"); (case k3 => walk_at "has"); (case k4 => assumption); (case k5 => omega); (case k6 => omega); (case k7 => omega); (case k8 => omega); intro t ht hz w H hS))
def t_law_branch (K : PySem.W.Frag) (n : Nat)  : TS :=
  (tSeq (tAsg (tLst tNil) (gName 4))
  (tSeq (tAsg (tOp rSubI (tVar 3) (tC (.int 1))) (gName 5))
  (tSeq (tFor (iRng1 (tCons (tCall (sp_law_take K) [] E0 (tCons (tVar 0) (tCons (tVar 1) (tCons (tC (.int 3)) tNil)))) tNil)) (gName 6)
  (tIfS (tTest (tOp rGtI (tVar 5) (tC (.int 0))))
  (tSeq (tAsg (tCall (sp_law_branch K n) [] E0 (tCons (tVar 0) (tCons (tVar 1) (tCons (tVar 2) (tCons (tOp (rAddU K) (tC (.int 1)) (tCall (sp_law_take K) [] E0 (tCons (tVar 0) (tCons (tVar 1) (tCons (tVar 5) tNil))))) tNil))))) (gName 7))
  (tSeq (tDrop (tBM K "list" rAppend (tVar 4) (tCons (tVar 7) tNil)))
  (tAsg (tOp rSubI (tVar 5) (tCall (sp_law_size K 14) [] E0 (tCons (tVar 7) tNil))) (gName 5))))
  tNext))
  (tRet (tTup (tCons (tCall (sp_law_take K) [] E0 (tCons (tVar 0) (tCons (tVar 1) (tCons (tVar 2) tNil)))) (tCons (tCB (rTuple K) (tCons (tVar 4) tNil)) tNil)))))))
abbrev N_law_branch : List Str := ["row", "spot", "labels", "many", "children", "left", "k", "one"]
theorem r_law_branch {K : PySem.W.Frag} {n : Nat} {vs : List V} {H : Hp} {Q : VK} {E : XK} (h : sp_law_branch K (n + 1) vs H Q E) : t_law_branch K n { nx := fun _ H' => Q .non H', rt := Q } (start N_law_branch vs) H := by
  obtain ⟨F, m, r, l, ms, labels, many, rfl, hS, hm, hr, hne, h0, h1, h2, h3, q⟩ := h
  unfold t_law_branch
  walk_at "go"
  refine g_newL (K := K) (ds := []) (by assumption) .nil (Nat.zero_le _) ?_
  intro p H1 hS1
  walk_at "go"
  rename_i j0 j1 _
  refine g_range (by assumption) ⟨by omega, by omega⟩ (fun i σ m' => ∃ (ts : List Tr) (left : Int) (k o : Option V), σ = [some r, some (.ref l), some (.int labels), some (.int many), some (.ref p), some (.int left), k, o] ∧ m' = Ls K p (trDs ts) :: m ∧ 0 ≤ left ∧ (szs ts : Int) + left = many - 1 ∧ okLs labels ts)
    ⟨[], many - 1, none, none, rfl, rfl, by omega, by show ((0 : Nat) : Int) + _ = _; omega, trivial⟩ ?_ ?_
  · rintro i σ' m' H2 hi ⟨ts, left, k, o, rfl, rfl, hl, hsum, hok⟩ hS2
    walk_at "go"
    refine g_ite (fun h => ?_) (fun h => ?_)
    · have h := of_decide_eq_true h
      walk_at "go"
      rename_i j Hj a0 a1 hSj t ht hz w Hw hSw
      have hlen := szs_len ts
      refine g_app0 (d := t.d) (by assumption) .here (by rw [trDs_len]; omega) ?_
      intro H5 hS5
      rw [trDs_app] at hS5
      have hht := ht_sz t
      walk_at "go"
      exact ⟨_, ⟨ts ++ [t], left - t.sz, _, _, rfl, rfl, by omega, by rw [szs_app]; omega, okLs_app hok ht⟩, by walk_at "wk"⟩
    · walk_at "go"
      exact ⟨_, ⟨ts, left, _, _, rfl, rfl, hl, hsum, hok⟩, by walk_at "wk"⟩
  · rintro σ' m' H2 ⟨ts, left, k, o, rfl, rfl, hl, hsum, hok⟩ hS2
    walk_at "go"
    rename_i j Hj a0 a1 hSj w Hw hSw w2 H2 hS2
    exact q (.node j ts) ⟨⟨a0, a1⟩, hok⟩ (by show ((szs ts + 1 : Nat) : Int) ≤ many; omega) _ _ (by refine S.wk (by assumption) ?_ (.cons _ (.refl _)); intro f hf; cases hf with | head => exact .head _ | tail _ hf => exact .tail _ (.tail _ hf))


/-! ### schemas -/
inductive How where
  | one | maybe | any | some
deriving DecidableEq
def How.s : How → Str
  | .one => "one"
  | .maybe => "maybe"
  | .any => "any"
  | .some => "some"
abbrev Rule := List (Int × How)
def pairT (p : Int × How) : PyData := .tuple [.int p.1, .str p.2.s]
def ruleT (r : Rule) : PyData := .tuple (r.map pairT)
def rulesT (rs : List Rule) : PyData := .tuple (rs.map ruleT)
def schT (root : Int) (rs : List Rule) : PyData := .tuple [.int root, rulesT rs]
def howOf (x : Str) : Option How := if x = "one" then .some .one else if x = "maybe" then .some .maybe else if x = "any" then .some .any else if x = "some" then .some .some else .none
def howD : PyData → Option How
  | .str x => howOf x
  | _ => none
def seqD : PyData → Option (List PyData)
  | .list ds => some ds
  | .tuple ds => some ds
  | _ => none
def pairP (n : Int) (d : PyData) : Option (Int × How) := match seqD d with
  | some [.int i, b] => if labD (.int i) = true ∧ i < n then (howD b).map fun h => (i, h) else none
  | _ => none
/-- the pairs of a rule that is read, behind those that are read already -/
def ruleP (n : Int) : List PyData → Rule → Option Rule
  | [], acc => some acc
  | d :: ds, acc => match pairP n d with
    | none => none
    | some p => if (match acc.getLast? with
      | some q => decide (p.1 ≤ q.1)
      | none => false) = true then none else ruleP n ds (acc ++ [p])
def ruleD (n : Int) (d : PyData) : Option Rule := (seqD d).bind fun ds => ruleP n ds []
/-- the parts of a rule can be compared -/
def fitR (d : PyData) : Prop := ∀ xs, seqD d = some xs → xs.length ≤ 100000 ∧ ∀ x ∈ xs, ∀ a b, seqD x = some [a, b] → SeqAt.shaped b = true
def plainOut : Option Rule → PyData
  | none => .none
  | some r => ruleT r
theorem How.of_s (h : How) : howOf h.s = .some h := by cases h <;> rfl
theorem howOf_s {x : Str} {h : How} (e : howOf x = .some h) : x = h.s := by
  unfold howOf at e
  split at e
  · rename_i z; cases e; exact z
  split at e
  · rename_i z; cases e; exact z
  split at e
  · rename_i z; cases e; exact z
  split at e
  · rename_i z; cases e; exact z
  cases e
def howL : List PyData := (["one", "maybe", "any", "some"] : List Str).map PyData.str
theorem how_any (b : PyData) : (howL.any fun z => PyData.eqv z b) = (howD b).isSome := by
  cases b with
  | str x =>
    show ((("one" : Str) == x) || ((("maybe" : Str) == x) || ((("any" : Str) == x) || ((("some" : Str) == x) || false)))) = (howOf x).isSome
    unfold howOf
    by_cases h1 : x = "one"
    · subst h1; rfl
    by_cases h2 : x = "maybe"
    · subst h2; rfl
    by_cases h3 : x = "any"
    · subst h3; rfl
    by_cases h4 : x = "some"
    · subst h4; rfl
    rw [if_neg h1, if_neg h2, if_neg h3, if_neg h4]
    have n1 : (("one" : Str) == x) = false := by simpa using Ne.symm h1
    have n2 : (("maybe" : Str) == x) = false := by simpa using Ne.symm h2
    have n3 : (("any" : Str) == x) = false := by simpa using Ne.symm h3
    have n4 : (("some" : Str) == x) = false := by simpa using Ne.symm h4
    rw [n1, n2, n3, n4]
    rfl
  | _ => rfl
theorem seq_two {d : PyData} {ds : List PyData} (h : seqD d = some ds) : d = .tuple ds ∨ d = .list ds := by
  cases d with
  | list xs => cases h; exact .inr rfl
  | tuple xs => cases h; exact .inl rfl
  | _ => cases h
theorem has_seq {K : PySem.W.Frag} {F : List Fc} {v : V} {d : PyData} {ds : List PyData} (hv : Has K F v d) (h : seqD d = some ds) : Has K F v (.tuple ds) ∨ Has K F v (.list ds) := by
  rcases seq_two h with rfl | rfl
  · exact .inl hv
  · exact .inr hv
theorem seqB {d : PyData} : isSeqD d = (seqD d).isSome := by cases d <;> rfl
theorem at_last {xs : List PyData} {x : PyData} : atI (xs ++ [x]) (-1) = some x := by
  unfold atI ixN
  rw [if_neg (by decide), if_pos (by rw [List.length_append, List.length_singleton]; omega), Option.bind_some]
  have e : (-1 + ((xs ++ [x]).length : Int)).toNat = xs.length := by rw [List.length_append, List.length_singleton]; omega
  rw [e, List.getElem?_append_right (Nat.le_refl _), Nat.sub_self] <;> rfl
/-- plain_rule(value, many) -/
def sp_plain_rule (K : PySem.W.Frag) : Sp := fun vs H Q _ => ∃ F m v d, ∃ n : Int, vs = [v, .int n] ∧ S F m H ∧ Has K F v d ∧ fitR d ∧ ResH K F m (plainOut (ruleD n d)) Q
theorem c_plain_rule {K : PySem.W.Frag} {F : List Fc} {m : List Sx} {H : Hp} {v : V} {d : PyData} {n : Int} {Q : VK} {E : XK} (hS : S F m H) (hv : Has K F v d) (hf : fitR d) (q : ResH K F m (plainOut (ruleD n d)) Q) : sp_plain_rule K [v, .int n] H Q E := ⟨F, m, v, d, n, rfl, hS, hv, hf, q⟩
theorem l_plain_rule {K : PySem.W.Frag} {vs : List V} {H : Hp} {Q : VK} {E : XK} (h : sp_plain_rule K vs H Q E) : vs.length = 2 := by
  obtain ⟨_, _, _, _, _, rfl, _⟩ := h
  rfl
def t_plain_rule (K : PySem.W.Frag)   : TS :=
  (tSeq (tIfS (tNot (tTruU K (tCall (sp_is_sequence K) [] E0 (tCons (tVar 0) tNil))))
  (tRet (tC .non))
  tNext)
  (tSeq (tAsg (tLst tNil) (gName 2))
  (tSeq (tFor (iSeq K (tVar 0)) (gName 3)
  (tSeq (tIfS (tOr (tNot (tTruU K (tCall (sp_is_sequence K) [] E0 (tCons (tVar 3) tNil)))) (tTest (tOp (rNeU K) (tCB (rLenU K) (tCons (tVar 3) tNil)) (tC (.int 2)))))
  (tRet (tC .non))
  tNext)
  (tSeq (tIfS (tOr (tNot (tTruU K (tCall (sp_is_label K) [] E0 (tCons (tOp (rIx K) (tVar 3) (tC (.int 0))) tNil)))) (tOr (tTest (tOp rGeI (tOp (rIx K) (tVar 3) (tC (.int 0))) (tVar 1))) (tTest (tOp (rInU K true) (tOp (rIx K) (tVar 3) (tC (.int 1))) (tC (.ref (He.ga K "HOWS")))))))
  (tRet (tC .non))
  tNext)
  (tSeq (tIfS (tAnd (tTruU K (tVar 2)) (tTest (tOp rGeI (tOp (rIx K) (tOp (rIx K) (tVar 2) (tUn rNegI (tC (.int 1)))) (tC (.int 0))) (tOp (rIx K) (tVar 3) (tC (.int 0))))))
  (tRet (tC .non))
  tNext)
  (tDrop (tBM K "list" rAppend (tVar 2) (tCons (tTup (tCons (tOp (rIx K) (tVar 3) (tC (.int 0))) (tCons (tOp (rIx K) (tVar 3) (tC (.int 1))) tNil))) tNil)))))))
  (tRet (tCB (rTuple K) (tCons (tVar 2) tNil))))))
abbrev N_plain_rule : List Str := ["value", "many", "pairs", "pair"]
theorem r_plain_rule {K : PySem.W.Frag} (kH : HowsK K) {vs : List V} {H : Hp} {Q : VK} {E : XK} (h : sp_plain_rule K vs H Q E) : t_plain_rule K { nx := fun _ H' => Q .non H', rt := Q } (start N_plain_rule vs) H := by
  obtain ⟨F, m, v, d, n, rfl, hS, hv, hf, q⟩ := h
  unfold t_plain_rule
  walk_at "go"
  refine g_ite (fun h => ?_) (fun h => ?_)
  · walk_at "go"
    have eR : ruleD n d = none := by
      unfold ruleD
      rw [seqB] at h
      cases e : seqD d with
      | none => rfl
      | some ds => rw [e] at h; cases h
    rw [eR] at q
    exact q _ _ (S.addD (by assumption) Has.non)
  · obtain ⟨ds, hds⟩ : ∃ ds, seqD d = some ds := by
      rw [seqB] at h
      cases e : seqD d with
      | none => rw [e] at h; cases h
      | some ds => exact ⟨ds, rfl⟩
    obtain ⟨hlen, hsh⟩ := hf ds hds
    have eR : ruleD n d = ruleP n ds [] := by unfold ruleD; rw [hds]; rfl
    rw [eR] at q
    walk_at "go"
    refine g_newL (K := K) (ds := []) (by assumption) .nil (Nat.zero_le _) ?_
    intro p H1 hS1
    walk_at "go"
    refine g_for (F := F) (m := Ls K p [] :: m) (by assumption) (has_seq hv hds)
      (fun i σ m' => ∃ (acc : Rule) (w : Option V), σ = [some v, some (.int n), some (.ref p), w] ∧ m' = Ls K p (acc.map pairT) :: m ∧ acc.length ≤ i ∧ ruleP n ds [] = ruleP n (ds.drop i) acc) ⟨[], none, rfl, rfl, Nat.le_refl _, rfl⟩ ?_ ?_
    · rintro i d1 w1 σ' m' H2 hd ⟨acc, w0, rfl, rfl, hacc, hrule⟩ hS2
      have hi : i < ds.length := (List.getElem?_eq_some_iff.mp hd).1
      have hdrop : ds.drop i = d1 :: ds.drop (i + 1) := by
        rw [List.drop_eq_getElem_cons hi]
        rw [List.getElem?_eq_getElem hi] at hd
        rw [Option.some.inj hd]
      rw [hdrop] at hrule
      have bad : pairP n d1 = none → ruleP n ds [] = none := fun z => by
        rw [hrule]
        show (match pairP n d1 with | none => none | some p => _) = none
        rw [z]
      have out : ∀ {m2 : List Sx} {H' : Hp}, ruleP n ds [] = none → S F m H' → Q .non H' := fun z hS' => by
        rw [z] at q
        exact q _ _ (hS'.addD Has.non)
      walk_at "go"
      refine g_ite (fun h => ?_) (fun h => ?_)
      · walk_at "go"
        refine out (m2 := m) (bad ?_) (by walk_at "wk")
        unfold pairP
        rw [seqB] at h
        cases e : seqD d1 with
        | none => rfl
        | some ds => rw [e] at h; cases h
      · obtain ⟨es, hes⟩ : ∃ es, seqD d1 = some es := by
          rw [seqB] at h
          cases e : seqD d1 with
          | none => rw [e] at h; cases h
          | some ds => exact ⟨ds, rfl⟩
        have h1 : Has K (dat K w1 d1 :: F) w1 (.tuple es) ∨ Has K (dat K w1 d1 :: F) w1 (.list es) := has_seq Has.here hes
        walk_at "go"
        refine g_ite (fun h => ?_) (fun h => ?_)
        · walk_at "go"
          refine out (m2 := m) (bad ?_) (by walk_at "wk")
          unfold pairP
          rw [hes]
          rcases es with _ | ⟨a, _ | ⟨b, _ | ⟨c, es⟩⟩⟩
          · rfl
          · cases a <;> rfl
          · simp at h
          · cases a <;> rfl
        · obtain ⟨a, b, rfl⟩ : ∃ a b, es = [a, b] := by
            rcases es with _ | ⟨a, _ | ⟨b, _ | ⟨c, es⟩⟩⟩
            · simp at h
            · simp at h
            · exact ⟨a, b, rfl⟩
            · simp at h
              omega
          have hshb := hsh d1 (List.mem_of_getElem? hd) a b hes
          by_cases hl : labD a = true
          · obtain ⟨j, rfl⟩ : ∃ j, a = .int j := by
              cases a <;> first | exact ⟨_, rfl⟩ | cases hl
            have hpr : pairP n d1 = if j < n then (howD b).map fun h => (j, h) else none := by
              unfold pairP
              rw [hes]
              show (if labD (.int j) = true ∧ j < n then _ else none) = _
              by_cases hj : j < n
              · rw [if_pos ⟨hl, hj⟩, if_pos hj]
              · rw [if_neg (fun z => hj z.2), if_neg hj]
            walk_at "go"
            rw [hl]
            refine g_ite (fun h => by cases h) (fun h => ?_)
            walk_at "go"
            refine g_ite (fun h => ?_) (fun h => ?_)
            · refine g_ite (fun _ => ?_) (fun h => by cases h)
              walk_at "go"
              refine out (m2 := m) (bad ?_) (by walk_at "wk")
              rw [hpr, if_neg (by have := of_decide_eq_true h; omega)]
            · have hj : j < n := by
                have := of_decide_eq_false h
                omega
              rw [if_pos hj] at hpr
              walk_at "go"
              rename_i wb hS4
              refine g_in (d := b) (ds := howL) hS4 (by walk_at "has") (.inr fun G _ => kH G) hshb (by decide +kernel) ?_
              rw [how_any]
              walk_at "go"
              cases hh : howD b with
              | none =>
                rw [hh] at hpr
                refine g_ite (fun _ => ?_) (fun h => by cases h)
                walk_at "go"
                exact out (m2 := m) (bad hpr) (by walk_at "wk")
              | some hw =>
                have hpr2 : pairP n d1 = some (j, hw) := by rw [hpr, hh]; rfl
                refine g_ite (fun h => by cases h) (fun _ => ?_)
                obtain ⟨rfl⟩ : b = .str hw.s := by
                  cases b with
                  | str x => rw [howOf_s (h := hw) hh]
                  | _ => cases hh
                have hadd : acc.map pairT ++ [.tuple [.int j, .str hw.s]] = (acc ++ [(j, hw)]).map pairT := by rw [List.map_append] <;> rfl
                have hstep : ruleP n ds [] = if (match acc.getLast? with | some q => decide (j ≤ q.1) | none => false) = true then none else ruleP n (List.drop (i + 1) ds) (acc ++ [(j, hw)]) := by
                  rw [hrule]
                  show (match pairP n d1 with | none => none | some p => if (match acc.getLast? with | some q => decide (p.1 ≤ q.1) | none => false) = true then none else ruleP n (List.drop (i + 1) ds) (acc ++ [p])) = _
                  rw [hpr2]
                walk_at "go"
                refine g_ite (fun h => ?_) (fun h => ?_)
                · obtain ⟨acc', q0, rfl⟩ : ∃ acc' q0, acc = acc' ++ [q0] := by
                    rcases List.eq_nil_or_concat acc with rfl | ⟨a, b, rfl⟩
                    · cases h
                    · exact ⟨a, b, by simp⟩
                  have hat : atI ((acc' ++ [q0]).map pairT) (-1) = some (.tuple [.int q0.1, .str q0.2.s]) := by
                    rw [List.map_append]
                    exact at_last
                  walk_at "go"
                  refine g_ite (fun h => ?_) (fun h => ?_)
                  · walk_at "go"
                    refine out (m2 := m) ?_ (by walk_at "wk")
                    rw [hstep, List.getLast?_concat]
                    rw [if_pos (by simpa using h)]
                  · rw [List.getLast?_concat] at hstep
                    rw [if_neg (by simpa using h)] at hstep
                    walk_at "go"
                    refine g_app0 (d := .tuple [.int j, .str hw.s]) (by assumption) (by walk_at "has") (by rw [List.length_map]; omega) ?_
                    intro H5 hS5
                    rw [hadd] at hS5
                    exact ⟨_, ⟨_, _, rfl, rfl, by rw [List.length_append, List.length_singleton]; omega, hstep⟩, by walk_at "wk"⟩
                · obtain rfl : acc = [] := by
                    cases acc with
                    | nil => rfl
                    | cons a l => cases h
                  have hstep : ruleP n ds [] = ruleP n (List.drop (i + 1) ds) ([] ++ [(j, hw)]) := by
                    rw [hstep]
                    exact if_neg Bool.false_ne_true
                  refine g_ite (fun h => by cases h) (fun _ => ?_)
                  walk_at "go"
                  refine g_app0 (d := .tuple [.int j, .str hw.s]) (by assumption) (by walk_at "has") (by rw [List.length_map]; exact Nat.zero_lt_succ _) ?_
                  intro H5 hS5
                  rw [hadd] at hS5
                  exact ⟨_, ⟨_, _, rfl, rfl, by rw [List.length_append, List.length_singleton]; omega, hstep⟩, by walk_at "wk"⟩
          · walk_at "go"
            have hl2 : labD a = false := by
              cases e : labD a with
              | true => exact absurd e hl
              | false => rfl
            rw [hl2]
            refine g_ite (fun _ => ?_) (fun h => by cases h)
            walk_at "go"
            refine out (m2 := m) (bad ?_) (by walk_at "wk")
            unfold pairP
            rw [hes]
            cases a with
            | int j => show (if labD (.int j) = true ∧ j < n then _ else none) = none; rw [if_neg (fun z => hl z.1)]
            | _ => rfl
    · rintro σ' m' H2 ⟨acc, w0, rfl, rfl, hacc, hrule⟩ hS2
      rw [List.drop_length] at hrule
      have e2 : ruleP n ds [] = some acc := hrule
      rw [e2] at q
      walk_at "go"
      exact q _ _ (by walk_at "wk")


/-! ### making schemas -/
theorem ne_tup {K : PySem.W.Frag} {F : List Fc} {m : List Sx} {H : Hp} {v : V} {ds : List PyData} (hS : S (dat K v (.tuple ds) :: F) m H) : v ≠ .non := by
  rintro rfl
  have z : Dp K H .non (.tuple ds) := hS.dp Has.here
  cases z
abbrev schC (K : PySem.W.Frag) : Addr := He.ga K "Schema"
def schF (root : Int) (rs : List Rule) : List (Str × PyData) := [("_root", .int root), ("_rules", rulesT rs)]
abbrev sch (K : PySem.W.Frag) (v : V) (root : Int) (rs : List Rule) : Fc := ins K (schC K) v (schF root rs)
/-- what the rules given are -/
structure RulesOk (d : PyData) (ds : List PyData) (rs : List Rule) : Prop where
  sq : seqD d = some ds
  fit : ∀ x ∈ ds, fitR x
  rd : ds.map (ruleD (ds.length : Int)) = rs.map Option.some
  l1 : 1 ≤ ds.length
  l5 : ds.length ≤ 5
theorem RulesOk.len {d : PyData} {ds : List PyData} {rs : List Rule} (h : RulesOk d ds rs) : rs.length = ds.length := by
  have := congrArg List.length h.rd
  simpa using this.symm
theorem RulesOk.at_ {d x : PyData} {ds : List PyData} {rs : List Rule} {i : Nat} (h : RulesOk d ds rs) (e : ds[i]? = some x) : ∃ r, rs[i]? = some r ∧ ruleD (ds.length : Int) x = some r := by
  have z := congrArg (fun l : List (Option Rule) => l[i]?) h.rd
  simp only [List.getElem?_map, e, Option.map_some] at z
  cases q : rs[i]? with
  | none => rw [q] at z; cases z
  | some r =>
    rw [q] at z
    exact ⟨r, rfl, Option.some.inj z⟩


abbrev tabE : List (Str × Str) := [("BadValue", "at"), ("BadRule", "at")]
/-! ### schemas made, of any values -/
inductive SchR where
  | ok (root : Int) (rs : List Rule) | val (at_ : Int) | rul (at_ : Int)
def rulesGo (n : Int) : List PyData → List Rule → Int → Int → SchR
  | [], acc, _, root => .ok root acc
  | d :: ds, acc, i, root => match ruleD n d with
    | none => .rul i
    | some r => rulesGo n ds (acc ++ [r]) (i + 1) root
def schR (d1 d2 : PyData) : SchR := match d1 with
  | .int root => if labD (.int root) = true then (match seqD d2 with
    | none => .val 2
    | some ds => if 1 ≤ ds.length ∧ ds.length ≤ 5 ∧ root < ds.length then rulesGo ds.length ds [] 0 root else .val 2) else .val 1
  | _ => .val 1
/-- what a Schema's values may be -/
def fitS (d : PyData) : Prop := ∀ ds, seqD d = some ds → ds.length ≤ 100000 ∧ ∀ x ∈ ds, fitR x
def schQ (K : PySem.W.Frag) (F : List Fc) (m : List Sx) (d1 d2 : PyData) (E : XK) (Q : Int → List Rule → Prop) : Prop := match schR d1 d2 with
  | .ok root rs => Q root rs
  | .val k => Rs K F m "BadValue" "at" (.int k) E
  | .rul k => Rs K F m "BadRule" "at" (.int k) E
def sp_Schema___init (K : PySem.W.Frag) : Sp := fun vs H Q E => ∃ F : List Fc, ∃ m : List Sx, ∃ x : Addr, ∃ dx : Addr, ∃ v1 : V, ∃ v2 : V, ∃ d1 : PyData, ∃ d2 : PyData, vs = [.ref x, v1, v2] ∧ (S F (Raw x (.ins (schC K) dx []) :: m) H) ∧ (Has K F v1 d1) ∧ (Has K F v2 d2) ∧ (fitS d2) ∧ (schQ K F m d1 d2 E fun root rs => ∀ H', S (sch K (.ref x) root rs :: F) m H' → Q .non H')
theorem c_Schema___init {K : PySem.W.Frag} {H : Hp} {Q : VK} {E : XK} {F : List Fc} {m : List Sx} {x : Addr} {dx : Addr} {v1 : V} {v2 : V} {d1 : PyData} {d2 : PyData} (h0 : S F (Raw x (.ins (schC K) dx []) :: m) H) (h1 : Has K F v1 d1) (h2 : Has K F v2 d2) (h3 : fitS d2) (q : schQ K F m d1 d2 E fun root rs => ∀ H', S (sch K (.ref x) root rs :: F) m H' → Q .non H') : sp_Schema___init K [.ref x, v1, v2] H Q E :=
  ⟨F, m, x, dx, v1, v2, d1, d2, rfl, h0, h1, h2, h3, q⟩
theorem l_Schema___init {K : PySem.W.Frag} {vs : List V} {H : Hp} {Q : VK} {E : XK} (h : sp_Schema___init K vs H Q E) : vs.length = 3 := by
  obtain ⟨_, _, _, _, _, _, _, _, rfl, _⟩ := h
  rfl
theorem c_Schema {K : PySem.W.Frag} {F : List Fc} {m : List Sx} {H : Hp} {v1 v2 : V} {d1 d2 : PyData} {Q : VK} {E : XK} (hS : S F m H) (h1 : Has K F v1 d1) (h2 : Has K F v2 d2) (hf : fitS d2)
    (q : schQ K F m d1 d2 E fun root rs => ∀ x H', S (sch K x root rs :: F) m H' → Q x H') : MakX (schC K) (sp_Schema___init K) [v1, v2] E H Q :=
  g_mkX hS fun x dx H' hS' => ⟨F, m, x, dx, v1, v2, d1, d2, rfl, hS', h1, h2, hf, by
    unfold schQ at q ⊢
    cases e : schR d1 d2 with
    | ok root rs =>
      rw [e] at q
      exact fun H2 h => ⟨rfl, q _ _ h⟩
    | val k =>
      rw [e] at q
      exact q
    | rul k =>
      rw [e] at q
      exact q⟩
theorem c_SchemaK {K : PySem.W.Frag} {F : List Fc} {m : List Sx} {H : Hp} {v1 v2 : V} {d1 d2 : PyData} {Q : VK} {E : XK} (hS : S F m H) (h1 : Has K F v1 d1) (h2 : Has K F v2 d2) (hf : fitS d2)
    (q : schQ K F m d1 d2 E fun root rs => ∀ x H', S (sch K x root rs :: F) m H' → Q x H') : MakK (schC K) 2 (sp_Schema___init K) [v1, v2] E H Q :=
  g_mkK (K := K) rfl hS fun x dx H' hS' => ⟨F, m, x, dx, v1, v2, d1, d2, rfl, hS', h1, h2, hf, by
    unfold schQ at q ⊢
    cases e : schR d1 d2 with
    | ok root rs =>
      rw [e] at q
      exact fun H2 h => ⟨rfl, q _ _ h⟩
    | val k =>
      rw [e] at q
      exact q
    | rul k =>
      rw [e] at q
      exact q⟩
local macro_rules | `(tactic| walk_at "call") => `(tactic| ((with_reducible refine' c_plain_rule ?k1 ?k2 ?k3 ?_); (case k1 => assumption); (case k2 => walk_at "has"); (case k3 => assumption); intro w H hS))
def t_Schema___init (K : PySem.W.Frag)  (E : XK) : TS :=
  (tSeq (tIfS (tNot (tTruU K (tCall (sp_is_label K) [] E0 (tCons (tVar 1) tNil))))
  (tRaise (tErr (He.ga K "BadValue") "at" (tCons (tC (.int 1)) tNil)) (WOf E))
  tNext)
  (tSeq (tIfS (tOr (tNot (tTruU K (tCall (sp_is_sequence K) [] E0 (tCons (tVar 2) tNil)))) (tOr (tNot (tTest (tChain rLeI rLeI (tC (.int 1)) (tCB (rLenU K) (tCons (tVar 2) tNil)) (tC (.int 5))))) (tTest (tOp rGeI (tVar 1) (tCB (rLenU K) (tCons (tVar 2) tNil))))))
  (tRaise (tErr (He.ga K "BadValue") "at" (tCons (tC (.int 2)) tNil)) (WOf E))
  tNext)
  (tSeq (tAsg (tLst tNil) (gName 3))
  (tSeq (tFor (iEnumU K (tCons (tVar 2) tNil)) (gTU K 2 (gCons (gName 4) (gCons (gName 5) gNil)))
  (tSeq (tAsg (tCall (sp_plain_rule K) [] E0 (tCons (tVar 5) (tCons (tCB (rLenU K) (tCons (tVar 2) tNil)) tNil))) (gName 6))
  (tSeq (tIfS (tTest (tOp rIsN (tVar 6) (tC .non)))
  (tRaise (tErr (He.ga K "BadRule") "at" (tCons (tVar 4) tNil)) (WOf E))
  tNext)
  (tDrop (tBM K "list" rAppend (tVar 3) (tCons (tVar 6) tNil))))))
  (tSeq (sFld K (tVar 0) (tVar 1) "_root")
  (sFld K (tVar 0) (tCB (rTuple K) (tCons (tVar 3) tNil)) "_rules"))))))
abbrev N_Schema___init : List Str := ["self", "root", "rules", "plain", "number", "rule", "pairs"]
theorem Rs.wk1 {K : PySem.W.Frag} {F : List Fc} {m : List Sx} {x : Sx} {c f : Str} {d : PyData} {E : XK} (q : Rs K F m c f d E) : Rs K F (x :: m) c f d E := q.wk (fun _ h => h) (.cons _ (.refl _))
theorem r_Schema___init {K : PySem.W.Frag} (M : SchK K) {vs : List V} {H : Hp} {Q : VK} {E : XK} (h : sp_Schema___init K vs H Q E) : t_Schema___init K E { nx := fun _ H' => Q .non H', rt := Q } (start N_Schema___init vs) H := by
  obtain ⟨F, m, x, dx, v1, v2, d1, d2, rfl, hS, h1, h2, hf, q⟩ := h
  unfold schQ at q
  unfold t_Schema___init
  walk_at "go"
  rename_i H1 hS1
  by_cases hlab : labD d1 = false
  · have e : schR d1 d2 = .val 1 := by
      cases d1 with
      | int i => show (if labD (.int i) = true then _ else _) = _; rw [if_neg (by rw [hlab]; exact Bool.false_ne_true)]
      | _ => rfl
    rw [e] at q
    rw [hlab]
    refine g_iteT rfl ?_
    walk_at "go"
    exact g_raise hS1 Has.int (q : Rs K F m "BadValue" "at" (.int 1) E).wk1
  have hlab : labD d1 = true := by simpa using hlab
  obtain ⟨root, rfl⟩ : ∃ i, d1 = .int i := by cases d1 <;> first | exact ⟨_, rfl⟩ | cases hlab
  obtain ⟨rfl, hS2⟩ := popInt (hS1.addD h1)
  have hr : 0 ≤ root ∧ root ≤ 4 := by
    have := Bool.and_eq_true_iff.mp (show (decide (0 ≤ root) && decide (root ≤ 4)) = true from hlab)
    exact ⟨of_decide_eq_true this.1, of_decide_eq_true this.2⟩
  rw [hlab]
  refine g_iteF rfl ?_
  walk_at "goIf"
  have hsc : schR (.int root) d2 = (match seqD d2 with | none => SchR.val 2 | some ds => if 1 ≤ ds.length ∧ ds.length ≤ 5 ∧ root < ds.length then rulesGo ds.length ds [] 0 root else .val 2) := by
    show (if labD (.int root) = true then _ else _) = _
    rw [if_pos hlab]
  rw [hsc] at q
  refine g_seq (g_ifCut (fun b H => S F (Raw x (.ins (schC K) dx []) :: m) H ∧ (b = false → ∃ ds, seqD d2 = some ds ∧ 1 ≤ ds.length ∧ ds.length ≤ 5 ∧ root < ds.length) ∧ (b = true → ∀ ds, seqD d2 = some ds → ¬ (1 ≤ ds.length ∧ ds.length ≤ 5 ∧ root < ds.length))) ?_ ?_)
  · intro QB hB
    walk_at "go"
    rename_i H3 hS3
    rw [seqB]
    cases hsq : seqD d2 with
    | none =>
      refine g_iteT rfl ?_
      exact hB _ _ ⟨hS3, (fun h => nomatch h), fun _ ds h => nomatch (hsq.symm.trans h)⟩
    | some ds =>
      have hv2 := has_seq h2 hsq
      refine g_iteF rfl ?_
      walk_at "go"
      refine g_ite (fun h => ?_) (fun h => ?_)
      · have h := of_decide_eq_true h
        walk_at "go"
        refine g_ite (fun h => ?_) (fun h => ?_)
        · refine hB _ _ ⟨hS3, (fun h => nomatch h), fun _ ds' h' => ?_⟩
          obtain rfl := Option.some.inj (hsq.symm.trans h')
          have h : (!decide ((ds.length : Int) ≤ 5)) = true := h
          simp at h
          omega
        · have h : (!decide ((ds.length : Int) ≤ 5)) = false := h
          simp at h
          walk_at "go"
          refine hB _ _ ⟨hS3, fun hh => ⟨ds, hsq, by omega, by omega, ?_⟩, fun hh ds' h' => ?_⟩
          · have hh := of_decide_eq_false hh
            omega
          · obtain rfl := Option.some.inj (hsq.symm.trans h')
            have hh := of_decide_eq_true hh
            omega
      · have h := of_decide_eq_false h
        walk_at "go"
        refine g_iteT rfl ?_
        refine hB _ _ ⟨hS3, (fun h => nomatch h), fun _ ds' h' => ?_⟩
        obtain rfl := Option.some.inj (hsq.symm.trans h')
        omega
  rintro b H3 ⟨hS3, hbF, hbT⟩
  cases b with
  | true =>
    refine g_iteT rfl ?_
    walk_at "go"
    have e : (match seqD d2 with | none => SchR.val 2 | some ds => if 1 ≤ ds.length ∧ ds.length ≤ 5 ∧ root < ds.length then rulesGo ds.length ds [] 0 root else .val 2) = .val 2 := by
      cases hsq : seqD d2 with
      | none => rfl
      | some ds => exact if_neg (hbT rfl ds hsq)
    rw [e] at q
    exact g_raise hS3 Has.int (q : Rs K F m "BadValue" "at" (.int 2) E).wk1
  | false =>
    refine g_iteF rfl ?_
    obtain ⟨ds, hsq, hl1, hl5, hrl⟩ := hbF rfl
    have hv2 := has_seq h2 hsq
    have hfit := (hf ds hsq).2
    rw [hsq] at q
    have q : (match rulesGo ds.length ds [] 0 root with | .ok root rs => ∀ H', S (sch K (.ref x) root rs :: F) m H' → Q .non H' | .val k => Rs K F m "BadValue" "at" (.int k) E | .rul k => Rs K F m "BadRule" "at" (.int k) E) := by
      have e : (if 1 ≤ ds.length ∧ ds.length ≤ 5 ∧ root < ds.length then rulesGo ds.length ds [] 0 root else SchR.val 2) = rulesGo ds.length ds [] 0 root := if_pos ⟨hl1, hl5, hrl⟩
      rw [← e]
      exact q
    walk_at "go"
    refine g_newL (K := K) (ds := []) hS3 .nil (Nat.zero_le _) ?_
    intro p H4 hS4
    walk_at "go"
    refine w_enumD hS4 hv2 (fun J hJ => ?_)
    refine forJ hJ (fun i σ fs m' => ∃ (rs : List Rule) (a b c : Option V), σ = [some (.ref x), some (.int root), some v2, some (.ref p), a, b, c] ∧ fs = [] ∧ m' = Ls K p (rs.map ruleT) :: Raw x (.ins (schC K) dx []) :: m ∧ rs.length = i ∧ rulesGo ds.length ds [] 0 root = rulesGo ds.length (ds.drop i) rs i root) [] hS4 ⟨[], none, none, none, rfl, rfl, rfl, rfl, rfl⟩ (fun _ _ _ _ _ => trivial) ?_ ?_
    · rintro i d1 w1 σ' fs m' H5 hi ⟨e, he, rfl⟩ ⟨rs, a, b, c, rfl, rfl, rfl, hrs, hgo⟩ hS5
      have hS5 : S (dat K w1 (.tuple [.int (i : Nat), e]) :: F) (Ls K p (rs.map ruleT) :: Raw x (.ins (schC K) dx []) :: m) H5 := hS5
      have hfe := hfit e (List.mem_of_getElem? he)
      have hgo2 : rulesGo ds.length ds [] 0 root = (match ruleD ds.length e with | none => SchR.rul i | some r => rulesGo ds.length (ds.drop (i + 1)) (rs ++ [r]) ((i : Int) + 1) root) := by
        rw [hgo]
        obtain ⟨hl, ee⟩ := List.getElem?_eq_some_iff.mp he
        rw [List.drop_eq_getElem_cons hl, ee]
        rfl
      walk_at "go"
      rename_i w2 w3 hS6
      cases hre : ruleD ds.length e with
      | none =>
        rw [hre] at hS6 hgo2
        have hS6 : S (dat K w2 .none :: _) _ w3 := hS6
        obtain ⟨rfl, hS7⟩ := popNon hS6
        rw [hgo2] at q
        refine g_iteT (decide_eq_true rfl) ?_
        walk_at "go"
        have q : Rs K F m "BadRule" "at" (.int (i : Nat)) E := q
        exact g_raise hS7 Has.int (q.wk (fun g hg => .tail _ (.tail _ hg)) (.cons _ (.cons _ (.refl _))))
      | some r =>
        rw [hre] at hS6 hgo2
        have hS7 : S (dat K w2 (.tuple (r.map pairT)) :: F) (Ls K p (rs.map ruleT) :: Raw x (.ins (schC K) dx []) :: m) w3 := by
          have hS6 : S (dat K w2 (.tuple (r.map pairT)) :: _) _ w3 := hS6
          walk_at "wk"
        have hne : w2 ≠ .non := ne_tup hS7
        refine g_iteF (decide_eq_false hne) ?_
        walk_at "go"
        refine g_app0 (d := .tuple (r.map pairT)) hS7 (by walk_at "has") (by rw [List.length_map]; omega) ?_
        intro H7 hS8
        refine ⟨[], _, ⟨rs ++ [r], _, _, _, rfl, rfl, rfl, by simp [hrs], ?_⟩, ?_⟩
        · rw [hgo2]
          have : ((i + 1 : Nat) : Int) = (i : Int) + 1 := by omega
          rw [this]
        · rw [List.map_append]
          exact hS8.pop
    · rintro σ' fs m' H5 ⟨rs, a, b, c, rfl, rfl, rfl, hrs, hgo⟩ hS5
      have hS5 : S F (Ls K p (rs.map ruleT) :: Raw x (.ins (schC K) dx []) :: m) H5 := hS5
      have hgo2 : rulesGo ds.length ds [] 0 root = .ok root rs := by
        rw [hgo, List.drop_length]
        rfl
      rw [hgo2] at q
      have q : ∀ H', S (sch K (.ref x) root rs :: F) m H' → Q .non H' := q
      have hS6 : S F (Raw x (.ins (schC K) dx []) :: Ls K p (rs.map ruleT) :: m) H5 := hS5.swap
      walk_at "go"
      refine g_sFld hS6 M.cl M.n1 (by decide) ?_
      intro H7 hS7
      walk_at "go"
      rename_i w5 H8 hS8
      refine g_sFld hS8 M.cl M.n2 (Nat.le_of_ble_eq_true rfl) ?_
      intro H9 hS9
      have e1 : putF "_rules" w5 (putF "_root" (.int root) []) = ([("_root", .int root), ("_rules", w5)] : List (Str × V)) := rfl
      rw [e1] at hS9
      have hS10 := frzI (K := K) (ds := schF root rs) hS9 (fun G f => ⟨rfl, .int root, rfl, f _ (.head _), trivial⟩)
      exact q _ (by walk_at "wk")


def t_Schema_root (K : PySem.W.Frag)   : TS :=
  (tRet (tFld K (tVar 0) "_root"))
abbrev N_Schema_root : List Str := ["self"]
def t_Schema_rules (K : PySem.W.Frag)   : TS :=
  (tRet (tFld K (tVar 0) "_rules"))
abbrev N_Schema_rules : List Str := ["self"]
theorem r_Schema_root {K : PySem.W.Frag} (M : SchK K) {vs : List V} {H : Hp} {Q : VK} {E : XK} (h : getSp (schC K) "_root" vs H Q E) : t_Schema_root K { nx := fun _ H' => Q .non H', rt := Q } (start N_Schema_root vs) H := by
  obtain ⟨a, dx, fs, v, rfl, h1, h2, q⟩ := h
  exact ⟨.ref a, rfl, a, _, dx, fs, v, rfl, h1, M.cl, M.n1, h2, q⟩
theorem r_Schema_rules {K : PySem.W.Frag} (M : SchK K) {vs : List V} {H : Hp} {Q : VK} {E : XK} (h : getSp (schC K) "_rules" vs H Q E) : t_Schema_rules K { nx := fun _ H' => Q .non H', rt := Q } (start N_Schema_rules vs) H := by
  obtain ⟨a, dx, fs, v, rfl, h1, h2, q⟩ := h
  exact ⟨.ref a, rfl, a, _, dx, fs, v, rfl, h1, M.cl, M.n2, h2, q⟩
theorem l_Schema_root {K : PySem.W.Frag} {vs : List V} {H : Hp} {Q : VK} {E : XK} (h : getSp (schC K) "_root" vs H Q E) : vs.length = 1 := by
  obtain ⟨_, _, _, _, rfl, _⟩ := h
  rfl
theorem l_Schema_rules {K : PySem.W.Frag} {vs : List V} {H : Hp} {Q : VK} {E : XK} (h : getSp (schC K) "_rules" vs H Q E) : vs.length = 1 := by
  obtain ⟨_, _, _, _, rfl, _⟩ := h
  rfl


/-! ### schemas compared -/
theorem how_eq (a b : How) : decide (a.s = b.s) = decide (a = b) := by cases a <;> cases b <;> rfl
theorem pair_eqv (p q : Int × How) : PyData.eqv (pairT p) (pairT q) = decide (p = q) := by
  obtain ⟨i, h⟩ := p
  obtain ⟨j, k⟩ := q
  unfold pairT
  simp only [PyData.eqv, PyData.eqvAll, Bool.and_true]
  have e1 : ((h.s == k.s) : Bool) = decide (h = k) := by rw [← how_eq]; exact Bool.beq_eq_decide_eq _ _
  rw [e1]
  by_cases h1 : i = j
  · subst h1
    by_cases h2 : h = k
    · subst h2
      simp
    · simp [h2]
  · simp [h1]
theorem rule_eqv : ∀ (r s : Rule), PyData.eqvAll (r.map pairT) (s.map pairT) = decide (r = s)
  | [], [] => by simp [PyData.eqvAll]
  | [], _ :: _ => by simp [PyData.eqvAll]
  | _ :: _, [] => by simp [PyData.eqvAll]
  | p :: r, q :: s => by
    simp only [List.map_cons, PyData.eqvAll]
    rw [pair_eqv, rule_eqv r s]
    by_cases h1 : p = q
    · subst h1
      by_cases h2 : r = s
      · subst h2; simp
      · simp [h2]
    · simp [h1]
theorem rules_eqv : ∀ (r s : List Rule), PyData.eqvAll (r.map ruleT) (s.map ruleT) = decide (r = s)
  | [], [] => by simp [PyData.eqvAll]
  | [], _ :: _ => by simp [PyData.eqvAll]
  | _ :: _, [] => by simp [PyData.eqvAll]
  | p :: r, q :: s => by
    have e : PyData.eqv (ruleT p) (ruleT q) = decide (p = q) := by
      unfold ruleT
      rw [PyData.eqv]
      exact rule_eqv p q
    simp only [List.map_cons, PyData.eqvAll]
    rw [e, rules_eqv r s]
    by_cases h1 : p = q
    · subst h1
      by_cases h2 : r = s
      · subst h2; simp
      · simp [h2]
    · simp [h1]
theorem lay_all {α : Type} {f : α → PyData} (h : ∀ x, (f x).canLay0 = true) : ∀ l : List α, PyData.canLayAll0 (l.map f) = true
  | [] => by simp [PyData.canLayAll0]
  | x :: l => by
    simp only [List.map_cons, PyData.canLayAll0, h x, lay_all h l, Bool.and_self]
theorem depth_all {α : Type} {f : α → PyData} {n : Nat} (h : ∀ x, (f x).depth ≤ n) : ∀ l : List α, PyData.depthAll (l.map f) ≤ n
  | [] => by simp [PyData.depthAll]
  | x :: l => by
    simp only [List.map_cons, PyData.depthAll]
    have := h x
    have := depth_all h l
    omega
theorem shaped_rules (rs : List Rule) : SeqAt.shaped (rulesT rs) = true := by
  have p1 : ∀ p : Int × How, (pairT p).canLay0 = true := fun p => by
    obtain ⟨i, h⟩ := p
    cases h <;> (simp only [pairT, PyData.canLay0, PyData.canLayAll0, How.s]; decide +kernel)
  have p2 : ∀ p : Int × How, (pairT p).depth ≤ 1 := fun p => by
    obtain ⟨i, h⟩ := p
    simp [pairT, PyData.depth, PyData.depthAll]
  have r1 : ∀ r : Rule, (ruleT r).canLay0 = true := fun r => by
    simp only [ruleT, PyData.canLay0]
    exact lay_all p1 r
  have r2 : ∀ r : Rule, (ruleT r).depth ≤ 2 := fun r => by
    simp only [ruleT, PyData.depth]
    have := depth_all p2 r
    omega
  unfold SeqAt.shaped
  rw [Bool.and_eq_true_iff]
  refine ⟨?_, decide_eq_true ?_⟩
  · simp only [rulesT, PyData.canLay0]
    exact lay_all r1 rs
  · simp only [rulesT, PyData.depth]
    have := depth_all r2 rs
    omega
/-- what stands on the other side -/
def othF (K : PySem.W.Frag) (F : List Fc) (y : V) : Option (Int × List Rule) → Prop
  | some (r, rs) => Tells F (sch K y r rs)
  | none => ∃ d, Has K F y d
def othB (r : Int) (rs : List Rule) : Option (Int × List Rule) → Bool
  | some (r2, rs2) => decide (r = r2) && decide (rs = rs2)
  | none => false
def sp_Schema___eq (K : PySem.W.Frag) : Sp := fun vs H Q E => ∃ F : List Fc, ∃ m : List Sx, ∃ x : V, ∃ y : V, ∃ r : Int, ∃ rs : List Rule, ∃ o : Option (Int × List Rule), vs = [x, y] ∧ (S F m H) ∧ (Tells F (sch K x r rs)) ∧ (othF K F y o) ∧ (∀ H', S F m H' → Q (.bl (othB r rs o)) H')
theorem c_Schema___eq {K : PySem.W.Frag} {H : Hp} {Q : VK} {E : XK} {F : List Fc} {m : List Sx} {x : V} {y : V} {r : Int} {rs : List Rule} {o : Option (Int × List Rule)} (h0 : S F m H) (h1 : Tells F (sch K x r rs)) (h2 : othF K F y o) (q : ∀ H', S F m H' → Q (.bl (othB r rs o)) H') : sp_Schema___eq K [x, y] H Q E :=
  ⟨F, m, x, y, r, rs, o, rfl, h0, h1, h2, q⟩
theorem l_Schema___eq {K : PySem.W.Frag} {vs : List V} {H : Hp} {Q : VK} {E : XK} (h : sp_Schema___eq K vs H Q E) : vs.length = 2 := by
  obtain ⟨_, _, _, _, _, _, _, rfl, _⟩ := h
  rfl
theorem g_eqO {K : PySem.W.Frag} {F : List Fc} {m : List Sx} {H : Hp} {x y : V} {r : Int} {rs : List Rule} {o : Option (Int × List Rule)} {Q : VK} (hS : S F m H) (hx : Tells F (sch K x r rs)) (hy : othF K F y o) (q : ∀ H', S F m H' → Q (.bl (othB r rs o)) H') :
    rEqO K (schC K) (sp_Schema___eq K) x y H Q := by
  obtain ⟨a, dx, fs, rfl, h2, h3⟩ := hS.tells hx
  refine ⟨a, dx, fs, rfl, h2, ?_, c_Schema___eq hS hx hy fun H' h => ⟨_, rfl, q H' h⟩⟩
  cases o with
  | some p =>
    obtain ⟨r2, rs2⟩ := p
    obtain ⟨b, dy, gs, hb1, hb2, _⟩ := hS.tells (show Tells F (sch K y r2 rs2) from hy)
    exact .inl ⟨b, dy, gs, hb1, hb2⟩
  | none =>
    obtain ⟨d, hd⟩ := hy
    exact .inr ⟨d, hS.dp hd⟩
def t_Schema___eq (K : PySem.W.Frag)   : TS :=
  (tRet (tAndV (tCB (rIsi K) (tCons (tVar 1) (tCons (tC (.ref (He.ga K "Schema"))) tNil))) (tAndV (tOp (rEqU K) (tFld K (tVar 0) "_root") (tFld K (tVar 1) "_root")) (tOp (rEqU K) (tFld K (tVar 0) "_rules") (tFld K (tVar 1) "_rules")))))
abbrev N_Schema___eq : List Str := ["self", "other"]
theorem r_Schema___eq {K : PySem.W.Frag} (M : SchK K) {vs : List V} {H : Hp} {Q : VK} {E : XK} (h : sp_Schema___eq K vs H Q E) : t_Schema___eq K { nx := fun _ H' => Q .non H', rt := Q } (start N_Schema___eq vs) H := by
  obtain ⟨F, m, x, y, r, rs, o, rfl, hS, hx, hy, q⟩ := h
  unfold t_Schema___eq
  walk_at "go"
  cases o with
  | none =>
    obtain ⟨d, hd⟩ := hy
    refine g_isiD hS hd (M.nd d) ?_
    walk_at "go"
    refine g_iteF rfl ?_
    exact q _ hS
  | some p =>
    obtain ⟨r2, rs2⟩ := p
    have hy : Tells F (sch K y r2 rs2) := hy
    refine g_isiI hS hy M.ii ?_
    walk_at "go"
    refine g_iteT rfl ?_
    walk_at "go"
    refine g_fld hS hx M.cl M.n1 (d := .int r) rfl ?_
    intro w1 hS1'
    obtain ⟨rfl, hS1⟩ := popInt hS1'
    clear hS1'
    walk_at "go"
    refine g_fld hS1 hy M.cl M.n1 (d := .int r2) rfl ?_
    intro w2 hS2'
    obtain ⟨rfl, hS2⟩ := popInt hS2'
    clear hS2'
    walk_at "go"
    refine g_ite (fun h => ?_) (fun h => ?_)
    · walk_at "go"
      refine g_fld hS2 hx M.cl M.n2 (d := rulesT rs) rfl ?_
      intro w3 hS3
      walk_at "go"
      refine g_fld hS3 (Tells.there hy) M.cl M.n2 (d := rulesT rs2) rfl ?_
      intro w4 hS4
      walk_at "go"
      refine g_eqD hS4 (by walk_at "has") (by walk_at "has") (shaped_rules rs) (shaped_rules rs2) ?_
      refine qb q (by walk_at "wk") ?_
      show PyData.eqv (.tuple (rs.map ruleT)) (.tuple (rs2.map ruleT)) = (decide (r = r2) && decide (rs = rs2))
      rw [PyData.eqv, rules_eqv, h, Bool.true_and]
    · refine qb q hS2 ?_
      show false = (decide (r = r2) && decide (rs = rs2))
      rw [h, Bool.false_and]
/-! ### the law's word on a wrong schema -/
def faultD (d1 d2 : PyData) : PyData := match schR d1 d2 with
  | .ok _ _ => .none
  | .val k => .tuple [.str "value", .int k]
  | .rul k => .tuple [.str "rule", .int k]
def sp_law_schema_fault (K : PySem.W.Frag) : Sp := fun vs H Q E => ∃ F : List Fc, ∃ m : List Sx, ∃ v1 : V, ∃ v2 : V, ∃ d1 : PyData, ∃ d2 : PyData, vs = [v1, v2] ∧ (S F m H) ∧ (Has K F v1 d1) ∧ (Has K F v2 d2) ∧ (fitS d2) ∧ (ResH K F m (faultD d1 d2) Q)
theorem c_law_schema_fault {K : PySem.W.Frag} {H : Hp} {Q : VK} {E : XK} {F : List Fc} {m : List Sx} {v1 : V} {v2 : V} {d1 : PyData} {d2 : PyData} (h0 : S F m H) (h1 : Has K F v1 d1) (h2 : Has K F v2 d2) (h3 : fitS d2) (q : ResH K F m (faultD d1 d2) Q) : sp_law_schema_fault K [v1, v2] H Q E :=
  ⟨F, m, v1, v2, d1, d2, rfl, h0, h1, h2, h3, q⟩
theorem l_law_schema_fault {K : PySem.W.Frag} {vs : List V} {H : Hp} {Q : VK} {E : XK} (h : sp_law_schema_fault K vs H Q E) : vs.length = 2 := by
  obtain ⟨_, _, _, _, _, _, rfl, _⟩ := h
  rfl
def t_law_schema_fault (K : PySem.W.Frag)   : TS :=
  (tSeq (tTry K tabE (fun _ _ _ _ => False) [("BadValue", 2, fun a cls d => (tRet (tTup (tCons (tC (.str "value")) (tCons (tErrF K tabE a cls d "at" (tVar 2)) tNil))))),
   ("BadRule", 2, fun a cls d => (tRet (tTup (tCons (tC (.str "rule")) (tCons (tErrF K tabE a cls d "at" (tVar 2)) tNil)))))] (fun W => (tDrop (tMake (He.ga K "Schema") (sp_Schema___init K) [] (EAll 3 W) (tCons (tVar 0) (tCons (tVar 1) tNil))))))
  (tRet (tC .non)))
abbrev N_law_schema_fault : List Str := ["root", "rules", "error"]
theorem r_law_schema_fault {K : PySem.W.Frag} {vs : List V} {H : Hp} {Q : VK} {E : XK} (h : sp_law_schema_fault K vs H Q E) : t_law_schema_fault K { nx := fun _ H' => Q .non H', rt := Q } (start N_law_schema_fault vs) H := by
  obtain ⟨F, m, v1, v2, d1, d2, rfl, hS, h1, h2, hf, q⟩ := h
  unfold t_law_schema_fault
  walk_at "go"
  refine c_Schema hS h1 h2 hf ?_
  unfold schQ
  unfold faultD at q
  cases e : schR d1 d2 with
  | ok root rs =>
    rw [e] at q
    intro x H1 hS1
    walk_at "go"
    exact q _ _ (by refine S.addD ?_ Has.non; walk_at "wk")
  | val k =>
    rw [e] at q
    intro xa H1 hS1 σ hσ
    refine w_hit (c := "BadValue") (f := "at") (by decide +kernel) (by decide +kernel) ?_
    intro ea hea
    match σ, hσ with
    | [s1, s2, s3], _ =>
      walk_at "go"
      refine g_errF hS1 Tells.here (by decide +kernel) ?_
      intro w hS2'
      obtain ⟨rfl, hS2⟩ := popInt hS2'
      clear hS2'
      walk_at "go"
      exact q _ _ (by walk_at "wk")
  | rul k =>
    rw [e] at q
    intro xa H1 hS1 σ hσ
    refine w_miss (c := "BadRule") (f := "at") (by decide +kernel) (by decide +kernel) ?_
    refine w_goHit (by decide +kernel) ?_
    intro ea hea
    match σ, hσ with
    | [s1, s2, s3], _ =>
      walk_at "go"
      refine g_errF hS1 Tells.here (by decide +kernel) ?_
      intro w hS2'
      obtain ⟨rfl, hS2⟩ := popInt hS2'
      clear hS2'
      walk_at "go"
      exact q _ _ (by walk_at "wk")


/-! ### the law's schemas -/
def okR (n : Int) (r : Rule) : Prop := (r.map (·.1)).Pairwise (· < ·) ∧ ∀ p ∈ r, 0 ≤ p.1 ∧ p.1 < n
def softH : How → Bool
  | .maybe => true
  | .any => true
  | _ => false
theorem okR_filter {n : Int} {r : Rule} (f : Int × How → Bool) (h : okR n r) : okR n (r.filter f) :=
  ⟨h.1.sublist ((List.filter_sublist (p := f)).map _), fun p hp => h.2 p (List.mem_filter.mp hp).1⟩
theorem okR_nil {n : Int} : okR n [] := ⟨List.Pairwise.nil, fun _ h => (List.not_mem_nil h).elim⟩
theorem okR_snoc {n : Int} {r : Rule} {j : Int} {h : How} (ok : okR n r) (hj : 0 ≤ j ∧ j < n) (hl : ∀ p ∈ r, p.1 < j) : okR n (r ++ [(j, h)]) := by
  refine ⟨?_, fun p hp => ?_⟩
  · rw [List.map_append, List.pairwise_append]
    refine ⟨ok.1, by simp, fun a ha b hb => ?_⟩
    simp at hb
    subst hb
    obtain ⟨p, hp, rfl⟩ := List.mem_map.mp ha
    exact hl p hp
  · rcases List.mem_append.mp hp with hp | hp
    · exact ok.2 p hp
    · simp at hp
      subst hp
      exact hj
theorem okR_len {n : Int} : ∀ {r : Rule}, okR n r → 0 ≤ n → (r.length : Int) ≤ n := by
  intro r h hn
  have key : ∀ (l : List Int) (a : Int), l.Pairwise (· < ·) → (∀ x ∈ l, a ≤ x ∧ x < n) → a ≤ n → a + (l.length : Int) ≤ n := by
    intro l
    induction l with
    | nil => intro a _ _ h; simpa using h
    | cons b l ih =>
      intro a hp hb ha
      obtain ⟨h1, h2⟩ := List.pairwise_cons.mp hp
      have hb1 := hb b (.head _)
      have := ih (b + 1) h2 (fun x hx => ⟨by have := h1 x hx; omega, (hb x (.tail _ hx)).2⟩) (by omega)
      rw [List.length_cons]
      omega
  have := key (r.map (·.1)) 0 h.1 (fun x hx => by
    obtain ⟨p, hp, rfl⟩ := List.mem_map.mp hx
    exact h.2 p hp) hn
  rw [List.length_map] at this
  omega
theorem how_at {j : Int} (h0 : 0 ≤ j) (h1 : j < 4) : ∃ h : How, atI [PyData.str "one", .str "maybe", .str "any", .str "some"] j = some (.str h.s) := by
  have e : j = 0 ∨ j = 1 ∨ j = 2 ∨ j = 3 := by omega
  rcases e with rfl | rfl | rfl | rfl
  · exact ⟨.one, at0⟩
  · exact ⟨.maybe, at1⟩
  · exact ⟨.any, at2⟩
  · exact ⟨.some, at3⟩
theorem soft_any (h : How) : ([PyData.str "maybe", .str "any"].any fun z => PyData.eqv z (.str h.s)) = softH h := by cases h <;> rfl
theorem hard_any (h : How) : ([PyData.str "one", .str "some"].any fun z => PyData.eqv z (.str h.s)) = !softH h := by cases h <;> rfl
theorem shaped_how (h : How) : SeqAt.shaped (.str h.s) = true := by cases h <;> decide +kernel
theorem filt_pair (f : Int × How → Bool) (g : PyData → Bool) (h : ∀ p, g (pairT p) = f p) (r : Rule) : (r.map pairT).filter g = (r.filter f).map pairT := by
  rw [List.filter_map]
  congr 1
  exact List.filter_congr fun p _ => h p
/-- whether a pair's word is maybe or any -/
def softD : PyData → Bool
  | .tuple [_, .str x] => match howOf x with
    | some h => softH h
    | none => false
  | _ => false
theorem softD_pair (p : Int × How) : softD (pairT p) = softH p.2 := by
  show (match howOf p.2.s with | some h => softH h | none => false) = _
  rw [How.of_s]
theorem map_at {α : Type} {f : α → PyData} {l : List α} {i : Nat} {d : PyData} (h : (l.map f)[i]? = some d) : ∃ x, l[i]? = some x ∧ d = f x := by
  rw [List.getElem?_map] at h
  cases e : l[i]? with
  | none => rw [e] at h; cases h
  | some x =>
    rw [e] at h
    exact ⟨x, rfl, (Option.some.inj h).symm⟩
theorem okRs_snoc {n : Int} {rs : List Rule} {r : Rule} (h : ∀ r ∈ rs, okR n r) (hr : okR n r) : ∀ q ∈ rs ++ [r], okR n q := fun q hq => by
  rcases List.mem_append.mp hq with hq | hq
  · exact h q hq
  · simp at hq
    subst hq
    exact hr
def sp_law_rules (K : PySem.W.Frag) : Sp := fun vs H Q _ => ∃ F m r l, ∃ ms : List Int, ∃ n : Int, vs = [r, .ref l, .int n] ∧ S F m H ∧ Spot l ∈ m ∧ Has K F r (.list (intL ms)) ∧ ms ≠ [] ∧ 1 ≤ n ∧ n ≤ 5 ∧ ∀ rs : List Rule, (rs.length : Int) = n → (∀ r ∈ rs, okR n r) → ResH K F m (rulesT rs) Q
theorem c_law_rules {K : PySem.W.Frag} {F : List Fc} {m : List Sx} {H : Hp} {r : V} {l : Addr} {ms : List Int} {n : Int} {Q : VK} {E : XK} (hS : S F m H) (hm : Spot l ∈ m) (hr : Has K F r (.list (intL ms))) (hne : ms ≠ []) (h1 : 1 ≤ n) (h5 : n ≤ 5)
    (q : ∀ rs : List Rule, (rs.length : Int) = n → (∀ r ∈ rs, okR n r) → ResH K F m (rulesT rs) Q) : sp_law_rules K [r, .ref l, .int n] H Q E := ⟨F, m, r, l, ms, n, rfl, hS, hm, hr, hne, h1, h5, q⟩
theorem l_law_rules {K : PySem.W.Frag} {vs : List V} {H : Hp} {Q : VK} {E : XK} (h : sp_law_rules K vs H Q E) : vs.length = 3 := by
  obtain ⟨_, _, _, _, _, _, rfl, _⟩ := h
  rfl
local macro_rules | `(tactic| walk_at "call") => `(tactic| ((with_reducible refine' c_law_rules ?k1 ?k2 ?k3 ?k4 ?k5 ?k6 ?_); (case k1 => assumption); (case k2 => walk_at "mem"); (case k3 => walk_at "has"); (case k4 => assumption); (case k5 => omega); (case k6 => omega); intro rs hrl hrs w H hS))
def t_law_rules (K : PySem.W.Frag)   : TS :=
  (tSeq (tAsg (tLst tNil) (gName 3))
  (tSeq (tFor (iRng1 (tCons (tVar 2) tNil)) (gName 4)
  (tSeq (tAsg (tLst tNil) (gName 5))
  (tSeq (tFor (iRng1 (tCons (tVar 2) tNil)) (gName 6)
  (tSeq (tAsg (tCall (sp_law_take K) [] E0 (tCons (tVar 0) (tCons (tVar 1) (tCons (tC (.int 9)) tNil)))) (gName 7))
  (tIfS (tTest (tOp rLtI (tVar 7) (tC (.int 4))))
  (tDrop (tBM K "list" rAppend (tVar 5) (tCons (tTup (tCons (tVar 6) (tCons (tOp (rIx K) (tLst (tCons (tC (.str "one")) (tCons (tC (.str "maybe")) (tCons (tC (.str "any")) (tCons (tC (.str "some")) tNil))))) (tVar 7)) tNil))) tNil)))
  tNext)))
  (tSeq (tIfS (tTest (tOp (rEqU K) (tCall (sp_law_take K) [] E0 (tCons (tVar 0) (tCons (tVar 1) (tCons (tC (.int 4)) tNil)))) (tC (.int 0))))
  (tAsg (tLc (iSeq K (tVar 5)) (gName 8) (tTest (tOp (rInU K false) (tOp (rIx K) (tVar 8) (tC (.int 1))) (tLst (tCons (tC (.str "maybe")) (tCons (tC (.str "any")) tNil))))) (tVar 8) [8]) (gName 5))
  tNext)
  (tDrop (tBM K "list" rAppend (tVar 3) (tCons (tCB (rTuple K) (tCons (tVar 5) tNil)) tNil)))))))
  (tRet (tCB (rTuple K) (tCons (tVar 3) tNil)))))
abbrev N_law_rules : List Str := ["row", "spot", "labels", "rules", "k", "pairs", "j", "style", "pair"]
theorem r_law_rules {K : PySem.W.Frag} {vs : List V} {H : Hp} {Q : VK} {E : XK} (h : sp_law_rules K vs H Q E) : t_law_rules K { nx := fun _ H' => Q .non H', rt := Q } (start N_law_rules vs) H := by
  obtain ⟨F, m, r, l, ms, n, rfl, hS, hm, hr, hne, h1, h5, q⟩ := h
  unfold t_law_rules
  walk_at "go"
  refine g_newL (K := K) (ds := []) (by assumption) .nil (Nat.zero_le _) ?_
  intro p H1 hS1
  walk_at "go"
  refine g_range (by assumption) ⟨by omega, by omega⟩ (fun i σ m' => ∃ (rs : List Rule) (a b c d e : Option V), σ = [some r, some (.ref l), some (.int n), some (.ref p), a, b, c, d, e] ∧ m' = Ls K p (rs.map ruleT) :: m ∧ rs.length = i ∧ ∀ r ∈ rs, okR n r)
    ⟨[], none, none, none, none, none, rfl, rfl, rfl, fun _ h => (List.not_mem_nil h).elim⟩ ?_ ?_
  · rintro i σ' m' H2 hi ⟨rs, a, b, c, d, e, rfl, rfl, hlen, hok⟩ hS2
    walk_at "go"
    refine g_newL (K := K) (ds := []) (by assumption) .nil (Nat.zero_le _) ?_
    intro p2 H3 hS3
    walk_at "go"
    refine g_range (by assumption) ⟨by omega, by omega⟩ (fun j σ m' => ∃ (rl : Rule) (c d e : Option V), σ = [some r, some (.ref l), some (.int n), some (.ref p), some (.int i), some (.ref p2), c, d, e] ∧ m' = Ls K p2 (rl.map pairT) :: Ls K p (rs.map ruleT) :: m ∧ rl.length ≤ j ∧ okR n rl ∧ ∀ q ∈ rl, q.1 < j)
      ⟨[], c, d, e, rfl, rfl, Nat.zero_le _, okR_nil, fun _ h => (List.not_mem_nil h).elim⟩ ?_ ?_
    · rintro j σ' m' H4 hj ⟨rl, c, d, e, rfl, rfl, hll, hokl, hlt⟩ hS4
      walk_at "go"
      refine g_ite (fun h => ?_) (fun h => ?_)
      · walk_at "go"
        rename_i j1 Hj j10 j11 hSj
        have hlt4 := of_decide_eq_true h
        obtain ⟨hw, hat⟩ := how_at j10 hlt4
        refine g_newL (K := K) (ds := [.str "one", .str "maybe", .str "any", .str "some"]) (by assumption) (by walk_at "hasA") (Nat.le_of_ble_eq_true rfl) ?_
        intro p3 H5 hS5
        have hS5 := frzL hS5
        walk_at "go"
        refine g_app0 (d := .tuple [.int (j : Int), .str hw.s]) (by assumption) (by walk_at "has") (by rw [List.length_map]; omega) ?_
        intro H6 hS6
        have e1 : rl.map pairT ++ [.tuple [.int (j : Int), .str hw.s]] = (rl ++ [((j : Int), hw)]).map pairT := by rw [List.map_append] <;> rfl
        rw [e1] at hS6
        exact ⟨_, ⟨rl ++ [((j : Int), hw)], _, _, _, rfl, rfl, by rw [List.length_append, List.length_singleton]; omega, okR_snoc hokl ⟨by omega, hj⟩ hlt, fun q hq => by
          rcases List.mem_append.mp hq with hq | hq
          · have := hlt q hq; omega
          · simp at hq
            subst hq
            show (j : Int) < _
            omega⟩, by walk_at "wk"⟩
      · walk_at "go"
        exact ⟨_, ⟨rl, _, _, _, rfl, rfl, by omega, hokl, fun q hq => by have := hlt q hq; omega⟩, by walk_at "wk"⟩
    · rintro σ' m' H4 ⟨rl, c, d, e, rfl, rfl, hll, hokl, hlt⟩ hS4
      walk_at "go"
      refine g_ite (fun h => ?_) (fun h => ?_)
      · walk_at "go"
        refine lcFMO (m := Ls K p2 (rl.map pairT) :: Ls K p (rs.map ruleT) :: m) softD id (by assumption) (by walk_at "mem") (by rw [List.length_map]; omega) ?_ ?_
        · rintro i0 d0 x0 Dd acc H6 Nx hd0 hS6 hY hN
          obtain ⟨q0, hq0, rfl⟩ := map_at hd0
          have hS6 : S (dat K x0 (.tuple [.int q0.1, .str q0.2.s]) :: F) (Ls K Dd acc :: Ls K p2 (rl.map pairT) :: Ls K p (rs.map ruleT) :: m) H6 := hS6
          rw [softD_pair] at hY hN
          walk_at "go"
          refine g_newL (K := K) (ds := [.str "maybe", .str "any"]) (by assumption) (by walk_at "hasA") (Nat.le_of_ble_eq_true rfl) ?_
          intro p4 H7 hS7
          have hS7 := frzL hS7
          refine g_in (d := .str q0.2.s) (ds := [.str "maybe", .str "any"]) hS7 (by walk_at "has") (.inl Has.here) (shaped_how _) (by decide +kernel) ?_
          rw [soft_any]
          walk_at "go"
          refine g_ite (fun h => ?_) (fun h => ?_)
          · walk_at "go"
            exact hY h _ _ (by walk_at "wk")
          · exact hN h _ (by walk_at "wk")
        · intro Dd H6 hS6
          rw [filt_pair (fun p => softH p.2) softD softD_pair, List.map_id] at hS6
          walk_at "go"
          rename_i w8 H8 hS8
          have hS8 : S (dat K w8 (ruleT (rl.filter fun p => softH p.2)) :: F) (Ls K p (rs.map ruleT) :: m) H8 := by walk_at "wk"
          refine g_app0 (d := ruleT (rl.filter fun p => softH p.2)) hS8 (by walk_at "has") (by rw [List.length_map]; omega) ?_
          intro H9 hS9
          exact ⟨_, ⟨rs ++ [rl.filter fun p => softH p.2], _, _, _, _, _, rfl, rfl, by rw [List.length_append, List.length_singleton, hlen], okRs_snoc hok (okR_filter _ hokl)⟩, by rw [List.map_append]; exact hS9.pop⟩
      · walk_at "go"
        rename_i w8 H8 hS8
        have hS8 : S (dat K w8 (ruleT rl) :: F) (Ls K p (rs.map ruleT) :: m) H8 := by walk_at "wk"
        refine g_app0 (d := ruleT rl) hS8 (by walk_at "has") (by rw [List.length_map]; omega) ?_
        intro H9 hS9
        exact ⟨_, ⟨rs ++ [rl], _, _, _, _, _, rfl, rfl, by rw [List.length_append, List.length_singleton, hlen], okRs_snoc hok hokl⟩, by rw [List.map_append]; exact hS9.pop⟩
  · rintro σ' m' H2 ⟨rs, a, b, c, d, e, rfl, rfl, hlen, hok⟩ hS2
    walk_at "go"
    exact q rs (by omega) hok _ _ (by walk_at "wk")


theorem at_ints {L : List Int} {j : Int} (h0 : 0 ≤ j) (h1 : j < L.length) : ∃ i ∈ L, atI (L.map PyData.int) j = some (.int i) := by
  have hl : j.toNat < L.length := by omega
  have e : (L.map PyData.int)[j.toNat]? = some (.int L[j.toNat]) := by rw [List.getElem?_map, List.getElem?_eq_getElem hl] <;> rfl
  exact ⟨_, List.getElem_mem hl, at_int h0 e⟩
/-- a schema as the law holds it -/
structure SchOk (root : Int) (rs : List Rule) : Prop where
  r0 : 0 ≤ root
  r1 : root < rs.length
  l5 : rs.length ≤ 5
  ok : ∀ r ∈ rs, okR rs.length r
theorem SchOk.l1 {root : Int} {rs : List Rule} (h : SchOk root rs) : 1 ≤ rs.length := by
  have := h.r0
  have := h.r1
  omega
theorem okRs_set {n : Int} {rs : List Rule} {i : Nat} {r : Rule} (h : ∀ r ∈ rs, okR n r) (hr : okR n r) : ∀ q ∈ rs.set i r, okR n q := fun q hq => by
  rcases List.mem_or_eq_of_mem_set hq with hq | hq
  · exact h q hq
  · subst hq
    exact hr
theorem ixN_in {n : Nat} {k : Int} (h0 : 0 ≤ k) (h1 : k < n) : ixN n k = some k.toNat := by
  unfold ixN
  rw [if_pos h0, if_pos h1]
/-- a pair above k, or a soft one -/
def aboveD (k : Int) : PyData → Bool
  | .tuple [.int a, .str x] => decide (k < a) || softD (.tuple [.int a, .str x])
  | _ => false
theorem aboveD_pair {k : Int} (p : Int × How) : aboveD k (pairT p) = (decide (k < p.1) || softH p.2) := by
  show (decide (k < p.1) || softD (pairT p)) = _
  rw [softD_pair]


theorem hgts_le {n : Nat} : ∀ {ds : List PyData}, (∀ d ∈ ds, hgt d ≤ n) → hgts ds ≤ n
  | [], _ => Nat.zero_le _
  | d :: ds, h => Nat.max_le.mpr ⟨h d (.head _), hgts_le fun x hx => h x (.tail _ hx)⟩
theorem plainDs_all : ∀ {ds : List PyData}, (∀ d ∈ ds, plainD d = true) → plainDs ds = true
  | [], _ => rfl
  | d :: ds, h => by
    show (plainD d && plainDs ds) = true
    rw [h d (.head _), plainDs_all fun x hx => h x (.tail _ hx)] <;> rfl
theorem hgt_rule (r : Rule) : hgt (ruleT r) ≤ 2 := by
  show hgts (r.map pairT) + 1 ≤ 2
  have := hgts_le (n := 1) (ds := r.map pairT) fun d hd => by
    obtain ⟨p, _, rfl⟩ := List.mem_map.mp hd
    exact Nat.le_refl _
  omega
theorem hgt_rules (rs : List Rule) : hgt (rulesT rs) ≤ 3 := by
  show hgts (rs.map ruleT) + 1 ≤ 3
  have := hgts_le (n := 2) (ds := rs.map ruleT) fun d hd => by
    obtain ⟨p, _, rfl⟩ := List.mem_map.mp hd
    exact hgt_rule p
  omega
theorem plain_rule_ {n : Int} {r : Rule} (h : okR n r) (h0 : 0 ≤ n) (hn : n ≤ 1000) : plainD (ruleT r) = true := by
  have hl := okR_len h h0
  show (decide ((r.map pairT).length ≤ 100000) && plainDs (r.map pairT)) = true
  rw [decide_eq_true (by rw [List.length_map]; omega), plainDs_all fun d hd => by
    obtain ⟨p, _, rfl⟩ := List.mem_map.mp hd
    rfl] <;> rfl
theorem plain_rules {n : Int} {rs : List Rule} (h : ∀ r ∈ rs, okR n r) (hl : rs.length ≤ 1000) (h0 : 0 ≤ n) (hn : n ≤ 1000) : plainD (rulesT rs) = true := by
  show (decide ((rs.map ruleT).length ≤ 100000) && plainDs (rs.map ruleT)) = true
  rw [decide_eq_true (by rw [List.length_map]; omega), plainDs_all fun d hd => by
    obtain ⟨p, hp, rfl⟩ := List.mem_map.mp hd
    exact plain_rule_ (h p hp) h0 hn] <;> rfl
theorem seq_loose (ds : List PyData) (t : Int) : seqD (loose (.tuple ds) t) = some (looses ds (t + 1)) := by
  show seqD (if t % 2 = 0 then _ else _) = _
  by_cases h : t % 2 = 0
  · rw [if_pos h] <;> rfl
  · rw [if_neg h] <;> rfl
theorem pairP_loose {n : Int} {p : Int × How} {t : Int} (h0 : 0 ≤ p.1) (h1 : p.1 < n) (hn : n ≤ 5) : pairP n (loose (pairT p) t) = some p := by
  unfold pairP
  have e : seqD (loose (pairT p) t) = some [.int p.1, .str p.2.s] := seq_loose _ _
  rw [e]
  show (if labD (.int p.1) = true ∧ p.1 < n then (howOf p.2.s).map fun h => (p.1, h) else none) = some p
  rw [if_pos ⟨by show (decide (0 ≤ p.1) && decide (p.1 ≤ 4)) = true; rw [decide_eq_true h0, decide_eq_true (by omega)] <;> rfl, h1⟩, How.of_s]
  rfl
theorem ruleP_loose {n : Int} (hn : n ≤ 5) {t : Int} : ∀ (r acc : Rule), okR n (acc ++ r) → ruleP n (looses (r.map pairT) t) acc = some (acc ++ r)
  | [], acc, _ => by rw [List.append_nil]; rfl
  | p :: r, acc, h => by
    have hp := h.2 p (by simp)
    show (match pairP n (loose (pairT p) t) with | none => none | some p => if (match acc.getLast? with | some q => decide (p.1 ≤ q.1) | none => false) = true then none else ruleP n (looses (r.map pairT) t) (acc ++ [p])) = _
    rw [pairP_loose hp.1 hp.2 hn]
    have hlast : (match acc.getLast? with | some q => decide (p.1 ≤ q.1) | none => false) = false := by
      cases e : acc.getLast? with
      | none => rfl
      | some q =>
        have hq : q ∈ acc := List.mem_of_getLast? e
        have h1 := h.1
        rw [List.map_append, List.pairwise_append] at h1
        have := h1.2.2 q.1 (List.mem_map.mpr ⟨q, hq, rfl⟩) p.1 (by simp)
        exact decide_eq_false (by omega)
    dsimp only
    rw [hlast, if_neg Bool.false_ne_true, ruleP_loose hn r (acc ++ [p]) (by rw [List.append_assoc]; exact h), List.append_assoc] <;> rfl
theorem rules_loose {root : Int} {rs : List Rule} (h : SchOk root rs) (t : Int) : RulesOk (loose (rulesT rs) t) (looses (rs.map ruleT) (t + 1)) rs := by
  have hlen : (looses (rs.map ruleT) (t + 1)).length = rs.length := by rw [looses_map, List.length_map, List.length_map]
  have hl5 := h.l5
  refine ⟨seq_loose _ _, fun x hx => ?_, ?_, by rw [hlen]; exact h.l1, by rw [hlen]; exact h.l5⟩
  · rw [looses_map] at hx
    obtain ⟨d, hd, rfl⟩ := List.mem_map.mp hx
    obtain ⟨r, hr, rfl⟩ := List.mem_map.mp hd
    intro xs e
    rw [show seqD (loose (ruleT r) (t + 1)) = some (looses (r.map pairT) (t + 1 + 1)) from seq_loose _ _] at e
    cases e
    have hlr := okR_len (h.ok r hr) (by omega)
    refine ⟨by rw [looses_map, List.length_map, List.length_map]; omega, fun x hx a b e2 => ?_⟩
    rw [looses_map] at hx
    obtain ⟨d, hd, rfl⟩ := List.mem_map.mp hx
    obtain ⟨p, hp, rfl⟩ := List.mem_map.mp hd
    rw [show seqD (loose (pairT p) (t + 1 + 1)) = some [.int p.1, .str p.2.s] from seq_loose _ _] at e2
    cases e2
    exact shaped_how _
  · rw [hlen, looses_map, List.map_map, List.map_map]
    refine List.map_congr_left fun r hr => ?_
    show ruleD rs.length (loose (ruleT r) (t + 1)) = some r
    unfold ruleD
    rw [show seqD (loose (ruleT r) (t + 1)) = some (looses (r.map pairT) (t + 1 + 1)) from seq_loose _ _]
    exact ruleP_loose (by omega) r [] (h.ok r hr)


/-! ### rules in any form -/
theorem pairP_seq {n : Int} {p : Int × How} {d : PyData} (e : seqD d = some [.int p.1, .str p.2.s]) (h0 : 0 ≤ p.1) (h1 : p.1 < n) (hn : n ≤ 5) : pairP n d = some p := by
  unfold pairP
  rw [e]
  show (if labD (.int p.1) = true ∧ p.1 < n then (howOf p.2.s).map fun h => (p.1, h) else none) = some p
  rw [if_pos ⟨by show (decide (0 ≤ p.1) && decide (p.1 ≤ 4)) = true; rw [decide_eq_true h0, decide_eq_true (by omega)] <;> rfl, h1⟩, How.of_s]
  rfl
theorem ruleP_enc {n : Int} (hn : n ≤ 5) {f : Int × How → PyData} (hf : ∀ p, seqD (f p) = some [.int p.1, .str p.2.s]) : ∀ (r acc : Rule), okR n (acc ++ r) → ruleP n (r.map f) acc = some (acc ++ r)
  | [], acc, _ => by rw [List.append_nil]; rfl
  | p :: r, acc, h => by
    have hp := h.2 p (by simp)
    show (match pairP n (f p) with | none => none | some p => if (match acc.getLast? with | some q => decide (p.1 ≤ q.1) | none => false) = true then none else ruleP n (r.map f) (acc ++ [p])) = _
    rw [pairP_seq (hf p) hp.1 hp.2 hn]
    have hlast : (match acc.getLast? with | some q => decide (p.1 ≤ q.1) | none => false) = false := by
      cases e : acc.getLast? with
      | none => rfl
      | some q =>
        have hq : q ∈ acc := List.mem_of_getLast? e
        have h1 := h.1
        rw [List.map_append, List.pairwise_append] at h1
        have := h1.2.2 q.1 (List.mem_map.mpr ⟨q, hq, rfl⟩) p.1 (by simp)
        exact decide_eq_false (by omega)
    dsimp only
    rw [hlast, if_neg Bool.false_ne_true, ruleP_enc hn hf r (acc ++ [p]) (by rw [List.append_assoc]; exact h), List.append_assoc] <;> rfl
theorem ruleD_enc {n : Int} (hn : n ≤ 5) {f : Int × How → PyData} (hf : ∀ p, seqD (f p) = some [.int p.1, .str p.2.s]) {r : Rule} {d : PyData} (hd : seqD d = some (r.map f)) (h : okR n r) : ruleD n d = some r := by
  unfold ruleD
  rw [hd]
  exact ruleP_enc hn hf r [] h
theorem fitR_enc {n : Int} (h0 : 0 ≤ n) (hn : n ≤ 5) {f : Int × How → PyData} (hf : ∀ p, seqD (f p) = some [.int p.1, .str p.2.s]) {r : Rule} {d : PyData} (hd : seqD d = some (r.map f)) (h : okR n r) : fitR d := by
  intro xs e
  rw [hd] at e
  cases e
  have hlr := okR_len h h0
  refine ⟨by rw [List.length_map]; omega, fun x hx a b e2 => ?_⟩
  obtain ⟨p, hp, rfl⟩ := List.mem_map.mp hx
  rw [hf p] at e2
  cases e2
  exact shaped_how _
theorem rules_enc {root : Int} {rs : List Rule} (h : SchOk root rs) {f : Int × How → PyData} {g : Rule → PyData} {d : PyData} (hd : seqD d = some (rs.map g)) (hg : ∀ r, seqD (g r) = some (r.map f)) (hf : ∀ p, seqD (f p) = some [.int p.1, .str p.2.s]) : RulesOk d (rs.map g) rs := by
  have hl5 := h.l5
  refine ⟨hd, fun x hx => ?_, ?_, by rw [List.length_map]; exact h.l1, by rw [List.length_map]; exact h.l5⟩
  · obtain ⟨r, hr, rfl⟩ := List.mem_map.mp hx
    exact fitR_enc (by omega) (by omega) hf (hg r) (h.ok r hr)
  · rw [List.length_map, List.map_map]
    refine List.map_congr_left fun r hr => ?_
    exact ruleD_enc (by omega) hf (hg r) (h.ok r hr)
theorem rulesGo_ok {n root : Int} : ∀ (ds : List PyData) (rs acc : List Rule) (i : Int), ds.map (ruleD n) = rs.map Option.some → rulesGo n ds acc i root = .ok root (acc ++ rs)
  | [], [], acc, i, _ => by rw [List.append_nil]; rfl
  | [], _ :: _, _, _, h => by cases h
  | _ :: _, [], _, _, h => by cases h
  | d :: ds, r :: rs, acc, i, h => by
    rw [List.map_cons, List.map_cons] at h
    obtain ⟨h1, h2⟩ := List.cons.inj h
    show (match ruleD n d with | none => SchR.rul i | some r => rulesGo n ds (acc ++ [r]) (i + 1) root) = _
    rw [h1]
    show rulesGo n ds (acc ++ [r]) (i + 1) root = _
    rw [rulesGo_ok ds rs _ _ h2, List.append_assoc] <;> rfl
theorem schR_seq {root : Int} {d : PyData} {ds : List PyData} (h : seqD d = some ds) (h0 : 0 ≤ root) (h4 : root ≤ 4) : schR (.int root) d = if 1 ≤ ds.length ∧ ds.length ≤ 5 ∧ root < ds.length then rulesGo ds.length ds [] 0 root else .val 2 := by
  show (if labD (.int root) = true then (match seqD d with | none => SchR.val 2 | some ds => if 1 ≤ ds.length ∧ ds.length ≤ 5 ∧ root < ds.length then rulesGo ds.length ds [] 0 root else .val 2) else .val 1) = _
  rw [if_pos (by show (decide (0 ≤ root) && decide (root ≤ 4)) = true; rw [decide_eq_true h0, decide_eq_true h4] <;> rfl), h]
theorem schR_ok {root : Int} {d : PyData} {ds : List PyData} {rs : List Rule} (h : RulesOk d ds rs) (h0 : 0 ≤ root) (h1 : root < ds.length) : schR (.int root) d = .ok root rs := by
  have := h.l5
  rw [schR_seq h.sq h0 (by omega), if_pos ⟨h.l1, h.l5, h1⟩, rulesGo_ok ds rs [] 0 h.rd] <;> rfl
theorem fitS_ok {d : PyData} {ds : List PyData} {rs : List Rule} (h : RulesOk d ds rs) : fitS d := fun xs e => by
  rw [h.sq] at e
  cases e
  exact ⟨Nat.le_trans h.l5 (by decide), h.fit⟩
/-- of rules as they are -/
theorem rules_self {root : Int} {rs : List Rule} (h : SchOk root rs) : RulesOk (rulesT rs) (rs.map ruleT) rs := rules_enc h (f := pairT) (g := ruleT) rfl (fun _ => rfl) fun _ => rfl
/-! ### wrong rules -/
def fitRB (d : PyData) : Bool := match seqD d with
  | none => true
  | some xs => decide (xs.length ≤ 100000) && xs.all fun x => match seqD x with
    | some [_, b] => SeqAt.shaped b
    | _ => true
theorem fitR_of {d : PyData} (h : fitRB d = true) : fitR d := fun xs e => by
  unfold fitRB at h
  rw [e] at h
  obtain ⟨h1, h2⟩ := Bool.and_eq_true_iff.mp h
  refine ⟨of_decide_eq_true h1, fun x hx a b e2 => ?_⟩
  have := List.all_eq_true.mp h2 x hx
  rw [e2] at this
  exact this
def wrongL (n : Int) : List PyData := [.none, .int 5, .tuple [.tuple [.int n, .str "any"]], .tuple [.tuple [.int 0, .str "none"]], .tuple [.tuple [.int 0, .none]], .tuple [.tuple [.int 0]], .tuple [.tuple [.int 0, .str "any", .int 1]],
  .tuple [.tuple [.int 0, .str "any"], .tuple [.int 0, .str "one"]], .tuple [.tuple [.bool true, .str "any"]], .tuple [.tuple [.int (-1), .str "any"]], .str "ab"]
theorem wrong_bad {n : Int} (h1 : 1 ≤ n) (h5 : n ≤ 5) : ∀ e ∈ wrongL n, ruleD n e = none ∧ fitR e := by
  have hn : n = 1 ∨ n = 2 ∨ n = 3 ∨ n = 4 ∨ n = 5 := by omega
  have key : ((wrongL n).all fun e => decide (ruleD n e = none) && fitRB e) = true := by
    rcases hn with rfl | rfl | rfl | rfl | rfl <;> decide +kernel
  intro e he
  obtain ⟨h1, h2⟩ := Bool.and_eq_true_iff.mp (List.all_eq_true.mp key e he)
  exact ⟨of_decide_eq_true h1, fitR_of h2⟩
theorem rulesGo_bad {n root : Int} : ∀ (k : Nat) (ds : List PyData) (acc : List Rule) (i : Int) (e : PyData), ds[k]? = some e → ruleD n e = none → (∀ j, j < k → ∃ x r, ds[j]? = some x ∧ ruleD n x = some r) → rulesGo n ds acc i root = .rul (i + k)
  | 0, [], _, _, _, h, _, _ => by simp at h
  | 0, d :: ds, acc, i, e, h, hb, _ => by
    simp at h
    subst h
    show (match ruleD n d with | none => SchR.rul i | some r => rulesGo n ds (acc ++ [r]) (i + 1) root) = _
    rw [hb]
    simp
  | k + 1, [], _, _, _, h, _, _ => by simp at h
  | k + 1, d :: ds, acc, i, e, h, hb, hg => by
    obtain ⟨x, r, h1, h2⟩ := hg 0 (Nat.zero_lt_succ _)
    simp at h1
    subst h1
    show (match ruleD n d with | none => SchR.rul i | some r => rulesGo n ds (acc ++ [r]) (i + 1) root) = _
    rw [h2]
    show rulesGo n ds (acc ++ [r]) (i + 1) root = _
    rw [rulesGo_bad k ds _ _ e (by simpa using h) hb fun j hj => by
      obtain ⟨x, r, h3, h4⟩ := hg (j + 1) (by omega)
      exact ⟨x, r, by simpa using h3, h4⟩]
    congr 1
    omega
theorem fault_rule {root : Int} {rs : List Rule} (h : SchOk root rs) {ds : List PyData} {k : Nat} {e : PyData} (hl : ds.length = rs.length) (hk : ds[k]? = some e) (hb : ruleD rs.length e = none) (hg : ∀ j, j < k → ds[j]? = (rs.map ruleT)[j]?) : faultD (.int root) (.tuple ds) = .tuple [.str "rule", .int k] := by
  have hl5 := h.l5
  have hl1 := h.l1
  have hr0 := h.r0
  have hr1 := h.r1
  have hkl : k < ds.length := (List.getElem?_eq_some_iff.mp hk).1
  have e1 : schR (.int root) (.tuple ds) = .rul k := by
    rw [schR_seq (ds := ds) rfl h.r0 (by omega), if_pos ⟨by omega, by omega, by omega⟩, hl]
    have := rulesGo_bad (n := (rs.length : Int)) (root := root) k ds [] 0 e hk hb fun j hj => by
      have hjr : j < rs.length := by omega
      refine ⟨ruleT rs[j], rs[j], ?_, ruleD_enc (by omega) (f := pairT) (fun _ => rfl) rfl (h.ok _ (List.getElem_mem hjr))⟩
      rw [hg j hj, List.getElem?_map, List.getElem?_eq_getElem hjr] <;> rfl
    rw [this, Int.zero_add]
  unfold faultD
  rw [e1]
theorem fault_root {d1 d2 : PyData} (h : labD d1 = false) : faultD d1 d2 = .tuple [.str "value", .int 1] := by
  have e : schR d1 d2 = .val 1 := by
    cases d1 with
    | int i => show (if labD (.int i) = true then _ else _) = _; rw [if_neg (by rw [h]; exact Bool.false_ne_true)]
    | _ => rfl
  unfold faultD
  rw [e]
theorem fault_rules {root : Int} {d : PyData} (h0 : 0 ≤ root) (h4 : root ≤ 4) (h : ∀ ds, seqD d = some ds → ¬ (1 ≤ ds.length ∧ ds.length ≤ 5 ∧ root < ds.length)) : faultD (.int root) d = .tuple [.str "value", .int 2] := by
  have e : schR (.int root) d = .val 2 := by
    cases hs : seqD d with
    | none =>
      show (if labD (.int root) = true then (match seqD d with | none => SchR.val 2 | some ds => if 1 ≤ ds.length ∧ ds.length ≤ 5 ∧ root < ds.length then rulesGo ds.length ds [] 0 root else .val 2) else .val 1) = _
      rw [if_pos (by show (decide (0 ≤ root) && decide (root ≤ 4)) = true; rw [decide_eq_true h0, decide_eq_true h4] <;> rfl), hs]
    | some ds => rw [schR_seq hs h0 h4, if_neg (h ds hs)]
  unfold faultD
  rw [e]
/-- a pair turned into a list -/
def listD : PyData → PyData
  | .tuple ds => .list ds
  | d => d


/-- _law_set(values, at, value) -/
def sp_law_set (K : PySem.W.Frag) : Sp := fun vs H Q _ => ∃ F m v w, ∃ i : Nat, ∃ ds e, vs = [v, .int i, w] ∧ S F m H ∧ Has K F v (.tuple ds) ∧ Has K F w e ∧ i < ds.length ∧ ResH K F m (.tuple (ds.set i e)) Q
theorem c_law_set {K : PySem.W.Frag} {F : List Fc} {m : List Sx} {H : Hp} {v w : V} {i : Nat} {ds : List PyData} {e : PyData} {Q : VK} {E : XK} (hS : S F m H) (hv : Has K F v (.tuple ds)) (hw : Has K F w e) (hi : i < ds.length) (q : ResH K F m (.tuple (ds.set i e)) Q) : sp_law_set K [v, .int i, w] H Q E := ⟨F, m, v, w, i, ds, e, rfl, hS, hv, hw, hi, q⟩
theorem l_law_set {K : PySem.W.Frag} {vs : List V} {H : Hp} {Q : VK} {E : XK} (h : sp_law_set K vs H Q E) : vs.length = 3 := by
  obtain ⟨_, _, _, _, _, _, _, rfl, _⟩ := h
  rfl
def t_law_set (K : PySem.W.Frag)   : TS :=
  (tSeq (tAsg (tCB (rList K) (tCons (tVar 0) tNil)) (gName 3))
  (tSeq (tAsg (tVar 2) (gSub (tVar 3) (tVar 1) rSetL))
  (tRet (tCB (rTuple K) (tCons (tVar 3) tNil)))))
abbrev N_law_set : List Str := ["values", "at", "value", "made"]
theorem r_law_set {K : PySem.W.Frag} {vs : List V} {H : Hp} {Q : VK} {E : XK} (h : sp_law_set K vs H Q E) : t_law_set K { nx := fun _ H' => Q .non H', rt := Q } (start N_law_set vs) H := by
  obtain ⟨F, m, v, w, i, ds, e, rfl, hS, hv, hw, hi, q⟩ := h
  unfold t_law_set
  walk_at "go"
  refine g_list hS (.inl hv) ?_
  intro p H1 hS1
  walk_at "go"
  have hj1 : ixN ds.length (i : Int) = some i := by
    have := ixN_in (n := ds.length) (k := (i : Int)) (by omega) (by omega)
    rw [Int.toNat_natCast] at this
    exact this
  refine g_setL0 hS1 hw hj1 ?_
  intro H2 hS2
  walk_at "go"
  exact q _ _ (by walk_at "wk")


theorem S.drop1 {F : List Fc} {f : Fc} {m : List Sx} {H : Hp} (h : S (f :: F) m H) : S F m H := h.pop
/-- the lists given -/
theorem given_lists {K : PySem.W.Frag} {F : List Fc} {m : List Sx} {H : Hp} {σ : L2.St} {Q : VK} {v : V} {rs : List Rule} {n : Int} (hS : S F m H) (hv : Has K F v (rulesT rs)) (hl : rs.length ≤ 5) (hr : ∀ r ∈ rs, r.length ≤ 5)
    (hσ : ∀ x y, wipe (((wipe σ [14]).set 14 (some x)).set 15 (some y)) [15] = wipe ((wipe σ [14]).set 14 (some x)) [15]) (hw : ∀ x, wipe ((wipe σ [14]).set 14 (some x)) [14] = wipe σ [14])
    (hat : ∀ x, ((wipe σ [14]).set 14 (some x))[14]? = some (some x)) (hat2 : ∀ x y, ((wipe ((wipe σ [14]).set 14 (some x)) [15]).set 15 (some y))[15]? = some (some y)) (hset : ∀ x y, wipe ((wipe ((wipe σ [14]).set 14 (some x)) [15]).set 15 (some y)) [15] = wipe ((wipe σ [14]).set 14 (some x)) [15])
    (hd : ∀ g (l : List (Addr × List PyData)) H', l.reverse.map (·.2) = rs.map (fun r => (r.map pairT).map listD) → S F (Raw g (.lst (l.reverse.map fun p => V.ref p.1)) :: (l.map (fun p => Ls K p.1 p.2) ++ m)) H' → Q (.ref g) H') :
    LcS K v (gName 14) tYes (tLc (iSeq K (tVar 14)) (gName 15) tYes (tCB (rList K) (tCons (tVar 15) tNil)) [15]) [14] σ H Q := by
  refine w_data (R := fun J => LcJ J (gName 14) tYes (tLc (iSeq K (tVar 14)) (gName 15) tYes (tCB (rList K) (tCons (tVar 15) tNil)) [15]) [14] σ H Q) (ds := rs.map ruleT) hS (.inl hv) fun J hJ => ?_
  refine lcV hJ (by rw [List.length_map]; omega) (fun i vs m' => ∃ l : List (Addr × List PyData), vs = (l.reverse.map fun p => V.ref p.1) ∧ m' = l.map (fun p => Ls K p.1 p.2) ++ m ∧ l.reverse.map (·.2) = (rs.take i).map (fun r => (r.map pairT).map listD)) hS ⟨[], rfl, rfl, rfl⟩ (fun _ _ _ _ _ => trivial) ?_ ?_
  · rintro i d x Dd vs m' H' Nx hi hd' hvl ⟨l, rfl, rfl, hl2⟩ hS' hN
    obtain ⟨r, hr', rfl⟩ := map_at hd'
    have hrl := hr r (List.mem_of_getElem? hr')
    refine g_name ?_
    refine lcX1 (hw x) ?_
    refine g_lcS ?_
    refine g_var (hat x) ?_
    refine lcM (F := dat K x (ruleT r) :: F) listD hS' (.inl Has.here) (by rw [List.length_map]; omega) ?_ ?_
    · intro j d2 x2 D2 acc H2 N2 hd2 hS2 hY
      obtain ⟨p, hp, rfl⟩ := map_at hd2
      refine g_name ?_
      refine lcX1 (hset x x2) ?_
      refine g_cb (g_cons (g_var (hat2 x x2) (g_nil ?_)))
      refine g_list (ds := [.int p.1, .str p.2.s]) hS2 (.inl Has.here) ?_
      intro q H3 hS3
      have hS4 := frzL hS3
      exact hY _ _ (by
        refine S.wk hS4 ?_ (.refl _)
        intro f hf
        cases hf with
        | head => exact .head _
        | tail _ hf => exact .tail _ (.tail _ hf))
    · intro D2 H2 hS2
      refine hN (.ref D2) (Ls K D2 ((r.map pairT).map listD) :: (l.map (fun p => Ls K p.1 p.2) ++ m)) H2 ⟨(D2, (r.map pairT).map listD) :: l, ?_, rfl, ?_⟩ hS2.swap.pop
      · rw [List.reverse_cons, List.map_append] <;> rfl
      · rw [List.reverse_cons, List.map_append, hl2, take_succ hr', List.map_append] <;> rfl
  · rintro Dd vs m' H' hvl ⟨l, rfl, rfl, hl2⟩ hS'
    rw [List.length_map, List.take_length] at hl2
    exact hd Dd l H' hl2 hS'


/-! ### the law -/
def sp_law (K : PySem.W.Frag) : Sp := fun vs H Q _ => ∃ (a : Addr) (ns : List Int), vs = [.ref a] ∧ SqL K H a (ns.map V.int) ∧ ns.length ≤ 63 ∧ ∀ H', Q (.bl true) H'
theorem l_law {K : PySem.W.Frag} {vs : List V} {H : Hp} {Q : VK} {E : XK} (h : sp_law K vs H Q E) : vs.length = 1 := by
  obtain ⟨_, _, rfl, _⟩ := h
  rfl
theorem start_S {K : PySem.W.Frag} {H : Hp} {a : Addr} {ns : List Int} (h : SqL K H a (ns.map V.int)) : S [dat K (.ref a) (.list (intL ns))] [] H := by
  have ha : DpAll K H (ns.map V.int) (intL ns) := by
    clear h
    induction ns with
    | nil => exact .nil
    | cons n ns ih => exact .cons (.int n) ih
  refine ⟨H, fun _ _ e => e, fun f hf => ?_, fun x hx => (nomatch hx), List.nodup_nil⟩
  cases hf with
  | head => exact .lst h ha
  | tail _ hf => cases hf
theorem c_numbers {K : PySem.W.Frag} {F : List Fc} {m : List Sx} {H : Hp} {v : V} {ns : List Int} {Q : VK} {E : XK} (hS : S F m H) (hv : Has K F v (.list (intL ns))) (hl : ns.length ≤ 63) (q : ∀ r ms H', ms ≠ [] → S (dat K r (.list (intL ms)) :: F) m H' → Q r H') : spNumbers K [v] H Q E := ⟨F, m, v, ns, rfl, hS, hv, hl, q⟩
local macro_rules | `(tactic| walk_at "call") => `(tactic| ((with_reducible refine' c_numbers ?k1 ?k2 ?k3 ?_); (case k1 => assumption); (case k2 => walk_at "has"); (case k3 => assumption); intro r ms H hne hS))


theorem schQ_ok {K : PySem.W.Frag} {F : List Fc} {m : List Sx} {d1 d2 : PyData} {E : XK} {Qp : Int → List Rule → Prop} {root : Int} {rs : List Rule} (h : schR d1 d2 = .ok root rs) (q : Qp root rs) : schQ K F m d1 d2 E Qp := by
  unfold schQ
  rw [h]
  exact q
theorem c_SchemaR {K : PySem.W.Frag} {F : List Fc} {m : List Sx} {H : Hp} {v1 v2 : V} {d1 d2 : PyData} {root : Int} {rs : List Rule} {Q : VK} (hS : S F m H) (h1 : Has K F v1 d1) (h2 : Has K F v2 d2) (hf : fitS d2) (e : schR d1 d2 = .ok root rs)
    (q : ∀ x H', S (sch K x root rs :: F) m H' → Q x H') : MakR (schC K) (sp_Schema___init K) [v1, v2] H Q := c_Schema (E := E0) hS h1 h2 hf (schQ_ok e q)
theorem c_SchemaKR {K : PySem.W.Frag} {F : List Fc} {m : List Sx} {H : Hp} {v1 v2 : V} {d1 d2 : PyData} {root : Int} {rs : List Rule} {Q : VK} {E : XK} (hS : S F m H) (h1 : Has K F v1 d1) (h2 : Has K F v2 d2) (hf : fitS d2) (e : schR d1 d2 = .ok root rs)
    (q : ∀ x H', S (sch K x root rs :: F) m H' → Q x H') : MakK (schC K) 2 (sp_Schema___init K) [v1, v2] E H Q := c_SchemaK hS h1 h2 hf (schQ_ok e q)
theorem othB_t {root : Int} {rs : List Rule} : othB root rs (some (root, rs)) = true := by
  show (decide (root = root) && decide (rs = rs)) = true
  rw [decide_eq_true rfl, decide_eq_true rfl] <;> rfl
theorem othB_f {r1 r2 : Int} {rs1 rs2 : List Rule} (h : ¬ (r1 = r2 ∧ rs1 = rs2)) : othB r1 rs1 (some (r2, rs2)) = false := by
  show (decide (r1 = r2) && decide (rs1 = rs2)) = false
  by_cases e : r1 = r2
  · rw [decide_eq_false (p := rs1 = rs2) fun z => h ⟨e, z⟩, Bool.and_false]
  · rw [decide_eq_false e] <;> rfl
/-- the last rule, another -/
def otherR (r : Rule) : Rule := if r.length > 0 then [] else [(0, .any)]
theorem otherR_ne (r : Rule) : otherR r ≠ r := by
  cases r with
  | nil => intro h; cases h
  | cons p r => intro h; cases h
theorem otherR_ok {n : Int} (h : 1 ≤ n) (r : Rule) : okR n (otherR r) := by
  cases r with
  | nil =>
    refine ⟨List.pairwise_singleton _ _, fun p hp => ?_⟩
    have hp : p ∈ [((0 : Int), How.any)] := hp
    rw [List.mem_singleton.mp hp]
    exact ⟨Int.le_refl 0, by show (0 : Int) < n; omega⟩
  | cons p r => exact ⟨List.Pairwise.nil, fun p hp => by cases hp⟩
theorem five_vals {j : Int} (h0 : 0 ≤ j) (h1 : j < 5) : ∃ d, atI [PyData.int (-1), .int 5, .bool true, .none, .str "0"] j = some d ∧ labD d = false := by
  have : j = 0 ∨ j = 1 ∨ j = 2 ∨ j = 3 ∨ j = 4 := by omega
  rcases this with rfl | rfl | rfl | rfl | rfl <;> exact ⟨_, rfl, rfl⟩
theorem seq_at {ds : List PyData} {j : Int} (h0 : 0 ≤ j) (h1 : j < ds.length) : ∃ d ∈ ds, atI ds j = some d :=
  ⟨ds[j.toNat]'(by omega), List.getElem_mem _, at_int h0 (List.getElem?_eq_getElem (by omega))⟩
theorem ans_eqv {s : Str} {i : Int} : PyData.eqv (.tuple [.str s, .int i]) (.tuple [.str s, .int i]) = true := by
  simp [PyData.eqv, PyData.eqvAll]
theorem ans_shaped {s : Str} {i : Int} (h : PyData.strOk s = true) : SeqAt.shaped (.tuple [.str s, .int i]) = true := by
  simp [SeqAt.shaped, PyData.canLay0, PyData.canLayAll0, PyData.depth, PyData.depthAll, h]
theorem fit_nil : fitR (.tuple []) := fun xs e => by
  cases e
  exact ⟨by decide, fun x hx => by cases hx⟩
theorem five_rules {root : Int} {rs : List Rule} (ok : SchOk root rs) {k : Nat} (hk : 5 < rs.length + k) (hk2 : k ≤ 6) : ∀ d ∈ [PyData.none, .tuple [], .str "ab", .tuple (rs.map ruleT ++ List.replicate k (.tuple [])), .tuple (cutD (rs.map ruleT) none (some root))],
    fitS d ∧ faultD (.int root) d = .tuple [.str "value", .int 2] := by
  have hl5 := ok.l5
  have hr0 := ok.r0
  have hr1 := ok.r1
  have hfit := (rules_self ok).fit
  intro d hd
  rcases List.mem_cons.mp hd with rfl | hd
  · exact ⟨fun ds e => (nomatch e), fault_rules hr0 (by omega) fun ds e => (nomatch e)⟩
  rcases List.mem_cons.mp hd with rfl | hd
  · exact ⟨fun ds e => by cases e; exact ⟨by decide, fun x hx => by cases hx⟩, fault_rules hr0 (by omega) fun ds e => by cases e; rintro ⟨h, _⟩; cases h⟩
  rcases List.mem_cons.mp hd with rfl | hd
  · exact ⟨fun ds e => (nomatch e), fault_rules hr0 (by omega) fun ds e => (nomatch e)⟩
  rcases List.mem_cons.mp hd with rfl | hd
  · have hlen : (rs.map ruleT ++ List.replicate k (PyData.tuple [])).length = rs.length + k := by rw [List.length_append, List.length_map, List.length_replicate]
    refine ⟨fun ds e => ?_, fault_rules hr0 (by omega) fun ds e => ?_⟩
    · cases e
      refine ⟨by rw [hlen]; omega, fun x hx => ?_⟩
      rcases List.mem_append.mp hx with hx | hx
      · exact hfit x hx
      · rw [(List.mem_replicate.mp hx).2]
        exact fit_nil
    · cases e
      rw [hlen]
      omega
  · rw [List.mem_singleton.mp hd]
    have hlen : (cutD (rs.map ruleT) none (some root)).length ≤ root.toNat := by
      unfold cutD HT.sIx
      rw [List.length_take]
      simp only
      rw [if_neg (by omega)]
      omega
    refine ⟨fun ds e => ?_, fault_rules hr0 (by omega) fun ds e => ?_⟩
    · cases e
      have := cutD_len (ds := rs.map ruleT) (lo := none) (hi := some root)
      rw [List.length_map] at this
      exact ⟨by omega, fun x hx => hfit x (cutD_mem hx)⟩
    · cases e
      omega
theorem noL_rules (rs : List Rule) : noL (rulesT rs) = true := by
  have p : ∀ r : Rule, noLs (r.map pairT) = true := fun r => by
    induction r with
    | nil => rfl
    | cons p r ih =>
      show (noL (pairT p) && noLs (r.map pairT)) = true
      rw [ih]
      rfl
  have r : noLs (rs.map ruleT) = true := by
    induction rs with
    | nil => rfl
    | cons r rs ih =>
      show (noL (ruleT r) && noLs (rs.map ruleT)) = true
      rw [ih, show noL (ruleT r) = true from p r] <;> rfl
  exact r
theorem noL_sch {root : Int} {rs : List Rule} : ∀ q ∈ schF root rs, noL q.2 = true := fun q hq => by
  cases hq with
  | head => rfl
  | tail _ hq =>
    cases hq with
    | head => exact noL_rules rs
    | tail _ hq => cases hq
theorem spot_stable {sp : Addr} : ∀ x ∈ [Spot sp], ∀ G G' o, x.P G o → x.P G' o := fun x hx G G' o h => by
  rw [List.mem_singleton.mp hx] at h ⊢
  exact h
def t_law (K : PySem.W.Frag)   : TS :=
  (tSeq (tAsg (tCall (sp_law_numbers K) [] E0 (tCons (tVar 0) tNil)) (gName 1))
  (tSeq (tAsg (tLst (tCons (tC (.int 0)) tNil)) (gName 2))
  (tSeq (tAsg (tOp (rAddU K) (tC (.int 1)) (tCall (sp_law_take K) [] E0 (tCons (tVar 1) (tCons (tVar 2) (tCons (tC (.int 5)) tNil))))) (gName 3))
  (tSeq (tAsg (tCall (sp_law_rules K) [] E0 (tCons (tVar 1) (tCons (tVar 2) (tCons (tVar 3) tNil)))) (gName 4))
  (tSeq (tAsg (tCall (sp_law_take K) [] E0 (tCons (tVar 1) (tCons (tVar 2) (tCons (tVar 3) tNil)))) (gName 5))
  (tSeq (tAsg (tLc (iSeq K (tVar 4)) (gName 14) tYes (tLc (iSeq K (tVar 14)) (gName 15) tYes (tCB (rList K) (tCons (tVar 15) tNil)) [15]) [14]) (gName 6))
  (tSeq (tAsg (tMake (He.ga K "Schema") (sp_Schema___init K) [] E0 (tCons (tVar 5) (tCons (tVar 6) tNil))) (gName 7))
  (tSeq (tDrop (tBM K "list" rAppend (tVar 6) (tCons (tLst tNil) tNil)))
  (tSeq (tDrop (tBM K "list" rAppend (tOp (rIx K) (tVar 6) (tC (.int 0))) (tCons (tLst (tCons (tC (.int 9)) (tCons (tC (.str "one")) tNil))) tNil)))
  (tSeq (tIfS (tOr (tNot (tTruU K (tCall (sp_law_so K 5) [] E0 (tCons (tProp (He.ga K "Schema") (getSp (He.ga K "Schema") "_root") [] E0 (tVar 7)) (tCons (tVar 5) tNil))))) (tNot (tTruU K (tCall (sp_law_so K 5) [] E0 (tCons (tProp (He.ga K "Schema") (getSp (He.ga K "Schema") "_rules") [] E0 (tVar 7)) (tCons (tVar 4) tNil))))))
  (tRet (tC (.bl false)))
  tNext)
  (tSeq (tAsg (tMakeK (He.ga K "Schema") 0 2 (sp_Schema___init K) (fun vs zs => vs ++ zs) E0 tNil (tCons (tVar 5) (tCons (tCall (sp_law_loose K 30) [] E0 (tCons (tVar 4) (tCons (tC (.int 1)) tNil))) tNil))) (gName 8))
  (tSeq (tAsg (tCall (sp_law_set K) [] E0 (tCons (tVar 4) (tCons (tOp rSubI (tVar 3) (tC (.int 1))) (tCons (tIf (tTest (tOp rGtI (tCB (rLenU K) (tCons (tOp (rIx K) (tVar 4) (tOp rSubI (tVar 3) (tC (.int 1)))) tNil)) (tC (.int 0)))) (tTup tNil) (tTup (tCons (tTup (tCons (tC (.int 0)) (tCons (tC (.str "any")) tNil))) tNil))) tNil)))) (gName 9))
  (tSeq (tIfS (tOr (tNot (tTest (tOp (rEqO K (He.ga K "Schema") (sp_Schema___eq K)) (tVar 7) (tVar 8)))) (tOr (tTest (tOp (rEqO K (He.ga K "Schema") (sp_Schema___eq K)) (tVar 7) (tMake (He.ga K "Schema") (sp_Schema___init K) [] E0 (tCons (tVar 5) (tCons (tVar 9) tNil))))) (tOr (tTest (tOp (rEqO K (He.ga K "Schema") (sp_Schema___eq K)) (tVar 7) (tTup (tCons (tVar 5) (tCons (tVar 4) tNil))))) (tTest (tOp (rEqO K (He.ga K "Schema") (sp_Schema___eq K)) (tVar 7) (tC .non))))))
  (tRet (tC (.bl false)))
  tNext)
  (tSeq (tIfS (tAnd (tTest (tOp rGtI (tVar 3) (tC (.int 1)))) (tTest (tOp (rEqO K (He.ga K "Schema") (sp_Schema___eq K)) (tVar 7) (tMake (He.ga K "Schema") (sp_Schema___init K) [] E0 (tCons (tOp rModI (tCB rInt (tCons (tOp (rAddU K) (tVar 5) (tC (.int 1))) tNil)) (tVar 3)) (tCons (tVar 4) tNil))))))
  (tRet (tC (.bl false)))
  tNext)
  (tSeq (tAsg (tCall (sp_law_take K) [] E0 (tCons (tVar 1) (tCons (tVar 2) (tCons (tC (.int 3)) tNil)))) (gName 10))
  (tSeq (tIfS (tTest (tOp (rEqU K) (tVar 10) (tC (.int 0))))
  (tRet (tOp (rEqU K) (tCall (sp_law_schema_fault K) [] E0 (tCons (tOp (rIx K) (tLst (tCons (tUn rNegI (tC (.int 1))) (tCons (tC (.int 5)) (tCons (tC (.bl true)) (tCons (tC .non) (tCons (tC (.str "0")) tNil)))))) (tCall (sp_law_take K) [] E0 (tCons (tVar 1) (tCons (tVar 2) (tCons (tC (.int 5)) tNil))))) (tCons (tVar 4) tNil))) (tTup (tCons (tC (.str "value")) (tCons (tC (.int 1)) tNil)))))
  tNext)
  (tSeq (tIfS (tTest (tOp (rEqU K) (tVar 10) (tC (.int 1))))
  (tSeq (tAsg (tLst (tCons (tC .non) (tCons (tTup tNil) (tCons (tC (.str "ab")) (tCons (tOp (rAddU K) (tVar 4) (tCB (rTuple K) (tCons (tLc (iRng1 (tCons (tOp rSubI (tC (.int 6)) (tVar 3)) tNil)) (gName 16) tYes (tTup tNil) [16]) tNil))) (tCons (tSl (rSlU K) (tVar 4) tNoPart (tPart (tVar 5))) tNil)))))) (gName 13))
  (tRet (tOp (rEqU K) (tCall (sp_law_schema_fault K) [] E0 (tCons (tVar 5) (tCons (tOp (rIx K) (tVar 13) (tCall (sp_law_take K) [] E0 (tCons (tVar 1) (tCons (tVar 2) (tCons (tC (.int 5)) tNil))))) tNil))) (tTup (tCons (tC (.str "value")) (tCons (tC (.int 2)) tNil))))))
  tNext)
  (tSeq (tAsg (tCall (sp_law_take K) [] E0 (tCons (tVar 1) (tCons (tVar 2) (tCons (tVar 3) tNil)))) (gName 11))
  (tSeq (tAsg (tLst (tCons (tC .non) (tCons (tC (.int 5)) (tCons (tTup (tCons (tTup (tCons (tVar 3) (tCons (tC (.str "any")) tNil))) tNil)) (tCons (tTup (tCons (tTup (tCons (tC (.int 0)) (tCons (tC (.str "none")) tNil))) tNil)) (tCons (tTup (tCons (tTup (tCons (tC (.int 0)) (tCons (tC .non) tNil))) tNil)) (tCons (tTup (tCons (tTup (tCons (tC (.int 0)) tNil)) tNil)) (tCons (tTup (tCons (tTup (tCons (tC (.int 0)) (tCons (tC (.str "any")) (tCons (tC (.int 1)) tNil)))) tNil)) (tCons (tTup (tCons (tTup (tCons (tC (.int 0)) (tCons (tC (.str "any")) tNil))) (tCons (tTup (tCons (tC (.int 0)) (tCons (tC (.str "one")) tNil))) tNil))) (tCons (tTup (tCons (tTup (tCons (tC (.bl true)) (tCons (tC (.str "any")) tNil))) tNil)) (tCons (tTup (tCons (tTup (tCons (tUn rNegI (tC (.int 1))) (tCons (tC (.str "any")) tNil))) tNil)) (tCons (tC (.str "ab")) tNil)))))))))))) (gName 12))
  (tSeq (tAsg (tCall (sp_law_set K) [] E0 (tCons (tVar 4) (tCons (tVar 11) (tCons (tOp (rIx K) (tVar 12) (tCall (sp_law_take K) [] E0 (tCons (tVar 1) (tCons (tVar 2) (tCons (tC (.int 11)) tNil))))) tNil)))) (gName 13))
  (tSeq (tIfS (tAnd (tTest (tOp rLtI (tVar 11) (tOp rSubI (tVar 3) (tC (.int 1))))) (tTest (tOp (rEqU K) (tCall (sp_law_take K) [] E0 (tCons (tVar 1) (tCons (tVar 2) (tCons (tC (.int 2)) tNil)))) (tC (.int 0)))))
  (tAsg (tCall (sp_law_set K) [] E0 (tCons (tVar 13) (tCons (tOp (rAddU K) (tVar 11) (tC (.int 1))) (tCons (tC .non) tNil)))) (gName 13))
  tNext)
  (tRet (tOp (rEqU K) (tCall (sp_law_schema_fault K) [] E0 (tCons (tVar 5) (tCons (tVar 13) tNil))) (tTup (tCons (tC (.str "rule")) (tCons (tVar 11) tNil))))))))))))))))))))))))))
abbrev N_law : List Str := ["script", "row", "spot", "labels", "rules", "root", "given", "one", "two", "other", "style", "at", "wrong", "bad", "rule", "pair", "k"]
theorem r_law {K : PySem.W.Frag} (M : SchK K) {vs : List V} {H : Hp} {Q : VK} {E : XK} (h : sp_law K vs H Q E) : t_law K { nx := fun _ H' => Q .non H', rt := Q } (start N_law vs) H := by
  obtain ⟨a, ns, rfl, hq, hl, q⟩ := h
  have hS := start_S hq
  unfold t_law
  walk_at "go"
  rename_i r ms Hr hne hSr
  refine g_newL (K := K) (ds := [.int 0]) (by assumption) (.cons .int .nil) (Nat.le_of_ble_eq_true rfl) ?_
  intro sp H1 hS1
  have hS1 := spot_of hS1 (Int.le_refl 0)
  walk_at "go"
  rename_i j Hj j0 j1 hSj rs hrl hrs rv H2 hS2 root Hroot r0 r1 hS3
  obtain ⟨jn, rfl⟩ : ∃ jn : Nat, j = jn := ⟨j.toNat, by omega⟩
  have hrl2 : rs.length = jn + 1 := by omega
  have ok : SchOk root rs := ⟨r0, by omega, by omega, fun r hr => by rw [hrl]; exact hrs r hr⟩
  have hl5 := ok.l5
  have hS4 : S [dat K rv (rulesT rs), dat K r (.list (intL ms))] [Spot sp] Hroot := by walk_at "wk"
  obtain ⟨G0, f0, hS5⟩ := hS4.snap
  have hr5 : ∀ r ∈ rs, r.length ≤ 5 := fun r hr => by
    have := okR_len (n := 1 + (jn : Int)) (hrs r hr) (by omega)
    omega
  refine given_lists (rs := rs) (n := 0) hS5 (by walk_at "has") hl5 hr5 (fun _ _ => rfl) (fun _ => rfl) (fun _ => rfl) (fun _ _ => rfl) (fun _ _ => rfl) ?_
  intro g l H3 hl2 hS6
  obtain ⟨l', a0, d0, rfl⟩ : ∃ l' a0 d0, l = l' ++ [(a0, d0)] := by
    rcases List.eq_nil_or_concat l with rfl | ⟨l', ⟨a0, d0⟩, rfl⟩
    · have := congrArg List.length hl2
      rw [List.length_map, List.length_map, hrl2] at this
      cases this
    · exact ⟨l', a0, d0, by simp⟩
  obtain ⟨ng, na, hne2, F', ws, hwsl0, hS7, hsub, hg, ha, hhas⟩ := lend hS6 (.head _)
  have hdat : ((l' ++ [(a0, d0)]).reverse.map fun p => PyData.list p.2) = rs.map fun r => PyData.list ((r.map pairT).map listD) := by
    have e : ((l' ++ [(a0, d0)]).reverse.map fun p => PyData.list p.2) = ((l' ++ [(a0, d0)]).reverse.map (·.2)).map PyData.list := by rw [List.map_map] <;> rfl
    rw [e, hl2, List.map_map]
    rfl
  rw [hdat] at hhas
  have hgv := rules_enc ok (f := fun p => listD (pairT p)) (g := fun r => PyData.list ((r.map pairT).map listD)) (d := .list (rs.map fun r => PyData.list ((r.map pairT).map listD))) rfl (fun r => by rw [List.map_map] <;> rfl) (fun _ => rfl)
  walk_at "go"
  refine c_SchemaR hS7 (.int) hhas (fitS_ok hgv) (schR_ok hgv r0 (by rw [List.length_map]; omega)) ?_
  intro one H4 hS8
  have hS9 := hS8.back (.tail _ (hsub _ (.head _))) f0 (.tail _ hg) (.tail _ ha) hne2 ng na (.head _) spot_stable (fun G hA h => ins_minus hA noL_sch h)
  have hvs : ((l' ++ [(a0, d0)]).reverse.map fun p => V.ref p.1) = V.ref a0 :: (l'.reverse.map fun p => V.ref p.1) := by simp
  rw [hvs] at hS9
  have hll : l'.length ≤ 5 := by
    have := congrArg List.length hl2
    rw [List.length_map, List.length_map, List.length_reverse, List.length_append] at this
    simp at this
    omega
  clear hS8 hS7 hS6 hS5
  walk_at "go"
  refine g_tyRaw hS9 (.head _) ?_
  walk_at "go"
  refine g_newLF (K := K) (ds := []) hS9 .nil (Nat.zero_le _) ?_
  intro p1 H5 hS10
  walk_at "go"
  refine g_appRaw hS10 (by rw [List.length_cons, List.length_map, List.length_reverse]; omega) ?_
  intro H6 hS11
  walk_at "go"
  refine g_ixRaw0 hS11 (by rw [List.cons_append]; exact .head _) ?_
  walk_at "go"
  refine g_tyRaw hS11 (.tail _ (.head _)) ?_
  walk_at "go"
  refine g_newLF (K := K) (ds := [.int 9, .str "one"]) hS11 (by walk_at "hasA") (Nat.le_of_ble_eq_true rfl) ?_
  intro p2 H7 hS12
  walk_at "go"
  have hwsl : ws.length ≤ 5 := by
    have e : d0 ∈ (l' ++ [(a0, d0)]).reverse.map (·.2) := List.mem_map.mpr ⟨(a0, d0), by simp, rfl⟩
    rw [hl2] at e
    obtain ⟨r2, hr2, e2⟩ := List.mem_map.mp e
    have := hr5 r2 hr2
    rw [hwsl0, ← e2, List.length_map, List.length_map]
    exact this
  refine g_appRaw hS12.swap (by omega) ?_
  intro H8 hS13
  have hS14 : S [sch K one root rs, dat K rv (rulesT rs), dat K r (.list (intL ms))] [Spot sp] H8 := by walk_at "wk"
  clear hS13 hS12 hS11 hS10 hS9
  have hplain : plainD (rulesT rs) = true := plain_rules (n := (rs.length : Int)) ok.ok (by omega) (by omega) (by omega)
  have hh5 : hgt (rulesT rs) < 5 := by have := hgt_rules rs; omega
  have hh30 : hgt (rulesT rs) < 30 := by omega
  walk_at "qe_run"
  refine c_SchemaKR (by assumption) .int (by walk_at "has") (fitS_ok (rules_loose ok 1)) (schR_ok (rules_loose ok 1) r0 (by rw [← (rules_loose ok 1).len]; exact ok.r1)) ?_
  intro two H9 hS15
  have hS16 : S [sch K two root rs, sch K one root rs, dat K rv (rulesT rs), dat K r (.list (intL ms))] [Spot sp] H9 := by walk_at "wk"
  clear hS15
  have hjl : jn < rs.length := by omega
  have hatj : atI (rs.map ruleT) (1 + (jn : Int) - 1) = some (ruleT rs[jn]) := at_int (by omega) (by
    rw [show (1 + (jn : Int) - 1).toNat = jn by omega, List.getElem?_map, List.getElem?_eq_getElem hjl] <;> rfl)
  refine g_name ?_
  refine g_cut (fun σ H => ∃ w, σ = [some (.ref a), some r, some (.ref sp), some (.int (1 + (jn : Int))), some rv, some (.int root), some (.ref g), some one, some two, some w, none, none, none, none, none, none, none] ∧ S [dat K w (rulesT (rs.set jn (otherR rs[jn]))), sch K two root rs, sch K one root rs, dat K rv (rulesT rs), dat K r (.list (intL ms))] [Spot sp] H) ?_ ?_
  · intro nx' hN
    walk_at "go"
    refine g_ix (ds := rs.map ruleT) hS16 (.inl (show Has K _ rv (rulesT rs) by walk_at "has")) hatj ?_
    intro lw hS17
    walk_at "go"
    refine g_len (ds := (rs[jn]).map pairT) hS17 (.inl Has.here) ?_
    walk_at "go"
    have ej : (1 + (jn : Int) - 1) = (jn : Int) := by omega
    have eset : PyData.tuple ((rs.map ruleT).set jn (ruleT (otherR rs[jn]))) = rulesT (rs.set jn (otherR rs[jn])) := by
      unfold rulesT
      rw [List.map_set]
    have hsl : jn < (rs.map ruleT).length := by rw [List.length_map]; exact hjl
    rw [List.length_map]
    refine g_ite (fun hc => ?_) (fun hc => ?_)
    · have hc : 0 < rs[jn].length := by
        have := of_decide_eq_true hc
        omega
      have eo : otherR rs[jn] = [] := if_pos hc
      walk_at "go"
      rename_i w2 H10 hS18
      rw [ej]
      refine c_law_set (ds := rs.map ruleT) (e := ruleT (otherR rs[jn])) hS18 (show Has K _ rv (rulesT rs) by walk_at "has") (by rw [eo]; exact Has.here) hsl ?_
      rw [eset]
      intro w3 H11 hS19
      walk_at "go"
      exact hN _ _ ⟨_, rfl, by walk_at "wk"⟩
    · have hc : ¬ rs[jn].length > 0 := by
        have := of_decide_eq_false hc
        omega
      have eo : otherR rs[jn] = [(0, .any)] := if_neg hc
      walk_at "go"
      rename_i w1 H0 hS0 w2 H10 hS18
      rw [ej]
      refine c_law_set (ds := rs.map ruleT) (e := ruleT (otherR rs[jn])) hS18 (show Has K _ rv (rulesT rs) by walk_at "has") (by rw [eo]; exact Has.here) hsl ?_
      rw [eset]
      intro w3 H11 hS19
      walk_at "go"
      exact hN _ _ ⟨_, rfl, by walk_at "wk"⟩
  rintro _ H10 ⟨ow, rfl, hS17⟩
  have okO : SchOk root (rs.set jn (otherR rs[jn])) := ⟨r0, by rw [List.length_set]; exact ok.r1, by rw [List.length_set]; exact ok.l5, fun q hq => by
    rw [List.length_set]
    exact okRs_set ok.ok (otherR_ok (by omega) _) q hq⟩
  have neO : rs ≠ rs.set jn (otherR rs[jn]) := fun h => by
    have h2 := congrArg (fun l : List Rule => l[jn]?) h
    simp only [List.getElem?_set_self hjl, List.getElem?_eq_getElem hjl] at h2
    exact otherR_ne _ (Option.some.inj h2).symm
  walk_at "qe_run"
  refine g_eqO (o := some (root, rs)) hS17 (by walk_at "tells") (show Tells _ (sch K two root rs) by walk_at "tells") fun H11 hS18 => ?_
  rw [othB_t]
  walk_at "qe_run"
  refine c_SchemaR hS18 .int (by walk_at "has") (fitS_ok (rules_self okO)) (schR_ok (rules_self okO) r0 (by rw [← (rules_self okO).len]; exact okO.r1)) ?_
  intro x3 H12 hS19
  walk_at "qe_run"
  refine g_eqO (o := some (root, rs.set jn (otherR rs[jn]))) hS19 (by walk_at "tells") Tells.here fun H13 hS20 => ?_
  rw [othB_f fun h => neO h.2]
  walk_at "qe_run"
  rename_i x4 H14 hS21
  refine g_eqO (o := none) hS21 (by walk_at "tells") ⟨_, Has.here⟩ fun H15 hS22 => ?_
  rw [show othB root rs none = false from rfl]
  walk_at "qe_run"
  refine g_eqO (o := none) hS22 (by walk_at "tells") ⟨_, Has.non⟩ fun H16 hS23 => ?_
  rw [show othB root rs none = false from rfl]
  walk_at "goIf"
  refine g_iteF rfl ?_
  walk_at "goIf"
  refine g_cut (fun σ H => σ = [some (.ref a), some r, some (.ref sp), some (.int (1 + (jn : Int))), some rv, some (.int root), some (.ref g), some one, some two, some ow, none, none, none, none, none, none, none] ∧ S [sch K one root rs, dat K rv (rulesT rs), dat K r (.list (intL ms))] [Spot sp] H) ?_ ?_
  · intro nx' hN
    walk_at "go"
    refine g_ite (fun hc => ?_) (fun hc => ?_)
    · have hc : 1 < 1 + (jn : Int) := of_decide_eq_true hc
      walk_at "go"
      refine c_SchemaR hS23 .int (show Has K _ rv (rulesT rs) by walk_at "has") (fitS_ok (rules_self ok)) (root := (root + 1) % (1 + (jn : Int))) (schR_ok (rules_self ok) (Int.emod_nonneg _ (by omega)) (by
        rw [← (rules_self ok).len, hrl]
        exact Int.emod_lt_of_pos _ (by omega))) ?_
      intro x5 H17 hS24
      walk_at "go"
      refine g_eqO (o := some ((root + 1) % (1 + (jn : Int)), rs)) hS24 (by walk_at "tells") Tells.here fun H18 hS25 => ?_
      rw [othB_f fun h => by
        have h := h.1
        have q1 := Int.emod_nonneg (root + 1) (b := 1 + (jn : Int)) (by omega)
        by_cases e : root + 1 < 1 + (jn : Int)
        · rw [Int.emod_eq_of_lt (by omega) e] at h
          omega
        · rw [show root + 1 = 1 + (jn : Int) by omega, Int.emod_self] at h
          omega]
      walk_at "qe_run"
      exact hN _ _ ⟨rfl, by walk_at "wk"⟩
    · refine g_iteF rfl ?_
      walk_at "go"
      exact hN _ _ ⟨rfl, by walk_at "wk"⟩
  rintro _ H17 ⟨rfl, hS24⟩
  have hrv : ∀ F : List Fc, Has K F rv (rulesT rs) → Has K F rv (.tuple (rs.map ruleT)) := fun _ h => h
  walk_at "go"
  rename_i st Hs st0 st1 hS25
  refine g_ite (fun _ => ?_) (fun _ => ?_)
  · walk_at "go"
    refine g_newLF (K := K) (ds := [.int (-1), .int 5, .bool true, .none, .str "0"]) hS25 (by walk_at "hasA") (Nat.le_of_ble_eq_true rfl) ?_
    intro p H18 hS26
    walk_at "go"
    rename_i j Hj2 j20 j21 hS27
    obtain ⟨d, hat, hbad⟩ := five_vals j20 j21
    walk_at "go"
    refine c_law_schema_fault (by assumption) (by walk_at "has") (by walk_at "has") (fitS_ok (rules_self ok)) ?_
    rw [fault_root hbad]
    intro w H19 hS28
    walk_at "go"
    rename_i w2 H20 hS29
    refine g_eqD hS29 (by walk_at "has") Has.here (ans_shaped (by decide +kernel)) (ans_shaped (by decide +kernel)) ?_
    rw [ans_eqv]
    exact q _
  walk_at "go"
  refine g_ite (fun _ => ?_) (fun _ => ?_)
  · walk_at "go"
    rename_i w0 H18 hS26
    refine g_lcRep (K := K) (e0 := .tuple []) hS26 ⟨by omega, by omega⟩ (mono_tup fun _ _ _ _ h q => mono_nil h q) (fun _ => rfl) ?_ ?_
    · intro v D acc H' hS27
      walk_at "go"
      rename_i w1 H19 hS28
      exact hS28
    intro D H19 hS27
    walk_at "go"
    rename_i w1 H20 hS28
    refine g_addUT hS28 (hrv _ (by walk_at "has")) Has.here (by rw [List.length_map, List.length_replicate]; omega) ?_
    intro w2 H21 hS29
    walk_at "go"
    refine g_slT hS29 (hrv _ (by walk_at "has")) ?_
    intro w3 H22 hS30
    walk_at "go"
    have h5 := five_rules (k := (6 - (1 + (jn : Int))).toNat) ok (by omega) (by omega)
    generalize hds : [PyData.none, .tuple [], .str "ab", .tuple (rs.map ruleT ++ List.replicate (6 - (1 + (jn : Int))).toNat (.tuple [])), .tuple (cutD (rs.map ruleT) none (some root))] = ds5 at h5
    have h5l : ds5.length = 5 := by
      rw [← hds]
      rfl
    refine g_newLF (K := K) (ds := ds5) hS30 (by rw [← hds]; walk_at "hasA") (Nat.le_of_ble_eq_true rfl) ?_
    intro p H23 hS31
    walk_at "go"
    rename_i j Hj2 j20 j21 hS32
    obtain ⟨d, hd, hat⟩ := seq_at (ds := ds5) j20 (by rw [h5l]; exact j21)
    obtain ⟨hfit, hbad⟩ := h5 d hd
    walk_at "go"
    refine c_law_schema_fault (by assumption) (by walk_at "has") (by walk_at "has") hfit ?_
    rw [hbad]
    intro w H19 hS28
    walk_at "go"
    rename_i w2 H20 hS29
    refine g_eqD hS29 (by walk_at "has") Has.here (ans_shaped (by decide +kernel)) (ans_shaped (by decide +kernel)) ?_
    rw [ans_eqv]
    exact q _
  walk_at "go"
  rename_i j Hj j20 j21 hS26 w1 h1 s1 w2 h2 s2 w3 h3 s3 w4 h4 s4 w5 h5 s5 w6 h6 s6 w7 h7 s7 w8 h8 s8 w9 h9 s9 w10 h10 s10 w11 h11 s11 w12 h12 s12 w13 h13 s13 w14 h14 s14 w15 h15 s15 w16 h16 s16 w17 h17 s17
  obtain ⟨i, rfl⟩ : ∃ i : Nat, j = i := ⟨j.toNat, by omega⟩
  refine g_newLF (K := K) (ds := wrongL (1 + (jn : Int))) s17 (by unfold wrongL; walk_at "hasA") (Nat.le_of_ble_eq_true rfl) ?_
  intro p H18 hS27
  have hS28 : S [dat K (.ref p) (.list (wrongL (1 + (jn : Int)))), dat K rv (rulesT rs), dat K r (.list (intL ms))] [Spot sp] H18 := by walk_at "wk"
  clear hS27
  walk_at "go"
  rename_i k Hk k20 k21 hS29
  obtain ⟨e, he, hat⟩ := seq_at (ds := wrongL (1 + (jn : Int))) k20 k21
  obtain ⟨hbad, hfit⟩ := wrong_bad (by omega) (by omega) e he
  refine g_ix (ds := wrongL (1 + (jn : Int))) hS29 (.inr (by walk_at "has")) hat ?_
  intro ev hS30
  walk_at "go"
  have hil : i < (rs.map ruleT).length := by rw [List.length_map]; omega
  refine c_law_set (ds := rs.map ruleT) (e := e) hS30 (hrv _ (by walk_at "has")) Has.here hil ?_
  intro bv Hb hS31
  refine g_name ?_
  refine g_cut (fun σ H => ∃ w ds, σ = [some (.ref a), some r, some (.ref sp), some (.int (1 + (jn : Int))), some rv, some (.int root), some (.ref g), some one, some two, some ow, some (.int st), some (.int (i : Int)), some (.ref p), some w, none, none, none] ∧ S [dat K w (.tuple ds), dat K rv (rulesT rs), dat K r (.list (intL ms))] [Spot sp] H ∧
    ds.length = rs.length ∧ ds[i]? = some e ∧ (∀ j, j < i → ds[j]? = (rs.map ruleT)[j]?) ∧ ∀ x ∈ ds, fitR x) ?_ ?_
  · intro nx' hN
    have hB : ∀ x ∈ (rs.map ruleT).set i e, fitR x := fun x hx => by
      rcases List.mem_or_eq_of_mem_set hx with hx | rfl
      · exact (rules_self ok).fit x hx
      · exact hfit
    walk_at "go"
    refine g_ite (fun hc => ?_) (fun hc => ?_)
    · have hc : (i : Int) < 1 + (jn : Int) - 1 := of_decide_eq_true hc
      walk_at "go"
      rename_i k2 Hk2 k220 k221 hS32
      refine g_ite (fun _ => ?_) (fun _ => ?_)
      · walk_at "go"
        rw [show (i : Int) + 1 = ((i + 1 : Nat) : Int) by omega]
        refine c_law_set (ds := (rs.map ruleT).set i e) (e := .none) hS32 (by walk_at "has") Has.non (by rw [List.length_set, List.length_map]; omega) ?_
        intro w3 H3 hS33
        walk_at "go"
        refine hN _ _ ⟨_, _, rfl, by walk_at "wk", by rw [List.length_set, List.length_set, List.length_map], ?_, ?_, ?_⟩
        · rw [List.getElem?_set_ne (by omega), List.getElem?_set_self hil]
        · intro j hj
          rw [List.getElem?_set_ne (by omega), List.getElem?_set_ne (by omega)]
        · intro x hx
          rcases List.mem_or_eq_of_mem_set hx with hx | rfl
          · exact hB x hx
          · exact fun xs e => (nomatch e)
      · walk_at "go"
        exact hN _ _ ⟨_, _, rfl, by walk_at "wk", by rw [List.length_set, List.length_map], List.getElem?_set_self hil, fun j hj => List.getElem?_set_ne (by omega), hB⟩
    · refine g_iteF rfl ?_
      walk_at "go"
      exact hN _ _ ⟨_, _, rfl, by walk_at "wk", by rw [List.length_set, List.length_map], List.getElem?_set_self hil, fun j hj => List.getElem?_set_ne (by omega), hB⟩
  rintro _ Hc ⟨w, ds, rfl, hS32, hdl, hdi, hdj, hdf⟩
  walk_at "go"
  refine c_law_schema_fault hS32 .int (by walk_at "has") (fun xs e => by cases e; exact ⟨by omega, hdf⟩) ?_
  rw [fault_rule ok hdl hdi (by rw [hrl]; exact hbad) hdj]
  intro w4 H4 hS33
  walk_at "go"
  rename_i w5 H5 hS34
  refine g_eqD hS34 (by walk_at "has") Has.here (ans_shaped (by decide +kernel)) (ans_shaped (by decide +kernel)) ?_
  rw [ans_eqv]
  exact q _


def topS (i : Nat) : Stmt := PySem.Challenge.pw_quietedits_k01_schemas_as_given.main.body.getD i (.Pass ⟨0, 0, 0, 0⟩)
abbrev s_law_numbers : Stmt := topS 14
theorem sc_law_numbers : FnScope ["script", "row", "cell", "left", "k", "mixed"] ["script"] (defScope s_law_numbers) := ⟨rfl, rfl, rfl, by decide +kernel, rfl, by decide +kernel, by decide +kernel⟩
theorem b_law_numbers {P : Program} {w : World} {K : PySem.W.Frag} {mg : Str → Option Value} {base : Heap} {cdv : Value} {A : Around} {outer : List Env} {s : Shared} {H : Hp} {E : XK} {f : Addr}  (T : Tx mg)
    (hr : Room 0 (A.deeper (envOfC "_law_numbers" (defScope s_law_numbers) s.heap.objs.size f cdv))) : PSs (cxOf CX0 P w K mg base ["script", "row", "cell", "left", "k", "mixed"] "_law_numbers" (defScope s_law_numbers) f cdv A outer s H E).nox (defBody s_law_numbers) (t_law_numbers K ) := by
  have hu := hr.units
  have hu5 := hu5_of hr
  have hu1 := hu1_of hr
  exact (pss_cons (ps_set (i := 1) sc_law_numbers.nd rfl (by first | exact Or.inl rfl | exact Or.inr rfl) (pe_lst pa_nil))
  (pss_cons (ps_for PassesOwn.never rfl (pi_seq (pe_slice sl_U (pv 0) po_none (po_some pe_int))) (pg_name (i := 2) sc_law_numbers.nd rfl (by first | exact Or.inl rfl | exact Or.inr rfl))
  (pss_one (ps_if (pt_cmpR op_geI (pv 2) (pe_op op_powI pe_int pe_int) (nomark _))
  (pss_cons (ps_set (i := 3) sc_law_numbers.nd rfl (by first | exact Or.inl rfl | exact Or.inr rfl) (pv 2))
  (pss_one (ps_for PassesOwn.never rfl (pi_range1 (by rfl) T.range (pa_cons pe_int pa_nil)) (pg_name (i := 4) sc_law_numbers.nd rfl (by first | exact Or.inl rfl | exact Or.inr rfl))
  (pss_cons (ps_if (pt_cmpR (op_eqU hu) (pv 3) pe_int (nomark _))
  (pss_one ps_break)
  pss_nil)
  (pss_cons (ps_expr (pe_bm PySem.F.plainAttrs_list PySem.F.slot_list_append PySem.F.type_list_append mt_append (pv 1) (pa_cons (pe_op op_modI (pe_callTy cb_int (by rfl) T.int (by decide +kernel) (pa_cons (pv 3) pa_nil)) pe_int) pa_nil)))
  (pss_one (ps_set (i := 3) sc_law_numbers.nd rfl (by first | exact Or.inl rfl | exact Or.inr rfl) (pe_op op_divI (pv 3) pe_int))))))))
  (pss_one (ps_for PassesOwn.never rfl (pi_range1 (by rfl) T.range (pa_cons pe_int pa_nil)) (pg_name (i := 4) sc_law_numbers.nd rfl (by first | exact Or.inl rfl | exact Or.inr rfl))
  (pss_cons (ps_set (i := 5) sc_law_numbers.nd rfl (by first | exact Or.inl rfl | exact Or.inr rfl) (pe_op op_modI (pe_callTy cb_int (by rfl) T.int (by decide +kernel) (pa_cons (pe_op op_addU (pe_op op_addU (pe_op op_mulU (pv 2) pe_int) (pe_op op_mulU (pv 4) pe_int)) pe_int) pa_nil)) pe_int))
  (pss_one (ps_expr (pe_bm PySem.F.plainAttrs_list PySem.F.slot_list_append PySem.F.type_list_append mt_append (pv 1) (pa_cons (pe_op op_modI (pe_callTy cb_int (by rfl) T.int (by decide +kernel) (pa_cons (pe_op op_addU (pe_op op_mulU (pv 5) pe_int) (pv 4)) pa_nil)) pe_int) pa_nil))))))))))
  (pss_cons (ps_if (pt_cmpR (op_eqU hu) (pe_callB cb_len (by rfl) T.len (by decide +kernel) (pa_cons (pv 1) pa_nil)) pe_int (nomark _))
  (pss_one (ps_expr (pe_bm PySem.F.plainAttrs_list PySem.F.slot_list_append PySem.F.type_list_append mt_append (pv 1) (pa_cons pe_int pa_nil))))
  pss_nil)
  (pss_one (ps_ret (pv 1))))))
theorem fn_law_numbers {P : Program} {w : World} {K : PySem.W.Frag} {mg : Str → Option Value} {base : Heap} {a : Addr} {fd : FuncData} (T : Tx mg)
    (F : FunD K "_law_numbers" "_law_numbers" (defArgs s_law_numbers) (defBody s_law_numbers) (defScope s_law_numbers) [] [] a fd) (hm : mg "_law_numbers" = some (.ref a))  : Fn P w K mg base CX0 1 "_law_numbers" ["script"] (sp_law_numbers K) := by
  have b : Binds K fd ["script"] [] := F.bindsN fun _ _ _ _ _ _ us hl => match us, hl with | [_], _ => rfl
  exact ⟨a, fd, hm, F.kp, b, F.ok sc_law_numbers (fun vs H Q E h => l_law_numbers h) (fun cdv A outer s H vs Q E hr h => ⟨t_law_numbers K, PSs.nox (b_law_numbers T hr), r_law_numbers  h⟩)⟩
abbrev s_law_draw : Stmt := topS 15
theorem sc_law_draw : FnScope ["row", "at", "limit", "mixed"] ["row", "at", "limit"] (defScope s_law_draw) := ⟨rfl, rfl, rfl, by decide +kernel, rfl, by decide +kernel, by decide +kernel⟩
theorem b_law_draw {P : Program} {w : World} {K : PySem.W.Frag} {mg : Str → Option Value} {base : Heap} {cdv : Value} {A : Around} {outer : List Env} {s : Shared} {H : Hp} {E : XK} {f : Addr}  (T : Tx mg)
    (hr : Room 0 (A.deeper (envOfC "_law_draw" (defScope s_law_draw) s.heap.objs.size f cdv))) : PSs (cxOf CX0 P w K mg base ["row", "at", "limit", "mixed"] "_law_draw" (defScope s_law_draw) f cdv A outer s H E).nox (defBody s_law_draw) (t_law_draw K ) := by
  have hu := hr.units
  have hu5 := hu5_of hr
  have hu1 := hu1_of hr
  exact (pss_cons (ps_if (pt_cmpR op_ltI (pv 1) (pe_callB cb_len (by rfl) T.len (by decide +kernel) (pa_cons (pv 0) pa_nil)) (nomark _))
  (pss_one (ps_ret (pe_op op_modI (pe_callTy cb_int (by rfl) T.int (by decide +kernel) (pa_cons (pe_ix ix_seq (pv 0) (pv 1) (fun _ _ => rfl)) pa_nil)) (pv 2))))
  pss_nil)
  (pss_cons (ps_set (i := 3) sc_law_draw.nd rfl (by first | exact Or.inl rfl | exact Or.inr rfl) (pe_op op_modI (pe_callTy cb_int (by rfl) T.int (by decide +kernel) (pa_cons (pe_op op_addU (pe_op op_addU (pe_op op_mulU (pe_ix ix_seq (pv 0) (pe_op op_modI (pe_callTy cb_int (by rfl) T.int (by decide +kernel) (pa_cons (pv 1) pa_nil)) (pe_callB cb_len (by rfl) T.len (by decide +kernel) (pa_cons (pv 0) pa_nil))) (fun _ _ => rfl)) pe_int) (pe_op op_mulU (pv 1) pe_int)) pe_int) pa_nil)) pe_int))
  (pss_one (ps_ret (pe_op op_modI (pe_callTy cb_int (by rfl) T.int (by decide +kernel) (pa_cons (pe_op op_modI (pe_callTy cb_int (by rfl) T.int (by decide +kernel) (pa_cons (pe_op op_addU (pe_op op_mulU (pv 3) pe_int) (pv 1)) pa_nil)) pe_int) pa_nil)) (pv 2))))))
theorem fn_law_draw {P : Program} {w : World} {K : PySem.W.Frag} {mg : Str → Option Value} {base : Heap} {a : Addr} {fd : FuncData} (T : Tx mg)
    (F : FunD K "_law_draw" "_law_draw" (defArgs s_law_draw) (defBody s_law_draw) (defScope s_law_draw) [] [] a fd) (hm : mg "_law_draw" = some (.ref a))  : Fn P w K mg base CX0 1 "_law_draw" ["row", "at", "limit"] (sp_law_draw K) := by
  have b : Binds K fd ["row", "at", "limit"] [] := F.bindsN fun _ _ _ _ _ _ us hl => match us, hl with | [_, _, _], _ => rfl
  exact ⟨a, fd, hm, F.kp, b, F.ok sc_law_draw (fun vs H Q E h => l_law_draw h) (fun cdv A outer s H vs Q E hr h => ⟨t_law_draw K, PSs.nox (b_law_draw T hr), r_law_draw  h⟩)⟩
abbrev s_law_take : Stmt := topS 16
theorem sc_law_take : FnScope ["row", "spot", "limit"] ["row", "spot", "limit"] (defScope s_law_take) := ⟨rfl, rfl, rfl, by decide +kernel, rfl, by decide +kernel, by decide +kernel⟩
theorem b_law_take {P : Program} {w : World} {K : PySem.W.Frag} {mg : Str → Option Value} {base : Heap} {cdv : Value} {A : Around} {outer : List Env} {s : Shared} {H : Hp} {E : XK} {f : Addr}  (T : Tx mg) (h_law_draw : Fn P w K mg base CX0 1 "_law_draw" ["row", "at", "limit"] (sp_law_draw K))
    (hr : Room 1 (A.deeper (envOfC "_law_take" (defScope s_law_take) s.heap.objs.size f cdv))) : PSs (cxOf CX0 P w K mg base ["row", "spot", "limit"] "_law_take" (defScope s_law_take) f cdv A outer s H E).nox (defBody s_law_take) (t_law_take K ) := by
  have hu := hr.units
  have hu5 := hu5_of hr
  have hu1 := hu1_of hr
  exact (pss_cons (ps_asg (pe_op op_addU (pe_ix ix_seq (pv 1) pe_int (fun _ _ => rfl)) pe_int) (pg_sub (pv 1) pe_int set_list))
  (pss_one (ps_ret (pe_fn h_law_draw (hr.mono (by omega)) pass0 (pa_cons (pv 0) (pa_cons (pe_op op_subI (pe_ix ix_seq (pv 1) pe_int (fun _ _ => rfl)) pe_int) (pa_cons (pv 2) pa_nil)))))))
theorem fn_law_take {P : Program} {w : World} {K : PySem.W.Frag} {mg : Str → Option Value} {base : Heap} {a : Addr} {fd : FuncData} (T : Tx mg) (h_law_draw : Fn P w K mg base CX0 1 "_law_draw" ["row", "at", "limit"] (sp_law_draw K))
    (F : FunD K "_law_take" "_law_take" (defArgs s_law_take) (defBody s_law_take) (defScope s_law_take) [] [] a fd) (hm : mg "_law_take" = some (.ref a))  : Fn P w K mg base CX0 2 "_law_take" ["row", "spot", "limit"] (sp_law_take K) := by
  have b : Binds K fd ["row", "spot", "limit"] [] := F.bindsN fun _ _ _ _ _ _ us hl => match us, hl with | [_, _, _], _ => rfl
  exact ⟨a, fd, hm, F.kp, b, F.ok sc_law_take (fun vs H Q E h => l_law_take h) (fun cdv A outer s H vs Q E hr h => ⟨t_law_take K, PSs.nox (b_law_take T h_law_draw hr), r_law_take  h⟩)⟩
abbrev s_law_rules : Stmt := topS 19
theorem sc_law_rules : FnScope ["row", "spot", "labels", "rules", "k", "pairs", "j", "style", "pair"] ["row", "spot", "labels"] (defScope s_law_rules) := ⟨rfl, rfl, rfl, by decide +kernel, rfl, by decide +kernel, by decide +kernel⟩
theorem b_law_rules {P : Program} {w : World} {K : PySem.W.Frag} {mg : Str → Option Value} {base : Heap} {cdv : Value} {A : Around} {outer : List Env} {s : Shared} {H : Hp} {E : XK} {f : Addr}  (T : Tx mg) (h_law_take : Fn P w K mg base CX0 2 "_law_take" ["row", "spot", "limit"] (sp_law_take K))
    (hr : Room 2 (A.deeper (envOfC "_law_rules" (defScope s_law_rules) s.heap.objs.size f cdv))) : PSs (cxOf CX0 P w K mg base ["row", "spot", "labels", "rules", "k", "pairs", "j", "style", "pair"] "_law_rules" (defScope s_law_rules) f cdv A outer s H E).nox (defBody s_law_rules) (t_law_rules K ) := by
  have hu := hr.units
  have hu5 := hu5_of hr
  have hu1 := hu1_of hr
  exact (pss_cons (ps_set (i := 3) sc_law_rules.nd rfl (by first | exact Or.inl rfl | exact Or.inr rfl) (pe_lst pa_nil))
  (pss_cons (ps_for PassesOwn.never rfl (pi_range1 (by rfl) T.range (pa_cons (pv 2) pa_nil)) (pg_name (i := 4) sc_law_rules.nd rfl (by first | exact Or.inl rfl | exact Or.inr rfl))
  (pss_cons (ps_set (i := 5) sc_law_rules.nd rfl (by first | exact Or.inl rfl | exact Or.inr rfl) (pe_lst pa_nil))
  (pss_cons (ps_for PassesOwn.never rfl (pi_range1 (by rfl) T.range (pa_cons (pv 2) pa_nil)) (pg_name (i := 6) sc_law_rules.nd rfl (by first | exact Or.inl rfl | exact Or.inr rfl))
  (pss_cons (ps_set (i := 7) sc_law_rules.nd rfl (by first | exact Or.inl rfl | exact Or.inr rfl) (pe_fn h_law_take (hr.mono (by omega)) pass0 (pa_cons (pv 0) (pa_cons (pv 1) (pa_cons pe_int pa_nil)))))
  (pss_one (ps_if (pt_cmpR op_ltI (pv 7) pe_int (nomark _))
  (pss_one (ps_expr (pe_bm PySem.F.plainAttrs_list PySem.F.slot_list_append PySem.F.type_list_append mt_append (pv 5) (pa_cons (pe_tup (pa_cons (pv 6) (pa_cons (pe_ix ix_seq (pe_lst (pa_cons pe_str (pa_cons pe_str (pa_cons pe_str (pa_cons pe_str pa_nil))))) (pv 7) (fun _ _ => rfl)) pa_nil))) pa_nil))))
  pss_nil))))
  (pss_cons (ps_if (pt_cmpR (op_eqU hu) (pe_fn h_law_take (hr.mono (by omega)) pass0 (pa_cons (pv 0) (pa_cons (pv 1) (pa_cons pe_int pa_nil)))) pe_int (nomark _))
  (pss_one (ps_setLc (i := 5) (own := [("pair", 8)]) (g := (gName 8)) (tt := (tTest (tOp (rInU K false) (tOp (rIx K) (tVar 8) (tC (.int 1))) (tLst (tCons (tC (.str "maybe")) (tCons (tC (.str "any")) tNil)))))) rfl sc_law_rules.nd rfl rfl (sw_true rfl rfl rfl (by decide +kernel)) (pi_seq (pv 5)) (blkOk_by (own := [("pair", 8)]) (by kernel_rfl)) (fun _ _ _ _ _ => (pg_name (i := 8) sc_law_rules.nd rfl (by first | exact Or.inl rfl | exact Or.inr rfl))) (fun _ _ _ _ _ => (pts_one (pt_cmpR (op_inU hu5) (pe_ix ix_seq (pv 8) pe_int (fun _ _ => rfl)) (pe_lst (pa_cons pe_str (pa_cons pe_str pa_nil))) (by rfl)))) (fun _ _ _ _ _ => (pv 8))))
  pss_nil)
  (pss_one (ps_expr (pe_bm PySem.F.plainAttrs_list PySem.F.slot_list_append PySem.F.type_list_append mt_append (pv 3) (pa_cons (pe_callTy cb_tuple (by rfl) T.tuple (by decide +kernel) (pa_cons (pv 5) pa_nil)) pa_nil))))))))
  (pss_one (ps_ret (pe_callTy cb_tuple (by rfl) T.tuple (by decide +kernel) (pa_cons (pv 3) pa_nil))))))
theorem fn_law_rules {P : Program} {w : World} {K : PySem.W.Frag} {mg : Str → Option Value} {base : Heap} {a : Addr} {fd : FuncData} (T : Tx mg) (h_law_take : Fn P w K mg base CX0 2 "_law_take" ["row", "spot", "limit"] (sp_law_take K))
    (F : FunD K "_law_rules" "_law_rules" (defArgs s_law_rules) (defBody s_law_rules) (defScope s_law_rules) [] [] a fd) (hm : mg "_law_rules" = some (.ref a))  : Fn P w K mg base CX0 3 "_law_rules" ["row", "spot", "labels"] (sp_law_rules K) := by
  have b : Binds K fd ["row", "spot", "labels"] [] := F.bindsN fun _ _ _ _ _ _ us hl => match us, hl with | [_, _, _], _ => rfl
  exact ⟨a, fd, hm, F.kp, b, F.ok sc_law_rules (fun vs H Q E h => l_law_rules h) (fun cdv A outer s H vs Q E hr h => ⟨t_law_rules K, PSs.nox (b_law_rules T h_law_take hr), r_law_rules  h⟩)⟩
abbrev s_is_integer : Stmt := topS 5
theorem sc_is_integer : FnScope ["value"] ["value"] (defScope s_is_integer) := ⟨rfl, rfl, rfl, by decide +kernel, rfl, by decide +kernel, by decide +kernel⟩
theorem b_is_integer {P : Program} {w : World} {K : PySem.W.Frag} {mg : Str → Option Value} {base : Heap} {cdv : Value} {A : Around} {outer : List Env} {s : Shared} {H : Hp} {E : XK} {f : Addr}  (T : Tx mg)
    (hr : Room 0 (A.deeper (envOfC "is_integer" (defScope s_is_integer) s.heap.objs.size f cdv))) : PSs (cxOf CX0 P w K mg base ["value"] "is_integer" (defScope s_is_integer) f cdv A outer s H E).nox (defBody s_is_integer) (t_is_integer K ) := by
  have hu := hr.units
  have hu5 := hu5_of hr
  have hu1 := hu1_of hr
  exact (pss_one (ps_ret (pe_and (pe_callB call_isi (by rfl) T.isinstance (by decide +kernel) (pa_cons (pv 0) (pa_cons (pe_bltn (by rfl) T.int (by decide +kernel) rfl) pa_nil))) (pe_one (pe_notT (pe_callB call_isi (by rfl) T.isinstance (by decide +kernel) (pa_cons (pv 0) (pa_cons (pe_bltn (by rfl) T.bool (by decide +kernel) rfl) pa_nil))))))))
theorem fn_is_integer {P : Program} {w : World} {K : PySem.W.Frag} {mg : Str → Option Value} {base : Heap} {a : Addr} {fd : FuncData} (T : Tx mg)
    (F : FunD K "is_integer" "is_integer" (defArgs s_is_integer) (defBody s_is_integer) (defScope s_is_integer) [] [] a fd) (hm : mg "is_integer" = some (.ref a))  : Fn P w K mg base CX0 1 "is_integer" ["value"] (sp_is_integer K) := by
  have b : Binds K fd ["value"] [] := F.bindsN fun _ _ _ _ _ _ us hl => match us, hl with | [_], _ => rfl
  exact ⟨a, fd, hm, F.kp, b, F.ok sc_is_integer (fun vs H Q E h => l_is_integer h) (fun cdv A outer s H vs Q E hr h => ⟨t_is_integer K, PSs.nox (b_is_integer T hr), r_is_integer  h⟩)⟩
abbrev s_is_label : Stmt := topS 7
theorem sc_is_label : FnScope ["value"] ["value"] (defScope s_is_label) := ⟨rfl, rfl, rfl, by decide +kernel, rfl, by decide +kernel, by decide +kernel⟩
theorem b_is_label {P : Program} {w : World} {K : PySem.W.Frag} {mg : Str → Option Value} {base : Heap} {cdv : Value} {A : Around} {outer : List Env} {s : Shared} {H : Hp} {E : XK} {f : Addr}  (T : Tx mg) (h_is_integer : Fn P w K mg base CX0 1 "is_integer" ["value"] (sp_is_integer K))
    (hr : Room 1 (A.deeper (envOfC "is_label" (defScope s_is_label) s.heap.objs.size f cdv))) : PSs (cxOf CX0 P w K mg base ["value"] "is_label" (defScope s_is_label) f cdv A outer s H E).nox (defBody s_is_label) (t_is_label K ) := by
  have hu := hr.units
  have hu5 := hu5_of hr
  have hu1 := hu1_of hr
  exact (pss_one (ps_ret (pe_and (pe_fn h_is_integer (hr.mono (by omega)) pass0 (pa_cons (pv 0) pa_nil)) (pe_one (pe_chain op_leI op_leI pe_int (pv 0) pe_int)))))
theorem fn_is_label {P : Program} {w : World} {K : PySem.W.Frag} {mg : Str → Option Value} {base : Heap} {a : Addr} {fd : FuncData} (T : Tx mg) (h_is_integer : Fn P w K mg base CX0 1 "is_integer" ["value"] (sp_is_integer K))
    (F : FunD K "is_label" "is_label" (defArgs s_is_label) (defBody s_is_label) (defScope s_is_label) [] [] a fd) (hm : mg "is_label" = some (.ref a))  : Fn P w K mg base CX0 2 "is_label" ["value"] (sp_is_label K) := by
  have b : Binds K fd ["value"] [] := F.bindsN fun _ _ _ _ _ _ us hl => match us, hl with | [_], _ => rfl
  exact ⟨a, fd, hm, F.kp, b, F.ok sc_is_label (fun vs H Q E h => l_is_label h) (fun cdv A outer s H vs Q E hr h => ⟨t_is_label K, PSs.nox (b_is_label T h_is_integer hr), r_is_label  h⟩)⟩
def t_BadValue___init (K : PySem.W.Frag)   : TS :=
  (tOse K "at" (tVar 0) (tVar 1))
abbrev N_BadValue___init : List Str := ["self", "at"]
abbrev s_BadValue___init : Stmt := inClass (topS 2) 0
theorem sc_BadValue___init : FnScope ["self", "at"] ["self", "at"] (defScope s_BadValue___init) := ⟨rfl, rfl, rfl, by decide +kernel, rfl, by decide +kernel, by decide +kernel⟩
theorem b_BadValue___init {P : Program} {w : World} {K : PySem.W.Frag} {mg : Str → Option Value} {base : Heap} {cdv : Value} {A : Around} {outer : List Env} {s : Shared} {H : Hp} {E : XK} {f : Addr}  (T : Tx mg)
    (hr : Room 0 (A.deeper (envOfC "BadValue.__init__" (defScope s_BadValue___init) s.heap.objs.size f cdv))) : PSs (cxOf CX0 P w K mg base ["self", "at"] "BadValue.__init__" (defScope s_BadValue___init) f cdv A outer s H E).nox (defBody s_BadValue___init) (t_BadValue___init K ) := by
  have hu := hr.units
  have hu5 := hu5_of hr
  have hu1 := hu1_of hr
  exact (pss_one (ps_ose (pv 0) (pv 1) rfl))
theorem fn_BadValue___init {P : Program} {w : World} {K : PySem.W.Frag} {mg : Str → Option Value} {base : Heap} {a : Addr} {fd : FuncData} (T : Tx mg)
    (F : FunD K "__init__" "BadValue.__init__" (defArgs s_BadValue___init) (defBody s_BadValue___init) (defScope s_BadValue___init) [] [] a fd)  : FnA P w K mg base CX0 1 a ["self", "at"] (errSp K "at") := by
  have b : Binds K fd ["self", "at"] [] := F.bindsN fun _ _ _ _ _ _ us hl => match us, hl with | [_, _], _ => rfl
  exact ⟨fd, b, F.ok sc_BadValue___init (fun vs H Q E h => l_errSp h) (fun cdv A outer s H vs Q E hr h => ⟨t_BadValue___init K, PSs.nox (b_BadValue___init T hr), r_errSp rfl  h⟩)⟩
abbrev s_is_sequence : Stmt := topS 6
theorem sc_is_sequence : FnScope ["value"] ["value"] (defScope s_is_sequence) := ⟨rfl, rfl, rfl, by decide +kernel, rfl, by decide +kernel, by decide +kernel⟩
theorem b_is_sequence {P : Program} {w : World} {K : PySem.W.Frag} {mg : Str → Option Value} {base : Heap} {cdv : Value} {A : Around} {outer : List Env} {s : Shared} {H : Hp} {E : XK} {f : Addr}  (T : Tx mg)
    (hr : Room 0 (A.deeper (envOfC "is_sequence" (defScope s_is_sequence) s.heap.objs.size f cdv))) : PSs (cxOf CX0 P w K mg base ["value"] "is_sequence" (defScope s_is_sequence) f cdv A outer s H E).nox (defBody s_is_sequence) (t_is_sequence K ) := by
  have hu := hr.units
  have hu5 := hu5_of hr
  have hu1 := hu1_of hr
  exact (pss_one (ps_ret (pe_callB call_isiT (by rfl) T.isinstance (by decide +kernel) (pa_cons (pv 0) (pa_cons (pe_tup (pa_cons (pe_bltn (by rfl) T.list (by decide +kernel) rfl) (pa_cons (pe_bltn (by rfl) T.tuple (by decide +kernel) rfl) pa_nil))) pa_nil)))))
theorem fn_is_sequence {P : Program} {w : World} {K : PySem.W.Frag} {mg : Str → Option Value} {base : Heap} {a : Addr} {fd : FuncData} (T : Tx mg)
    (F : FunD K "is_sequence" "is_sequence" (defArgs s_is_sequence) (defBody s_is_sequence) (defScope s_is_sequence) [] [] a fd) (hm : mg "is_sequence" = some (.ref a))  : Fn P w K mg base CX0 1 "is_sequence" ["value"] (sp_is_sequence K) := by
  have b : Binds K fd ["value"] [] := F.bindsN fun _ _ _ _ _ _ us hl => match us, hl with | [_], _ => rfl
  exact ⟨a, fd, hm, F.kp, b, F.ok sc_is_sequence (fun vs H Q E h => l_is_sequence h) (fun cdv A outer s H vs Q E hr h => ⟨t_is_sequence K, PSs.nox (b_is_sequence T hr), r_is_sequence  h⟩)⟩
abbrev s_plain_rule : Stmt := topS 10
theorem sc_plain_rule : FnScope ["value", "many", "pairs", "pair"] ["value", "many"] (defScope s_plain_rule) := ⟨rfl, rfl, rfl, by decide +kernel, rfl, by decide +kernel, by decide +kernel⟩
theorem b_plain_rule {P : Program} {w : World} {K : PySem.W.Frag} {mg : Str → Option Value} {base : Heap} {cdv : Value} {A : Around} {outer : List Env} {s : Shared} {H : Hp} {E : XK} {f : Addr}  (T : Tx mg) (g_HOWS : mg "HOWS" = some (.ref (He.ga K "HOWS"))) (h_is_sequence : Fn P w K mg base CX0 1 "is_sequence" ["value"] (sp_is_sequence K)) (h_is_label : Fn P w K mg base CX0 2 "is_label" ["value"] (sp_is_label K))
    (hr : Room 2 (A.deeper (envOfC "plain_rule" (defScope s_plain_rule) s.heap.objs.size f cdv))) : PSs (cxOf CX0 P w K mg base ["value", "many", "pairs", "pair"] "plain_rule" (defScope s_plain_rule) f cdv A outer s H E).nox (defBody s_plain_rule) (t_plain_rule K ) := by
  have hu := hr.units
  have hu5 := hu5_of hr
  have hu1 := hu1_of hr
  exact (pss_cons (ps_if (pt_not (pt_tru (pe_fn h_is_sequence (hr.mono (by omega)) pass0 (pa_cons (pv 0) pa_nil))))
  (pss_one (ps_ret pe_non))
  pss_nil)
  (pss_cons (ps_set (i := 2) sc_plain_rule.nd rfl (by first | exact Or.inl rfl | exact Or.inr rfl) (pe_lst pa_nil))
  (pss_cons (ps_for PassesOwn.never rfl (pi_seq (pv 0)) (pg_name (i := 3) sc_plain_rule.nd rfl (by first | exact Or.inl rfl | exact Or.inr rfl))
  (pss_cons (ps_if (PW.pt (pw_or (pt_not (pt_tru (pe_fn h_is_sequence (hr.mono (by omega)) pass0 (pa_cons (pv 3) pa_nil)))) (pw_or1 (pt_cmpR (op_neU hu) (pe_callB cb_len (by rfl) T.len (by decide +kernel) (pa_cons (pv 3) pa_nil)) pe_int (nomark _)))))
  (pss_one (ps_ret pe_non))
  pss_nil)
  (pss_cons (ps_if (PW.pt (pw_or (pt_not (pt_tru (pe_fn h_is_label (hr.mono (by omega)) pass0 (pa_cons (pe_ix ix_seq (pv 3) pe_int (fun _ _ => rfl)) pa_nil)))) (pw_or (pt_cmpR op_geI (pe_ix ix_seq (pv 3) pe_int (fun _ _ => rfl)) (pv 1) (nomark _)) (pw_or1 (pt_cmpR (op_niU hu5) (pe_ix ix_seq (pv 3) pe_int (fun _ _ => rfl)) (pe_glob (by rfl) g_HOWS rfl) (by rfl))))))
  (pss_one (ps_ret pe_non))
  pss_nil)
  (pss_cons (ps_if (PW.pt (pw_and (pt_tru (pv 2)) (pw_and1 (pt_cmpR op_geI (pe_ix ix_seq (pe_ix ix_seq (pv 2) (pe_un un_negI pe_int) (fun _ _ => rfl)) pe_int (fun _ _ => rfl)) (pe_ix ix_seq (pv 3) pe_int (fun _ _ => rfl)) (nomark _)))))
  (pss_one (ps_ret pe_non))
  pss_nil)
  (pss_one (ps_expr (pe_bm PySem.F.plainAttrs_list PySem.F.slot_list_append PySem.F.type_list_append mt_append (pv 2) (pa_cons (pe_tup (pa_cons (pe_ix ix_seq (pv 3) pe_int (fun _ _ => rfl)) (pa_cons (pe_ix ix_seq (pv 3) pe_int (fun _ _ => rfl)) pa_nil))) pa_nil))))))))
  (pss_one (ps_ret (pe_callTy cb_tuple (by rfl) T.tuple (by decide +kernel) (pa_cons (pv 2) pa_nil)))))))
theorem fn_plain_rule {P : Program} {w : World} {K : PySem.W.Frag} {mg : Str → Option Value} {base : Heap} {a : Addr} {fd : FuncData} (T : Tx mg) (g_HOWS : mg "HOWS" = some (.ref (He.ga K "HOWS"))) (h_is_sequence : Fn P w K mg base CX0 1 "is_sequence" ["value"] (sp_is_sequence K)) (h_is_label : Fn P w K mg base CX0 2 "is_label" ["value"] (sp_is_label K))
    (F : FunD K "plain_rule" "plain_rule" (defArgs s_plain_rule) (defBody s_plain_rule) (defScope s_plain_rule) [] [] a fd) (hm : mg "plain_rule" = some (.ref a)) (kH : HowsK K) : Fn P w K mg base CX0 3 "plain_rule" ["value", "many"] (sp_plain_rule K) := by
  have b : Binds K fd ["value", "many"] [] := F.bindsN fun _ _ _ _ _ _ us hl => match us, hl with | [_, _], _ => rfl
  exact ⟨a, fd, hm, F.kp, b, F.ok sc_plain_rule (fun vs H Q E h => l_plain_rule h) (fun cdv A outer s H vs Q E hr h => ⟨t_plain_rule K, PSs.nox (b_plain_rule T g_HOWS h_is_sequence h_is_label hr), r_plain_rule kH h⟩)⟩
def t_BadRule___init (K : PySem.W.Frag)   : TS :=
  (tOse K "at" (tVar 0) (tVar 1))
abbrev N_BadRule___init : List Str := ["self", "at"]
abbrev s_BadRule___init : Stmt := inClass (topS 3) 0
theorem sc_BadRule___init : FnScope ["self", "at"] ["self", "at"] (defScope s_BadRule___init) := ⟨rfl, rfl, rfl, by decide +kernel, rfl, by decide +kernel, by decide +kernel⟩
theorem b_BadRule___init {P : Program} {w : World} {K : PySem.W.Frag} {mg : Str → Option Value} {base : Heap} {cdv : Value} {A : Around} {outer : List Env} {s : Shared} {H : Hp} {E : XK} {f : Addr}  (T : Tx mg)
    (hr : Room 0 (A.deeper (envOfC "BadRule.__init__" (defScope s_BadRule___init) s.heap.objs.size f cdv))) : PSs (cxOf CX0 P w K mg base ["self", "at"] "BadRule.__init__" (defScope s_BadRule___init) f cdv A outer s H E).nox (defBody s_BadRule___init) (t_BadRule___init K ) := by
  have hu := hr.units
  have hu5 := hu5_of hr
  have hu1 := hu1_of hr
  exact (pss_one (ps_ose (pv 0) (pv 1) rfl))
theorem fn_BadRule___init {P : Program} {w : World} {K : PySem.W.Frag} {mg : Str → Option Value} {base : Heap} {a : Addr} {fd : FuncData} (T : Tx mg)
    (F : FunD K "__init__" "BadRule.__init__" (defArgs s_BadRule___init) (defBody s_BadRule___init) (defScope s_BadRule___init) [] [] a fd)  : FnA P w K mg base CX0 1 a ["self", "at"] (errSp K "at") := by
  have b : Binds K fd ["self", "at"] [] := F.bindsN fun _ _ _ _ _ _ us hl => match us, hl with | [_, _], _ => rfl
  exact ⟨fd, b, F.ok sc_BadRule___init (fun vs H Q E h => l_errSp h) (fun cdv A outer s H vs Q E hr h => ⟨t_BadRule___init K, PSs.nox (b_BadRule___init T hr), r_errSp rfl  h⟩)⟩
abbrev s_Schema___init : Stmt := inClass (topS 11) 0
theorem sc_Schema___init : FnScope ["self", "root", "rules", "plain", "number", "rule", "pairs"] ["self", "root", "rules"] (defScope s_Schema___init) := ⟨rfl, rfl, rfl, by decide +kernel, rfl, by decide +kernel, by decide +kernel⟩
theorem b_Schema___init {P : Program} {w : World} {K : PySem.W.Frag} {mg : Str → Option Value} {base : Heap} {cdv : Value} {A : Around} {outer : List Env} {s : Shared} {H : Hp} {E : XK} {f : Addr}  (T : Tx mg) (g_BadRule : mg "BadRule" = some (.ref (He.ga K "BadRule"))) (g_BadValue : mg "BadValue" = some (.ref (He.ga K "BadValue"))) (ET : ErrT K tabE) (h_is_label : Fn P w K mg base CX0 2 "is_label" ["value"] (sp_is_label K)) (h_BadValue___init : FnA P w K mg base CX0 1 (He.ma K (He.ga K "BadValue") "__init__") ["self", "at"] (errSp K "at")) (h_is_sequence : Fn P w K mg base CX0 1 "is_sequence" ["value"] (sp_is_sequence K)) (h_plain_rule : Fn P w K mg base CX0 3 "plain_rule" ["value", "many"] (sp_plain_rule K)) (h_BadRule___init : FnA P w K mg base CX0 1 (He.ma K (He.ga K "BadRule") "__init__") ["self", "at"] (errSp K "at"))
    (hr : Room 3 (A.deeper (envOfC "Schema.__init__" (defScope s_Schema___init) s.heap.objs.size f cdv))) : PSs (cxOf (L2N.CX P w) P w K mg base ["self", "root", "rules", "plain", "number", "rule", "pairs"] "Schema.__init__" (defScope s_Schema___init) f cdv A outer s H E) (defBody s_Schema___init) (t_Schema___init K  E) := by
  have hu := hr.units
  have hu5 := hu5_of hr
  have hu1 := hu1_of hr
  have tk : L2N.Takes (cxOf (L2N.CX P w) P w K mg base ["self", "root", "rules", "plain", "number", "rule", "pairs"] "Schema.__init__" (defScope s_Schema___init) f cdv A outer s H E) (WOf E) := takesX
  exact (pss_cons (ps_if (pt_not (pt_tru (pe_fn h_is_label (hr.mono (by omega)) pass0 (pa_cons (pv 1) pa_nil))))
  (pss_one (L2N.ps_raise rfl tk (pmk_err h_BadValue___init (hr.mono (by omega)) pass0 (ET.k ("BadValue", "at") (.head _)) g_BadValue (pa_cons pe_int pa_nil))))
  pss_nil)
  (pss_cons (ps_if (PW.pt (pw_or (pt_not (pt_tru (pe_fn h_is_sequence (hr.mono (by omega)) pass0 (pa_cons (pv 2) pa_nil)))) (pw_or (pt_not (pt_chain op_leI op_leI pe_int (pe_callB cb_len (by rfl) T.len (by decide +kernel) (pa_cons (pv 2) pa_nil)) pe_int)) (pw_or1 (pt_cmpR op_geI (pv 1) (pe_callB cb_len (by rfl) T.len (by decide +kernel) (pa_cons (pv 2) pa_nil)) (nomark _))))))
  (pss_one (L2N.ps_raise rfl tk (pmk_err h_BadValue___init (hr.mono (by omega)) pass0 (ET.k ("BadValue", "at") (.head _)) g_BadValue (pa_cons pe_int pa_nil))))
  pss_nil)
  (pss_cons (ps_set (i := 3) sc_Schema___init.nd rfl (by first | exact Or.inl rfl | exact Or.inr rfl) (pe_lst pa_nil))
  (pss_cons (ps_for (L2.passes_of rfl) rfl (pi_enumU (by rfl) T.enumerate (pa_cons (pv 2) pa_nil)) (pg_tu rfl (pgs_cons (pg_name (i := 4) sc_Schema___init.nd rfl (by first | exact Or.inl rfl | exact Or.inr rfl)) (pgs_cons (pg_name (i := 5) sc_Schema___init.nd rfl (by first | exact Or.inl rfl | exact Or.inr rfl)) pgs_nil)))
  (pss_cons (ps_set (i := 6) sc_Schema___init.nd rfl (by first | exact Or.inl rfl | exact Or.inr rfl) (pe_fn h_plain_rule (hr.mono (by omega)) pass0 (pa_cons (pv 5) (pa_cons (pe_callB cb_len (by rfl) T.len (by decide +kernel) (pa_cons (pv 2) pa_nil)) pa_nil))))
  (pss_cons (ps_if (pt_cmpR op_isNq (pv 6) pe_non (nomark _))
  (pss_one (L2N.ps_raise rfl tk (pmk_err h_BadRule___init (hr.mono (by omega)) pass0 (ET.k ("BadRule", "at") (.tail _ (.head _))) g_BadRule (pa_cons (pv 4) pa_nil))))
  pss_nil)
  (pss_one (ps_expr (pe_bm PySem.F.plainAttrs_list PySem.F.slot_list_append PySem.F.type_list_append mt_append (pv 3) (pa_cons (pv 6) pa_nil)))))))
  (pss_cons (ps_fld (pv 0) (pv 1) rfl)
  (pss_one (ps_fld (pv 0) (pe_callTy cb_tuple (by rfl) T.tuple (by decide +kernel) (pa_cons (pv 3) pa_nil)) rfl)))))))
theorem fn_Schema___init {P : Program} {w : World} {K : PySem.W.Frag} {mg : Str → Option Value} {base : Heap} {a : Addr} {fd : FuncData} (T : Tx mg) (g_BadRule : mg "BadRule" = some (.ref (He.ga K "BadRule"))) (g_BadValue : mg "BadValue" = some (.ref (He.ga K "BadValue"))) (ET : ErrT K tabE) (h_is_label : Fn P w K mg base CX0 2 "is_label" ["value"] (sp_is_label K)) (h_BadValue___init : FnA P w K mg base CX0 1 (He.ma K (He.ga K "BadValue") "__init__") ["self", "at"] (errSp K "at")) (h_is_sequence : Fn P w K mg base CX0 1 "is_sequence" ["value"] (sp_is_sequence K)) (h_plain_rule : Fn P w K mg base CX0 3 "plain_rule" ["value", "many"] (sp_plain_rule K)) (h_BadRule___init : FnA P w K mg base CX0 1 (He.ma K (He.ga K "BadRule") "__init__") ["self", "at"] (errSp K "at"))
    (F : FunD K "__init__" "Schema.__init__" (defArgs s_Schema___init) (defBody s_Schema___init) (defScope s_Schema___init) [] [] a fd) (M : SchK K) : FnA P w K mg base (L2N.CX P w) 4 a ["self", "root", "rules"] (sp_Schema___init K) := by
  have b : Binds K fd ["self", "root", "rules"] [] := F.bindsN fun _ _ _ _ _ _ us hl => match us, hl with | [_, _, _], _ => rfl
  exact ⟨fd, b, F.ok sc_Schema___init (fun vs H Q E h => l_Schema___init h) (fun cdv A outer s H vs Q E hr h => ⟨t_Schema___init K E, (b_Schema___init T g_BadRule g_BadValue ET h_is_label h_BadValue___init h_is_sequence h_plain_rule h_BadRule___init hr), r_Schema___init M h⟩)⟩
theorem fnk_Schema___init {P : Program} {w : World} {K : PySem.W.Frag} {mg : Str → Option Value} {base : Heap} {a : Addr} {fd : FuncData} (T : Tx mg) (g_BadRule : mg "BadRule" = some (.ref (He.ga K "BadRule"))) (g_BadValue : mg "BadValue" = some (.ref (He.ga K "BadValue"))) (ET : ErrT K tabE) (h_is_label : Fn P w K mg base CX0 2 "is_label" ["value"] (sp_is_label K)) (h_BadValue___init : FnA P w K mg base CX0 1 (He.ma K (He.ga K "BadValue") "__init__") ["self", "at"] (errSp K "at")) (h_is_sequence : Fn P w K mg base CX0 1 "is_sequence" ["value"] (sp_is_sequence K)) (h_plain_rule : Fn P w K mg base CX0 3 "plain_rule" ["value", "many"] (sp_plain_rule K)) (h_BadRule___init : FnA P w K mg base CX0 1 (He.ma K (He.ga K "BadRule") "__init__") ["self", "at"] (errSp K "at"))
    (F : FunD K "__init__" "Schema.__init__" (defArgs s_Schema___init) (defBody s_Schema___init) (defScope s_Schema___init) [] [] a fd) (M : SchK K) : FnAK P w K mg base (L2N.CX P w) 4 a "self" ["root", "rules"] (sp_Schema___init K) := by
  have b : KSelf K fd "self" ["root", "rules"] := F.kself fun _ _ _ _ _ _ u ws hl => match ws, hl with | [_, _], _ => rfl
  exact ⟨fd, b, F.ok sc_Schema___init (fun vs H Q E h => l_Schema___init h) (fun cdv A outer s H vs Q E hr h => ⟨t_Schema___init K E, (b_Schema___init T g_BadRule g_BadValue ET h_is_label h_BadValue___init h_is_sequence h_plain_rule h_BadRule___init hr), r_Schema___init M h⟩)⟩
abbrev s_Schema_root : Stmt := inClass (topS 11) 1
theorem sc_Schema_root : FnScope ["self"] ["self"] (defScope s_Schema_root) := ⟨rfl, rfl, rfl, by decide +kernel, rfl, by decide +kernel, by decide +kernel⟩
theorem b_Schema_root {P : Program} {w : World} {K : PySem.W.Frag} {mg : Str → Option Value} {base : Heap} {cdv : Value} {A : Around} {outer : List Env} {s : Shared} {H : Hp} {E : XK} {f : Addr}  (T : Tx mg)
    (hr : Room 0 (A.deeper (envOfC "Schema.root" (defScope s_Schema_root) s.heap.objs.size f cdv))) : PSs (cxOf CX0 P w K mg base ["self"] "Schema.root" (defScope s_Schema_root) f cdv A outer s H E).nox (defBody s_Schema_root) (t_Schema_root K ) := by
  have hu := hr.units
  have hu5 := hu5_of hr
  have hu1 := hu1_of hr
  exact (pss_one (ps_ret (pe_fld (pv 0) rfl)))
theorem fn_Schema_root {P : Program} {w : World} {K : PySem.W.Frag} {mg : Str → Option Value} {base : Heap} {a : Addr} {fd : FuncData} (T : Tx mg)
    (F : FunD K "root" "Schema.root" (defArgs s_Schema_root) (defBody s_Schema_root) (defScope s_Schema_root) [] [] a fd) (M : SchK K) : FnA P w K mg base CX0 1 a ["self"] (getSp (He.ga K "Schema") "_root") := by
  have b : Binds K fd ["self"] [] := F.bindsN fun _ _ _ _ _ _ us hl => match us, hl with | [_], _ => rfl
  exact ⟨fd, b, F.ok sc_Schema_root (fun vs H Q E h => l_Schema_root h) (fun cdv A outer s H vs Q E hr h => ⟨t_Schema_root K, PSs.nox (b_Schema_root T hr), r_Schema_root M h⟩)⟩
abbrev s_law_so : Stmt := topS 13
theorem sc_law_so : FnScope ["found", "meant", "k"] ["found", "meant"] (defScope s_law_so) := ⟨rfl, rfl, rfl, by decide +kernel, rfl, by decide +kernel, by decide +kernel⟩
theorem b_law_so {P : Program} {w : World} {K : PySem.W.Frag} {mg : Str → Option Value} {base : Heap} {cdv : Value} {A : Around} {outer : List Env} {s : Shared} {H : Hp} {E : XK} {f : Addr} (n : Nat) (T : Tx mg) (h_law_so : Fn P w K mg base CX0 (n + 1) "_law_so" ["found", "meant"] (sp_law_so K n))
    (hr : Room (n + 1) (A.deeper (envOfC "_law_so" (defScope s_law_so) s.heap.objs.size f cdv))) : PSs (cxOf CX0 P w K mg base ["found", "meant", "k"] "_law_so" (defScope s_law_so) f cdv A outer s H E).nox (defBody s_law_so) (t_law_so K n) := by
  have hu := hr.units
  have hu5 := hu5_of hr
  have hu1 := hu1_of hr
  exact (pss_cons (ps_if (pt_cmpR op_isNq (pv 1) pe_non (nomark _))
  (pss_one (ps_ret (pe_cmpR op_isNq (pv 0) pe_non (nomark _))))
  pss_nil)
  (pss_cons (ps_if (pt_tru (pe_callB call_isi (by rfl) T.isinstance (by decide +kernel) (pa_cons (pv 1) (pa_cons (pe_bltn (by rfl) T.tuple (by decide +kernel) rfl) pa_nil))))
  (pss_cons (ps_if (PW.pt (pw_or (pt_not (pt_tru (pe_callB call_isi (by rfl) T.isinstance (by decide +kernel) (pa_cons (pv 0) (pa_cons (pe_bltn (by rfl) T.tuple (by decide +kernel) rfl) pa_nil))))) (pw_or1 (pt_cmpR (op_neU hu) (pe_callB cb_len (by rfl) T.len (by decide +kernel) (pa_cons (pv 0) pa_nil)) (pe_callB cb_len (by rfl) T.len (by decide +kernel) (pa_cons (pv 1) pa_nil)) (nomark _)))))
  (pss_one (ps_ret pe_bl))
  pss_nil)
  (pss_cons (ps_for PassesOwn.never rfl (pi_range1 (by rfl) T.range (pa_cons (pe_callB cb_len (by rfl) T.len (by decide +kernel) (pa_cons (pv 1) pa_nil)) pa_nil)) (pg_name (i := 2) sc_law_so.nd rfl (by first | exact Or.inl rfl | exact Or.inr rfl))
  (pss_one (ps_if (pt_not (pt_tru (pe_fn h_law_so (hr.mono (by omega)) pass0 (pa_cons (pe_ix ix_seq (pv 0) (pv 2) (fun _ _ => rfl)) (pa_cons (pe_ix ix_seq (pv 1) (pv 2) (fun _ _ => rfl)) pa_nil)))))
  (pss_one (ps_ret pe_bl))
  pss_nil)))
  (pss_one (ps_ret pe_bl))))
  pss_nil)
  (pss_cons (ps_if (PW.pt (pw_or (pt_tru (pe_callB call_isi (by rfl) T.isinstance (by decide +kernel) (pa_cons (pv 1) (pa_cons (pe_bltn (by rfl) T.bool (by decide +kernel) rfl) pa_nil)))) (pw_or1 (pt_tru (pe_callB call_isi (by rfl) T.isinstance (by decide +kernel) (pa_cons (pv 0) (pa_cons (pe_bltn (by rfl) T.bool (by decide +kernel) rfl) pa_nil)))))))
  (pss_one (ps_ret (pe_and (pe_callB call_isi (by rfl) T.isinstance (by decide +kernel) (pa_cons (pv 1) (pa_cons (pe_bltn (by rfl) T.bool (by decide +kernel) rfl) pa_nil))) (pe_and (pe_callB call_isi (by rfl) T.isinstance (by decide +kernel) (pa_cons (pv 0) (pa_cons (pe_bltn (by rfl) T.bool (by decide +kernel) rfl) pa_nil))) (pe_one (pe_cmpR (op_eqU hu) (pv 0) (pv 1) (nomark _)))))))
  pss_nil)
  (pss_cons (ps_if (pt_tru (pe_callB call_isi (by rfl) T.isinstance (by decide +kernel) (pa_cons (pv 1) (pa_cons (pe_bltn (by rfl) T.int (by decide +kernel) rfl) pa_nil))))
  (pss_one (ps_ret (pe_and (pe_callB call_isi (by rfl) T.isinstance (by decide +kernel) (pa_cons (pv 0) (pa_cons (pe_bltn (by rfl) T.int (by decide +kernel) rfl) pa_nil))) (pe_one (pe_cmpR (op_eqU hu) (pv 0) (pv 1) (nomark _))))))
  pss_nil)
  (pss_one (ps_ret (pe_and (pe_callB call_isi (by rfl) T.isinstance (by decide +kernel) (pa_cons (pv 1) (pa_cons (pe_bltn (by rfl) T.str (by decide +kernel) rfl) pa_nil))) (pe_and (pe_callB call_isi (by rfl) T.isinstance (by decide +kernel) (pa_cons (pv 0) (pa_cons (pe_bltn (by rfl) T.str (by decide +kernel) rfl) pa_nil))) (pe_one (pe_cmpR (op_eqU hu) (pv 0) (pv 1) (nomark _)))))))))))
theorem fn_law_so {P : Program} {w : World} {K : PySem.W.Frag} {mg : Str → Option Value} {base : Heap} {a : Addr} {fd : FuncData} (T : Tx mg)
    (F : FunD K "_law_so" "_law_so" (defArgs s_law_so) (defBody s_law_so) (defScope s_law_so) [] [] a fd) (hm : mg "_law_so" = some (.ref a))  : ∀ n : Nat, Fn P w K mg base CX0 (n + 1) "_law_so" ["found", "meant"] (sp_law_so K n) := by
  have b : Binds K fd ["found", "meant"] [] := F.bindsN fun _ _ _ _ _ _ us hl => match us, hl with | [_, _], _ => rfl
  intro n
  induction n with
  | zero => exact ⟨a, fd, hm, F.kp, b, ⟨fun vs H Q E h => (z_law_so h).elim, fun A outer s H args us vs Q E hr he hb hv h => (z_law_so h).elim⟩⟩
  | succ n ih =>
    refine ⟨a, fd, hm, F.kp, b, (F.ok (k := n + 1) sc_law_so (fun vs H Q E h => l_law_so h) (fun cdv A outer s H vs Q E hr h => ⟨t_law_so K n, PSs.nox (b_law_so n T ih hr), r_law_so  h⟩)).mono (by omega)⟩
abbrev s_Schema_rules : Stmt := inClass (topS 11) 2
theorem sc_Schema_rules : FnScope ["self"] ["self"] (defScope s_Schema_rules) := ⟨rfl, rfl, rfl, by decide +kernel, rfl, by decide +kernel, by decide +kernel⟩
theorem b_Schema_rules {P : Program} {w : World} {K : PySem.W.Frag} {mg : Str → Option Value} {base : Heap} {cdv : Value} {A : Around} {outer : List Env} {s : Shared} {H : Hp} {E : XK} {f : Addr}  (T : Tx mg)
    (hr : Room 0 (A.deeper (envOfC "Schema.rules" (defScope s_Schema_rules) s.heap.objs.size f cdv))) : PSs (cxOf CX0 P w K mg base ["self"] "Schema.rules" (defScope s_Schema_rules) f cdv A outer s H E).nox (defBody s_Schema_rules) (t_Schema_rules K ) := by
  have hu := hr.units
  have hu5 := hu5_of hr
  have hu1 := hu1_of hr
  exact (pss_one (ps_ret (pe_fld (pv 0) rfl)))
theorem fn_Schema_rules {P : Program} {w : World} {K : PySem.W.Frag} {mg : Str → Option Value} {base : Heap} {a : Addr} {fd : FuncData} (T : Tx mg)
    (F : FunD K "rules" "Schema.rules" (defArgs s_Schema_rules) (defBody s_Schema_rules) (defScope s_Schema_rules) [] [] a fd) (M : SchK K) : FnA P w K mg base CX0 1 a ["self"] (getSp (He.ga K "Schema") "_rules") := by
  have b : Binds K fd ["self"] [] := F.bindsN fun _ _ _ _ _ _ us hl => match us, hl with | [_], _ => rfl
  exact ⟨fd, b, F.ok sc_Schema_rules (fun vs H Q E h => l_Schema_rules h) (fun cdv A outer s H vs Q E hr h => ⟨t_Schema_rules K, PSs.nox (b_Schema_rules T hr), r_Schema_rules M h⟩)⟩
abbrev s_law_loose : Stmt := topS 17
theorem sc_law_loose : FnScope ["value", "turn", "made", "one"] ["value", "turn"] (defScope s_law_loose) := ⟨rfl, rfl, rfl, by decide +kernel, rfl, by decide +kernel, by decide +kernel⟩
theorem b_law_loose {P : Program} {w : World} {K : PySem.W.Frag} {mg : Str → Option Value} {base : Heap} {cdv : Value} {A : Around} {outer : List Env} {s : Shared} {H : Hp} {E : XK} {f : Addr} (n : Nat) (T : Tx mg) (h_law_loose : Fn P w K mg base CX0 (n + 1) "_law_loose" ["value", "turn"] (sp_law_loose K n))
    (hr : Room (n + 1) (A.deeper (envOfC "_law_loose" (defScope s_law_loose) s.heap.objs.size f cdv))) : PSs (cxOf CX0 P w K mg base ["value", "turn", "made", "one"] "_law_loose" (defScope s_law_loose) f cdv A outer s H E).nox (defBody s_law_loose) (t_law_loose K n) := by
  have hu := hr.units
  have hu5 := hu5_of hr
  have hu1 := hu1_of hr
  exact (pss_cons (ps_if (pt_tru (pe_callB call_isi (by rfl) T.isinstance (by decide +kernel) (pa_cons (pv 0) (pa_cons (pe_bltn (by rfl) T.tuple (by decide +kernel) rfl) pa_nil))))
  (pss_cons (ps_setLc (i := 2) (own := [("one", 3)]) (g := (gName 3)) (tt := tYes) rfl sc_law_loose.nd rfl rfl (sw_true rfl rfl rfl (by decide +kernel)) (pi_seq (pv 0)) (blkOk_by (own := [("one", 3)]) (by kernel_rfl)) (fun _ _ _ _ _ => (pg_name (i := 3) sc_law_loose.nd rfl (by first | exact Or.inl rfl | exact Or.inr rfl))) (fun _ _ _ _ _ => pts_nil) (fun _ _ _ _ _ => (pe_fn h_law_loose (hr.mono (by omega)) pass0 (pa_cons (pv 3) (pa_cons (pe_op op_addU (pv 1) pe_int) pa_nil)))))
  (pss_one (ps_ret (pe_ifExp (pt_cmpR (op_eqU hu) (pe_op op_modI (pe_callTy cb_int (by rfl) T.int (by decide +kernel) (pa_cons (pv 1) pa_nil)) pe_int) pe_int (nomark _)) (pv 2) (pe_callTy cb_tuple (by rfl) T.tuple (by decide +kernel) (pa_cons (pv 2) pa_nil))))))
  pss_nil)
  (pss_one (ps_ret (pv 0))))
theorem fn_law_loose {P : Program} {w : World} {K : PySem.W.Frag} {mg : Str → Option Value} {base : Heap} {a : Addr} {fd : FuncData} (T : Tx mg)
    (F : FunD K "_law_loose" "_law_loose" (defArgs s_law_loose) (defBody s_law_loose) (defScope s_law_loose) [] [] a fd) (hm : mg "_law_loose" = some (.ref a))  : ∀ n : Nat, Fn P w K mg base CX0 (n + 1) "_law_loose" ["value", "turn"] (sp_law_loose K n) := by
  have b : Binds K fd ["value", "turn"] [] := F.bindsN fun _ _ _ _ _ _ us hl => match us, hl with | [_, _], _ => rfl
  intro n
  induction n with
  | zero => exact ⟨a, fd, hm, F.kp, b, ⟨fun vs H Q E h => (z_law_loose h).elim, fun A outer s H args us vs Q E hr he hb hv h => (z_law_loose h).elim⟩⟩
  | succ n ih =>
    refine ⟨a, fd, hm, F.kp, b, (F.ok (k := n + 1) sc_law_loose (fun vs H Q E h => l_law_loose h) (fun cdv A outer s H vs Q E hr h => ⟨t_law_loose K n, PSs.nox (b_law_loose n T ih hr), r_law_loose  h⟩)).mono (by omega)⟩
abbrev s_law_set : Stmt := topS 18
theorem sc_law_set : FnScope ["values", "at", "value", "made"] ["values", "at", "value"] (defScope s_law_set) := ⟨rfl, rfl, rfl, by decide +kernel, rfl, by decide +kernel, by decide +kernel⟩
theorem b_law_set {P : Program} {w : World} {K : PySem.W.Frag} {mg : Str → Option Value} {base : Heap} {cdv : Value} {A : Around} {outer : List Env} {s : Shared} {H : Hp} {E : XK} {f : Addr}  (T : Tx mg)
    (hr : Room 0 (A.deeper (envOfC "_law_set" (defScope s_law_set) s.heap.objs.size f cdv))) : PSs (cxOf CX0 P w K mg base ["values", "at", "value", "made"] "_law_set" (defScope s_law_set) f cdv A outer s H E).nox (defBody s_law_set) (t_law_set K ) := by
  have hu := hr.units
  have hu5 := hu5_of hr
  have hu1 := hu1_of hr
  exact (pss_cons (ps_set (i := 3) sc_law_set.nd rfl (by first | exact Or.inl rfl | exact Or.inr rfl) (pe_callTy cb_list (by rfl) T.list (by decide +kernel) (pa_cons (pv 0) pa_nil)))
  (pss_cons (ps_asg (pv 2) (pg_sub (pv 3) (pv 1) set_list))
  (pss_one (ps_ret (pe_callTy cb_tuple (by rfl) T.tuple (by decide +kernel) (pa_cons (pv 3) pa_nil))))))
theorem fn_law_set {P : Program} {w : World} {K : PySem.W.Frag} {mg : Str → Option Value} {base : Heap} {a : Addr} {fd : FuncData} (T : Tx mg)
    (F : FunD K "_law_set" "_law_set" (defArgs s_law_set) (defBody s_law_set) (defScope s_law_set) [] [] a fd) (hm : mg "_law_set" = some (.ref a))  : Fn P w K mg base CX0 1 "_law_set" ["values", "at", "value"] (sp_law_set K) := by
  have b : Binds K fd ["values", "at", "value"] [] := F.bindsN fun _ _ _ _ _ _ us hl => match us, hl with | [_, _, _], _ => rfl
  exact ⟨a, fd, hm, F.kp, b, F.ok sc_law_set (fun vs H Q E h => l_law_set h) (fun cdv A outer s H vs Q E hr h => ⟨t_law_set K, PSs.nox (b_law_set T hr), r_law_set  h⟩)⟩
abbrev s_Schema___eq : Stmt := inClass (topS 11) 3
theorem sc_Schema___eq : FnScope ["self", "other"] ["self", "other"] (defScope s_Schema___eq) := ⟨rfl, rfl, rfl, by decide +kernel, rfl, by decide +kernel, by decide +kernel⟩
theorem b_Schema___eq {P : Program} {w : World} {K : PySem.W.Frag} {mg : Str → Option Value} {base : Heap} {cdv : Value} {A : Around} {outer : List Env} {s : Shared} {H : Hp} {E : XK} {f : Addr}  (T : Tx mg) (g_Schema : mg "Schema" = some (.ref (He.ga K "Schema")))
    (hr : Room 0 (A.deeper (envOfC "Schema.__eq__" (defScope s_Schema___eq) s.heap.objs.size f cdv))) : PSs (cxOf CX0 P w K mg base ["self", "other"] "Schema.__eq__" (defScope s_Schema___eq) f cdv A outer s H E).nox (defBody s_Schema___eq) (t_Schema___eq K ) := by
  have hu := hr.units
  have hu5 := hu5_of hr
  have hu1 := hu1_of hr
  exact (pss_one (ps_ret (pe_and (pe_callB call_isi (by rfl) T.isinstance (by decide +kernel) (pa_cons (pv 1) (pa_cons (pe_glob (by rfl) g_Schema rfl) pa_nil))) (pe_and (pe_cmpR (op_eqU hu) (pe_fld (pv 0) rfl) (pe_fld (pv 1) rfl) (nomark _)) (pe_one (pe_cmpR (op_eqU hu) (pe_fld (pv 0) rfl) (pe_fld (pv 1) rfl) (nomark _)))))))
theorem fn_Schema___eq {P : Program} {w : World} {K : PySem.W.Frag} {mg : Str → Option Value} {base : Heap} {a : Addr} {fd : FuncData} (T : Tx mg) (g_Schema : mg "Schema" = some (.ref (He.ga K "Schema")))
    (F : FunD K "__eq__" "Schema.__eq__" (defArgs s_Schema___eq) (defBody s_Schema___eq) (defScope s_Schema___eq) [] [] a fd) (M : SchK K) : FnA P w K mg base CX0 1 a ["self", "other"] (sp_Schema___eq K) := by
  have b : Binds K fd ["self", "other"] [] := F.bindsN fun _ _ _ _ _ _ us hl => match us, hl with | [_, _], _ => rfl
  exact ⟨fd, b, F.ok sc_Schema___eq (fun vs H Q E h => l_Schema___eq h) (fun cdv A outer s H vs Q E hr h => ⟨t_Schema___eq K, PSs.nox (b_Schema___eq T g_Schema hr), r_Schema___eq M h⟩)⟩
abbrev s_law_schema_fault : Stmt := topS 20
theorem sc_law_schema_fault : FnScope ["root", "rules", "error"] ["root", "rules"] (defScope s_law_schema_fault) := ⟨rfl, rfl, rfl, by decide +kernel, rfl, by decide +kernel, by decide +kernel⟩
theorem b_law_schema_fault {P : Program} {w : World} {K : PySem.W.Frag} {mg : Str → Option Value} {base : Heap} {cdv : Value} {A : Around} {outer : List Env} {s : Shared} {H : Hp} {E : XK} {f : Addr}  (T : Tx mg) (g_BadRule : mg "BadRule" = some (.ref (He.ga K "BadRule"))) (g_BadValue : mg "BadValue" = some (.ref (He.ga K "BadValue"))) (g_Schema : mg "Schema" = some (.ref (He.ga K "Schema"))) (mk_Schema : Mk K (He.ga K "Schema") (He.ma K (He.ga K "Schema") "__init__")) (ET : ErrT K tabE) (h_Schema___init : FnA P w K mg base (L2N.CX P w) 4 (He.ma K (He.ga K "Schema") "__init__") ["self", "root", "rules"] (sp_Schema___init K))
    (hr : Room 5 (A.deeper (envOfC "_law_schema_fault" (defScope s_law_schema_fault) s.heap.objs.size f cdv))) : PSs (cxOf CX0 P w K mg base ["root", "rules", "error"] "_law_schema_fault" (defScope s_law_schema_fault) f cdv A outer s H E).nox (defBody s_law_schema_fault) (t_law_schema_fault K ) := by
  have hu := hr.units
  have hu5 := hu5_of hr
  have hu1 := hu1_of hr
  exact (pss_cons (ps_tryErr ET rfl rfl takesN (fun W pn xe tk pw => (pss_one (ps_expr (pe_mkN mk_Schema h_Schema___init (hr.mono (by omega)) g_Schema (passA tk) (pa_cons (pv 0) (pa_cons (pv 1) pa_nil))))))
  (HdlOk.cons (c := "BadValue") (n := "error") (i := 2) (by decide +kernel) ⟨by rfl, by decide +kernel, .inl g_BadValue⟩ sc_law_schema_fault.nd rfl (by rfl) (fun a oe cls d pn hz hf => (pss_one (ps_ret (pe_tup (pa_cons pe_str (pa_cons (pe_errF ET hz hf (pv 2)) pa_nil)))))) (HdlOk.cons (c := "BadRule") (n := "error") (i := 2) (by decide +kernel) ⟨by rfl, by decide +kernel, .inl g_BadRule⟩ sc_law_schema_fault.nd rfl (by rfl) (fun a oe cls d pn hz hf => (pss_one (ps_ret (pe_tup (pa_cons pe_str (pa_cons (pe_errF ET hz hf (pv 2)) pa_nil)))))) HdlOk.nil)))
  (pss_one (ps_ret pe_non)))
theorem fn_law_schema_fault {P : Program} {w : World} {K : PySem.W.Frag} {mg : Str → Option Value} {base : Heap} {a : Addr} {fd : FuncData} (T : Tx mg) (g_BadRule : mg "BadRule" = some (.ref (He.ga K "BadRule"))) (g_BadValue : mg "BadValue" = some (.ref (He.ga K "BadValue"))) (g_Schema : mg "Schema" = some (.ref (He.ga K "Schema"))) (mk_Schema : Mk K (He.ga K "Schema") (He.ma K (He.ga K "Schema") "__init__")) (ET : ErrT K tabE) (h_Schema___init : FnA P w K mg base (L2N.CX P w) 4 (He.ma K (He.ga K "Schema") "__init__") ["self", "root", "rules"] (sp_Schema___init K))
    (F : FunD K "_law_schema_fault" "_law_schema_fault" (defArgs s_law_schema_fault) (defBody s_law_schema_fault) (defScope s_law_schema_fault) [] [] a fd) (hm : mg "_law_schema_fault" = some (.ref a))  : Fn P w K mg base CX0 6 "_law_schema_fault" ["root", "rules"] (sp_law_schema_fault K) := by
  have b : Binds K fd ["root", "rules"] [] := F.bindsN fun _ _ _ _ _ _ us hl => match us, hl with | [_, _], _ => rfl
  exact ⟨a, fd, hm, F.kp, b, F.ok sc_law_schema_fault (fun vs H Q E h => l_law_schema_fault h) (fun cdv A outer s H vs Q E hr h => ⟨t_law_schema_fault K, PSs.nox (b_law_schema_fault T g_BadRule g_BadValue g_Schema mk_Schema ET h_Schema___init hr), r_law_schema_fault  h⟩)⟩
abbrev s_law : Stmt := topS 21
theorem sc_law : FnScope ["script", "row", "spot", "labels", "rules", "root", "given", "one", "two", "other", "style", "at", "wrong", "bad", "rule", "pair", "k"] ["script"] (defScope s_law) := ⟨rfl, rfl, rfl, by decide +kernel, rfl, by decide +kernel, by decide +kernel⟩
theorem b_law {P : Program} {w : World} {K : PySem.W.Frag} {mg : Str → Option Value} {base : Heap} {cdv : Value} {A : Around} {outer : List Env} {s : Shared} {H : Hp} {E : XK} {f : Addr}  (T : Tx mg) (g_Schema : mg "Schema" = some (.ref (He.ga K "Schema"))) (mk_Schema : Mk K (He.ga K "Schema") (He.ma K (He.ga K "Schema") "__init__")) (cl_Schema : Cls K (He.ga K "Schema")) (pp_Schema_root : PropOf K (He.ga K "Schema") "root" (He.ma K (He.ga K "Schema") "root") (gtA K (He.ga K "Schema") "root")) (pp_Schema_rules : PropOf K (He.ga K "Schema") "rules" (He.ma K (He.ga K "Schema") "rules") (gtA K (He.ga K "Schema") "rules")) (EQ : EqO K (He.ga K "Schema") (He.ma K (He.ga K "Schema") "__eq__")) (hk_Schema___init : FnAK P w K mg base (L2N.CX P w) 4 (He.ma K (He.ga K "Schema") "__init__") "self" ["root", "rules"] (sp_Schema___init K)) (h_law_numbers : Fn P w K mg base CX0 1 "_law_numbers" ["script"] (sp_law_numbers K)) (h_law_take : Fn P w K mg base CX0 2 "_law_take" ["row", "spot", "limit"] (sp_law_take K)) (h_law_rules : Fn P w K mg base CX0 3 "_law_rules" ["row", "spot", "labels"] (sp_law_rules K)) (h_Schema___init : FnA P w K mg base (L2N.CX P w) 4 (He.ma K (He.ga K "Schema") "__init__") ["self", "root", "rules"] (sp_Schema___init K)) (h_Schema_root : FnA P w K mg base CX0 1 (gtA K (He.ga K "Schema") "root") ["self"] (getSp (He.ga K "Schema") "_root")) (h_law_so : Fn P w K mg base CX0 6 "_law_so" ["found", "meant"] (sp_law_so K 5)) (h_Schema_rules : FnA P w K mg base CX0 1 (gtA K (He.ga K "Schema") "rules") ["self"] (getSp (He.ga K "Schema") "_rules")) (h_law_loose : Fn P w K mg base CX0 31 "_law_loose" ["value", "turn"] (sp_law_loose K 30)) (h_law_set : Fn P w K mg base CX0 1 "_law_set" ["values", "at", "value"] (sp_law_set K)) (h_Schema___eq : FnA P w K mg base CX0 1 (He.ma K (He.ga K "Schema") "__eq__") ["self", "other"] (sp_Schema___eq K)) (h_law_schema_fault : Fn P w K mg base CX0 6 "_law_schema_fault" ["root", "rules"] (sp_law_schema_fault K))
    (hr : Room 31 (A.deeper (envOfC "law" (defScope s_law) s.heap.objs.size f cdv))) : PSs (cxOf CX0 P w K mg base ["script", "row", "spot", "labels", "rules", "root", "given", "one", "two", "other", "style", "at", "wrong", "bad", "rule", "pair", "k"] "law" (defScope s_law) f cdv A outer s H E).nox (defBody s_law) (t_law K ) := by
  have hu := hr.units
  have hu5 := hu5_of hr
  have hu1 := hu1_of hr
  exact (pss_cons (ps_set (i := 1) sc_law.nd rfl (by first | exact Or.inl rfl | exact Or.inr rfl) (pe_fn h_law_numbers (hr.mono (by omega)) pass0 (pa_cons (pv 0) pa_nil)))
  (pss_cons (ps_set (i := 2) sc_law.nd rfl (by first | exact Or.inl rfl | exact Or.inr rfl) (pe_lst (pa_cons pe_int pa_nil)))
  (pss_cons (ps_set (i := 3) sc_law.nd rfl (by first | exact Or.inl rfl | exact Or.inr rfl) (pe_op op_addU pe_int (pe_fn h_law_take (hr.mono (by omega)) pass0 (pa_cons (pv 1) (pa_cons (pv 2) (pa_cons pe_int pa_nil))))))
  (pss_cons (ps_set (i := 4) sc_law.nd rfl (by first | exact Or.inl rfl | exact Or.inr rfl) (pe_fn h_law_rules (hr.mono (by omega)) pass0 (pa_cons (pv 1) (pa_cons (pv 2) (pa_cons (pv 3) pa_nil)))))
  (pss_cons (ps_set (i := 5) sc_law.nd rfl (by first | exact Or.inl rfl | exact Or.inr rfl) (pe_fn h_law_take (hr.mono (by omega)) pass0 (pa_cons (pv 1) (pa_cons (pv 2) (pa_cons (pv 3) pa_nil)))))
  (pss_cons (ps_setLc (i := 6) (own := [("rule", 14)]) (g := (gName 14)) (tt := tYes) rfl sc_law.nd rfl rfl (sw_true rfl rfl rfl (by decide +kernel)) (pi_seq (pv 4)) (blkOk_by (own := [("rule", 14)]) (by kernel_rfl)) (fun _ _ _ _ _ => (pg_name (i := 14) sc_law.nd rfl (by first | exact Or.inl rfl | exact Or.inr rfl))) (fun _ _ _ _ _ => pts_nil) (fun _ _ _ _ _ => (pe_lc (own := [("pair", 15)]) (g := (gName 15)) (tt := tYes) rfl sc_law.nd (pi_seq (pv 14)) (blkOk_by (own := [("pair", 15)]) (by kernel_rfl)) (fun _ _ _ _ _ => (pg_name (i := 15) sc_law.nd rfl (by first | exact Or.inl rfl | exact Or.inr rfl))) (fun _ _ _ _ _ => pts_nil) (fun _ _ _ _ _ => (pe_callTy cb_list (by rfl) T.list (by decide +kernel) (pa_cons (pv 15) pa_nil))))))
  (pss_cons (ps_set (i := 7) sc_law.nd rfl (by first | exact Or.inl rfl | exact Or.inr rfl) (pe_mkN mk_Schema h_Schema___init (hr.mono (by omega)) g_Schema passN (pa_cons (pv 5) (pa_cons (pv 6) pa_nil))))
  (pss_cons (ps_expr (pe_bm PySem.F.plainAttrs_list PySem.F.slot_list_append PySem.F.type_list_append mt_append (pv 6) (pa_cons (pe_lst pa_nil) pa_nil)))
  (pss_cons (ps_expr (pe_bm PySem.F.plainAttrs_list PySem.F.slot_list_append PySem.F.type_list_append mt_append (pe_ix ix_seq (pv 6) pe_int (fun _ _ => rfl)) (pa_cons (pe_lst (pa_cons pe_int (pa_cons pe_str pa_nil))) pa_nil)))
  (pss_cons (ps_if (PW.pt (pw_or (pt_not (pt_tru (pe_fn h_law_so (hr.mono (by omega)) pass0 (pa_cons (pe_prpN (pv 7) cl_Schema pp_Schema_root h_Schema_root (hr.mono (by omega)) pass0) (pa_cons (pv 5) pa_nil))))) (pw_or1 (pt_not (pt_tru (pe_fn h_law_so (hr.mono (by omega)) pass0 (pa_cons (pe_prpN (pv 7) cl_Schema pp_Schema_rules h_Schema_rules (hr.mono (by omega)) pass0) (pa_cons (pv 4) pa_nil))))))))
  (pss_one (ps_ret pe_bl))
  pss_nil)
  (pss_cons (ps_set (i := 8) sc_law.nd rfl (by first | exact Or.inl rfl | exact Or.inr rfl) (pe_mkK mk_Schema hk_Schema___init (hr.mono (by omega)) g_Schema passN (pk_cons (pv 5) (pk_cons (pe_fn h_law_loose (hr.mono (by omega)) pass0 (pa_cons (pv 4) (pa_cons pe_int pa_nil))) pk_nil))))
  (pss_cons (ps_set (i := 9) sc_law.nd rfl (by first | exact Or.inl rfl | exact Or.inr rfl) (pe_fn h_law_set (hr.mono (by omega)) pass0 (pa_cons (pv 4) (pa_cons (pe_op op_subI (pv 3) pe_int) (pa_cons (pe_ifExp (pt_cmpR op_gtI (pe_callB cb_len (by rfl) T.len (by decide +kernel) (pa_cons (pe_ix ix_seq (pv 4) (pe_op op_subI (pv 3) pe_int) (fun _ _ => rfl)) pa_nil)) pe_int (nomark _)) (pe_tup pa_nil) (pe_tup (pa_cons (pe_tup (pa_cons pe_int (pa_cons pe_str pa_nil))) pa_nil))) pa_nil)))))
  (pss_cons (ps_if (PW.pt (pw_or (pt_not (pt_cmpR (op_eqO EQ h_Schema___eq (hr.mono (by omega)) pass0) (pv 7) (pv 8) (nomark _))) (pw_or (pt_cmpR (op_eqO EQ h_Schema___eq (hr.mono (by omega)) pass0) (pv 7) (pe_mkN mk_Schema h_Schema___init (hr.mono (by omega)) g_Schema passN (pa_cons (pv 5) (pa_cons (pv 9) pa_nil))) (nomark _)) (pw_or (pt_cmpR (op_eqO EQ h_Schema___eq (hr.mono (by omega)) pass0) (pv 7) (pe_tup (pa_cons (pv 5) (pa_cons (pv 4) pa_nil))) (nomark _)) (pw_or1 (pt_cmpR (op_eqO EQ h_Schema___eq (hr.mono (by omega)) pass0) (pv 7) pe_non (nomark _)))))))
  (pss_one (ps_ret pe_bl))
  pss_nil)
  (pss_cons (ps_if (PW.pt (pw_and (pt_cmpR op_gtI (pv 3) pe_int (nomark _)) (pw_and1 (pt_cmpR (op_eqO EQ h_Schema___eq (hr.mono (by omega)) pass0) (pv 7) (pe_mkN mk_Schema h_Schema___init (hr.mono (by omega)) g_Schema passN (pa_cons (pe_op op_modI (pe_callTy cb_int (by rfl) T.int (by decide +kernel) (pa_cons (pe_op op_addU (pv 5) pe_int) pa_nil)) (pv 3)) (pa_cons (pv 4) pa_nil))) (nomark _)))))
  (pss_one (ps_ret pe_bl))
  pss_nil)
  (pss_cons (ps_set (i := 10) sc_law.nd rfl (by first | exact Or.inl rfl | exact Or.inr rfl) (pe_fn h_law_take (hr.mono (by omega)) pass0 (pa_cons (pv 1) (pa_cons (pv 2) (pa_cons pe_int pa_nil)))))
  (pss_cons (ps_if (pt_cmpR (op_eqU hu) (pv 10) pe_int (nomark _))
  (pss_one (ps_ret (pe_cmpR (op_eqU hu) (pe_fn h_law_schema_fault (hr.mono (by omega)) pass0 (pa_cons (pe_ix ix_seq (pe_lst (pa_cons (pe_un un_negI pe_int) (pa_cons pe_int (pa_cons pe_bl (pa_cons pe_non (pa_cons pe_str pa_nil)))))) (pe_fn h_law_take (hr.mono (by omega)) pass0 (pa_cons (pv 1) (pa_cons (pv 2) (pa_cons pe_int pa_nil)))) (fun _ _ => rfl)) (pa_cons (pv 4) pa_nil))) (pe_tup (pa_cons pe_str (pa_cons pe_int pa_nil))) (nomark _))))
  pss_nil)
  (pss_cons (ps_if (pt_cmpR (op_eqU hu) (pv 10) pe_int (nomark _))
  (pss_cons (ps_set (i := 13) sc_law.nd rfl (by first | exact Or.inl rfl | exact Or.inr rfl) (pe_lst (pa_cons pe_non (pa_cons (pe_tup pa_nil) (pa_cons pe_str (pa_cons (pe_op op_addU (pv 4) (pe_callTy cb_tuple (by rfl) T.tuple (by decide +kernel) (pa_cons (pe_lc (own := [("k", 16)]) (g := (gName 16)) (tt := tYes) rfl sc_law.nd (pi_range1 (by rfl) T.range (pa_cons (pe_op op_subI pe_int (pv 3)) pa_nil)) (blkOk_by (own := [("k", 16)]) (by kernel_rfl)) (fun _ _ _ _ _ => (pg_name (i := 16) sc_law.nd rfl (by first | exact Or.inl rfl | exact Or.inr rfl))) (fun _ _ _ _ _ => pts_nil) (fun _ _ _ _ _ => (pe_tup pa_nil))) pa_nil))) (pa_cons (pe_slice sl_U (pv 4) po_none (po_some (pv 5))) pa_nil)))))))
  (pss_one (ps_ret (pe_cmpR (op_eqU hu) (pe_fn h_law_schema_fault (hr.mono (by omega)) pass0 (pa_cons (pv 5) (pa_cons (pe_ix ix_seq (pv 13) (pe_fn h_law_take (hr.mono (by omega)) pass0 (pa_cons (pv 1) (pa_cons (pv 2) (pa_cons pe_int pa_nil)))) (fun _ _ => rfl)) pa_nil))) (pe_tup (pa_cons pe_str (pa_cons pe_int pa_nil))) (nomark _)))))
  pss_nil)
  (pss_cons (ps_set (i := 11) sc_law.nd rfl (by first | exact Or.inl rfl | exact Or.inr rfl) (pe_fn h_law_take (hr.mono (by omega)) pass0 (pa_cons (pv 1) (pa_cons (pv 2) (pa_cons (pv 3) pa_nil)))))
  (pss_cons (ps_set (i := 12) sc_law.nd rfl (by first | exact Or.inl rfl | exact Or.inr rfl) (pe_lst (pa_cons pe_non (pa_cons pe_int (pa_cons (pe_tup (pa_cons (pe_tup (pa_cons (pv 3) (pa_cons pe_str pa_nil))) pa_nil)) (pa_cons (pe_tup (pa_cons (pe_tup (pa_cons pe_int (pa_cons pe_str pa_nil))) pa_nil)) (pa_cons (pe_tup (pa_cons (pe_tup (pa_cons pe_int (pa_cons pe_non pa_nil))) pa_nil)) (pa_cons (pe_tup (pa_cons (pe_tup (pa_cons pe_int pa_nil)) pa_nil)) (pa_cons (pe_tup (pa_cons (pe_tup (pa_cons pe_int (pa_cons pe_str (pa_cons pe_int pa_nil)))) pa_nil)) (pa_cons (pe_tup (pa_cons (pe_tup (pa_cons pe_int (pa_cons pe_str pa_nil))) (pa_cons (pe_tup (pa_cons pe_int (pa_cons pe_str pa_nil))) pa_nil))) (pa_cons (pe_tup (pa_cons (pe_tup (pa_cons pe_bl (pa_cons pe_str pa_nil))) pa_nil)) (pa_cons (pe_tup (pa_cons (pe_tup (pa_cons (pe_un un_negI pe_int) (pa_cons pe_str pa_nil))) pa_nil)) (pa_cons pe_str pa_nil)))))))))))))
  (pss_cons (ps_set (i := 13) sc_law.nd rfl (by first | exact Or.inl rfl | exact Or.inr rfl) (pe_fn h_law_set (hr.mono (by omega)) pass0 (pa_cons (pv 4) (pa_cons (pv 11) (pa_cons (pe_ix ix_seq (pv 12) (pe_fn h_law_take (hr.mono (by omega)) pass0 (pa_cons (pv 1) (pa_cons (pv 2) (pa_cons pe_int pa_nil)))) (fun _ _ => rfl)) pa_nil)))))
  (pss_cons (ps_if (PW.pt (pw_and (pt_cmpR op_ltI (pv 11) (pe_op op_subI (pv 3) pe_int) (nomark _)) (pw_and1 (pt_cmpR (op_eqU hu) (pe_fn h_law_take (hr.mono (by omega)) pass0 (pa_cons (pv 1) (pa_cons (pv 2) (pa_cons pe_int pa_nil)))) pe_int (nomark _)))))
  (pss_one (ps_set (i := 13) sc_law.nd rfl (by first | exact Or.inl rfl | exact Or.inr rfl) (pe_fn h_law_set (hr.mono (by omega)) pass0 (pa_cons (pv 13) (pa_cons (pe_op op_addU (pv 11) pe_int) (pa_cons pe_non pa_nil))))))
  pss_nil)
  (pss_one (ps_ret (pe_cmpR (op_eqU hu) (pe_fn h_law_schema_fault (hr.mono (by omega)) pass0 (pa_cons (pv 5) (pa_cons (pv 13) pa_nil))) (pe_tup (pa_cons pe_str (pa_cons (pv 11) pa_nil))) (nomark _)))))))))))))))))))))))))
theorem fn_law {P : Program} {w : World} {K : PySem.W.Frag} {mg : Str → Option Value} {base : Heap} {a : Addr} {fd : FuncData} (T : Tx mg) (g_Schema : mg "Schema" = some (.ref (He.ga K "Schema"))) (mk_Schema : Mk K (He.ga K "Schema") (He.ma K (He.ga K "Schema") "__init__")) (cl_Schema : Cls K (He.ga K "Schema")) (pp_Schema_root : PropOf K (He.ga K "Schema") "root" (He.ma K (He.ga K "Schema") "root") (gtA K (He.ga K "Schema") "root")) (pp_Schema_rules : PropOf K (He.ga K "Schema") "rules" (He.ma K (He.ga K "Schema") "rules") (gtA K (He.ga K "Schema") "rules")) (EQ : EqO K (He.ga K "Schema") (He.ma K (He.ga K "Schema") "__eq__")) (hk_Schema___init : FnAK P w K mg base (L2N.CX P w) 4 (He.ma K (He.ga K "Schema") "__init__") "self" ["root", "rules"] (sp_Schema___init K)) (h_law_numbers : Fn P w K mg base CX0 1 "_law_numbers" ["script"] (sp_law_numbers K)) (h_law_take : Fn P w K mg base CX0 2 "_law_take" ["row", "spot", "limit"] (sp_law_take K)) (h_law_rules : Fn P w K mg base CX0 3 "_law_rules" ["row", "spot", "labels"] (sp_law_rules K)) (h_Schema___init : FnA P w K mg base (L2N.CX P w) 4 (He.ma K (He.ga K "Schema") "__init__") ["self", "root", "rules"] (sp_Schema___init K)) (h_Schema_root : FnA P w K mg base CX0 1 (gtA K (He.ga K "Schema") "root") ["self"] (getSp (He.ga K "Schema") "_root")) (h_law_so : Fn P w K mg base CX0 6 "_law_so" ["found", "meant"] (sp_law_so K 5)) (h_Schema_rules : FnA P w K mg base CX0 1 (gtA K (He.ga K "Schema") "rules") ["self"] (getSp (He.ga K "Schema") "_rules")) (h_law_loose : Fn P w K mg base CX0 31 "_law_loose" ["value", "turn"] (sp_law_loose K 30)) (h_law_set : Fn P w K mg base CX0 1 "_law_set" ["values", "at", "value"] (sp_law_set K)) (h_Schema___eq : FnA P w K mg base CX0 1 (He.ma K (He.ga K "Schema") "__eq__") ["self", "other"] (sp_Schema___eq K)) (h_law_schema_fault : Fn P w K mg base CX0 6 "_law_schema_fault" ["root", "rules"] (sp_law_schema_fault K))
    (F : FunD K "law" "law" (defArgs s_law) (defBody s_law) (defScope s_law) [] [] a fd) (hm : mg "law" = some (.ref a)) (M : SchK K) : Fn P w K mg base CX0 32 "law" ["script"] (sp_law K) := by
  have b : Binds K fd ["script"] [] := F.bindsN fun _ _ _ _ _ _ us hl => match us, hl with | [_], _ => rfl
  exact ⟨a, fd, hm, F.kp, b, F.ok sc_law (fun vs H Q E h => l_law h) (fun cdv A outer s H vs Q E hr h => ⟨t_law K, PSs.nox (b_law T g_Schema mk_Schema cl_Schema pp_Schema_root pp_Schema_rules EQ hk_Schema___init h_law_numbers h_law_take h_law_rules h_Schema___init h_Schema_root h_law_so h_Schema_rules h_law_loose h_law_set h_Schema___eq h_law_schema_fault hr), r_law M h⟩)⟩
set_option maxHeartbeats 0
def d_law_numbers : He5.DefA := ⟨fun K => He.ga K "_law_numbers", "_law_numbers", "_law_numbers", defArgs s_law_numbers, defBody s_law_numbers, defScope s_law_numbers, [], []⟩
def d_law_draw : He5.DefA := ⟨fun K => He.ga K "_law_draw", "_law_draw", "_law_draw", defArgs s_law_draw, defBody s_law_draw, defScope s_law_draw, [], []⟩
def d_law_take : He5.DefA := ⟨fun K => He.ga K "_law_take", "_law_take", "_law_take", defArgs s_law_take, defBody s_law_take, defScope s_law_take, [], []⟩
def d_law_rules : He5.DefA := ⟨fun K => He.ga K "_law_rules", "_law_rules", "_law_rules", defArgs s_law_rules, defBody s_law_rules, defScope s_law_rules, [], []⟩
def d_is_integer : He5.DefA := ⟨fun K => He.ga K "is_integer", "is_integer", "is_integer", defArgs s_is_integer, defBody s_is_integer, defScope s_is_integer, [], []⟩
def d_is_label : He5.DefA := ⟨fun K => He.ga K "is_label", "is_label", "is_label", defArgs s_is_label, defBody s_is_label, defScope s_is_label, [], []⟩
def d_BadValue___init : He5.DefA := ⟨fun K => (He.ma K (He.ga K "BadValue") "__init__"), "__init__", "BadValue.__init__", defArgs s_BadValue___init, defBody s_BadValue___init, defScope s_BadValue___init, [], []⟩
def d_is_sequence : He5.DefA := ⟨fun K => He.ga K "is_sequence", "is_sequence", "is_sequence", defArgs s_is_sequence, defBody s_is_sequence, defScope s_is_sequence, [], []⟩
def d_plain_rule : He5.DefA := ⟨fun K => He.ga K "plain_rule", "plain_rule", "plain_rule", defArgs s_plain_rule, defBody s_plain_rule, defScope s_plain_rule, [], []⟩
def d_BadRule___init : He5.DefA := ⟨fun K => (He.ma K (He.ga K "BadRule") "__init__"), "__init__", "BadRule.__init__", defArgs s_BadRule___init, defBody s_BadRule___init, defScope s_BadRule___init, [], []⟩
def d_Schema___init : He5.DefA := ⟨fun K => (He.ma K (He.ga K "Schema") "__init__"), "__init__", "Schema.__init__", defArgs s_Schema___init, defBody s_Schema___init, defScope s_Schema___init, [], []⟩
def d_Schema_root : He5.DefA := ⟨fun K => (gtA K (He.ga K "Schema") "root"), "root", "Schema.root", defArgs s_Schema_root, defBody s_Schema_root, defScope s_Schema_root, [], []⟩
def d_law_so : He5.DefA := ⟨fun K => He.ga K "_law_so", "_law_so", "_law_so", defArgs s_law_so, defBody s_law_so, defScope s_law_so, [], []⟩
def d_Schema_rules : He5.DefA := ⟨fun K => (gtA K (He.ga K "Schema") "rules"), "rules", "Schema.rules", defArgs s_Schema_rules, defBody s_Schema_rules, defScope s_Schema_rules, [], []⟩
def d_law_loose : He5.DefA := ⟨fun K => He.ga K "_law_loose", "_law_loose", "_law_loose", defArgs s_law_loose, defBody s_law_loose, defScope s_law_loose, [], []⟩
def d_law_set : He5.DefA := ⟨fun K => He.ga K "_law_set", "_law_set", "_law_set", defArgs s_law_set, defBody s_law_set, defScope s_law_set, [], []⟩
def d_Schema___eq : He5.DefA := ⟨fun K => (He.ma K (He.ga K "Schema") "__eq__"), "__eq__", "Schema.__eq__", defArgs s_Schema___eq, defBody s_Schema___eq, defScope s_Schema___eq, [], []⟩
def d_law_schema_fault : He5.DefA := ⟨fun K => He.ga K "_law_schema_fault", "_law_schema_fault", "_law_schema_fault", defArgs s_law_schema_fault, defBody s_law_schema_fault, defScope s_law_schema_fault, [], []⟩
def d_law : He5.DefA := ⟨fun K => He.ga K "law", "law", "law", defArgs s_law, defBody s_law, defScope s_law, [], []⟩
def fn0 : List He5.DefA := [d_law_numbers, d_law_draw, d_law_take, d_law_rules, d_is_integer, d_is_label, d_BadValue___init, d_is_sequence, d_plain_rule, d_BadRule___init, d_Schema___init, d_Schema_root, d_law_so, d_Schema_rules, d_law_loose, d_law_set, d_Schema___eq, d_law_schema_fault, d_law]
def fnL : List He5.DefA := fn0
def fa0 : List He.Fa := [.glo "_law_numbers", .glo "_law_draw", .glo "_law_take", .glo "_law_rules", .glo "is_integer", .glo "is_label", .glo "is_sequence", .glo "plain_rule", .glo "_law_so", .glo "_law_loose", .glo "_law_set", .glo "_law_schema_fault", .glo "law", .glo "HOWS", .glo "BadRule", .glo "BadValue", .glo "Schema", .cls "Schema", .mkr "Schema", .noat "Schema" "_root", .noat "Schema" "_rules"]
def faL : List He.Fa := txFa ++ fa0
def nm0 : List PySem.Str := ["EditError", "BadValue", "BadRule", "is_integer", "is_sequence", "is_label", "HOWS", "plain_rule", "Schema", "_law_so", "_law_numbers", "_law_draw", "_law_take", "_law_loose", "_law_set", "_law_rules", "_law_schema_fault"]
def nmL : List PySem.Str := nm0
abbrev Rw : PySem.W.OpenRow := PySem.W.OpenLaw.row PySem.Challenge.rw_quietedits_k01_schemas_as_given
def exL (K : PySem.W.Frag) : Bool := ((prpB K (He.ga K "Schema") "root") && ((prpB K (He.ga K "Schema") "rules") && ((insB K (He.ga K "Schema")) && ((notB K (He.ga K "Schema")) && ((He.tupB K "HOWS" ((["one", "maybe", "any", "some"] : List Str).map He.Dv.str)) && ((errTB K tabE) && (eqOB K (He.ga K "Schema") (He.ma K (He.ga K "Schema") "__eq__"))))))))
abbrev hk : PySem.W.Hook := hookQ 6 exL faL fnL
def ob (s : PySem.W.SharedT) : He.AlD := obsQG 6 exL faL fnL (HandSHeadRun.getT s)
theorem ob_eq (s : PySem.W.SharedT) : ob s = hk.obs s.abs := obsQG_eq (HandSHeadRun.getT_eq s)
theorem run (w : World) : HandSHeadRun.RunEq Rw (PySem.W.view Rw.prog [21]) hk ob 3000 nmL w := by
  intro os
  kernel_rfl
theorem facts {P : Program} {w : World} {K : PySem.W.Frag} {h : Heap} {mg : Str → Option Value} {f : Addr} (X : K.In h) (G : h.Ns mainGlobals mg) (hfa : mg ("law" : Str) = some (.ref f)) (c : SaysQ exL faL fnL K) :
    ∃ fd : FuncData, (∀ (s : Shared) (v : Value), BindsTo s fd ⟨[v], []⟩ [("script", v)]) ∧ ∀ base : Heap, K.In base → base.Ns mainGlobals mg → FnOk P w K mg base CX0 32 f fd ["script"] (sp_law K) := by
  have ca : ∀ f ∈ faL, f.ok K = true := fun f hf => let ⟨i, hi⟩ := List.getElem?_of_mem hf; c.fact i hi
  have T : Tx mg := tx_of X G (fun f hf => List.mem_append_left _ hf) ca
  have g__law_numbers := He.glo_ok X G (c.fact (txFa.length + 0) (f := .glo "_law_numbers") rfl)
  have g__law_draw := He.glo_ok X G (c.fact (txFa.length + 1) (f := .glo "_law_draw") rfl)
  have g__law_take := He.glo_ok X G (c.fact (txFa.length + 2) (f := .glo "_law_take") rfl)
  have g__law_rules := He.glo_ok X G (c.fact (txFa.length + 3) (f := .glo "_law_rules") rfl)
  have g_is_integer := He.glo_ok X G (c.fact (txFa.length + 4) (f := .glo "is_integer") rfl)
  have g_is_label := He.glo_ok X G (c.fact (txFa.length + 5) (f := .glo "is_label") rfl)
  have g_is_sequence := He.glo_ok X G (c.fact (txFa.length + 6) (f := .glo "is_sequence") rfl)
  have g_plain_rule := He.glo_ok X G (c.fact (txFa.length + 7) (f := .glo "plain_rule") rfl)
  have g__law_so := He.glo_ok X G (c.fact (txFa.length + 8) (f := .glo "_law_so") rfl)
  have g__law_loose := He.glo_ok X G (c.fact (txFa.length + 9) (f := .glo "_law_loose") rfl)
  have g__law_set := He.glo_ok X G (c.fact (txFa.length + 10) (f := .glo "_law_set") rfl)
  have g__law_schema_fault := He.glo_ok X G (c.fact (txFa.length + 11) (f := .glo "_law_schema_fault") rfl)
  have g_law := He.glo_ok X G (c.fact (txFa.length + 12) (f := .glo "law") rfl)
  have g_HOWS := He.glo_ok X G (c.fact (txFa.length + 13) (f := .glo "HOWS") rfl)
  have g_BadRule := He.glo_ok X G (c.fact (txFa.length + 14) (f := .glo "BadRule") rfl)
  have g_BadValue := He.glo_ok X G (c.fact (txFa.length + 15) (f := .glo "BadValue") rfl)
  have g_Schema := He.glo_ok X G (c.fact (txFa.length + 16) (f := .glo "Schema") rfl)
  have hex : exL K = true := c.more
  obtain ⟨ex_0, hex⟩ := He.ba hex
  obtain ⟨ex_1, hex⟩ := He.ba hex
  obtain ⟨ex_2, hex⟩ := He.ba hex
  obtain ⟨ex_3, hex⟩ := He.ba hex
  obtain ⟨ex_4, hex⟩ := He.ba hex
  obtain ⟨ex_5, hex⟩ := He.ba hex
  have ex_6 := hex
  have cl_Schema := He.cls_ok (c.fact (txFa.length + 17) (f := .cls "Schema") rfl)
  have mk_Schema := He.mkr_ok (c.fact (txFa.length + 18) (f := .mkr "Schema") rfl)
  have na_Schema__root := He.noat_ok (c.fact (txFa.length + 19) (f := .noat "Schema" "_root") rfl)
  have na_Schema__rules := He.noat_ok (c.fact (txFa.length + 20) (f := .noat "Schema" "_rules") rfl)
  have pp_Schema_root := prpB_ok ex_0
  have pp_Schema_rules := prpB_ok ex_1
  have ii_Schema := insB_ok cl_Schema ex_2
  have nd_Schema := notB_ok ex_3
  have k_HOWS := tupS_ok (ts := ["one", "maybe", "any", "some"]) ex_4
  have ET := errTB_ok (tab := tabE) ex_5
  have EQ := eqOB_ok ii_Schema ex_6
  have M_Schema := (⟨cl_Schema, na_Schema__root, na_Schema__rules, ii_Schema, nd_Schema⟩ : SchK K)
  obtain ⟨fd_law_numbers, F_law_numbers⟩ := c.def_ 0 (d := d_law_numbers) rfl
  obtain ⟨fd_law_draw, F_law_draw⟩ := c.def_ 1 (d := d_law_draw) rfl
  obtain ⟨fd_law_take, F_law_take⟩ := c.def_ 2 (d := d_law_take) rfl
  obtain ⟨fd_law_rules, F_law_rules⟩ := c.def_ 3 (d := d_law_rules) rfl
  obtain ⟨fd_is_integer, F_is_integer⟩ := c.def_ 4 (d := d_is_integer) rfl
  obtain ⟨fd_is_label, F_is_label⟩ := c.def_ 5 (d := d_is_label) rfl
  obtain ⟨fd_BadValue___init, F_BadValue___init⟩ := c.def_ 6 (d := d_BadValue___init) rfl
  obtain ⟨fd_is_sequence, F_is_sequence⟩ := c.def_ 7 (d := d_is_sequence) rfl
  obtain ⟨fd_plain_rule, F_plain_rule⟩ := c.def_ 8 (d := d_plain_rule) rfl
  obtain ⟨fd_BadRule___init, F_BadRule___init⟩ := c.def_ 9 (d := d_BadRule___init) rfl
  obtain ⟨fd_Schema___init, F_Schema___init⟩ := c.def_ 10 (d := d_Schema___init) rfl
  obtain ⟨fd_Schema_root, F_Schema_root⟩ := c.def_ 11 (d := d_Schema_root) rfl
  obtain ⟨fd_law_so, F_law_so⟩ := c.def_ 12 (d := d_law_so) rfl
  obtain ⟨fd_Schema_rules, F_Schema_rules⟩ := c.def_ 13 (d := d_Schema_rules) rfl
  obtain ⟨fd_law_loose, F_law_loose⟩ := c.def_ 14 (d := d_law_loose) rfl
  obtain ⟨fd_law_set, F_law_set⟩ := c.def_ 15 (d := d_law_set) rfl
  obtain ⟨fd_Schema___eq, F_Schema___eq⟩ := c.def_ 16 (d := d_Schema___eq) rfl
  obtain ⟨fd_law_schema_fault, F_law_schema_fault⟩ := c.def_ 17 (d := d_law_schema_fault) rfl
  obtain ⟨fd_law, F_law⟩ := c.def_ 18 (d := d_law) rfl
  have e := hfa.symm.trans g_law
  cases e
  refine ⟨fd_law, fun s v => FunD.bindsA (ps := ["script"]) F_law (fun _ _ _ _ _ _ us hl => match us, hl with | [_], _ => rfl) s [v] rfl, fun base Kb Gb => ?_⟩
  have h_law_numbers := fn_law_numbers (P := P) (w := w) (base := base) T F_law_numbers g__law_numbers 
  have h_law_draw := fn_law_draw (P := P) (w := w) (base := base) T F_law_draw g__law_draw 
  have h_law_take := fn_law_take (P := P) (w := w) (base := base) T h_law_draw F_law_take g__law_take 
  have h_law_rules := fn_law_rules (P := P) (w := w) (base := base) T h_law_take F_law_rules g__law_rules 
  have h_is_integer := fn_is_integer (P := P) (w := w) (base := base) T F_is_integer g_is_integer 
  have h_is_label := fn_is_label (P := P) (w := w) (base := base) T h_is_integer F_is_label g_is_label 
  have h_BadValue___init := fn_BadValue___init (P := P) (w := w) (base := base) (mg := mg) T F_BadValue___init  
  have h_is_sequence := fn_is_sequence (P := P) (w := w) (base := base) T F_is_sequence g_is_sequence 
  have h_plain_rule := fn_plain_rule (P := P) (w := w) (base := base) T g_HOWS h_is_sequence h_is_label F_plain_rule g_plain_rule k_HOWS
  have h_BadRule___init := fn_BadRule___init (P := P) (w := w) (base := base) (mg := mg) T F_BadRule___init  
  have h_Schema___init := fn_Schema___init (P := P) (w := w) (base := base) (mg := mg) T g_BadRule g_BadValue ET h_is_label h_BadValue___init h_is_sequence h_plain_rule h_BadRule___init F_Schema___init  M_Schema
  have hk_Schema___init := fnk_Schema___init (P := P) (w := w) (base := base) (mg := mg) T g_BadRule g_BadValue ET h_is_label h_BadValue___init h_is_sequence h_plain_rule h_BadRule___init F_Schema___init  M_Schema
  have h_Schema_root := fn_Schema_root (P := P) (w := w) (base := base) (mg := mg) T F_Schema_root  M_Schema
  have h_law_so := fn_law_so (P := P) (w := w) (base := base) T F_law_so g__law_so 
  have h_Schema_rules := fn_Schema_rules (P := P) (w := w) (base := base) (mg := mg) T F_Schema_rules  M_Schema
  have h_law_loose := fn_law_loose (P := P) (w := w) (base := base) T F_law_loose g__law_loose 
  have h_law_set := fn_law_set (P := P) (w := w) (base := base) T F_law_set g__law_set 
  have h_Schema___eq := fn_Schema___eq (P := P) (w := w) (base := base) (mg := mg) T g_Schema F_Schema___eq  M_Schema
  have h_law_schema_fault := fn_law_schema_fault (P := P) (w := w) (base := base) T g_BadRule g_BadValue g_Schema mk_Schema ET h_Schema___init F_law_schema_fault g__law_schema_fault 
  exact F_law.ok (k := 31) sc_law (fun vs H Q E h => l_law h) (fun cdv A outer s H vs Q E hr h => ⟨t_law K, PSs.nox (b_law T g_Schema mk_Schema cl_Schema pp_Schema_root pp_Schema_rules EQ hk_Schema___init h_law_numbers h_law_take h_law_rules h_Schema___init h_Schema_root (h_law_so 5) h_Schema_rules (h_law_loose 30) h_law_set h_Schema___eq h_law_schema_fault hr), r_law M_Schema h⟩)
end Qe
open PySem PySem.W PySem.Calls PyProof.Rows
theorem PySem.Challenge.cw_quietedits_k01_schemas_as_given_holds : PySem.Challenge.rw_quietedits_k01_schemas_as_given.Holds := by
  w_on; o_law
  refine HandSHeadRun.head_any (r := OpenLaw.row PySem.Challenge.rw_quietedits_k01_schemas_as_given) (q := view (OpenLaw.row PySem.Challenge.rw_quietedits_k01_schemas_as_given).prog [21]) (H := Qe.hk) (ob := Qe.ob) (M := 3000) (loose := Qe.nmL) (d := HandSHeadRun.topDef (OpenLaw.row PySem.Challenge.rw_quietedits_k01_schemas_as_given).prog 21) (kwd := []) Qe.ob_eq
    (by kernel_rfl) (fun s => by kernel_rfl) Qe.run (by kernel_rfl) (by kernel_rfl) (by kernel_rfl) (by rfl) (by first | assumption | decide +kernel) (by decide +kernel) ⟨rfl, rfl, rfl, rfl, rfl, by decide +kernel⟩ ?hw ?hc
  case hw => w_witness2
  case hc =>
    refine L2.walk_ofE (l := PySem.Challenge.rw_quietedits_k01_schemas_as_given) (n := 63) (k := 32) (x := "script") (CX := L2.CX0) rfl (by decide) (by kernel_rfl) ⟨rfl, by decide, by decide⟩ ?F (fun _ _ _ _ z => z)
    intro w mg fa h Y G hmg0
    obtain ⟨K, KX, c⟩ := Y
    have hmg : mg ("law" : PySem.Str) = some (.ref fa) := by
      have e : (HandSHeadRun.topDef (OpenLaw.row PySem.Challenge.rw_quietedits_k01_schemas_as_given).prog 21).name = ("law" : PySem.Str) := by kernel_rfl
      rw [← e]
      exact hmg0
    obtain ⟨fd, hb, hF⟩ := Qe.facts (P := (PySem.Challenge.rw_quietedits_k01_schemas_as_given).prog) (w := w) KX G hmg c
    exact ⟨K, fd, Qe.sp_law K, KX, hb, fun H a ns hl _ hS => ⟨a, ns, rfl, hS, hl, fun _ => rfl⟩, hF⟩
