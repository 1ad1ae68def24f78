import PyProof.Rows.All
import Wide.All
import OpenK.AllK
import Wide.FinOn
import HandS.ForMost
import HandS.Deep
import KE.SortData
import KE.KeyNested
import KE.KDictKeyed
import KE.KDictPairs
import KE.KDictZip
import KE.KDictWalk
import HandS.Lambda
import HandS.TupAny
import HandS.TupMul
import KE.DataCmp
import KE.DataEq
import KE.DataFind
import KE.DataMinMax
import KE.DataAny
import KE.DataIsa
import HandS.Zip
import KE.GoesEnum
import HandS.Style
import HandS.More
import KE.SortKeyHeap
import HandS.Conv
import PyProof.ListRange
import HandS.DictTup
import HandS.SortKw
import HandS.EndTab
import HandS.EndBits
import PySem.Challenge.RW_foxborders_k47_whole_lots_that_do_not_cr
import KE.KNestM
set_option Elab.async false
set_option linter.all false
set_option maxRecDepth 100000
set_option maxHeartbeats 4000000
/-! The value layer, part 1: data that stand for values over the tracked heap; ghosts; denotations. -/
namespace VL
open PySem PySem.Spec PyProof.Rows L2

abbrev D := PyData
abbrev Env := List (Option D)

/-- a key as a datum -/
def kD : Key → D
  | .inl i => .int i
  | .inr x => .str x

/-- no object of code -/
def NoC (o : HO) : Prop := ∀ c q, o ≠ LamX.CodeO c q
def IsCode (o : HO) : Prop := ∃ c q, o = LamX.CodeO c q
/-- what may be written here -/
def Mut : Option HO → Prop
  | some (.lst _) => True
  | some (.dK _) => True
  | some (.ext p) => NoC (.ext p)
  | _ => False
/-- what is left alone: lists, dicts, tables of code -/
def MutN (o : Option HO) : Prop := Mut o ∨ ∃ ps, o = some (.tbl ps)
theorem Mut.k {o : Option HO} (h : Mut o) : L2.Mut o := by
  cases o with
  | none => exact h
  | some o =>
    cases o with
    | lst => trivial
    | dK => trivial
    | ext => trivial
    | _ => exact h.elim
theorem Mut.noc {o : HO} (h : Mut (some o)) : NoC o := by
  intro c q e
  subst e
  exact h c q rfl
/-- a dict whose keys are tuples: its entries, as they are -/
def dN (w : World) (a : Addr) (xs : List (NestedKey × Addr × Value)) : HO := .ext fun h => ∃ o es ep, h.get? a = some o ∧ o.ExactDict ∧ o.data = .dict es ep ∧ es.toList = xs.map fun x => (⟨NestedKey.hash w x.1, .ref x.2.1, x.2.2⟩ : DictEntry)
theorem dN_noc {w : World} {a : Addr} {xs : List (NestedKey × Addr × Value)} : NoC (dN w a xs) := by
  intro c q e
  have e1 := HO.ext.inj e
  have e2 := congrFun e1 ⟨Array.replicate (c + 1) { cls := .none, data := .fields #[.none, .str q default] }, {}⟩
  have h : ∃ (oc : Obj) (vs : Array Value) (t : Tok), Heap.get? ⟨Array.replicate (c + 1) { cls := .none, data := .fields #[.none, .str q default] }, {}⟩ c = some oc ∧ oc.data = .fields vs ∧ vs[1]? = some (.str q t) :=
    ⟨{ cls := .none, data := .fields #[.none, .str q default] }, _, default, by unfold Heap.get?; rw [Array.getElem?_replicate, if_pos (Nat.lt_succ_self _)], rfl, rfl⟩
  obtain ⟨o, es, ep, h1, _, h2, _⟩ := cast e2.symm h
  unfold Heap.get? at h1
  rw [Array.getElem?_replicate] at h1
  split at h1
  · cases h1
  · split at h1
    · cases h1; cases h2
    · cases h1
/-- what its entries must be -/
structure DNok (a : Addr) (xs : List (NestedKey × Addr × Value)) : Prop where
  nd : (xs.map (·.1)).Nodup
  dp : ∀ x ∈ xs, x.1.depth ≤ 8
  ns : (a == sysModules) = false
  sz : xs.length ≤ sizeLine
  ne : xs ≠ []

mutual
/-- v stands for d; no address that is leaned on is in N -/
inductive Rp (w : World) (N : Addr → Prop) (H : Hp) : V → D → Prop
  | non : Rp w N H .non .none
  | bl (b : Bool) : Rp w N H (.bl b) (.bool b)
  | int (i : Int) : Rp w N H (.int i) (.int i)
  | str (x : Str) : Rp w N H (.str x) (.str x)
  | tup {a : Addr} {xs : List V} {ds : List D} : H a = some (.tup xs) → ¬ N a → RpAll w N H xs ds → Rp w N H (.ref a) (.tuple ds)
  | lst {a : Addr} {xs : List V} {ds : List D} : H a = some (.lst xs) → ¬ N a → RpAll w N H xs ds → Rp w N H (.ref a) (.list ds)
  | dK {a : Addr} {kvs : List (Key × V)} {xs : List V} {ds : List D} {ks : List D} : L2.Rd H a (.dK kvs) → ¬ N a → kvs.map (·.2) = xs → kvs.map (fun p => kD p.1) = ks → RpAll w N H xs ds → Rp w N H (.ref a) (.dict (ks.zip ds))
  | dN {a : Addr} {ens : List (NestedKey × Addr × Value)} {ks : List V} {ds : List D} {vs : List V} {es : List D} : L2.Rd H a (dN w a ens) → ¬ N a → DNok a ens → ens.map (fun x => V.ref x.2.1) = ks → ens.map (fun x => x.1.data) = ds → RpAll w N H ks ds → Vals vs (ens.map (·.2.2)) → RpAll w N H vs es → Rp w N H (.ref a) (.dict (ds.zip es))
inductive RpAll (w : World) (N : Addr → Prop) (H : Hp) : List V → List D → Prop
  | nil : RpAll w N H [] []
  | cons {v : V} {vs : List V} {d : D} {ds : List D} : Rp w N H v d → RpAll w N H vs ds → RpAll w N H (v :: vs) (d :: ds)
end

/-- a list or dict that stands at a, its items standing for data -/
inductive Sh (w : World) (N : Addr → Prop) (H : Hp) (a : Addr) : D → Prop
  | lst {xs : List V} {ds : List D} : H a = some (.lst xs) → RpAll w N H xs ds → Sh w N H a (.list ds)
  | dK {kvs : List (Key × V)} {xs : List V} {ds ks : List D} : L2.Rd H a (.dK kvs) → kvs.map (·.2) = xs → kvs.map (fun p => kD p.1) = ks → RpAll w N H xs ds → Sh w N H a (.dict (ks.zip ds))
  | dN {ens : List (NestedKey × Addr × Value)} {ks : List V} {ds : List D} {vs : List V} {es : List D} : L2.Rd H a (dN w a ens) → DNok a ens → ens.map (fun x => V.ref x.2.1) = ks → ens.map (fun x => x.1.data) = ds → RpAll w N H ks ds → Vals vs (ens.map (·.2.2)) → RpAll w N H vs es → Sh w N H a (.dict (ds.zip es))

section
variable {w : World} {N N' : Addr → Prop} {H H' : Hp}
theorem RpAll.length : ∀ {xs : List V} {ds : List D}, RpAll w N H xs ds → xs.length = ds.length
  | _, _, .nil => rfl
  | _, _, .cons _ t => by rw [List.length_cons, List.length_cons, t.length]
theorem RpAll.get : ∀ {xs : List V} {ds : List D} {i : Nat} {d : D}, RpAll w N H xs ds → ds[i]? = some d → ∃ v, xs[i]? = some v ∧ Rp w N H v d
  | _, _, _, _, .nil, e => by simp at e
  | _, _, 0, _, .cons r _, e => by simp at e; subst e; exact ⟨_, rfl, r⟩
  | _, _, i + 1, d, .cons _ t, e => by
    obtain ⟨v, h1, h2⟩ := t.get (i := i) (d := d) (by simpa using e)
    exact ⟨v, by simpa using h1, h2⟩
theorem RpAll.getV : ∀ {xs : List V} {ds : List D} {i : Nat} {v : V}, RpAll w N H xs ds → xs[i]? = some v → ∃ d, ds[i]? = some d ∧ Rp w N H v d
  | _, _, _, _, .nil, e => by simp at e
  | _, _, 0, _, .cons r _, e => by simp at e; subst e; exact ⟨_, rfl, r⟩
  | _, _, i + 1, v, .cons _ t, e => by
    obtain ⟨d, h1, h2⟩ := t.getV (i := i) (v := v) (by simpa using e)
    exact ⟨d, by simpa using h1, h2⟩
theorem RpAll.append : ∀ {xs ys : List V} {ds es : List D}, RpAll w N H xs ds → RpAll w N H ys es → RpAll w N H (xs ++ ys) (ds ++ es)
  | _, _, _, _, .nil, s => s
  | _, _, _, _, .cons r t, s => .cons r (t.append s)
theorem RpAll.take : ∀ {xs : List V} {ds : List D} (n : Nat), RpAll w N H xs ds → RpAll w N H (xs.take n) (ds.take n)
  | _, _, 0, _ => .nil
  | _, _, _ + 1, .nil => .nil
  | _, _, n + 1, .cons r t => .cons r (t.take n)
theorem RpAll.drop : ∀ {xs : List V} {ds : List D} (n : Nat), RpAll w N H xs ds → RpAll w N H (xs.drop n) (ds.drop n)
  | _, _, 0, r => r
  | _, _, _ + 1, .nil => .nil
  | _, _, n + 1, .cons _ t => t.drop n
theorem RpAll.set {v : V} {d : D} (r : Rp w N H v d) : ∀ {xs : List V} {ds : List D} (i : Nat), RpAll w N H xs ds → RpAll w N H (xs.set i v) (ds.set i d)
  | _, _, _, .nil => .nil
  | _, _, 0, .cons _ t => .cons r t
  | _, _, i + 1, .cons q t => .cons q (t.set r i)
theorem RpAll.eraseIdx : ∀ {xs : List V} {ds : List D} (i : Nat), RpAll w N H xs ds → RpAll w N H (xs.eraseIdx i) (ds.eraseIdx i)
  | _, _, _, .nil => .nil
  | _, _, 0, .cons _ t => t
  | _, _, i + 1, .cons q t => .cons q (t.eraseIdx i)
theorem RpAll.dropLast {xs : List V} {ds : List D} (h : RpAll w N H xs ds) : RpAll w N H xs.dropLast ds.dropLast := by
  rw [List.dropLast_eq_take, List.dropLast_eq_take, h.length]; exact h.take _
theorem RpAll.reverse : ∀ {xs : List V} {ds : List D}, RpAll w N H xs ds → RpAll w N H xs.reverse ds.reverse
  | _, _, .nil => .nil
  | _, _, .cons r t => by rw [List.reverse_cons, List.reverse_cons]; exact t.reverse.append (.cons r .nil)
theorem RpAll.one {v : V} {d : D} (r : Rp w N H v d) : RpAll w N H [v] [d] := .cons r .nil

/-- the same object, locked or not -/
def IsDc : HO → Prop
  | .dK _ => True
  | .ext p => NoC (.ext p)
  | _ => False
def SmO (x y : Option HO) : Prop := y = x ∨ (∃ o u, x = some (.frz o u) ∧ IsDc u ∧ y = some u) ∨ ∃ o u, x = some u ∧ IsDc u ∧ y = some (.frz o u)
theorem SmO.rfl' {x : Option HO} : SmO x x := .inl rfl
theorem SmO.lst {x y : Option HO} {xs : List V} (h : SmO x y) (e : x = some (.lst xs)) : y = some (.lst xs) := by
  rcases h with h | ⟨o, u, h, _, _⟩ | ⟨o, u, h, d, _⟩
  · rw [h, e]
  · rw [e] at h; cases h
  · rw [e] at h; cases h; exact d.elim
theorem SmO.tup {x y : Option HO} {xs : List V} (h : SmO x y) (e : x = some (.tup xs)) : y = some (.tup xs) := by
  rcases h with h | ⟨o, u, h, _, _⟩ | ⟨o, u, h, d, _⟩
  · rw [h, e]
  · rw [e] at h; cases h
  · rw [e] at h; cases h; exact d.elim
theorem SmO.rd {a : Addr} {u : HO} (h : SmO (H a) (H' a)) (e : L2.Rd H a u) (d : IsDc u) : L2.Rd H' a u := by
  rcases h with h | ⟨o, v, h, d', h2⟩ | ⟨o, v, h, d', h2⟩
  · rcases e with e | ⟨o, e⟩
    · exact .inl (h.trans e)
    · exact .inr ⟨o, h.trans e⟩
  · rcases e with e | ⟨o', e⟩
    · rw [e] at h; cases h; exact d.elim
    · rw [e] at h; cases h; exact .inl h2
  · rcases e with e | ⟨o', e⟩
    · rw [e] at h; cases h; exact .inr ⟨o, h2⟩
    · rw [e] at h; cases h; exact d'.elim
mutual
/-- what stands leans on objects that stay; the set to be avoided may change -/
theorem Rp.moveL (k : ∀ b, H b ≠ none → ¬ N b → SmO (H b) (H' b) ∧ ¬ N' b) : ∀ {d : D} {v : V}, Rp w N H v d → Rp w N' H' v d
  | _, _, .non => .non
  | _, _, .bl b => .bl b
  | _, _, .int i => .int i
  | _, _, .str x => .str x
  | _, _, .tup h n r => .tup ((k _ (by rw [h]; simp) n).1.tup h) (k _ (by rw [h]; simp) n).2 (RpAll.moveL k r)
  | _, _, .lst h n r => .lst ((k _ (by rw [h]; simp) n).1.lst h) (k _ (by rw [h]; simp) n).2 (RpAll.moveL k r)
  | _, _, .dK h n e1 e2 r => .dK ((k _ (by rcases h with h | ⟨o, h⟩ <;> rw [h] <;> simp) n).1.rd h trivial) (k _ (by rcases h with h | ⟨o, h⟩ <;> rw [h] <;> simp) n).2 e1 e2 (RpAll.moveL k r)
  | _, _, .dN h n o e1 e2 r v t => .dN ((k _ (by rcases h with h | ⟨o, h⟩ <;> rw [h] <;> simp) n).1.rd h dN_noc) (k _ (by rcases h with h | ⟨o, h⟩ <;> rw [h] <;> simp) n).2 o e1 e2 (RpAll.moveL k r) v (RpAll.moveL k t)
theorem RpAll.moveL (k : ∀ b, H b ≠ none → ¬ N b → SmO (H b) (H' b) ∧ ¬ N' b) : ∀ {ds : List D} {vs : List V}, RpAll w N H vs ds → RpAll w N' H' vs ds
  | _, _, .nil => .nil
  | _, _, .cons r t => .cons (Rp.moveL k r) (RpAll.moveL k t)
end
theorem Sh.moveL {a : Addr} {d : D} (k : ∀ b, H b ≠ none → ¬ N b → SmO (H b) (H' b) ∧ ¬ N' b) (ha : SmO (H a) (H' a)) (h : Sh w N H a d) : Sh w N' H' a d := by
  cases h with
  | lst h r => exact .lst (ha.lst h) (r.moveL k)
  | dK h e1 e2 r => exact .dK (ha.rd h trivial) e1 e2 (r.moveL k)
  | dN h o e1 e2 r v t => exact .dN (ha.rd h dN_noc) o e1 e2 (r.moveL k) v (t.moveL k)
theorem exact_moves (k : ∀ b o, H b = some o → ¬ N b → H' b = some o ∧ ¬ N' b) : ∀ b, H b ≠ none → ¬ N b → SmO (H b) (H' b) ∧ ¬ N' b := fun b n h => by
  cases e : H b with
  | none => exact absurd e n
  | some o => exact ⟨.inl (k b o e h).1, (k b o e h).2⟩
theorem Rp.move {d : D} {v : V} (k : ∀ b o, H b = some o → ¬ N b → H' b = some o ∧ ¬ N' b) (h : Rp w N H v d) : Rp w N' H' v d := h.moveL (exact_moves k)
theorem RpAll.move {ds : List D} {vs : List V} (k : ∀ b o, H b = some o → ¬ N b → H' b = some o ∧ ¬ N' b) (h : RpAll w N H vs ds) : RpAll w N' H' vs ds := h.moveL (exact_moves k)
theorem Sh.move {a : Addr} {d : D} (k : ∀ b o, H b = some o → ¬ N b → H' b = some o ∧ ¬ N' b) (ha : ∀ o, H a = some o → H' a = some o) (h : Sh w N H a d) : Sh w N' H' a d := by
  refine h.moveL (exact_moves k) ?_
  cases e : H a with
  | none =>
    cases h with
    | lst h _ => rw [e] at h; cases h
    | dK h _ _ _ => rcases h with h | ⟨o, h⟩ <;> (rw [e] at h; cases h)
    | dN h _ _ _ _ _ _ => rcases h with h | ⟨o, h⟩ <;> (rw [e] at h; cases h)
  | some o => exact .inl (ha o e)
theorem Sh.some {a : Addr} {d : D} (h : Sh w N H a d) : H a ≠ Option.none := by
  cases h with
  | lst h _ => rw [h]; simp
  | dK h _ _ _ => rcases h with h | ⟨o, h⟩ <;> (rw [h]; simp)
  | dN h _ _ _ _ _ _ => rcases h with h | ⟨o, h⟩ <;> (rw [h]; simp)
theorem Sh.rp {a : Addr} {d : D} (h : Sh w N H a d) (n : ¬ N a) : Rp w N H (.ref a) d := by
  cases h with
  | lst h r => exact .lst h n r
  | dK h e1 e2 r => exact .dK h n e1 e2 r
  | dN h o e1 e2 r v t => exact .dN h n o e1 e2 r v t
end

/-! ### the drawing source -/
structure SrcSt where
  cells : List Int
  left : Int
  mixed : Int
  turn : Int
  tb : List (Addr × Str) := []
abbrev Src := Option SrcSt

/-- ghosts of a body: what its caller wants left alone, where the source stands -/
structure Gh where
  N0 : Addr → Prop
  sa : Option (Addr × Addr)
  tb : List (Addr × Str)
def Gh.st (g : Gh) : Option (Addr × Addr) × List (Addr × Str) := (g.sa, g.tb)
def Gh.src (g : Gh) (b : Addr) : Prop := (∃ aS aC, g.sa = some (aS, aC) ∧ (b = aS ∨ b = aC)) ∨ ∃ p, p ∈ g.tb ∧ b = p.1
abbrev Own := Nat → Option Addr
def Gh.N (g : Gh) (own : Own) (b : Addr) : Prop := g.N0 b ∨ ∃ i, own i = some b
def Gh.W (g : Gh) (own : Own) (b : Addr) : Prop := g.src b ∨ ∃ i, own i = some b

def SrcM (sa : Option (Addr × Addr)) (H : Hp) (z : Src) : Prop := match sa, z with
  | none, none => True
  | some (aS, aC), some st => aS ≠ aC ∧ H aS = some (.dK [(.inr "cells", .ref aC), (.inr "left", .int st.left), (.inr "mixed", .int st.mixed), (.inr "turn", .int st.turn)]) ∧ H aC = some (.lst (st.cells.map V.int))
  | _, _ => False
def SrcOk (g : Gh) (H : Hp) (z : Src) : Prop := SrcM g.sa H z ∧ LamX.Tabs g.tb H ∧ ∀ st, z = some st → st.tb = g.tb
theorem SrcOk.m {g : Gh} {H : Hp} {z : Src} (s : SrcOk g H z) : SrcM g.sa H z := s.1
theorem SrcOk.t {g : Gh} {H : Hp} {z : Src} (s : SrcOk g H z) : LamX.Tabs g.tb H := s.2.1

/-- the state stands for the environment: slots in m are owned lists or dicts, all others share nothing that will change -/
structure IV (w : World) (g : Gh) (m : List Nat) (sl : Option Nat) (own : Own) (ρ : Env) (σ : L2.St) (H : Hp) : Prop where
  len : ρ.length = σ.length
  cl : ∀ i d, ρ[i]? = some (some d) → i ∉ m → ∃ v, σ[i]? = some (some v) ∧ Rp w (g.N own) H v d
  ow : ∀ i d, ρ[i]? = some (some d) → i ∈ m → ∃ a, σ[i]? = some (some (.ref a)) ∧ own i = some a ∧ Sh w (g.N own) H a d
  src : ∀ i, sl = some i → ∃ aS aC, g.sa = some (aS, aC) ∧ σ[i]? = some (some (.ref aS))
  om : ∀ i a, own i = some a → i ∈ m ∧ ¬ g.N0 a ∧ Mut (H a)
  oi : ∀ i j a, own i = some a → own j = some a → i = j
  n0 : ∀ a, g.N0 a → MutN (H a)
  sn : ∀ a, g.src a → g.N0 a

/-- all but the set W stands -/
def Kp (W : Addr → Prop) (H H' : Hp) : Prop := ∀ b o, H b = some o → ¬ W b → H' b = some o
theorem Kp.refl {W : Addr → Prop} {H : Hp} : Kp W H H := fun _ _ h _ => h
theorem Kp.trans {W : Addr → Prop} {H H1 H2 : Hp} (a : Kp W H H1) (b : Kp W H1 H2) : Kp W H H2 := fun c o h n => b c o (a c o h n) n
theorem Kp.mono {W W' : Addr → Prop} {H H1 : Hp} (a : Kp W H H1) (s : ∀ b, W b → W' b) : Kp W' H H1 := fun c o h n => a c o h fun z => n (s c z)
theorem Kp.same {W : Addr → Prop} {H H1 : Hp} (a : Same H H1) : Kp W H H1 := fun c o h _ => a c o h
theorem Kp.upd {W : Addr → Prop} {H : Hp} {p : Addr} {o : HO} (h : H p = none) : Kp W H (upd H p o) := fun b u e _ => by
  rw [upd_ne (ne_of_none e h)]; exact e
theorem same_upd {H : Hp} {p : Addr} {o : HO} (h : H p = none) : Same H (upd H p o) := fun b u e => by
  rw [upd_ne (ne_of_none e h)]; exact e

/-- from one state of a body to a later one: what is written is owned or new -/
structure Gr (g : Gh) (own : Own) (H : Hp) (own' : Own) (H' : Hp) : Prop where
  kp : Kp (g.W own) H H'
  nw : ∀ i a, own' i = some a → (∃ j, own j = some a) ∨ H a = none
  ns : ∀ i a, own' i = some a → ¬ g.src a
theorem Gr.trans {g : Gh} {o1 o2 o3 : Own} {H1 H2 H3 : Hp} (a : Gr g o1 H1 o2 H2) (b : Gr g o2 H2 o3 H3) : Gr g o1 H1 o3 H3 := by
  have key : ∀ c u, H1 c = some u → ¬ g.W o1 c → ¬ g.W o2 c := fun c u h n z => by
    rcases z with z | ⟨i, z⟩
    · exact n (.inl z)
    · rcases a.nw i c z with ⟨j, q⟩ | q
      · exact n (.inr ⟨j, q⟩)
      · rw [h] at q; cases q
  refine ⟨fun c u h n => b.kp c u (a.kp c u h n) (key c u h n), fun i c h => ?_, b.ns⟩
  rcases b.nw i c h with ⟨j, q⟩ | q
  · exact a.nw j c q
  · cases e : H1 c with
    | none => exact .inr rfl
    | some u =>
      by_cases n : g.W o1 c
      · rcases n with n | ⟨j, n⟩
        · exact absurd n (b.ns i c h)
        · exact .inl ⟨j, n⟩
      · rw [a.kp c u e n] at q; cases q

section
variable {w : World} {g : Gh} {m m' : List Nat} {sl : Option Nat} {own own' : Own} {ρ ρ' : Env} {σ σ' : L2.St} {H H' : Hp} {z z' : Src}
theorem IV.nsrc (I : IV w g m sl own ρ σ H) : ∀ i a, own i = some a → ¬ g.src a := fun i a h n => (I.om i a h).2.1 (I.sn a n)
theorem IV.gr (I : IV w g m sl own ρ σ H) (k : Kp g.src H H') : Gr g own H own H' := ⟨k.mono fun _ => .inl, fun i a h => .inl ⟨i, h⟩, I.nsrc⟩
theorem mut_some {o : Option HO} (h : Mut o) : o ≠ none := fun e => by subst e; exact h
theorem mutN_some {o : Option HO} (h : MutN o) : o ≠ none := h.elim mut_some fun ⟨ps, e⟩ => by rw [e]; simp
theorem SrcOk.mut (s : SrcOk g H z) {a : Addr} (h : g.src a) : MutN (H a) := by
  rcases h with ⟨aS, aC, e, h⟩ | ⟨p, hp, h⟩
  · have s := s.m
    rw [e] at s
    cases z with
    | none => exact s.elim
    | some st =>
      obtain ⟨_, h1, h2⟩ := s
      rcases h with rfl | rfl
      · rw [h1]; exact .inl trivial
      · rw [h2]; exact .inl trivial
  · obtain ⟨ps, h1, _⟩ := s.t p hp
    rw [h]
    exact .inr ⟨ps, h1⟩
theorem SrcOk.at (s : SrcOk g H z) {a : Addr} (h : g.src a) : H a ≠ none := mutN_some (s.mut h)
theorem SrcOk.keep (s : SrcOk g H z) (k : ∀ b o, H b = some o → g.src b ∨ IsCode o → H' b = some o) : SrcOk g H' z := by
  refine ⟨?_, fun p hp => ?_, s.2.2⟩
  · have s := s.m
    cases e : g.sa with
    | none =>
      rw [e] at s
      cases z with
      | none => trivial
      | some st => exact s.elim
    | some p =>
      obtain ⟨aS, aC⟩ := p
      rw [e] at s
      cases z with
      | none => exact s.elim
      | some st => exact ⟨s.1, k _ _ s.2.1 (.inl (.inl ⟨aS, aC, e, .inl rfl⟩)), k _ _ s.2.2 (.inl (.inl ⟨aS, aC, e, .inr rfl⟩))⟩
  · obtain ⟨ps, h1, h2, h3⟩ := s.t p hp
    refine ⟨ps, k _ _ h1 (.inl (.inr ⟨p, hp, rfl⟩)), h2, fun pos cv hc => ?_⟩
    obtain ⟨c, e1, e2⟩ := h3 pos cv hc
    exact ⟨c, e1, k _ _ e2 (.inr ⟨_, _, rfl⟩)⟩
theorem IV.nm (I : IV w g m sl own ρ σ H) {a : Addr} (h : g.N own a) : MutN (H a) := by
  rcases h with h | ⟨i, h⟩
  · exact I.n0 a h
  · exact .inl (I.om i a h).2.2
theorem IV.nw (I : IV w g m sl own ρ σ H) {a : Addr} (h : g.N own a) : H a ≠ none := mutN_some (I.nm h)
theorem IV.srcN (I : IV w g m sl own ρ σ H) {a : Addr} (h : ¬ g.N own a) : ¬ g.src a := fun z => h (.inl (I.sn a z))
/-- an expression has been evaluated -/
theorem IV.keep (I : IV w g m sl own ρ σ H) (k : Kp g.src H H') (s : SrcOk g H' z') : IV w g m sl own ρ σ H' := by
  have mv : ∀ b o, H b = some o → ¬ g.N own b → H' b = some o ∧ ¬ g.N own b := fun b o h n => ⟨k b o h (I.srcN n), n⟩
  have st : ∀ a, Mut (H a) → ¬ g.src a → Mut (H' a) := fun a h n => by
    cases e : H a with
    | none => rw [e] at h; exact h.elim
    | some o => rw [k a o e n]; rw [e] at h; exact h
  refine ⟨I.len, fun i d h1 h2 => ?_, fun i d h1 h2 => ?_, I.src, fun i a h => ?_, I.oi, fun a h => ?_, I.sn⟩
  · obtain ⟨v, h3, h4⟩ := I.cl i d h1 h2
    exact ⟨v, h3, h4.move mv⟩
  · obtain ⟨a, h3, h4, h5⟩ := I.ow i d h1 h2
    exact ⟨a, h3, h4, h5.move mv fun o e => k a o e (I.nsrc i a h4)⟩
  · obtain ⟨h1, h2, h3⟩ := I.om i a h
    exact ⟨h1, h2, st a h3 (I.nsrc i a h)⟩
  · by_cases n : g.src a
    · exact s.mut n
    · rcases I.n0 a h with q | ⟨ps, q⟩
      · exact .inl (st a q n)
      · exact .inr ⟨ps, k a _ q n⟩
/-- a value that stood stands behind an expression -/
theorem IV.mv (I : IV w g m sl own ρ σ H) (k : Kp g.src H H') : ∀ b o, H b = some o → ¬ g.N own b → H' b = some o ∧ ¬ g.N own b := fun b o h n => ⟨k b o h (I.srcN n), n⟩
end
end VL
set_option Elab.async false
set_option linter.all false
set_option maxRecDepth 100000
set_option maxHeartbeats 4000000
/-! The value layer, part 2: judgements; names, constants, operators, tests. -/
namespace VL
open PySem PySem.Spec PyProof.Rows L2

abbrev DE := Env → Src → Option (D × Src)
abbrev DA := Env → Src → Option (List D × Src)
abbrev DT := Env → Src → Option (Bool × Src)

/-- v can be read as d -/
inductive Rd (w : World) (g : Gh) (own : Own) (H : Hp) : V → D → Prop
  | c {v : V} {d : D} : Rp w (g.N own) H v d → Rd w g own H v d
  | o {a : Addr} {d : D} : Sh w (g.N own) H a d → ¬ g.N0 a → Rd w g own H (.ref a) d
inductive RdAll (w : World) (g : Gh) (own : Own) (H : Hp) : List V → List D → Prop
  | nil : RdAll w g own H [] []
  | cons {v : V} {vs : List V} {d : D} {ds : List D} : Rd w g own H v d → RdAll w g own H vs ds → RdAll w g own H (v :: vs) (d :: ds)

section
variable {w : World} {g : Gh} {m : List Nat} {sl : Option Nat} {own : Own} {ρ : Env} {σ : L2.St} {H H' : Hp} {v : V} {d : D}
theorem Rd.keep (I : IV w g m sl own ρ σ H) {H1 H2 : Hp} (k : Kp g.src H1 H2) (h : Rd w g own H1 v d) : Rd w g own H2 v d := by
  have mv : ∀ b o, H1 b = some o → ¬ g.N own b → H2 b = some o ∧ ¬ g.N own b := fun b o h n => ⟨k b o h fun z => n (.inl (I.sn b z)), n⟩
  cases h with
  | c h => exact .c (h.move mv)
  | o h n => exact .o (h.move mv fun o e => k _ o e fun z => n (I.sn _ z)) n
theorem RdAll.keep (I : IV w g m sl own ρ σ H) {H1 H2 : Hp} (k : Kp g.src H1 H2) : ∀ {vs : List V} {ds : List D}, RdAll w g own H1 vs ds → RdAll w g own H2 vs ds
  | _, _, .nil => .nil
  | _, _, .cons r t => .cons (r.keep I k) (t.keep I k)
theorem Rp.keepK (I : IV w g m sl own ρ σ H) {H1 H2 : Hp} (k : Kp g.src H1 H2) (h : Rp w (g.N own) H1 v d) : Rp w (g.N own) H2 v d :=
  h.move fun b o h n => ⟨k b o h fun z => n (.inl (I.sn b z)), n⟩
theorem RpAll.keepK (I : IV w g m sl own ρ σ H) {H1 H2 : Hp} (k : Kp g.src H1 H2) {vs : List V} {ds : List D} (h : RpAll w (g.N own) H1 vs ds) : RpAll w (g.N own) H2 vs ds :=
  h.move fun b o h n => ⟨k b o h fun z => n (.inl (I.sn b z)), n⟩
end

/-- and a itself -/
def NF (N : Addr → Prop) (a : Addr) (b : Addr) : Prop := N b ∨ b = a
theorem Sh.less {w : World} {N : Addr → Prop} {H : Hp} {a : Addr} {d : D} (h : Sh w (NF N a) H a d) : Sh w N H a d := h.move (fun b o e n => ⟨e, fun q => n (.inl q)⟩) fun o e => e
theorem Sh.lmut {w : World} {N : Addr → Prop} {H : Hp} {a : Addr} {ds : List D} (h : Sh w N H a (.list ds)) : Mut (H a) := by
  cases h with
  | lst h _ => rw [h]; trivial
structure VE (m : List Nat) (sl : Option Nat) (X : Cx) (e : Expr) (f : DE) : Prop where
  run : ∀ (pins : List (Addr × Obj)) (s : Shared) (σ : L2.St) (H : Hp) (g : Gh) (own : Own) (ρ : Env) (z : Src) (d : D) (z' : Src), Inv X pins σ H s → IV X.w g m sl own ρ σ H → SrcOk g H z → f ρ z = some (d, z') →
    wpAny (model X.prog X.w) X.A (eval e X.env) (fun u s' => ∃ v H', Inv X pins σ H' s' ∧ RelV v u ∧ Kp g.src H H' ∧ SrcOk g H' z' ∧ Rp X.w (g.N own) H' v d) X.xe s
structure VR (m : List Nat) (sl : Option Nat) (X : Cx) (e : Expr) (f : DE) : Prop where
  run : ∀ (pins : List (Addr × Obj)) (s : Shared) (σ : L2.St) (H : Hp) (g : Gh) (own : Own) (ρ : Env) (z : Src) (d : D) (z' : Src), Inv X pins σ H s → IV X.w g m sl own ρ σ H → SrcOk g H z → f ρ z = some (d, z') →
    wpAny (model X.prog X.w) X.A (eval e X.env) (fun u s' => ∃ v H', Inv X pins σ H' s' ∧ RelV v u ∧ Kp g.src H H' ∧ SrcOk g H' z' ∧ Rd X.w g own H' v d) X.xe s
/-- a new list or dict -/
structure VF (m : List Nat) (sl : Option Nat) (X : Cx) (e : Expr) (f : DE) : Prop where
  run : ∀ (pins : List (Addr × Obj)) (s : Shared) (σ : L2.St) (H : Hp) (g : Gh) (own : Own) (ρ : Env) (z : Src) (d : D) (z' : Src), Inv X pins σ H s → IV X.w g m sl own ρ σ H → SrcOk g H z → f ρ z = some (d, z') →
    wpAny (model X.prog X.w) X.A (eval e X.env) (fun u s' => ∃ a H', Inv X pins σ H' s' ∧ u = .ref a ∧ Kp g.src H H' ∧ SrcOk g H' z' ∧ H a = none ∧ Mut (H' a) ∧ Sh X.w (NF (g.N own) a) H' a d) X.xe s
/-- a test -/
structure VT (m : List Nat) (sl : Option Nat) (X : Cx) (e : Expr) (f : DT) : Prop where
  run : ∀ (whole : Sem Value) (_ : whole = eval e X.env) (pins : List (Addr × Obj)) (s : Shared) (σ : L2.St) (H : Hp) (g : Gh) (own : Own) (ρ : Env) (z : Src) (b : Bool) (z' : Src), Inv X pins σ H s → IV X.w g m sl own ρ σ H → SrcOk g H z → f ρ z = some (b, z') →
    wpAny (model X.prog X.w) X.A (isTrue e X.env whole) (fun c s' => c = b ∧ ∃ H', Inv X pins σ H' s' ∧ Kp g.src H H' ∧ SrcOk g H' z') X.xe s
/-- a chain of and, or -/
structure VW (m : List Nat) (sl : Option Nat) (X : Cx) (e : Expr) (f : DT) : Prop where
  run : ∀ (whole : Sem Value) (pins : List (Addr × Obj)) (s : Shared) (σ : L2.St) (H : Hp) (g : Gh) (own : Own) (ρ : Env) (z : Src) (b : Bool) (z' : Src), Inv X pins σ H s → IV X.w g m sl own ρ σ H → SrcOk g H z → f ρ z = some (b, z') →
    wpAny (model X.prog X.w) X.A (isTrue e X.env whole) (fun c s' => c = b ∧ ∃ H', Inv X pins σ H' s' ∧ Kp g.src H H' ∧ SrcOk g H' z') X.xe s
/-- arguments -/
structure VA (m : List Nat) (sl : Option Nat) (X : Cx) (es : List Expr) (f : DA) : Prop where
  run : ∀ (pos : Pos) (pins : List (Addr × Obj)) (s : Shared) (σ : L2.St) (H : Hp) (g : Gh) (own : Own) (ρ : Env) (z : Src) (ds : List D) (z' : Src), Inv X pins σ H s → IV X.w g m sl own ρ σ H → SrcOk g H z → f ρ z = some (ds, z') →
    wpAny (model X.prog X.w) X.A (spliced (backTo pos (starEach es X.env))) (fun us s' => ∃ vs H', Inv X pins σ H' s' ∧ Vals vs us ∧ Kp g.src H H' ∧ SrcOk g H' z' ∧ RdAll X.w g own H' vs ds) X.xe s
/-- arguments whose values are to be kept -/
structure VC (m : List Nat) (sl : Option Nat) (X : Cx) (es : List Expr) (f : DA) : Prop where
  run : ∀ (pos : Pos) (pins : List (Addr × Obj)) (s : Shared) (σ : L2.St) (H : Hp) (g : Gh) (own : Own) (ρ : Env) (z : Src) (ds : List D) (z' : Src), Inv X pins σ H s → IV X.w g m sl own ρ σ H → SrcOk g H z → f ρ z = some (ds, z') →
    wpAny (model X.prog X.w) X.A (spliced (backTo pos (starEach es X.env))) (fun us s' => ∃ vs H', Inv X pins σ H' s' ∧ Vals vs us ∧ Kp g.src H H' ∧ SrcOk g H' z' ∧ RpAll X.w (g.N own) H' vs ds) X.xe s

section
variable {m : List Nat} {sl : Option Nat} {X : Cx} {a b c e : Expr} {es : List Expr} {f fa fb fc : DE} {ft fu : DT} {fs : DA} {pos : Pos}

theorem VE.r (h : VE m sl X e f) : VR m sl X e f := ⟨fun pins s σ H g own ρ z d z' I J S hf =>
  thn (h.run pins s σ H g own ρ z d z' I J S hf) fun _ _ ⟨v, H', I1, r, k, s1, q⟩ => ⟨v, H', I1, r, k, s1, .c q⟩⟩
theorem VF.ve (h : VF m sl X e f) : VE m sl X e f := ⟨fun pins s σ H g own ρ z d z' I J S hf =>
  thn (h.run pins s σ H g own ρ z d z' I J S hf) fun _ _ ⟨a, H', I1, r, k, s1, hn, _, q⟩ => ⟨.ref a, H', I1, r, k, s1, q.less.rp fun n => J.nw n hn⟩⟩
theorem VF.r (h : VF m sl X e f) : VR m sl X e f := h.ve.r
theorem VW.t (h : VW m sl X e ft) : VT m sl X e ft := ⟨fun wh _ => h.run wh⟩

/-! ### names, constants -/
def eVar (i : Nat) : DE := fun ρ z => match ρ[i]? with
  | some (some d) => some (d, z)
  | _ => none
theorem eVar_some {i : Nat} {ρ : Env} {z z' : Src} {d : D} (h : eVar i ρ z = some (d, z')) : ρ[i]? = some (some d) ∧ z' = z := by
  unfold eVar at h
  split at h
  · rename_i d' e
    cases h
    exact ⟨e, rfl⟩
  · cases h
/-- a name whose slot shares -/
theorem ve_var (i : Nat) {x : Str} (hi : i ∉ m := by decide) (hN : X.N[i]? = some x := by rfl) (hv : Vis X.env.scope x := by first | exact Or.inl rfl | exact Or.inr (Or.inl rfl) | exact Or.inr (Or.inr rfl)) (hd : (x == ("__debug__" : Str)) = false := by decide)
    (hcd : (x == ("__classdict__" : Str)) = false := by decide) : VE m sl X (.Name x pos) (eVar i) := ⟨fun pins s σ H g own ρ z d z' I J S hf => by
  obtain ⟨h1, rfl⟩ := eVar_some hf
  obtain ⟨v, h2, h3⟩ := J.cl i d h1 hi
  exact thn ((pe_var (i := i) hN hv hd hcd).run pins s σ H (fun w H' => w = v ∧ H' = H) I ⟨v, h2, rfl, rfl⟩) fun u s1 ⟨w, H1, I1, r, e1, e2⟩ => by
    subst e1 e2
    exact ⟨w, H1, I1, r, Kp.refl, S, h3⟩⟩
/-- a name whose slot is owned -/
theorem vr_own (i : Nat) {x : Str} (hi : i ∈ m := by decide) (hN : X.N[i]? = some x := by rfl) (hv : Vis X.env.scope x := by first | exact Or.inl rfl | exact Or.inr (Or.inl rfl) | exact Or.inr (Or.inr rfl)) (hd : (x == ("__debug__" : Str)) = false := by decide)
    (hcd : (x == ("__classdict__" : Str)) = false := by decide) : VR m sl X (.Name x pos) (eVar i) := ⟨fun pins s σ H g own ρ z d z' I J S hf => by
  obtain ⟨h1, rfl⟩ := eVar_some hf
  obtain ⟨v, h2, h3, h4⟩ := J.ow i d h1 hi
  exact thn ((pe_var (i := i) hN hv hd hcd).run pins s σ H (fun w H' => w = .ref v ∧ H' = H) I ⟨.ref v, h2, rfl, rfl⟩) fun u s1 ⟨w, H1, I1, r, e1, e2⟩ => by
    subst e1 e2
    exact ⟨_, H1, I1, r, Kp.refl, S, .o h4 (J.om i v h3).2.1⟩⟩

def eC (d : D) : DE := fun _ z => some (d, z)
theorem ve_const {v : V} {d : D} (h : PE X e (tC v)) (r : ∀ N H, Rp X.w N H v d) : VE m sl X e (eC d) := ⟨fun pins s σ H g own ρ z d' z' I J S hf => by
  cases hf
  exact thn (h.run pins s σ H (fun w H' => w = v ∧ H' = H) I ⟨rfl, rfl⟩) fun u s1 ⟨w, H1, I1, q, e1, e2⟩ => by
    subst e1 e2
    exact ⟨_, H1, I1, q, Kp.refl, S, r _ _⟩⟩
theorem ve_int {i : Int} {j} : VE m sl X (.Constant (.int i) j pos) (eC (.int i)) := ve_const pe_int fun _ _ => .int i
theorem ve_bl {k : Bool} {j} : VE m sl X (.Constant (.bool k) j pos) (eC (.bool k)) := ve_const pe_bl fun _ _ => .bl k
theorem ve_non {j} : VE m sl X (.Constant .none j pos) (eC .none) := ve_const pe_non fun _ _ => .non
theorem ve_str {x : Str} {j} : VE m sl X (.Constant (.str x) j pos) (eC (.str x)) := ve_const pe_str fun _ _ => .str x

/-! ### operators by data -/
def Op2 (X : Cx) (F : Value → Value → Sem Value) (op : D → D → Option D) : Prop :=
  ∀ (pins : List (Addr × Obj)) (s : Shared) (σ : L2.St) (H : Hp) (g : Gh) (own : Own) (x y : V) (v u : Value) (dx dy d : D), Inv X pins σ H s → RelV x v → RelV y u → (∀ b, g.N own b → H b ≠ none) → Rd X.w g own H x dx → Rd X.w g own H y dy → op dx dy = some d →
    wpAny (model X.prog X.w) X.A (F v u) (fun r s' => ∃ v' H', Inv X pins σ H' s' ∧ RelV v' r ∧ Same H H' ∧ Rp X.w (g.N own) H' v' d) X.xe s
def e2 (op : D → D → Option D) (fa fb : DE) : DE := fun ρ z => (fa ρ z).bind fun p => (fb ρ p.2).bind fun q => (op p.1 q.1).map fun d => (d, q.2)
theorem e2_some {op : D → D → Option D} {ρ : Env} {z z' : Src} {d : D} (h : e2 op fa fb ρ z = some (d, z')) : ∃ x z1 y, fa ρ z = some (x, z1) ∧ fb ρ z1 = some (y, z') ∧ op x y = some d := by
  unfold e2 at h
  obtain ⟨p, h1, h⟩ := Option.bind_eq_some_iff.mp h
  obtain ⟨q, h2, h⟩ := Option.bind_eq_some_iff.mp h
  obtain ⟨w, h3, h⟩ := Option.map_eq_some_iff.mp h
  cases h
  exact ⟨p.1, p.2, q.1, h1, h2, h3⟩
theorem Same.kp {W : Addr → Prop} {H H' : Hp} (h : L2.Same H H') : Kp W H H' := fun b o e _ => h b o e
theorem SrcOk.same {g : Gh} {H H' : Hp} {z : Src} (s : SrcOk g H z) (h : L2.Same H H') : SrcOk g H' z := s.keep fun b o e _ => h b o e
/-- two operands, then what is to be done with them -/
theorem bin2 (ha : VR m sl X a fa) (hb : VR m sl X b fb) {op : D → D → Option D} {pins : List (Addr × Obj)} {s : Shared} {σ : L2.St} {H : Hp} {g : Gh} {own : Own} {ρ : Env} {z z' : Src} {d : D} (I : Inv X pins σ H s) (J : IV X.w g m sl own ρ σ H) (S : SrcOk g H z) (hf : e2 op fa fb ρ z = some (d, z'))
    {F : Value → Value → Sem Value} (ho : Op2 X F op) :
    wpAny (model X.prog X.w) X.A (eval a X.env) (fun v s₁ => wpAny (model X.prog X.w) X.A (eval b X.env) (fun u s₂ => wpAny (model X.prog X.w) X.A (F v u) (fun u s' => ∃ v H', Inv X pins σ H' s' ∧ RelV v u ∧ Kp g.src H H' ∧ SrcOk g H' z' ∧ Rp X.w (g.N own) H' v d) X.xe s₂) X.xe s₁) X.xe s := by
  obtain ⟨x, z1, y, h1, h2, h3⟩ := e2_some hf
  refine thn (ha.run pins s σ H g own ρ z x z1 I J S h1) fun v s1 ⟨vx, H1, I1, r1, k1, S1, q1⟩ => ?_
  have J1 := J.keep k1 S1
  refine thn (hb.run pins s1 σ H1 g own ρ z1 y z' I1 J1 S1 h2) fun u s2 ⟨vy, H2, I2, r2, k2, S2, q2⟩ => ?_
  have J2 := J1.keep k2 S2
  refine thn (ho pins s2 σ H2 g own vx vy v u x y d I2 r1 r2 (fun b n => J2.nw n) (q1.keep J k2) q2 h3) fun r s3 ⟨v', H3, I3, r3, k3, q3⟩ => ?_
  exact ⟨v', H3, I3, r3, (k1.trans k2).trans (Same.kp k3), S2.same k3, q3⟩
theorem ve_op {o : Operator} {op : D → D → Option D} (ho : Op2 X (binaryOp o) op) (ha : VR m sl X a fa) (hb : VR m sl X b fb) : VE m sl X (.BinOp a o b pos) (e2 op fa fb) := ⟨fun pins s σ H g own ρ z d z' I J S hf =>
  wpAny_BinOp (bin2 ha hb I J S hf ho)⟩
theorem ve_cmp {o : CmpOp} {op : D → D → Option D} (ho : Op2 X (compareOp o) op) (ha : VR m sl X a fa) (hb : VR m sl X b fb) (hm : behindInMarks o b = false := by first | exact nobehind _ (by decide) (by decide) | rfl) : VE m sl X (.Compare a [o] [b] pos) (e2 op fa fb) := ⟨fun pins s σ H g own ρ z d z' I J S hf =>
  wpAny_Compare1 (bin2 ha hb I J S hf ho) hm⟩

/-! ### tests -/
/-- a datum that is True or False -/
def asB : D → Option Bool
  | .bool b => some b
  | _ => none
def tB (f : DE) : DT := fun ρ z => (f ρ z).bind fun p => (asB p.1).map fun b => (b, p.2)
theorem tB_some {ρ : Env} {z z' : Src} {k : Bool} (h : tB f ρ z = some (k, z')) : f ρ z = some (.bool k, z') := by
  unfold tB at h
  obtain ⟨p, h1, h⟩ := Option.bind_eq_some_iff.mp h
  obtain ⟨w, h3, h⟩ := Option.map_eq_some_iff.mp h
  cases h
  obtain ⟨q, zz⟩ := p
  cases q with
  | bool k' => cases h3; exact h1
  | _ => cases h3
theorem vt_cmp {o : CmpOp} {op : D → D → Option D} (ho : Op2 X (compareOp o) op) (ha : VR m sl X a fa) (hb : VR m sl X b fb) (hm : behindInMarks o b = false := by first | exact nobehind _ (by decide) (by decide) | rfl) : VT m sl X (.Compare a [o] [b] pos) (tB (e2 op fa fb)) := ⟨fun wh hwh pins s σ H g own ρ z k z' I J S hf => by
  refine wpAny_isTrue_Compare1 (thn (bin2 ha hb I J S (tB_some hf) ho) fun v s1 h1 => thn h1 fun u s2 h2 => thn h2 fun r s3 ⟨v', H3, I3, r3, k3, S3, q3⟩ => ?_) hm
  cases q3
  cases r3
  exact wpAny_truthy_bool ⟨rfl, H3, I3, k3, S3⟩⟩
theorem vt_val (h : VR m sl X e f) (he : ∀ whole, isTrue e X.env whole = (do let v ← whole; standAt e.pos; holding [v] (truthy v)) := by intro _; rfl) : VT m sl X e (tB f) := ⟨fun wh hwh pins s σ H g own ρ z k z' I J S hf => by
  subst hwh
  refine isTrue_plain (thn (h.run pins s σ H g own ρ z _ _ I J S (tB_some hf)) fun v s1 ⟨v', H3, I3, r3, k3, S3, q3⟩ => ?_) (he _)
  cases q3 with
  | c q3 =>
    cases q3
    cases r3
    exact wpAny_truthy_bool ⟨rfl, H3, I3, k3, S3⟩
  | o q _ => cases q⟩
def tAnd (t u : DT) : DT := fun ρ z => (t ρ z).bind fun p => if p.1 = true then u ρ p.2 else some (false, p.2)
def tOr (t u : DT) : DT := fun ρ z => (t ρ z).bind fun p => if p.1 = true then some (true, p.2) else u ρ p.2
def tNot (t : DT) : DT := fun ρ z => (t ρ z).map fun p => (!p.1, p.2)
variable {rest : List Expr}
theorem vw_and1 (ha : VT m sl X a ft) : VW m sl X (.BoolOp .And [a] pos) ft := ⟨fun wh pins s σ H g own ρ z k z' I J S hf => by
  refine isTrue_and (thn (ha.run _ rfl pins s σ H g own ρ z k z' I J S hf) fun c s1 e => ?_)
  cases c with
  | true => exact isTrue_and_nil e
  | false => exact e⟩
theorem vw_or1 (ha : VT m sl X a ft) : VW m sl X (.BoolOp .Or [a] pos) ft := ⟨fun wh pins s σ H g own ρ z k z' I J S hf => by
  refine isTrue_or (thn (ha.run _ rfl pins s σ H g own ρ z k z' I J S hf) fun c s1 e => ?_)
  cases c with
  | false => exact isTrue_or_nil e
  | true => exact e⟩
theorem vw_and (ha : VT m sl X a ft) (hb : VW m sl X (.BoolOp .And (b :: rest) pos) fu) : VW m sl X (.BoolOp .And (a :: b :: rest) pos) (tAnd ft fu) := ⟨fun wh pins s σ H g own ρ z k z' I J S hf => by
  unfold tAnd at hf
  obtain ⟨p, h1, hf⟩ := Option.bind_eq_some_iff.mp hf
  refine isTrue_and (thn (ha.run _ rfl pins s σ H g own ρ z p.1 p.2 I J S h1) fun c s1 ⟨e, H1, I1, k1, S1⟩ => ?_)
  subst e
  cases hp : p.1 with
  | true =>
    rw [hp, if_pos rfl] at hf
    exact thn (hb.run wh pins s1 σ H1 g own ρ p.2 k z' I1 (J.keep k1 S1) S1 hf) fun c s2 ⟨e, H2, I2, k2, S2⟩ => ⟨e, H2, I2, k1.trans k2, S2⟩
  | false =>
    rw [hp, if_neg (by decide)] at hf
    cases hf
    exact ⟨rfl, H1, I1, k1, S1⟩⟩
theorem vw_or (ha : VT m sl X a ft) (hb : VW m sl X (.BoolOp .Or (b :: rest) pos) fu) : VW m sl X (.BoolOp .Or (a :: b :: rest) pos) (tOr ft fu) := ⟨fun wh pins s σ H g own ρ z k z' I J S hf => by
  unfold tOr at hf
  obtain ⟨p, h1, hf⟩ := Option.bind_eq_some_iff.mp hf
  refine isTrue_or (thn (ha.run _ rfl pins s σ H g own ρ z p.1 p.2 I J S h1) fun c s1 ⟨e, H1, I1, k1, S1⟩ => ?_)
  subst e
  cases hp : p.1 with
  | true =>
    rw [hp, if_pos rfl] at hf
    cases hf
    exact ⟨rfl, H1, I1, k1, S1⟩
  | false =>
    rw [hp, if_neg (by decide)] at hf
    exact thn (hb.run wh pins s1 σ H1 g own ρ p.2 k z' I1 (J.keep k1 S1) S1 hf) fun c s2 ⟨e, H2, I2, k2, S2⟩ => ⟨e, H2, I2, k1.trans k2, S2⟩⟩
theorem vt_not (ha : VT m sl X a ft) : VT m sl X (.UnaryOp .Not a pos) (tNot ft) := ⟨fun wh hwh pins s σ H g own ρ z k z' I J S hf => by
  unfold tNot at hf
  obtain ⟨p, h1, hf⟩ := Option.map_eq_some_iff.mp hf
  cases hf
  exact isTrue_not (thn (ha.run _ rfl pins s σ H g own ρ z p.1 p.2 I J S h1) fun c s1 ⟨e, H1, I1, k1, S1⟩ => ⟨by rw [e], H1, I1, k1, S1⟩)⟩
/-- as values -/
def eAnd (f h : DE) : DE := fun ρ z => (f ρ z).bind fun p => (asB p.1).bind fun b => if b = true then h ρ p.2 else some (.bool false, p.2)
def eOr (f h : DE) : DE := fun ρ z => (f ρ z).bind fun p => (asB p.1).bind fun b => if b = true then some (.bool true, p.2) else h ρ p.2
def eNot (t : DT) : DE := fun ρ z => (t ρ z).map fun p => (.bool !p.1, p.2)
theorem asB_some {d : D} {b : Bool} (h : asB d = some b) : d = .bool b := by
  cases d with
  | bool k => cases h; rfl
  | _ => cases h
theorem Rd.tt {w : World} {g : Gh} {own : Own} {H : Hp} {v : V} {b : Bool} (h : Rd w g own H v (.bool b)) : v = .bl b := by
  cases h with
  | c h => cases h; rfl
  | o h _ => cases h
theorem ve_one {o} (h : VE m sl X a f) : VE m sl X (.BoolOp o [a] pos) f := ⟨fun pins s σ H g own ρ z d z' I J S hf => BoolOp_one (h.run pins s σ H g own ρ z d z' I J S hf)⟩
theorem ve_and (ha : VR m sl X a fa) (hb : VE m sl X (.BoolOp .And (b :: rest) pos) fb) : VE m sl X (.BoolOp .And (a :: b :: rest) pos) (eAnd fa fb) := ⟨fun pins s σ H g own ρ z d z' I J S hf => by
  unfold eAnd at hf
  obtain ⟨⟨d1, z1⟩, h1, hf⟩ := Option.bind_eq_some_iff.mp hf
  obtain ⟨k, h2, hf⟩ := Option.bind_eq_some_iff.mp hf
  obtain rfl := asB_some h2
  refine BoolOp_and (thn (ha.run pins s σ H g own ρ z _ z1 I J S h1) fun v s1 ⟨v', H1, I1, r1, k1, S1, q1⟩ => ?_)
  obtain rfl := q1.tt
  cases r1
  refine wpAny_truthy_bool ?_
  cases k with
  | true =>
    rw [if_pos rfl] at hf
    exact thn (hb.run pins s1 σ H1 g own ρ z1 d z' I1 (J.keep k1 S1) S1 hf) fun u s2 ⟨w, H2, I2, r2, k2, S2, q2⟩ => ⟨w, H2, I2, r2, k1.trans k2, S2, q2⟩
  | false =>
    rw [if_neg (by decide)] at hf
    cases hf
    exact ⟨.bl false, H1, I1, rfl, k1, S1, .bl false⟩⟩
theorem ve_or (ha : VR m sl X a fa) (hb : VE m sl X (.BoolOp .Or (b :: rest) pos) fb) : VE m sl X (.BoolOp .Or (a :: b :: rest) pos) (eOr fa fb) := ⟨fun pins s σ H g own ρ z d z' I J S hf => by
  unfold eOr at hf
  obtain ⟨⟨d1, z1⟩, h1, hf⟩ := Option.bind_eq_some_iff.mp hf
  obtain ⟨k, h2, hf⟩ := Option.bind_eq_some_iff.mp hf
  obtain rfl := asB_some h2
  refine BoolOp_or (thn (ha.run pins s σ H g own ρ z _ z1 I J S h1) fun v s1 ⟨v', H1, I1, r1, k1, S1, q1⟩ => ?_)
  obtain rfl := q1.tt
  cases r1
  refine wpAny_truthy_bool ?_
  cases k with
  | true =>
    rw [if_pos rfl] at hf
    cases hf
    exact ⟨.bl true, H1, I1, rfl, k1, S1, .bl true⟩
  | false =>
    rw [if_neg (by decide)] at hf
    exact thn (hb.run pins s1 σ H1 g own ρ z1 d z' I1 (J.keep k1 S1) S1 hf) fun u s2 ⟨w, H2, I2, r2, k2, S2, q2⟩ => ⟨w, H2, I2, r2, k1.trans k2, S2, q2⟩⟩
end
end VL
set_option Elab.async false
set_option linter.all false
set_option maxRecDepth 100000
set_option maxHeartbeats 4000000
/-! The value layer, part 3: operators and comparisons by data. -/
namespace VL
open PySem PySem.Spec PyProof.Rows L2

/-! ### what is read -/
theorem plain_all_cons {d : D} {ds : List D} (h : PyData.plainAll (d :: ds) = true) : d.plain = true ∧ PyData.plainAll ds = true := by
  simpa [PyData.plainAll] using h
mutual
theorem Rp.dp {w : World} {N : Addr → Prop} {H : Hp} {K : PySem.W.Frag} : ∀ {d : D} {v : V}, d.plain = true → Rp w N H v d → Dp K H v d
  | _, _, _, .non => .non
  | _, _, _, .bl b => .bl b
  | _, _, _, .int i => .int i
  | _, _, _, .str x => .str x
  | _, _, p, .tup h _ r => .tup (SqT.of h) (RpAll.dp (by simpa [PyData.plain] using p) r)
  | _, _, p, .lst h _ r => .lst (SqL.of h) (RpAll.dp (by simpa [PyData.plain] using p) r)
  | _, _, p, .dK _ _ _ _ _ => absurd p (by simp [PyData.plain])
  | _, _, p, .dN _ _ _ _ _ _ _ _ => absurd p (by simp [PyData.plain])
theorem RpAll.dp {w : World} {N : Addr → Prop} {H : Hp} {K : PySem.W.Frag} : ∀ {ds : List D} {vs : List V}, PyData.plainAll ds = true → RpAll w N H vs ds → DpAll K H vs ds
  | _, _, _, .nil => .nil
  | _, _, p, .cons r t => .cons (Rp.dp (plain_all_cons p).1 r) (RpAll.dp (plain_all_cons p).2 t)
end
section
variable {w : World} {g : Gh} {own : Own} {H : Hp} {v : V} {d : D} {ds : List D} {X : Cx} {pins : List (Addr × Obj)} {σ : L2.St} {s : Shared} {u : Value}
theorem Rd.dp {K : PySem.W.Frag} (h : Rd w g own H v d) (p : d.plain = true) : Dp K H v d := by
  cases h with
  | c h => exact h.dp p
  | o h _ =>
    cases h with
    | lst h r => exact .lst (SqL.of h) (RpAll.dp (by simpa [PyData.plain] using p) r)
    | dK => exact absurd p (by simp [PyData.plain])
    | dN => exact absurd p (by simp [PyData.plain])
theorem Rd.reads (I : Inv X pins σ H s) (h : Rd w g own H v d) (p : d.plain = true) (r : RelV v u) : ∃ as, Reads s.heap u d as := Dp.reads I d v u (h.dp p) r
theorem Rd.list (h : Rd w g own H v (.list ds)) : ∃ a xs, v = .ref a ∧ H a = some (.lst xs) ∧ RpAll w (g.N own) H xs ds := by
  cases h with
  | c h => cases h with | lst h _ r => exact ⟨_, _, rfl, h, r⟩
  | o h _ => cases h with | lst h r => exact ⟨_, _, rfl, h, r⟩
theorem Rd.tuple (h : Rd w g own H v (.tuple ds)) : ∃ a xs, v = .ref a ∧ H a = some (.tup xs) ∧ ¬ g.N own a ∧ RpAll w (g.N own) H xs ds := by
  cases h with
  | c h => cases h with | tup h n r => exact ⟨_, _, rfl, h, n, r⟩
  | o h _ => cases h
theorem Rd.i {i : Int} (h : Rd w g own H v (.int i)) : v = .int i := by
  cases h with
  | c h => cases h; rfl
  | o h _ => cases h
theorem Rd.st {x : Str} (h : Rd w g own H v (.str x)) : v = .str x := by
  cases h with
  | c h => cases h; rfl
  | o h _ => cases h
theorem Rd.n (h : Rd w g own H v .none) : v = .non := by
  cases h with
  | c h => cases h; rfl
  | o h _ => cases h
theorem Rd.non_iff (h : Rd w g own H v d) : decide (v = .non) = (match d with | .none => true | _ => false) := by
  cases h with
  | c h => cases h <;> simp
  | o h _ => cases h <;> simp
end
/-- data that comparisons take: no dict within, not too deep -/
def okD (d : D) : Bool := d.plain && decide (d.depth ≤ 60)
theorem okD_plain {d : D} (h : okD d = true) : d.plain = true := (Bool.and_eq_true_iff.mp h).1
theorem okD_depth {d : D} (h : okD d = true) : d.depth ≤ 60 := of_decide_eq_true (Bool.and_eq_true_iff.mp h).2

/-- by a rule of the hand layer -/
theorem op2_of {X : Cx} {F : Value → Value → Sem Value} {r : R2} {op : D → D → Option D} (ho : OpR X F r)
    (h : ∀ (g : Gh) (own : Own) (H : Hp) (x y : V) (dx dy d : D), (∀ b, g.N own b → H b ≠ none) → Rd X.w g own H x dx → Rd X.w g own H y dy → op dx dy = some d → r x y H fun v' H' => L2.Same H H' ∧ Rp X.w (g.N own) H' v' d) : Op2 X F op :=
  fun pins s σ H g own x y v u dx dy d I rx ry hn q1 q2 e => thn (ho pins s σ H x y v u _ I rx ry (h g own H x y dx dy d hn q1 q2 e)) fun r s' ⟨v', H', I', r', k, q⟩ => ⟨v', H', I', r', k, q⟩
theorem Rp.same {w : World} {N : Addr → Prop} {H H' : Hp} {v : V} {d : D} (k : L2.Same H H') (h : Rp w N H v d) : Rp w N H' v d := h.move fun b o e n => ⟨k b o e, n⟩
theorem RpAll.same {w : World} {N : Addr → Prop} {H H' : Hp} {vs : List V} {ds : List D} (k : L2.Same H H') (h : RpAll w N H vs ds) : RpAll w N H' vs ds := h.move fun b o e n => ⟨k b o e, n⟩
theorem Rp.newLst {w : World} {N : Addr → Prop} {H : Hp} {p : Addr} {vs : List V} {ds : List D} (hn : ∀ b, N b → H b ≠ none) (hp : H p = none) (h : RpAll w N H vs ds) : Rp w N (upd H p (.lst vs)) (.ref p) (.list ds) :=
  .lst upd_same (fun z => hn p z hp) (h.same (VL.same_upd hp))
theorem Rp.newTup {w : World} {N : Addr → Prop} {H : Hp} {p : Addr} {vs : List V} {ds : List D} (hn : ∀ b, N b → H b ≠ none) (hp : H p = none) (h : RpAll w N H vs ds) : Rp w N (upd H p (.tup vs)) (.ref p) (.tuple ds) :=
  .tup upd_same (fun z => hn p z hp) (h.same (VL.same_upd hp))
theorem RpAll.rep {w : World} {N : Addr → Prop} {H : Hp} {vs : List V} {ds : List D} (h : RpAll w N H vs ds) : ∀ k : Nat, RpAll w N H (List.replicate k vs).flatten (List.replicate k ds).flatten
  | 0 => .nil
  | k + 1 => by rw [List.replicate_succ, List.replicate_succ, List.flatten_cons, List.flatten_cons]; exact h.append (h.rep k)

/-! ### arithmetic -/
def addD : D → D → Option D
  | .int i, .int j => some (.int (i + j))
  | .str x, .str y => if x.length + y.length ≤ sizeLine then some (.str (x ++ y)) else none
  | .list xs, .list ys => if xs.length + ys.length ≤ sizeLine then some (.list (xs ++ ys)) else none
  | .tuple xs, .tuple ys => if xs.length + ys.length ≤ sizeLine then some (.tuple (xs ++ ys)) else none
  | _, _ => none
def subD : D → D → Option D
  | .int i, .int j => some (.int (i - j))
  | _, _ => none
/-- a factor that is not great -/
def smallI (i : Int) : Bool := decide (-(2 ^ 64) < i ∧ i < 2 ^ 64)
def mulD : D → D → Option D
  | .int i, .int j => if smallI i || smallI j then some (.int (i * j)) else none
  | .list xs, .int k => if decide (0 ≤ k ∧ k < 1000000) && decide (xs.length * k.toNat ≤ sizeLine) then some (.list (List.replicate k.toNat xs).flatten) else none
  | _, _ => none
def fdivD : D → D → Option D
  | .int i, .int j => if j ≠ 0 ∧ j.natAbs < 1073741824 then some (.int (i.fdiv j)) else none
  | _, _ => none
def modD : D → D → Option D
  | .int i, .int j => if j ≠ 0 then some (.int (i.fmod j)) else none
  | _, _ => none
def powD : D → D → Option D
  | .int i, .int j => if 0 ≤ j ∧ j ≤ 1000000 ∧ i.natAbs < 2 ^ 64 then some (.int (i ^ j.toNat)) else none
  | _, _ => none
section
variable {X : Cx}
theorem by_op {F : Value → Value → Sem Value} {r : R2} {pins : List (Addr × Obj)} {s : Shared} {σ : L2.St} {H : Hp} {N : Addr → Prop} {x y : V} {v u : Value} {d : D} (ho : OpR X F r) (I : Inv X pins σ H s) (rx : RelV x v) (ry : RelV y u) (h : r x y H fun v' H' => L2.Same H H' ∧ Rp X.w N H' v' d) :
    wpAny (model X.prog X.w) X.A (F v u) (fun r s' => ∃ v' H', Inv X pins σ H' s' ∧ RelV v' r ∧ L2.Same H H' ∧ Rp X.w N H' v' d) X.xe s :=
  thn (ho pins s σ H x y v u _ I rx ry h) fun r s' ⟨v', H', I', r', k, q⟩ => ⟨v', H', I', r', k, q⟩
/-- a datum's answer that changes nothing -/
theorem by_same {pins : List (Addr × Obj)} {s : Shared} {σ : L2.St} {H : Hp} {N : Addr → Prop} {d : D} {v' : V} {r : Value} (I : Inv X pins σ H s) (rr : RelV v' r) (q : Rp X.w N H v' d) :
    ∃ v' H', Inv X pins σ H' s ∧ RelV v' r ∧ L2.Same H H' ∧ Rp X.w N H' v' d := ⟨v', H, I, rr, Same.refl _, q⟩
theorem op2_add : Op2 X (binaryOp .Add) addD := by
  intro pins s σ H g own x y v u dx dy d I rx ry hn q1 q2 e
  cases dx with
  | int i =>
    cases dy with
    | int j =>
      cases e
      exact by_op op_add I rx ry ⟨i, j, q1.i, q2.i, Same.refl _, .int _⟩
    | _ => cases e
  | str a =>
    cases dy with
    | str b =>
      simp only [addD] at e
      split at e
      · rename_i hz
        cases e
        exact by_op op_add_str I rx ry ⟨a, b, q1.st, q2.st, hz, Same.refl _, .str _⟩
      · cases e
    | _ => cases e
  | list xs =>
    cases dy with
    | list ys =>
      simp only [addD] at e
      split at e
      · rename_i hz
        cases e
        obtain ⟨a, vs, rfl, ha, ra⟩ := q1.list
        obtain ⟨b, ws, rfl, hb, rb⟩ := q2.list
        exact by_op op_cat I rx ry ⟨a, b, vs, ws, rfl, rfl, ha, hb, by rw [ra.length, rb.length]; exact hz, fun p hp => ⟨same_upd hp, .newLst hn hp (ra.append rb)⟩⟩
      · cases e
    | _ => cases e
  | tuple xs =>
    cases dy with
    | tuple ys =>
      simp only [addD] at e
      split at e
      · rename_i hz
        cases e
        obtain ⟨a, vs, rfl, ha, na, ra⟩ := q1.tuple
        obtain ⟨b, ws, rfl, hb, nb, rb⟩ := q2.tuple
        refine by_op op_catA I rx ry ⟨a, b, vs, ws, rfl, rfl, SqT.of ha, SqT.of hb, by rw [ra.length, rb.length]; exact hz, fun e => ?_, fun _ e => ?_, fun _ _ p hp => ⟨same_upd hp, .newTup hn hp (ra.append rb)⟩⟩
        · subst e
          cases ra
          exact ⟨Same.refl _, .tup hb nb rb⟩
        · subst e
          cases rb
          rw [List.append_nil]
          exact ⟨Same.refl _, .tup ha na ra⟩
      · cases e
    | _ => cases e
  | _ => cases dy <;> cases e
theorem op2_sub : Op2 X (binaryOp .Sub) subD := by
  intro pins s σ H g own x y v u dx dy d I rx ry hn q1 q2 e
  cases dx with
  | int i =>
    cases dy with
    | int j =>
      cases e
      exact by_op op_sub I rx ry ⟨i, j, q1.i, q2.i, Same.refl _, .int _⟩
    | _ => cases e
  | _ => cases e
theorem op2_mul : Op2 X (binaryOp .Mult) mulD := by
  intro pins s σ H g own x y v u dx dy d I rx ry hn q1 q2 e
  cases dx with
  | int i =>
    cases dy with
    | int j =>
      simp only [mulD] at e
      split at e
      · rename_i hz
        cases e
        refine by_op op_mul I rx ry ⟨i, j, q1.i, q2.i, ?_, Same.refl _, .int _⟩
        simp only [smallI, Bool.or_eq_true, decide_eq_true_eq] at hz
        exact hz
      · cases e
    | _ => cases e
  | list xs =>
    cases dy with
    | int k =>
      simp only [mulD] at e
      split at e
      · rename_i hz
        cases e
        simp only [Bool.and_eq_true, decide_eq_true_eq] at hz
        obtain ⟨a, vs, rfl, ha, ra⟩ := q1.list
        exact by_op op_rep I rx ry ⟨a, k, vs, rfl, q2.i, ha, by omega, by omega, by rw [ra.length]; exact hz.2, fun p hp => ⟨same_upd hp, .newLst hn hp (ra.rep _)⟩⟩
      · cases e
    | _ => cases e
  | _ => cases e
theorem op2_fdiv : Op2 X (binaryOp .FloorDiv) fdivD := by
  intro pins s σ H g own x y v u dx dy d I rx ry hn q1 q2 e
  cases dx with
  | int i =>
    cases dy with
    | int j =>
      simp only [fdivD] at e
      split at e
      · rename_i hz
        cases e
        exact by_op op_fdivN I rx ry ⟨i, j, q1.i, q2.i, hz, Same.refl _, .int _⟩
      · cases e
    | _ => cases e
  | _ => cases e
theorem op2_mod : Op2 X (binaryOp .Mod) modD := by
  intro pins s σ H g own x y v u dx dy d I rx ry hn q1 q2 e
  cases dx with
  | int i =>
    cases dy with
    | int j =>
      simp only [modD] at e
      split at e
      · rename_i hz
        cases e
        exact by_op op_modN I rx ry ⟨i, j, q1.i, q2.i, hz, Same.refl _, .int _⟩
      · cases e
    | _ => cases e
  | _ => cases e
theorem op2_pow : Op2 X (binaryOp .Pow) powD := by
  intro pins s σ H g own x y v u dx dy d I rx ry hn q1 q2 e
  cases dx with
  | int i =>
    cases dy with
    | int j =>
      simp only [powD] at e
      split at e
      · rename_i hz
        cases e
        exact by_op op_pow I rx ry ⟨i, j, q1.i, q2.i, hz, Same.refl _, .int _⟩
      · cases e
    | _ => cases e
  | _ => cases e

/-! ### comparisons -/
def eqD (x y : D) : Option D := if okD x && okD y then some (.bool (PyData.eqv x y)) else none
def neD (x y : D) : Option D := if okD x && okD y then some (.bool (!PyData.eqv x y)) else none
/-- what the order compares -/
def alD (x y : D) : Bool := PySem.W.alike x y && (match x with | .none => false | _ => true) && decide (x.depth ≤ 60)
def ltD (x y : D) : Option D := if alD x y && okD x && okD y then some (.bool (PySem.W.dataLt x y)) else none
def leD (x y : D) : Option D := if alD x y && okD x && okD y then some (.bool (!PySem.W.dataLt y x)) else none
def gtD (x y : D) : Option D := if alD x y && okD x && okD y then some (.bool (PySem.W.dataLt y x)) else none
def geD (x y : D) : Option D := if alD x y && okD x && okD y then some (.bool (!PySem.W.dataLt x y)) else none
theorem room_min {A : Around} {a b : Nat} (h : a ≤ 60) (hu : A.units + 64 < cLine) : A.units + min a b < cLine := by
  have := Nat.min_le_left a b
  omega
theorem room_min1 {A : Around} {a b : Nat} (h : b ≤ 60) (hu : A.units + 64 < cLine) : A.units + 1 + min a b < cLine := by
  have := Nat.min_le_right a b
  omega
theorem op2_eq (hu : X.A.units + 64 < cLine) : Op2 X (compareOp .Eq) eqD := by
  intro pins s σ H g own x y v u dx dy d I rx ry hn q1 q2 e
  unfold eqD at e
  split at e
  · rename_i hz
    cases e
    rw [Bool.and_eq_true] at hz
    obtain ⟨as, r1⟩ := q1.reads I (okD_plain hz.1) rx
    obtain ⟨bs, r2⟩ := q2.reads I (okD_plain hz.2) ry
    exact PySem.SeqAt.eq_plain r1 r2 (okD_plain hz.1) (okD_plain hz.2) (room_min (okD_depth hz.1) hu) (by_same (v' := .bl _) I rfl (.bl _))
  · cases e
theorem op2_ne (hu : X.A.units + 64 < cLine) : Op2 X (compareOp .NotEq) neD := by
  intro pins s σ H g own x y v u dx dy d I rx ry hn q1 q2 e
  unfold neD at e
  split at e
  · rename_i hz
    cases e
    rw [Bool.and_eq_true] at hz
    obtain ⟨as, r1⟩ := q1.reads I (okD_plain hz.1) rx
    obtain ⟨bs, r2⟩ := q2.reads I (okD_plain hz.2) ry
    exact PySem.SeqAt.ne_plain r1 r2 (okD_plain hz.1) (okD_plain hz.2) (room_min (okD_depth hz.1) hu) (by_same (v' := .bl _) I rfl (.bl _))
  · cases e
theorem ord_facts {x y : D} (h : (alD x y && okD x && okD y) = true) : PySem.W.alike x y = true ∧ x ≠ .none ∧ x.depth ≤ 60 ∧ x.plain = true ∧ y.plain = true := by
  simp only [alD, Bool.and_eq_true, decide_eq_true_eq] at h
  obtain ⟨⟨⟨⟨h1, h2⟩, h3⟩, h4⟩, h5⟩ := h
  refine ⟨h1, ?_, h3, okD_plain h4, okD_plain h5⟩
  rintro rfl
  cases h2
theorem op2_lt (hu : X.A.units + 64 < cLine) : Op2 X (compareOp .Lt) ltD := by
  intro pins s σ H g own x y v u dx dy d I rx ry hn q1 q2 e
  unfold ltD at e
  split at e
  · rename_i hz
    cases e
    obtain ⟨h1, h2, h3, h4, h5⟩ := ord_facts hz
    obtain ⟨as, r1⟩ := q1.reads I h4 rx
    obtain ⟨bs, r2⟩ := q2.reads I h5 ry
    exact PySem.W.lt_data r1 r2 h1 h2 (room_min h3 hu) (by_same (v' := .bl _) I rfl (.bl _))
  · cases e
theorem op2_le (hu : X.A.units + 64 < cLine) : Op2 X (compareOp .LtE) leD := by
  intro pins s σ H g own x y v u dx dy d I rx ry hn q1 q2 e
  unfold leD at e
  split at e
  · rename_i hz
    cases e
    obtain ⟨h1, h2, h3, h4, h5⟩ := ord_facts hz
    obtain ⟨as, r1⟩ := q1.reads I h4 rx
    obtain ⟨bs, r2⟩ := q2.reads I h5 ry
    exact PySem.W.le_data r1 r2 h1 h2 (room_min h3 hu) (by_same (v' := .bl _) I rfl (.bl _))
  · cases e
theorem op2_gt (hu : X.A.units + 64 < cLine) : Op2 X (compareOp .Gt) gtD := by
  intro pins s σ H g own x y v u dx dy d I rx ry hn q1 q2 e
  unfold gtD at e
  split at e
  · rename_i hz
    cases e
    obtain ⟨h1, h2, h3, h4, h5⟩ := ord_facts hz
    obtain ⟨as, r1⟩ := q1.reads I h4 rx
    obtain ⟨bs, r2⟩ := q2.reads I h5 ry
    exact PySem.W.gt_data r1 r2 h1 h2 (room_min h3 hu) (by_same (v' := .bl _) I rfl (.bl _))
  · cases e
theorem op2_ge (hu : X.A.units + 64 < cLine) : Op2 X (compareOp .GtE) geD := by
  intro pins s σ H g own x y v u dx dy d I rx ry hn q1 q2 e
  unfold geD at e
  split at e
  · rename_i hz
    cases e
    obtain ⟨h1, h2, h3, h4, h5⟩ := ord_facts hz
    obtain ⟨as, r1⟩ := q1.reads I h4 rx
    obtain ⟨bs, r2⟩ := q2.reads I h5 ry
    exact PySem.W.ge_data r1 r2 h1 h2 (room_min h3 hu) (by_same (v' := .bl _) I rfl (.bl _))
  · cases e
/-- is None, is not None -/
def isNoneD : D → D → Option D
  | .none, .none => some (.bool true)
  | _, .none => some (.bool false)
  | _, _ => none
def notNoneD : D → D → Option D
  | .none, .none => some (.bool false)
  | _, .none => some (.bool true)
  | _, _ => none
theorem op2_isNone : Op2 X (compareOp .Is) isNoneD := by
  intro pins s σ H g own x y v u dx dy d I rx ry hn q1 q2 e
  cases dy with
  | none =>
    refine by_op op_isN I rx ry ⟨q2.n, Same.refl _, ?_⟩
    rw [q1.non_iff]
    cases dx <;> cases e <;> exact .bl _
  | _ => cases dx <;> cases e
theorem op2_notNone : Op2 X (compareOp .IsNot) notNoneD := by
  intro pins s σ H g own x y v u dx dy d I rx ry hn q1 q2 e
  cases dy with
  | none =>
    refine by_op op_notN I rx ry ⟨q2.n, Same.refl _, ?_⟩
    rw [q1.non_iff]
    cases dx <;> cases e <;> exact .bl _
  | _ => cases dx <;> cases e
end
end VL
set_option Elab.async false
set_option linter.all false
set_option maxRecDepth 100000
set_option maxHeartbeats 4000000
/-! The value layer, part 4: displays, arguments, if-expressions, subscripts, slices, membership. -/
namespace VL
open PySem PySem.Spec PyProof.Rows L2

section
variable {m : List Nat} {sl : Option Nat} {X : Cx} {a b c e : Expr} {es : List Expr} {f fa fb fc : DE} {ft fu : DT} {fs : DA} {pos : Pos}

/-! ### one operand -/
def Op1 (X : Cx) (F : Value → Sem Value) (op : D → Option D) : Prop :=
  ∀ (pins : List (Addr × Obj)) (s : Shared) (σ : L2.St) (H : Hp) (g : Gh) (own : Own) (x : V) (v : Value) (dx d : D), Inv X pins σ H s → RelV x v → (∀ b, g.N own b → H b ≠ none) → Rd X.w g own H x dx → op dx = some d →
    wpAny (model X.prog X.w) X.A (F v) (fun r s' => ∃ v' H', Inv X pins σ H' s' ∧ RelV v' r ∧ L2.Same H H' ∧ Rp X.w (g.N own) H' v' d) X.xe s
def e1 (op : D → Option D) (fa : DE) : DE := fun ρ z => (fa ρ z).bind fun p => (op p.1).map fun d => (d, p.2)
theorem e1_some {op : D → Option D} {ρ : Env} {z z' : Src} {d : D} (h : e1 op fa ρ z = some (d, z')) : ∃ x, fa ρ z = some (x, z') ∧ op x = some d := by
  unfold e1 at h
  obtain ⟨p, h1, h⟩ := Option.bind_eq_some_iff.mp h
  obtain ⟨w, h3, h⟩ := Option.map_eq_some_iff.mp h
  cases h
  exact ⟨p.1, h1, h3⟩
def negD : D → Option D
  | .int i => some (.int (-i))
  | _ => none
theorem op1_neg : Op1 X (unaryOp .USub) negD := by
  intro pins s σ H g own x v dx d I rx hn q e
  cases dx with
  | int i =>
    cases e
    exact thn (un_neg pins s σ H x v (fun v' H' => L2.Same H H' ∧ Rp X.w (g.N own) H' v' (.int (-i))) I rx ⟨i, q.i, Same.refl _, .int _⟩) fun r s' ⟨v', H', I', r', k, q⟩ => ⟨v', H', I', r', k, q⟩
  | _ => cases e
theorem ve_un {o : UnaryOp} {op : D → Option D} (ho : Op1 X (unaryOp o) op) (ha : VR m sl X a fa) : VE m sl X (.UnaryOp o a pos) (e1 op fa) := ⟨fun pins s σ H g own ρ z d z' I J S hf => by
  obtain ⟨x, h1, h2⟩ := e1_some hf
  refine UnaryOp_ (thn (ha.run pins s σ H g own ρ z x z' I J S h1) fun v s1 ⟨v', H1, I1, r1, k1, S1, q1⟩ => ?_)
  exact thn (ho pins s1 σ H1 g own v' v x d I1 r1 (fun b n => (J.keep k1 S1).nw n) q1 h2) fun r s2 ⟨w, H2, I2, r2, k2, q2⟩ => ⟨w, H2, I2, r2, k1.trans (Same.kp k2), S1.same k2, q2⟩⟩
def notD (d : D) : Option D := (asB d).map fun b => .bool !b
theorem ve_not (ha : VR m sl X a fa) : VE m sl X (.UnaryOp .Not a pos) (e1 notD fa) := ⟨fun pins s σ H g own ρ z d z' I J S hf => by
  obtain ⟨x, h1, h2⟩ := e1_some hf
  unfold notD at h2
  obtain ⟨k, h3, rfl⟩ := Option.map_eq_some_iff.mp h2
  obtain rfl := asB_some h3
  refine UnaryOp_ (thn (ha.run pins s σ H g own ρ z _ z' I J S h1) fun v s1 ⟨v', H1, I1, r1, k1, S1, q1⟩ => ?_)
  obtain rfl := q1.tt
  cases r1
  exact not_of (wpAny_truthy_bool ⟨.bl (!k), H1, I1, rfl, k1, S1, .bl _⟩)⟩

/-! ### a if c else b -/
def eIf (t : DT) (fa fb : DE) : DE := fun ρ z => (t ρ z).bind fun p => if p.1 = true then fa ρ p.2 else fb ρ p.2
theorem ve_if (hc : VT m sl X c ft) (ha : VE m sl X a fa) (hb : VE m sl X b fb) : VE m sl X (.IfExp c a b pos) (eIf ft fa fb) := ⟨fun pins s σ H g own ρ z d z' I J S hf => by
  unfold eIf at hf
  obtain ⟨⟨k, z1⟩, h1, hf⟩ := Option.bind_eq_some_iff.mp hf
  refine wpAny_IfExp (thn (hc.run _ rfl pins s σ H g own ρ z k z1 I J S h1) fun k' s1 ⟨e, H1, I1, k1, S1⟩ => ?_)
  subst e
  cases k' with
  | true =>
    rw [if_pos rfl] at hf
    exact thn (ha.run pins s1 σ H1 g own ρ z1 d z' I1 (J.keep k1 S1) S1 hf) fun u s2 ⟨w, H2, I2, r2, k2, S2, q2⟩ => ⟨w, H2, I2, r2, k1.trans k2, S2, q2⟩
  | false =>
    simp only [Bool.false_eq_true, if_false] at hf
    exact thn (hb.run pins s1 σ H1 g own ρ z1 d z' I1 (J.keep k1 S1) S1 hf) fun u s2 ⟨w, H2, I2, r2, k2, S2, q2⟩ => ⟨w, H2, I2, r2, k1.trans k2, S2, q2⟩⟩
theorem vr_if (hc : VT m sl X c ft) (ha : VR m sl X a fa) (hb : VR m sl X b fb) : VR m sl X (.IfExp c a b pos) (eIf ft fa fb) := ⟨fun pins s σ H g own ρ z d z' I J S hf => by
  unfold eIf at hf
  obtain ⟨⟨k, z1⟩, h1, hf⟩ := Option.bind_eq_some_iff.mp hf
  refine wpAny_IfExp (thn (hc.run _ rfl pins s σ H g own ρ z k z1 I J S h1) fun k' s1 ⟨e, H1, I1, k1, S1⟩ => ?_)
  subst e
  cases k' with
  | true =>
    rw [if_pos rfl] at hf
    exact thn (ha.run pins s1 σ H1 g own ρ z1 d z' I1 (J.keep k1 S1) S1 hf) fun u s2 ⟨w, H2, I2, r2, k2, S2, q2⟩ => ⟨w, H2, I2, r2, k1.trans k2, S2, q2⟩
  | false =>
    simp only [Bool.false_eq_true, if_false] at hf
    exact thn (hb.run pins s1 σ H1 g own ρ z1 d z' I1 (J.keep k1 S1) S1 hf) fun u s2 ⟨w, H2, I2, r2, k2, S2, q2⟩ => ⟨w, H2, I2, r2, k1.trans k2, S2, q2⟩⟩
/-- .. as a test -/
def tIf (t u v : DT) : DT := fun ρ z => (t ρ z).bind fun p => if p.1 = true then u ρ p.2 else v ρ p.2

/-- what stood leans not on what is new -/
theorem RpAll.fresh {w : World} {N : Addr → Prop} {H : Hp} {p : Addr} {o : HO} {vs : List V} {ds : List D} (h : RpAll w N H vs ds) (hp : H p = none) : RpAll w (NF N p) (upd H p o) vs ds :=
  h.move fun b u e n => ⟨VL.same_upd hp b u e, fun q => q.elim n fun q => by rw [q, hp] at e; cases e⟩
/-! ### arguments, displays -/
def aNil : DA := fun _ z => some ([], z)
def aCons (f : DE) (r : DA) : DA := fun ρ z => (f ρ z).bind fun p => (r ρ p.2).map fun q => (p.1 :: q.1, q.2)
theorem aCons_some {r : DA} {ρ : Env} {z z' : Src} {ds : List D} (h : aCons f r ρ z = some (ds, z')) : ∃ d z1 es, f ρ z = some (d, z1) ∧ r ρ z1 = some (es, z') ∧ ds = d :: es := by
  unfold aCons at h
  obtain ⟨p, h1, h⟩ := Option.bind_eq_some_iff.mp h
  obtain ⟨q, h2, h⟩ := Option.map_eq_some_iff.mp h
  cases h
  exact ⟨p.1, p.2, q.1, h1, h2, rfl⟩
theorem va_nil : VA m sl X [] aNil := ⟨fun _ pins s σ H g own ρ z d z' I J S hf => by
  cases hf
  exact Calls.spliced_nil ⟨[], H, I, .nil, Kp.refl, S, .nil⟩⟩
theorem va_cons (ha : VR m sl X e f) (hr : VA m sl X es fs) (hs : starEach (e :: es) X.env = (false, eval e X.env) :: starEach es X.env := by rfl) : VA m sl X (e :: es) (aCons f fs) := ⟨fun pos pins s σ H g own ρ z d z' I J S hf => by
  obtain ⟨x, z1, xs, h1, h2, rfl⟩ := aCons_some hf
  rw [hs]
  show wpAny _ _ (spliced ((false, eval e X.env) :: backTo pos (starEach es X.env))) _ _ s
  refine Calls.spliced_cons (thn (ha.run pins s σ H g own ρ z x z1 I J S h1) fun u s1 ⟨v, H1, I1, r1, k1, S1, q1⟩ => ?_)
  exact thn (hr.run pos pins s1 σ H1 g own ρ z1 xs z' I1 (J.keep k1 S1) S1 h2) fun us s2 ⟨vs, H2, I2, r2, k2, S2, q2⟩ => ⟨v :: vs, H2, I2, .cons r1 r2, k1.trans k2, S2, .cons (q1.keep J k2) q2⟩⟩
theorem vc_nil : VC m sl X [] aNil := ⟨fun _ pins s σ H g own ρ z d z' I J S hf => by
  cases hf
  exact Calls.spliced_nil ⟨[], H, I, .nil, Kp.refl, S, .nil⟩⟩
theorem vc_cons (ha : VE m sl X e f) (hr : VC m sl X es fs) (hs : starEach (e :: es) X.env = (false, eval e X.env) :: starEach es X.env := by rfl) : VC m sl X (e :: es) (aCons f fs) := ⟨fun pos pins s σ H g own ρ z d z' I J S hf => by
  obtain ⟨x, z1, xs, h1, h2, rfl⟩ := aCons_some hf
  rw [hs]
  show wpAny _ _ (spliced ((false, eval e X.env) :: backTo pos (starEach es X.env))) _ _ s
  refine Calls.spliced_cons (thn (ha.run pins s σ H g own ρ z x z1 I J S h1) fun u s1 ⟨v, H1, I1, r1, k1, S1, q1⟩ => ?_)
  exact thn (hr.run pos pins s1 σ H1 g own ρ z1 xs z' I1 (J.keep k1 S1) S1 h2) fun us s2 ⟨vs, H2, I2, r2, k2, S2, q2⟩ => ⟨v :: vs, H2, I2, .cons r1 r2, k1.trans k2, S2, .cons (q1.keepK J k2) q2⟩⟩
def eTup (fs : DA) : DE := fun ρ z => (fs ρ z).map fun p => (.tuple p.1, p.2)
def eLst (fs : DA) : DE := fun ρ z => (fs ρ z).map fun p => (.list p.1, p.2)
theorem aLen {fs : DA} {r : DA} : True := trivial
theorem ve_tup {x1} (h : VC m sl X es fs) (hz : ∀ ρ z ds z', fs ρ z = some (ds, z') → ds.length ≤ sizeLine) : VE m sl X (.Tuple es x1 pos) (eTup fs) := ⟨fun pins s σ H g own ρ z d z' I J S hf => by
  obtain ⟨⟨ds, z1⟩, h1, h2⟩ := Option.map_eq_some_iff.mp hf
  cases h2
  have hl := hz _ _ _ _ h1
  refine wpAny_Tuple_spliced (thn (h.run pos pins s σ H g own ρ z ds _ I J S h1) fun us s1 ⟨xs, H1, I1, r, k, S1, q⟩ => ⟨by rw [← r.length, q.length]; exact hl, ?_⟩)
  have hf : H1 s1.heap.objs.size = none := I1.hok.fresh (Nat.le_refl _)
  refine ⟨.ref s1.heap.objs.size, upd H1 s1.heap.objs.size (.tup xs), I1.laid (t' := s1.toks) (fun b u e => Heap.get?_push_of_some _ e) (Nat.le_refl _) ?_, rfl, k.trans (Kp.upd hf), S1.same (VL.same_upd hf), .newTup (fun b n => (J.keep k S1).nw n) hf q⟩
  exact ⟨by rw [q.length]; exact hl, us, r, ⟨_, Heap.get?_push_size _ rfl, rfl, _, rfl⟩⟩⟩
theorem vf_lst (h : VC m sl X es fs) (hz : ∀ ρ z ds z', fs ρ z = some (ds, z') → ds.length ≤ sizeLine) : VF m sl X (.List es pos) (eLst fs) := ⟨fun pins s σ H g own ρ z d z' I J S hf => by
  obtain ⟨⟨ds, z1⟩, h1, h2⟩ := Option.map_eq_some_iff.mp hf
  cases h2
  have hl := hz _ _ _ _ h1
  refine wpAny_List_spliced (thn (h.run pos pins s σ H g own ρ z ds _ I J S h1) fun us s1 ⟨xs, H1, I1, r, k, S1, q⟩ => ⟨by rw [← r.length, q.length]; exact hl, ?_⟩)
  have hf : H1 s1.heap.objs.size = none := I1.hok.fresh (Nat.le_refl _)
  have h0 : H s1.heap.objs.size = none := by
    cases e : H s1.heap.objs.size with
    | none => rfl
    | some o =>
      by_cases n : g.src s1.heap.objs.size
      · exact absurd hf (S1.at n)
      · rw [k _ _ e n] at hf; cases hf
  refine ⟨s1.heap.objs.size, upd H1 s1.heap.objs.size (.lst xs), I1.laid (t' := s1.toks) (fun b u e => Heap.get?_push_of_some _ e) (Nat.le_refl _) ?_, rfl, k.trans (Kp.upd hf), S1.same (VL.same_upd hf), h0, by rw [upd_same]; trivial, .lst upd_same (q.fresh hf)⟩
  exact ⟨by rw [q.length]; exact hl, us, 0, r, Heap.get?_push_size _ rfl⟩⟩
theorem len_nil : ∀ ρ z ds z', aNil ρ z = some (ds, z') → ds.length ≤ 0 := fun ρ z ds z' h => by cases h; exact Nat.le_refl _
theorem len_cons {n : Nat} (h : ∀ ρ z ds z', fs ρ z = some (ds, z') → ds.length ≤ n) : ∀ ρ z ds z', aCons f fs ρ z = some (ds, z') → ds.length ≤ n + 1 := fun ρ z ds z' e => by
  obtain ⟨x, z1, xs, h1, h2, rfl⟩ := aCons_some e
  exact Nat.succ_le_succ (h _ _ _ _ h2)
/-- few items -/
theorem few {n : Nat} (h : ∀ ρ z ds z', fs ρ z = some (ds, z') → ds.length ≤ n) (hn : n ≤ 1000 := by decide) : ∀ ρ z ds z', fs ρ z = some (ds, z') → ds.length ≤ sizeLine := fun ρ z ds z' e => Nat.le_trans (h _ _ _ _ e) (Nat.le_of_lt (small1000 hn))

/-! ### subscripts -/
/-- the item at place i, from the end where i is below nought -/
def atD (xs : List D) (i : Int) : Option D := if 0 ≤ i then xs[i.toNat]? else if -(xs.length : Int) ≤ i then xs[(i + xs.length).toNat]? else none
theorem atD_get {w : World} {N : Addr → Prop} {H : Hp} {vs : List V} {ds : List D} {i : Int} {d : D} (r : RpAll w N H vs ds) (h : atD ds i = some d) : ∃ v, atI vs i = some v ∧ Rp w N H v d := by
  unfold atD at h
  unfold atI ixN
  rw [r.length]
  by_cases h0 : 0 ≤ i
  · rw [if_pos h0] at h
    obtain ⟨v, h1, h2⟩ := r.get h
    have hl : i < ds.length := by
      have := (List.getElem?_eq_some_iff.mp h).1
      omega
    rw [if_pos h0, if_pos hl]
    exact ⟨v, h1, h2⟩
  · rw [if_neg h0] at h
    by_cases h1 : -(ds.length : Int) ≤ i
    · rw [if_pos h1] at h
      obtain ⟨v, h3, h4⟩ := r.get h
      rw [if_neg h0, if_pos h1]
      exact ⟨v, h3, h4⟩
    · rw [if_neg h1] at h; cases h
/-- x[y] of lists, tuples, texts -/
def ixD : D → D → Option D
  | .list xs, .int i => atD xs i
  | .tuple xs, .int i => atD xs i
  | .str x, .int i => if x.length ≤ sizeLine then (atI x.cps.toList i).map fun c => .str ⟨#[c]⟩ else none
  | _, _ => none
def IxD (X : Cx) (op : D → D → Option D) : Prop :=
  ∀ (value slice : Expr) (pins : List (Addr × Obj)) (s : Shared) (σ : L2.St) (H : Hp) (g : Gh) (own : Own) (x y : V) (v u : Value) (dx dy d : D), Inv X pins σ H s → RelV x v → RelV y u → (∀ b, g.N own b → H b ≠ none) → Rd X.w g own H x dx → Rd X.w g own H y dy → op dx dy = some d →
    subscripted slice false v u = operate [v, u] (getItem v u) → wpAny (model X.prog X.w) X.A (subscriptTail value slice v u) (fun r s' => ∃ v' H', Inv X pins σ H' s' ∧ RelV v' r ∧ L2.Same H H' ∧ Rp X.w (g.N own) H' v' d) X.xe s
theorem ixd_seq : IxD X ixD := by
  intro value slice pins s σ H g own x y v u dx dy d I rx ry hn q1 q2 e hs
  have fin : ∀ {r : R2}, IxR X r → r x y H (fun v' H' => L2.Same H H' ∧ Rp X.w (g.N own) H' v' d) → wpAny (model X.prog X.w) X.A (subscriptTail value slice v u) (fun r s' => ∃ v' H', Inv X pins σ H' s' ∧ RelV v' r ∧ L2.Same H H' ∧ Rp X.w (g.N own) H' v' d) X.xe s :=
    fun hr h => thn (hr value slice pins s σ H x y v u _ I rx ry h hs) fun r s' ⟨v', H', I', r', k, q⟩ => ⟨v', H', I', r', k, q⟩
  cases dx with
  | list xs =>
    cases dy with
    | int i =>
      obtain ⟨a, vs, rfl, ha, ra⟩ := q1.list
      obtain ⟨v', h1, h2⟩ := atD_get ra (show atD xs i = some d from e)
      exact fin ix_list ⟨a, vs, i, v', rfl, q2.i, SqL.of ha, h1, Same.refl _, h2⟩
    | _ => cases e
  | tuple xs =>
    cases dy with
    | int i =>
      obtain ⟨a, vs, rfl, ha, na, ra⟩ := q1.tuple
      obtain ⟨v', h1, h2⟩ := atD_get ra (show atD xs i = some d from e)
      exact fin ix_tup ⟨a, vs, i, v', rfl, q2.i, SqT.of ha, h1, Same.refl _, h2⟩
    | _ => cases e
  | str z =>
    cases dy with
    | int i =>
      simp only [ixD] at e
      split at e
      · rename_i hz
        obtain ⟨c, h1, h2⟩ := Option.map_eq_some_iff.mp e
        cases h2
        exact fin ix_str ⟨z, i, c, q1.st, q2.i, hz, h1, Same.refl _, .str _⟩
      · cases e
    | _ => cases e
  | _ => cases e
theorem ve_ix {op : D → D → Option D} (ho : IxD X op) (ha : VR m sl X a fa) (hb : VR m sl X b fb) (hs : PlainIx b := by exact fun _ _ => rfl) : VE m sl X (.Subscript a b pos) (e2 op fa fb) := ⟨fun pins s σ H g own ρ z d z' I J S hf => by
  obtain ⟨x, z1, y, h1, h2, h3⟩ := e2_some hf
  refine Subscript_ (thn (ha.run pins s σ H g own ρ z x z1 I J S h1) fun v s1 ⟨vx, H1, I1, r1, k1, S1, q1⟩ => ?_)
  have J1 := J.keep k1 S1
  refine thn (hb.run pins s1 σ H1 g own ρ z1 y z' I1 J1 S1 h2) fun u s2 ⟨vy, H2, I2, r2, k2, S2, q2⟩ => ?_
  have J2 := J1.keep k2 S2
  refine thn (ho a b pins s2 σ H2 g own vx vy v u x y d I2 r1 r2 (fun b n => J2.nw n) (q1.keep J k2) q2 h3 (hs _ _)) fun r s3 ⟨v', H3, I3, r3, k3, q3⟩ => ?_
  exact ⟨v', H3, I3, r3, (k1.trans k2).trans (Same.kp k3), S2.same k3, q3⟩⟩

/-! ### membership -/
def memD (xs : List D) (d : D) : Bool := xs.any fun y => PyData.eqv y d
def inD : D → D → Option D
  | d, .list xs => if okD d && PyData.plainAll xs then some (.bool (memD xs d)) else none
  | d, .tuple xs => if okD d && PyData.plainAll xs then some (.bool (memD xs d)) else none
  | .str x, .str y => some (.bool (!(Builtin.Str.occurrences y x 0 y.length 1).isEmpty))
  | _, _ => none
def notInD : D → D → Option D
  | d, .list xs => if okD d && PyData.plainAll xs then some (.bool (!memD xs d)) else none
  | d, .tuple xs => if okD d && PyData.plainAll xs then some (.bool (!memD xs d)) else none
  | .str x, .str y => some (.bool (!(!(Builtin.Str.occurrences y x 0 y.length 1).isEmpty)))
  | _, _ => none
theorem op2_in_seq (hu : X.A.units + 64 < cLine) : Op2 X (compareOp .In) inD := by
  intro pins s σ H g own x y v u dx dy d I rx ry hn q1 q2 e
  cases dy with
  | list xs =>
    have e : (if okD dx && PyData.plainAll xs then some (PyData.bool (memD xs dx)) else none) = some d := by cases dx <;> exact e
    split at e
    · rename_i hz
      cases e
      rw [Bool.and_eq_true] at hz
      obtain ⟨as, r1⟩ := q1.reads I (okD_plain hz.1) rx
      obtain ⟨bs, r2⟩ := q2.reads I (by simpa [PyData.plain] using hz.2) ry
      exact PySem.SeqAt.in_list_data r2 r1 hz.2 (okD_plain hz.1) (room_min1 (okD_depth hz.1) hu) (by_same (v' := .bl _) I rfl (.bl _))
    · cases e
  | tuple xs =>
    have e : (if okD dx && PyData.plainAll xs then some (PyData.bool (memD xs dx)) else none) = some d := by cases dx <;> exact e
    split at e
    · rename_i hz
      cases e
      rw [Bool.and_eq_true] at hz
      obtain ⟨as, r1⟩ := q1.reads I (okD_plain hz.1) rx
      obtain ⟨bs, r2⟩ := q2.reads I (by simpa [PyData.plain] using hz.2) ry
      exact PySem.SeqAt.in_tuple_data r2 r1 hz.2 (okD_plain hz.1) (room_min1 (okD_depth hz.1) hu) (by_same (v' := .bl _) I rfl (.bl _))
    · cases e
  | str b =>
    cases dx with
    | str a =>
      cases e
      exact by_op op_in_str I rx ry ⟨a, b, q1.st, q2.st, Same.refl _, .bl _⟩
    | _ => cases e
  | _ => cases dx <;> cases e
theorem op2_notIn_seq (hu : X.A.units + 64 < cLine) : Op2 X (compareOp .NotIn) notInD := by
  intro pins s σ H g own x y v u dx dy d I rx ry hn q1 q2 e
  cases dy with
  | list xs =>
    have e : (if okD dx && PyData.plainAll xs then some (PyData.bool (!memD xs dx)) else none) = some d := by cases dx <;> exact e
    split at e
    · rename_i hz
      cases e
      rw [Bool.and_eq_true] at hz
      obtain ⟨as, r1⟩ := q1.reads I (okD_plain hz.1) rx
      obtain ⟨bs, r2⟩ := q2.reads I (by simpa [PyData.plain] using hz.2) ry
      exact PySem.SeqAt.notIn_list_data r2 r1 hz.2 (okD_plain hz.1) (room_min1 (okD_depth hz.1) hu) (by_same (v' := .bl _) I rfl (.bl _))
    · cases e
  | tuple xs =>
    have e : (if okD dx && PyData.plainAll xs then some (PyData.bool (!memD xs dx)) else none) = some d := by cases dx <;> exact e
    split at e
    · rename_i hz
      cases e
      rw [Bool.and_eq_true] at hz
      obtain ⟨as, r1⟩ := q1.reads I (okD_plain hz.1) rx
      obtain ⟨bs, r2⟩ := q2.reads I (by simpa [PyData.plain] using hz.2) ry
      exact PySem.SeqAt.notIn_tuple_data r2 r1 hz.2 (okD_plain hz.1) (room_min1 (okD_depth hz.1) hu) (by_same (v' := .bl _) I rfl (.bl _))
    · cases e
  | str b =>
    cases dx with
    | str a =>
      cases e
      exact by_op op_notIn_str I rx ry ⟨a, b, q1.st, q2.st, Same.refl _, .bl _⟩
    | _ => cases e
  | _ => cases dx <;> cases e

/-! ### slices -/
abbrev DP := Env → Src → Option (Option Int × Src)
structure VP (m : List Nat) (sl : Option Nat) (X : Cx) (e : Option Expr) (f : DP) : Prop where
  run : ∀ (pins : List (Addr × Obj)) (s : Shared) (σ : L2.St) (H : Hp) (g : Gh) (own : Own) (ρ : Env) (z : Src) (o : Option Int) (z' : Src), Inv X pins σ H s → IV X.w g m sl own ρ σ H → SrcOk g H z → f ρ z = some (o, z') →
    wpAny (model X.prog X.w) X.A (evalPart e X.env) (fun u s' => ∃ H', Inv X pins σ H' s' ∧ IsPart u o ∧ Kp g.src H H' ∧ SrcOk g H' z') X.xe s
def pNone : DP := fun _ z => some (none, z)
def asI : D → Option Int
  | .int i => some i
  | _ => none
def pSome (f : DE) : DP := fun ρ z => (f ρ z).bind fun p => (asI p.1).map fun i => (some i, p.2)
theorem vp_none : VP m sl X none pNone := ⟨fun pins s σ H g own ρ z o z' I J S hf => by
  cases hf
  rw [evalPart_none]
  exact wpAny_pure ⟨H, I, .none, Kp.refl, S⟩⟩
theorem vp_some (h : VR m sl X e f) : VP m sl X (some e) (pSome f) := ⟨fun pins s σ H g own ρ z o z' I J S hf => by
  obtain ⟨⟨d, z1⟩, h1, hf⟩ := Option.bind_eq_some_iff.mp hf
  obtain ⟨i, h2, h3⟩ := Option.map_eq_some_iff.mp hf
  cases h3
  have hd : d = .int i := by
    cases d with
    | int j => cases h2; rfl
    | _ => cases h2
  subst hd
  rw [evalPart_some]
  refine thn (h.run pins s σ H g own ρ z _ _ I J S h1) fun u s1 ⟨v, H1, I1, r1, k1, S1, q1⟩ => ?_
  obtain rfl := q1.i
  obtain ⟨t, rfl⟩ := r1
  exact ⟨H1, I1, .int i t, k1, S1⟩⟩
def cutD (xs : List D) (lo hi : Option Int) : List D := (xs.drop (HT.sIx xs.length 0 lo)).take (HT.sIx xs.length xs.length hi - HT.sIx xs.length 0 lo)
theorem RpAll.cut {w : World} {N : Addr → Prop} {H : Hp} {vs : List V} {ds : List D} (r : RpAll w N H vs ds) (lo hi : Option Int) : RpAll w N H (cutV vs lo hi) (cutD ds lo hi) := by
  unfold cutV cutD
  rw [r.length]
  exact (r.drop _).take _
def slD : D → Option Int → Option Int → Option D
  | .list xs, lo, hi => some (.list (cutD xs lo hi))
  | .tuple xs, lo, hi => some (.tuple (cutD xs lo hi))
  | .str x, lo, hi => if x.length ≤ sizeLine then some (.str (cutS x lo hi)) else none
  | _, _, _ => none
variable {lo hi : Option Expr} {fl fh : DP} {p2 : Pos}
def eSl (f : DE) (fl fh : DP) : DE := fun ρ z => (f ρ z).bind fun p => (fl ρ p.2).bind fun l => (fh ρ l.2).bind fun h => (slD p.1 l.1 h.1).map fun d => (d, h.2)
theorem eSl_some {f : DE} {ρ : Env} {z z' : Src} {d : D} (h : eSl f fl fh ρ z = some (d, z')) : ∃ x z1 l z2 u, f ρ z = some (x, z1) ∧ fl ρ z1 = some (l, z2) ∧ fh ρ z2 = some (u, z') ∧ slD x l u = some d := by
  unfold eSl at h
  obtain ⟨p, h1, h⟩ := Option.bind_eq_some_iff.mp h
  obtain ⟨l, h2, h⟩ := Option.bind_eq_some_iff.mp h
  obtain ⟨u, h3, h⟩ := Option.bind_eq_some_iff.mp h
  obtain ⟨w, h4, h⟩ := Option.map_eq_some_iff.mp h
  cases h
  exact ⟨p.1, p.2, l.1, l.2, u.1, h1, h2, h3, h4⟩
/-- a slice of a value, by a rule of the hand layer -/
theorem sl_by {r : V → Option Int → Option Int → Hp → VK → Prop} (hr : SlR X r) (he : VR m sl X e f) (hl : VP m sl X lo fl) (hu : VP m sl X hi fh) {pins : List (Addr × Obj)} {s : Shared} {σ : L2.St} {H : Hp} {g : Gh} {own : Own} {ρ : Env} {z z' : Src} {x : D} {z1 : Src} {l : Option Int} {z2 : Src} {u : Option Int} {Q : V → Hp → Prop}
    (I : Inv X pins σ H s) (J : IV X.w g m sl own ρ σ H) (S : SrcOk g H z) (h1 : f ρ z = some (x, z1)) (h2 : fl ρ z1 = some (l, z2)) (h3 : fh ρ z2 = some (u, z'))
    (hq : ∀ v H3, Kp g.src H H3 → SrcOk g H3 z' → Rd X.w g own H3 v x → r v l u H3 Q) : wpAny (model X.prog X.w) X.A (eval (.Subscript e (.Slice lo hi none p2) pos) X.env) (EP X pins σ Q) X.xe s := by
  refine Subscript_ (thn (he.run pins s σ H g own ρ z x z1 I J S h1) fun v s1 ⟨vx, H1, I1, r1, k1, S1, q1⟩ => ?_)
  have J1 := J.keep k1 S1
  refine wpAny_Slice (thn (hl.run pins s1 σ H1 g own ρ z1 l z2 I1 J1 S1 h2) fun vl s2 ⟨H2, I2, pl, k2, S2⟩ => ?_)
  refine thn (hu.run pins s2 σ H2 g own ρ z2 u z' I2 (J1.keep k2 S2) S2 h3) fun vu s3 ⟨H3, I3, pu, k3, S3⟩ => ?_
  rw [evalPart_none]
  refine wpAny_pure ?_
  have I4 : Inv X pins σ H3 { s3 with heap := s3.heap.push { cls := .type "slice", data := .fields #[vl, vu, .none] } } := I3.kept (t' := s3.toks) fun b ob q => Heap.get?_push_of_some _ q
  obtain ⟨T, id, hT, ht, hg⟩ := hr pins { s3 with heap := s3.heap.push { cls := .type "slice", data := .fields #[vl, vu, .none] } } σ H3 vx v vl vu l u s3.heap.objs.size Q I4 r1 (Heap.IsSliceOf.new ..) pl pu (hq vx H3 ((k1.trans k2).trans k3) S3 ((q1.keep J k2).keep J k3))
  exact tail_any (ops := [.ref s3.heap.objs.size, v]) ht hT hg (by with_unfolding_all rfl)
theorem Kp.none {g : Gh} {H H1 : Hp} {z : Src} {a : Addr} (k : Kp g.src H H1) (S : SrcOk g H1 z) (h : H1 a = none) : H a = none := by
  cases e : H a with
  | none => rfl
  | some o =>
    by_cases n : g.src a
    · exact absurd h (S.at n)
    · rw [k _ _ e n] at h; cases h
theorem ve_sl (he : VR m sl X e f) (hl : VP m sl X lo fl) (hu : VP m sl X hi fh) : VE m sl X (.Subscript e (.Slice lo hi none p2) pos) (eSl f fl fh) := ⟨fun pins s σ H g own ρ z d z' I J S hf => by
  obtain ⟨x, z1, l, z2, u, h1, h2, h3, h4⟩ := eSl_some hf
  have nw : ∀ {H3}, Kp g.src H H3 → SrcOk g H3 z' → ∀ b, g.N own b → H3 b ≠ none := fun k S3 b n => (J.keep k S3).nw n
  cases x with
  | list xs =>
    cases h4
    exact thn (sl_by (Q := fun v' H' => Kp g.src H H' ∧ SrcOk g H' z' ∧ Rp X.w (g.N own) H' v' (.list (cutD xs l u))) sl_list he hl hu I J S h1 h2 h3 (fun v H3 k S3 q => by
      obtain ⟨a, vs, rfl, ha, ra⟩ := q.list
      exact ⟨a, vs, rfl, SqL.of ha, fun p hp => ⟨k.trans (Kp.upd hp), S3.same (VL.same_upd hp), .newLst (nw k S3) hp (ra.cut l u)⟩⟩)) fun r s' ⟨v', H', I', r', k, S', q⟩ => ⟨v', H', I', r', k, S', q⟩
  | tuple xs =>
    cases h4
    exact thn (sl_by (Q := fun v' H' => Kp g.src H H' ∧ SrcOk g H' z' ∧ Rp X.w (g.N own) H' v' (.tuple (cutD xs l u))) sl_tupA he hl hu I J S h1 h2 h3 (fun v H3 k S3 q => by
      obtain ⟨a, vs, rfl, ha, na, ra⟩ := q.tuple
      refine ⟨a, vs, rfl, SqT.of ha, fun hw => ⟨k, S3, ?_⟩, fun _ p hp => ⟨k.trans (Kp.upd hp), S3.same (VL.same_upd hp), .newTup (nw k S3) hp (ra.cut l u)⟩⟩
      have e : cutD xs l u = xs := by
        unfold cutD
        rw [ra.length] at hw
        rw [hw.1, hw.2, List.drop_zero, Nat.sub_zero, List.take_length]
      rw [e]
      exact .tup ha na ra)) fun r s' ⟨v', H', I', r', k, S', q⟩ => ⟨v', H', I', r', k, S', q⟩
  | str x =>
    simp only [slD] at h4
    split at h4
    · rename_i hz
      cases h4
      exact thn (sl_by (Q := fun v' H' => Kp g.src H H' ∧ SrcOk g H' z' ∧ Rp X.w (g.N own) H' v' (.str (cutS x l u))) sl_str he hl hu I J S h1 h2 h3 (fun v H3 k S3 q => ⟨x, q.st, hz, k, S3, .str _⟩)) fun r s' ⟨v', H', I', r', k, S', q⟩ => ⟨v', H', I', r', k, S', q⟩
    · cases h4
  | _ => cases h4⟩
/-- a list's slice: a new list -/
def lstD : D → Option D
  | .list xs => some (.list xs)
  | _ => none
theorem vf_sl (he : VR m sl X e f) (hl : VP m sl X lo fl) (hu : VP m sl X hi fh) : VF m sl X (.Subscript e (.Slice lo hi none p2) pos) (eSl (e1 lstD f) fl fh) := ⟨fun pins s σ H g own ρ z d z' I J S hf => by
  obtain ⟨x, z1, l, z2, u, h1, h2, h3, h4⟩ := eSl_some hf
  obtain ⟨x0, h0, hx⟩ := e1_some h1
  cases x0 with
  | list xs =>
    cases hx
    cases h4
    exact thn (sl_by (Q := fun v' H' => ∃ p, v' = .ref p ∧ Kp g.src H H' ∧ SrcOk g H' z' ∧ H p = none ∧ Sh X.w (NF (g.N own) p) H' p (.list (cutD xs l u))) sl_list he hl hu I J S h0 h2 h3 (fun v H3 k S3 q => by
      obtain ⟨a, vs, rfl, ha, ra⟩ := q.list
      exact ⟨a, vs, rfl, SqL.of ha, fun p hp => ⟨p, rfl, k.trans (Kp.upd hp), S3.same (VL.same_upd hp), k.none S3 hp, .lst upd_same ((ra.cut l u).fresh hp)⟩⟩)) fun r s' ⟨v', H', I', r', p, e, k, S', hn, q⟩ => by
        subst e
        exact ⟨p, H', I', r', k, S', hn, q.lmut, q⟩
  | _ => cases hx⟩
end
end VL
set_option Elab.async false
set_option linter.all false
set_option maxRecDepth 100000
set_option maxHeartbeats 4000000
/-! The value layer, part 5: statements, defs, calls of defs. -/
namespace VL
open PySem PySem.Spec PyProof.Rows L2

inductive Fl where
  | nx (ρ : Env)
  | rt (d : D)
  | bk (ρ : Env)
  | ct (ρ : Env)
abbrev DS := Env → Src → Option (Fl × Src)

/-- how a statement ends -/
def SPost (X : Cx) (pins : List (Addr × Obj)) (g : Gh) (own : Own) (H : Hp) (m' ml : List Nat) (sl : Option Nat) (r : Fl) (z' : Src) (f : Flow) (s' : Shared) : Prop :=
  match r with
  | .nx ρ' => f = .next ∧ ∃ σ' H' own', Inv X pins σ' H' s' ∧ Gr g own H own' H' ∧ IV X.w g m' sl own' ρ' σ' H' ∧ SrcOk g H' z'
  | .bk ρ' => f = .brk ∧ ∃ σ' H' own', Inv X pins σ' H' s' ∧ Gr g own H own' H' ∧ IV X.w g ml sl own' ρ' σ' H' ∧ SrcOk g H' z'
  | .ct ρ' => f = .cont ∧ ∃ σ' H' own', Inv X pins σ' H' s' ∧ Gr g own H own' H' ∧ IV X.w g ml sl own' ρ' σ' H' ∧ SrcOk g H' z'
  | .rt d => ∃ u v σ' H', f = .ret u ∧ Inv X pins σ' H' s' ∧ RelV v u ∧ Kp (g.W own) H H' ∧ SrcOk g H' z' ∧ Rp X.w g.N0 H' v d

structure VS (m m' ml : List Nat) (sl : Option Nat) (X : Cx) (st : Stmt) (f : DS) : Prop where
  run : ∀ (pins : List (Addr × Obj)) (s : Shared) (σ : L2.St) (H : Hp) (g : Gh) (own : Own) (ρ : Env) (z : Src) (r : Fl) (z' : Src), Inv X pins σ H s → IV X.w g m sl own ρ σ H → SrcOk g H z → f ρ z = some (r, z') →
    wpAny (model X.prog X.w) X.A (exec st X.env) (SPost X pins g own H m' ml sl r z') X.xe s
structure VSs (m m' ml : List Nat) (sl : Option Nat) (X : Cx) (st : List Stmt) (f : DS) : Prop where
  run : ∀ (pins : List (Addr × Obj)) (s : Shared) (σ : L2.St) (H : Hp) (g : Gh) (own : Own) (ρ : Env) (z : Src) (r : Fl) (z' : Src), Inv X pins σ H s → IV X.w g m sl own ρ σ H → SrcOk g H z → f ρ z = some (r, z') →
    wpAny (model X.prog X.w) X.A (execs st X.env) (SPost X pins g own H m' ml sl r z') X.xe s

section
variable {w : World} {g : Gh} {m m' : List Nat} {sl : Option Nat} {own own' : Own} {ρ ρ' : Env} {σ σ' : L2.St} {H H' : Hp} {z z' : Src} {v : V} {d : D}
/-- to the caller's sight -/
theorem Rp.out (h : Rp w (g.N own) H v d) : Rp w g.N0 H v d := h.move fun b o e n => ⟨e, fun q => n (.inl q)⟩
theorem Rd.out (h : Rd w g own H v d) : Rp w g.N0 H v d := by
  cases h with
  | c h => exact h.out
  | o h n => exact (h.move (fun b o e n => ⟨e, fun q => n (.inl q)⟩) fun o e => e).rp n
/-- fewer slots are owned -/
def Own.cut (own : Own) (m : List Nat) : Own := fun i => if i ∈ m then own i else none
theorem Own.cut_some {i : Nat} {a : Addr} (h : own.cut m i = some a) : own i = some a ∧ i ∈ m := by
  unfold Own.cut at h
  split at h
  · rename_i hi; exact ⟨h, hi⟩
  · cases h
theorem IV.less (I : IV w g m sl own ρ σ H) (h : ∀ i, i ∈ m' → i ∈ m) : IV w g m' sl (own.cut m') ρ σ H := by
  have nn : ∀ b, g.N (own.cut m') b → g.N own b := fun b q => by
    rcases q with q | ⟨i, q⟩
    · exact .inl q
    · exact .inr ⟨i, (Own.cut_some q).1⟩
  have mv : ∀ b o, H b = some o → ¬ g.N own b → H b = some o ∧ ¬ g.N (own.cut m') b := fun b o e n => ⟨e, fun q => n (nn b q)⟩
  refine ⟨I.len, fun i d h1 h2 => ?_, fun i d h1 h2 => ?_, I.src, fun i a q => ?_, fun i j a q1 q2 => I.oi i j a (Own.cut_some q1).1 (Own.cut_some q2).1, I.n0, I.sn⟩
  · by_cases hm : i ∈ m
    · obtain ⟨a, h3, h4, h5⟩ := I.ow i d h1 hm
      refine ⟨.ref a, h3, (h5.move mv fun o e => e).rp fun q => ?_⟩
      rcases q with q | ⟨j, q⟩
      · exact (I.om i a h4).2.1 q
      · obtain ⟨q1, q2⟩ := Own.cut_some q
        exact h2 (I.oi i j a h4 q1 ▸ q2)
    · obtain ⟨v, h3, h4⟩ := I.cl i d h1 hm
      exact ⟨v, h3, h4.move mv⟩
  · obtain ⟨a, h3, h4, h5⟩ := I.ow i d h1 (h i h2)
    exact ⟨a, h3, by unfold Own.cut; rw [if_pos h2]; exact h4, h5.move mv fun o e => e⟩
  · obtain ⟨q1, q2⟩ := Own.cut_some q
    exact ⟨q2, (I.om i a q1).2⟩
theorem Gr.less (k : Gr g own H own' H') : Gr g own H (own'.cut m') H' := ⟨k.kp, fun i a h => k.nw i a (Own.cut_some h).1, fun i a h => k.ns i a (Own.cut_some h).1⟩
end

section
variable {m m' m'' ml : List Nat} {sl : Option Nat} {X : Cx} {st : Stmt} {rest sts : List Stmt} {e a b c : Expr} {f fa fb : DE} {ft : DT} {fs fu : DS} {pos : Pos}

/-! ### blocks -/
def sNext : DS := fun ρ z => some (.nx ρ, z)
def sSeq (f h : DS) : DS := fun ρ z => (f ρ z).bind fun p => match p.1 with
  | .nx ρ' => h ρ' p.2
  | r => some (r, p.2)
theorem vss_nil : VSs m m ml sl X [] sNext := ⟨fun pins s σ H g own ρ z r z' I J S hf => by
  cases hf
  exact wpAny_execs_nil ⟨rfl, σ, H, own, I, J.gr Kp.refl, J, S⟩⟩
theorem vss_cons (h1 : VS m m' ml sl X st fs) (h2 : VSs m' m'' ml sl X rest fu) : VSs m m'' ml sl X (st :: rest) (sSeq fs fu) := ⟨fun pins s σ H g own ρ z r z' I J S hf => by
  unfold sSeq at hf
  obtain ⟨⟨r1, z1⟩, e1, hf⟩ := Option.bind_eq_some_iff.mp hf
  refine wpAny_execs_cons (thn (h1.run pins s σ H g own ρ z r1 z1 I J S e1) fun f s1 q => ?_)
  cases r1 with
  | nx ρ1 =>
    obtain ⟨e, σ1, H1, own1, I1, G1, J1, S1⟩ := q
    subst e
    refine thn (h2.run pins s1 σ1 H1 g own1 ρ1 z1 r z' I1 J1 S1 hf) fun f s2 q => ?_
    cases r with
    | nx ρ2 => obtain ⟨e, σ2, H2, own2, I2, G2, J2, S2⟩ := q; exact ⟨e, σ2, H2, own2, I2, G1.trans G2, J2, S2⟩
    | bk ρ2 => obtain ⟨e, σ2, H2, own2, I2, G2, J2, S2⟩ := q; exact ⟨e, σ2, H2, own2, I2, G1.trans G2, J2, S2⟩
    | ct ρ2 => obtain ⟨e, σ2, H2, own2, I2, G2, J2, S2⟩ := q; exact ⟨e, σ2, H2, own2, I2, G1.trans G2, J2, S2⟩
    | rt d =>
      obtain ⟨u, v, σ2, H2, e, I2, r2, k2, S2, q2⟩ := q
      refine ⟨u, v, σ2, H2, e, I2, r2, fun b o hb n => ?_, S2, q2⟩
      refine k2 b o (G1.kp b o hb n) fun q => ?_
      rcases q with q | ⟨i, q⟩
      · exact n (.inl q)
      · rcases G1.nw i b q with ⟨j, q⟩ | q
        · exact n (.inr ⟨j, q⟩)
        · rw [hb] at q; cases q
  | rt d =>
    cases hf
    obtain ⟨u, v, σ2, H2, e, q'⟩ := q
    subst e
    exact ⟨_, v, σ2, H2, rfl, q'⟩
  | bk ρ1 =>
    cases hf
    obtain ⟨e, q'⟩ := q
    subst e
    exact ⟨rfl, q'⟩
  | ct ρ1 =>
    cases hf
    obtain ⟨e, q'⟩ := q
    subst e
    exact ⟨rfl, q'⟩⟩
theorem vss_one (h1 : VS m m' ml sl X st fs) : VSs m m' ml sl X [st] fs := ⟨fun pins s σ H g own ρ z r z' I J S hf => by
  refine wpAny_execs_cons (thn (h1.run pins s σ H g own ρ z r z' I J S hf) fun f s1 q => ?_)
  cases r with
  | nx ρ1 =>
    obtain ⟨e, q⟩ := q
    subst e
    exact wpAny_execs_nil ⟨rfl, q⟩
  | rt d =>
    obtain ⟨u, v, σ2, H2, e, q'⟩ := q
    subst e
    exact ⟨_, v, σ2, H2, rfl, q'⟩
  | bk ρ1 =>
    obtain ⟨e, q'⟩ := q
    subst e
    exact ⟨rfl, q'⟩
  | ct ρ1 =>
    obtain ⟨e, q'⟩ := q
    subst e
    exact ⟨rfl, q'⟩⟩
/-- fewer owned slots behind a statement -/
theorem VS.less (h : VS m m' ml sl X st fs) (hm : ∀ i, i ∈ m'' → i ∈ m' := by decide) : VS m m'' ml sl X st fs := ⟨fun pins s σ H g own ρ z r z' I J S hf => thn (h.run pins s σ H g own ρ z r z' I J S hf) fun f s1 q => by
  cases r with
  | nx ρ1 =>
    obtain ⟨e, σ1, H1, own1, I1, G1, J1, S1⟩ := q
    exact ⟨e, σ1, H1, _, I1, G1.less, J1.less hm, S1⟩
  | rt d => exact q
  | bk ρ1 => exact q
  | ct ρ1 => exact q⟩
theorem VSs.less (h : VSs m m' ml sl X sts fs) (hm : ∀ i, i ∈ m'' → i ∈ m' := by decide) : VSs m m'' ml sl X sts fs := ⟨fun pins s σ H g own ρ z r z' I J S hf => thn (h.run pins s σ H g own ρ z r z' I J S hf) fun f s1 q => by
  cases r with
  | nx ρ1 =>
    obtain ⟨e, σ1, H1, own1, I1, G1, J1, S1⟩ := q
    exact ⟨e, σ1, H1, _, I1, G1.less, J1.less hm, S1⟩
  | rt d => exact q
  | bk ρ1 => exact q
  | ct ρ1 => exact q⟩
/-- fewer owned slots ahead -/
theorem VSs.cut (h : VSs m' m'' ml sl X sts fs) (hm : ∀ i, i ∈ m' → i ∈ m := by decide) : VSs m m'' ml sl X sts fs := ⟨fun pins s σ H g own ρ z r z' I J S hf => by
  have G0 : Gr g own H (own.cut m') H := (J.gr Kp.refl).less
  refine thn (h.run pins s σ H g (own.cut m') ρ z r z' I (J.less hm) S hf) fun f s1 q => ?_
  cases r with
  | nx ρ1 => obtain ⟨e, σ1, H1, own1, I1, G1, J1, S1⟩ := q; exact ⟨e, σ1, H1, own1, I1, G0.trans G1, J1, S1⟩
  | bk ρ1 => obtain ⟨e, σ1, H1, own1, I1, G1, J1, S1⟩ := q; exact ⟨e, σ1, H1, own1, I1, G0.trans G1, J1, S1⟩
  | ct ρ1 => obtain ⟨e, σ1, H1, own1, I1, G1, J1, S1⟩ := q; exact ⟨e, σ1, H1, own1, I1, G0.trans G1, J1, S1⟩
  | rt d =>
    obtain ⟨u, v, σ2, H2, e, I2, r2, k2, S2, q2⟩ := q
    refine ⟨u, v, σ2, H2, e, I2, r2, k2.mono fun b q => ?_, S2, q2⟩
    rcases q with q | ⟨i, q⟩
    · exact .inl q
    · exact .inr ⟨i, (Own.cut_some q).1⟩⟩

/-! ### small statements -/
theorem vs_pass : VS m m ml sl X (.Pass pos) sNext := ⟨fun pins s σ H g own ρ z r z' I J S hf => by
  cases hf
  exact wpAny_Pass ⟨rfl, σ, H, own, I, J.gr Kp.refl, J, S⟩⟩
def sBreak : DS := fun ρ z => some (.bk ρ, z)
def sCont : DS := fun ρ z => some (.ct ρ, z)
theorem vs_break : VS ml m' ml sl X (.Break pos) sBreak := ⟨fun pins s σ H g own ρ z r z' I J S hf => by
  cases hf
  exact wpAny_Break ⟨rfl, σ, H, own, I, J.gr Kp.refl, J, S⟩⟩
theorem vs_continue : VS ml m' ml sl X (.Continue pos) sCont := ⟨fun pins s σ H g own ρ z r z' I J S hf => by
  cases hf
  exact wpAny_Continue ⟨rfl, σ, H, own, I, J.gr Kp.refl, J, S⟩⟩
def sRet (f : DE) : DS := fun ρ z => (f ρ z).map fun p => (.rt p.1, p.2)
theorem vs_ret (h : VR m sl X e f) : VS m m' ml sl X (.Return (some e) pos) (sRet f) := ⟨fun pins s σ H g own ρ z r z' I J S hf => by
  obtain ⟨⟨d, z1⟩, e1, e2⟩ := Option.map_eq_some_iff.mp hf
  cases e2
  exact wpAny_Return_some (thn (h.run pins s σ H g own ρ z d _ I J S e1) fun u s1 ⟨v, H1, I1, r1, k1, S1, q1⟩ => ⟨u, v, σ, H1, rfl, I1, r1, k1.mono fun _ => .inl, S1, q1.out⟩)⟩
def sIf (t : DT) (f h : DS) : DS := fun ρ z => (t ρ z).bind fun p => if p.1 = true then f ρ p.2 else h ρ p.2
theorem SPost.back {pins : List (Addr × Obj)} {g : Gh} {own own1 : Own} {H H1 : Hp} {r : Fl} {z' : Src} {f : Flow} {s' : Shared} (G : Gr g own H own1 H1) (q : SPost X pins g own1 H1 m' ml sl r z' f s') : SPost X pins g own H m' ml sl r z' f s' := by
  cases r with
  | nx ρ2 => obtain ⟨e, σ2, H2, own2, I2, G2, J2, S2⟩ := q; exact ⟨e, σ2, H2, own2, I2, G.trans G2, J2, S2⟩
  | bk ρ2 => obtain ⟨e, σ2, H2, own2, I2, G2, J2, S2⟩ := q; exact ⟨e, σ2, H2, own2, I2, G.trans G2, J2, S2⟩
  | ct ρ2 => obtain ⟨e, σ2, H2, own2, I2, G2, J2, S2⟩ := q; exact ⟨e, σ2, H2, own2, I2, G.trans G2, J2, S2⟩
  | rt d =>
    obtain ⟨u, v, σ2, H2, e, I2, r2, k2, S2, q2⟩ := q
    refine ⟨u, v, σ2, H2, e, I2, r2, fun b o hb n => ?_, S2, q2⟩
    refine k2 b o (G.kp b o hb n) fun q => ?_
    rcases q with q | ⟨i, q⟩
    · exact n (.inl q)
    · rcases G.nw i b q with ⟨j, q⟩ | q
      · exact n (.inr ⟨j, q⟩)
      · rw [hb] at q; cases q
theorem vs_if {A B : List Stmt} (hc : VT m sl X c ft) (ha : VSs m m' ml sl X A fs) (hb : VSs m m' ml sl X B fu) : VS m m' ml sl X (.If c A B pos) (sIf ft fs fu) := ⟨fun pins s σ H g own ρ z r z' I J S hf => by
  unfold sIf at hf
  obtain ⟨⟨k, z1⟩, h1, hf⟩ := Option.bind_eq_some_iff.mp hf
  refine wpAny_If (thn (hc.run _ rfl pins s σ H g own ρ z k z1 I J S h1) fun k' s1 ⟨e, H1, I1, k1, S1⟩ => ?_)
  subst e
  cases k' with
  | true =>
    rw [if_pos rfl] at hf
    exact thn (ha.run pins s1 σ H1 g own ρ z1 r z' I1 (J.keep k1 S1) S1 hf) fun f s2 q => q.back (J.gr k1)
  | false =>
    simp only [Bool.false_eq_true, if_false] at hf
    exact thn (hb.run pins s1 σ H1 g own ρ z1 r z' I1 (J.keep k1 S1) S1 hf) fun f s2 q => q.back (J.gr k1)⟩

/-! ### names stored -/
theorem IV.set {w : World} {g : Gh} {own : Own} {ρ : Env} {σ : L2.St} {H : Hp} (J : IV w g m sl own ρ σ H) {i : Nat} (hi : i ∉ m) (hs : sl ≠ some i) (hl : i < ρ.length) {v : V} {d : D} (q : Rp w (g.N own) H v d) :
    IV w g m sl own (ρ.set i (some d)) (σ.set i (some v)) H := by
  refine ⟨by rw [List.length_set, List.length_set, J.len], fun j d' h1 h2 => ?_, fun j d' h1 h2 => ?_, fun j e => ?_, J.om, J.oi, J.n0, J.sn⟩
  · by_cases e : i = j
    · subst e
      rw [List.getElem?_set_self hl] at h1
      cases h1
      exact ⟨v, List.getElem?_set_self (by rw [← J.len]; exact hl), q⟩
    · rw [List.getElem?_set_ne e] at h1
      obtain ⟨v', h3, h4⟩ := J.cl j d' h1 h2
      exact ⟨v', by rw [List.getElem?_set_ne e]; exact h3, h4⟩
  · have e : i ≠ j := fun e => hi (e ▸ h2)
    rw [List.getElem?_set_ne e] at h1
    obtain ⟨a, h3, h4⟩ := J.ow j d' h1 h2
    exact ⟨a, by rw [List.getElem?_set_ne e]; exact h3, h4⟩
  · obtain ⟨aS, aC, h1, h2⟩ := J.src j e
    have e' : i ≠ j := fun q => hs (by rw [q]; exact e)
    exact ⟨aS, aC, h1, by rw [List.getElem?_set_ne e']; exact h2⟩
def Own.put (own : Own) (i : Nat) (a : Addr) : Own := fun j => if j = i then some a else own j
theorem Own.put_same {own : Own} {i : Nat} {a : Addr} : own.put i a i = some a := by unfold Own.put; rw [if_pos rfl]
theorem Own.put_ne {own : Own} {i j : Nat} {a : Addr} (h : j ≠ i) : own.put i a j = own j := by unfold Own.put; rw [if_neg h]
theorem Own.put_cases {own : Own} {i j : Nat} {a b : Addr} (h : own.put i a j = some b) : (j = i ∧ b = a) ∨ (j ≠ i ∧ own j = some b) := by
  by_cases e : j = i
  · subst e
    rw [Own.put_same] at h
    cases h
    exact .inl ⟨rfl, rfl⟩
  · rw [Own.put_ne e] at h
    exact .inr ⟨e, h⟩
/-- a new list or dict comes to an owned slot; H0: the heap in which all else stood -/
theorem IV.setF {w : World} {g : Gh} {own : Own} {ρ : Env} {σ : L2.St} {H H0 : Hp} {z' : Src} (J0 : IV w g m sl own ρ σ H0) (k : Kp g.src H0 H) (S : SrcOk g H z') {i : Nat} (hi : i ∈ m) (hs : sl ≠ some i) (hl : i < ρ.length) {a : Addr} {d : D} (hn : H0 a = none) (mu : Mut (H a)) (q : Sh w (NF (g.N own) a) H a d) :
    IV w g m sl (own.put i a) (ρ.set i (some d)) (σ.set i (some (.ref a))) H := by
  have J := J0.keep k S
  have n0 : ¬ g.N0 a := fun z => mutN_some (J0.n0 a z) hn
  have no : ∀ j, own j ≠ some a := fun j e => mut_some (J0.om j a e).2.2 hn
  have mv : ∀ b o, H b = some o → ¬ g.N own b → b ≠ a → H b = some o ∧ ¬ g.N (own.put i a) b := fun b o e n ne => ⟨e, fun q => by
    rcases q with q | ⟨j, q⟩
    · exact n (.inl q)
    · rcases Own.put_cases q with ⟨_, q⟩ | ⟨_, q⟩
      · exact ne q
      · exact n (.inr ⟨j, q⟩)⟩
  -- what stood in H0 leans on no a
  have mv0 : ∀ b o, H0 b = some o → ¬ g.N own b → H b = some o ∧ ¬ g.N (own.put i a) b := fun b o e n => by
    have ne : b ≠ a := fun q => by rw [q, hn] at e; cases e
    exact mv b o (k b o e (J0.srcN n)) n ne
  have mvA : ∀ b o, H b = some o → ¬ NF (g.N own) a b → H b = some o ∧ ¬ g.N (own.put i a) b := fun b o e n => mv b o e (fun q => n (.inl q)) fun q => n (.inr q)
  refine ⟨by rw [List.length_set, List.length_set, J.len], fun j d' h1 h2 => ?_, fun j d' h1 h2 => ?_, fun j e => ?_, fun j b e => ?_, fun j j' b e1 e2 => ?_, J.n0, J.sn⟩
  · have e : i ≠ j := fun e => h2 (e ▸ hi)
    rw [List.getElem?_set_ne e] at h1
    obtain ⟨v', h3, h4⟩ := J0.cl j d' h1 h2
    exact ⟨v', by rw [List.getElem?_set_ne e]; exact h3, h4.move mv0⟩
  · by_cases e : i = j
    · subst e
      rw [List.getElem?_set_self hl] at h1
      cases h1
      exact ⟨a, List.getElem?_set_self (by rw [← J.len]; exact hl), Own.put_same, q.move mvA fun o e => e⟩
    · rw [List.getElem?_set_ne e] at h1
      obtain ⟨b, h3, h4, h5⟩ := J0.ow j d' h1 h2
      exact ⟨b, by rw [List.getElem?_set_ne e]; exact h3, by rw [Own.put_ne (Ne.symm e)]; exact h4, h5.move mv0 fun o e => k b o e (J0.nsrc j b h4)⟩
  · obtain ⟨aS, aC, h1, h2⟩ := J.src j e
    have e' : i ≠ j := fun q => hs (by rw [q]; exact e)
    exact ⟨aS, aC, h1, by rw [List.getElem?_set_ne e']; exact h2⟩
  · rcases Own.put_cases e with ⟨rfl, rfl⟩ | ⟨_, e⟩
    · exact ⟨hi, n0, mu⟩
    · exact J.om j b e
  · rcases Own.put_cases e1 with ⟨i1, i2⟩ | ⟨n1, f1⟩
    · rcases Own.put_cases e2 with ⟨i3, _⟩ | ⟨n2, f2⟩
      · rw [i1, i3]
      · exact absurd (i2 ▸ f2) (no j')
    · rcases Own.put_cases e2 with ⟨i3, i4⟩ | ⟨n2, f2⟩
      · exact absurd (i4 ▸ f1) (no j)
      · exact J.oi j j' b f1 f2
theorem IV.setN {w : World} {g : Gh} {own : Own} {ρ : Env} {σ : L2.St} {H H0 : Hp} {z' : Src} (J0 : IV w g m sl own ρ σ H0) (k : Kp g.src H0 H) (S : SrcOk g H z') {i : Nat} (hi : i ∉ m) (hs : sl ≠ some i) (hl : i < ρ.length) {a : Addr} {d : D} (hn : H0 a = none) (mu : Mut (H a)) (q : Sh w (NF (g.N own) a) H a d) :
    IV w g (i :: m) sl (own.put i a) (ρ.set i (some d)) (σ.set i (some (.ref a))) H := by
  have J := J0.keep k S
  have n0 : ¬ g.N0 a := fun z => mutN_some (J0.n0 a z) hn
  have no : ∀ j, own j ≠ some a := fun j e => mut_some (J0.om j a e).2.2 hn
  have mv : ∀ b o, H b = some o → ¬ g.N own b → b ≠ a → H b = some o ∧ ¬ g.N (own.put i a) b := fun b o e n ne => ⟨e, fun q => by
    rcases q with q | ⟨j, q⟩
    · exact n (.inl q)
    · rcases Own.put_cases q with ⟨_, q⟩ | ⟨_, q⟩
      · exact ne q
      · exact n (.inr ⟨j, q⟩)⟩
  -- what stood in H0 leans on no a
  have mv0 : ∀ b o, H0 b = some o → ¬ g.N own b → H b = some o ∧ ¬ g.N (own.put i a) b := fun b o e n => by
    have ne : b ≠ a := fun q => by rw [q, hn] at e; cases e
    exact mv b o (k b o e (J0.srcN n)) n ne
  have mvA : ∀ b o, H b = some o → ¬ NF (g.N own) a b → H b = some o ∧ ¬ g.N (own.put i a) b := fun b o e n => mv b o e (fun q => n (.inl q)) fun q => n (.inr q)
  refine ⟨by rw [List.length_set, List.length_set, J.len], fun j d' h1 h2 => ?_, fun j d' h1 h2 => ?_, fun j e => ?_, fun j b e => ?_, fun j j' b e1 e2 => ?_, J.n0, J.sn⟩
  · have e : i ≠ j := fun e => h2 (e ▸ List.mem_cons_self)
    rw [List.getElem?_set_ne e] at h1
    obtain ⟨v', h3, h4⟩ := J0.cl j d' h1 fun z => h2 (List.mem_cons_of_mem _ z)
    exact ⟨v', by rw [List.getElem?_set_ne e]; exact h3, h4.move mv0⟩
  · by_cases e : i = j
    · subst e
      rw [List.getElem?_set_self hl] at h1
      cases h1
      exact ⟨a, List.getElem?_set_self (by rw [← J.len]; exact hl), Own.put_same, q.move mvA fun o e => e⟩
    · rw [List.getElem?_set_ne e] at h1
      obtain ⟨b, h3, h4, h5⟩ := J0.ow j d' h1 ((List.mem_cons.mp h2).elim (fun z => absurd z.symm e) fun z => z)
      exact ⟨b, by rw [List.getElem?_set_ne e]; exact h3, by rw [Own.put_ne (Ne.symm e)]; exact h4, h5.move mv0 fun o e => k b o e (J0.nsrc j b h4)⟩
  · obtain ⟨aS, aC, h1, h2⟩ := J.src j e
    have e' : i ≠ j := fun q => hs (by rw [q]; exact e)
    exact ⟨aS, aC, h1, by rw [List.getElem?_set_ne e']; exact h2⟩
  · rcases Own.put_cases e with ⟨rfl, rfl⟩ | ⟨_, e⟩
    · exact ⟨List.mem_cons_self, n0, mu⟩
    · exact ⟨List.mem_cons_of_mem _ (J.om j b e).1, (J.om j b e).2⟩
  · rcases Own.put_cases e1 with ⟨i1, i2⟩ | ⟨n1, f1⟩
    · rcases Own.put_cases e2 with ⟨i3, _⟩ | ⟨n2, f2⟩
      · rw [i1, i3]
      · exact absurd (i2 ▸ f2) (no j')
    · rcases Own.put_cases e2 with ⟨i3, i4⟩ | ⟨n2, f2⟩
      · exact absurd (i4 ▸ f1) (no j)
      · exact J.oi j j' b f1 f2
theorem IV.slot {w : World} {g : Gh} {own : Own} {ρ : Env} {σ : L2.St} {H : Hp} (J : IV w g m sl own ρ σ H) {X : Cx} {pins : List (Addr × Obj)} {s : Shared} (I : Inv X pins σ H s) {i : Nat} {x : Str} (hi : X.N[i]? = some x) : i < ρ.length := by
  rw [J.len, I.len]
  exact (List.getElem?_eq_some_iff.mp hi).1
def sAsg (i : Nat) (f : DE) : DS := fun ρ z => (f ρ z).map fun p => (.nx (ρ.set i (some p.1)), p.2)
variable {i : Nat} {x : Str} {px : Pos}
/-- name = value -/
theorem vs_asg (he : VE m sl X e f) (hN : X.N.Nodup) (hi : X.N[i]? = some x := by rfl) (hx : Loc X.env.scope x := by first | exact Or.inl rfl | exact Or.inr rfl) (hm : i ∉ m := by decide) (hsl : sl ≠ some i := by decide) (hs : swapsWith e (some (.Name x px)) pos.line X.env = pure false := by rfl)
    (hf : X.fn x = true ∨ X.env.scope.names.lookup x = some .local := by first | exact .inl rfl | exact .inr rfl) : VS m m ml sl X (.Assign [.Name x px] e pos) (sAsg i f) := ⟨fun pins s σ H g own ρ z r z' I J S h => by
  obtain ⟨⟨d, z1⟩, e1, e2⟩ := Option.map_eq_some_iff.mp h
  cases e2
  refine wpAny_Assign_Name (thn (he.run pins s σ H g own ρ z d _ I J S e1) fun u s1 ⟨v, H1, I1, r1, k1, S1, q1⟩ => ?_) hs
  have J1 := J.keep k1 S1
  exact store_ok I1 hN hi hx r1 (fun s2 I2 => ⟨rfl, _, H1, own, I2, J.gr k1, J1.set hm hsl (J1.slot I1 hi) q1, S1⟩) hf⟩
/-- name = a new list or dict -/
theorem vs_asgF (he : VF m sl X e f) (hN : X.N.Nodup) (hi : X.N[i]? = some x := by rfl) (hx : Loc X.env.scope x := by first | exact Or.inl rfl | exact Or.inr rfl) (hm : i ∈ m := by decide) (hsl : sl ≠ some i := by decide) (hs : swapsWith e (some (.Name x px)) pos.line X.env = pure false := by rfl)
    (hf : X.fn x = true ∨ X.env.scope.names.lookup x = some .local := by first | exact .inl rfl | exact .inr rfl) : VS m m ml sl X (.Assign [.Name x px] e pos) (sAsg i f) := ⟨fun pins s σ H g own ρ z r z' I J S h => by
  obtain ⟨⟨d, z1⟩, e1, e2⟩ := Option.map_eq_some_iff.mp h
  cases e2
  refine wpAny_Assign_Name (thn (he.run pins s σ H g own ρ z d _ I J S e1) fun u s1 ⟨a, H1, I1, r1, k1, S1, hn, mu, q1⟩ => ?_) hs
  have J1 := J.keep k1 S1
  have J2 := J.setF k1 S1 hm hsl (J1.slot I1 hi) hn mu q1
  refine store_ok (v := .ref a) I1 hN hi hx r1 (fun s2 I2 => ⟨rfl, _, H1, _, I2, ⟨k1.mono fun _ => .inl, fun j b e => ?_, J2.nsrc⟩, J2, S1⟩) hf
  rcases Own.put_cases e with ⟨_, rfl⟩ | ⟨_, e⟩
  · exact .inr hn
  · exact .inl ⟨j, e⟩⟩
theorem vs_asgN (he : VF m sl X e f) (hN : X.N.Nodup) (hi : X.N[i]? = some x := by rfl) (hx : Loc X.env.scope x := by first | exact Or.inl rfl | exact Or.inr rfl) (hm : i ∉ m := by decide) (hsl : sl ≠ some i := by decide) (hs : swapsWith e (some (.Name x px)) pos.line X.env = pure false := by rfl)
    (hf : X.fn x = true ∨ X.env.scope.names.lookup x = some .local := by first | exact .inl rfl | exact .inr rfl) : VS m (i :: m) ml sl X (.Assign [.Name x px] e pos) (sAsg i f) := ⟨fun pins s σ H g own ρ z r z' I J S h => by
  obtain ⟨⟨d, z1⟩, e1, e2⟩ := Option.map_eq_some_iff.mp h
  cases e2
  refine wpAny_Assign_Name (thn (he.run pins s σ H g own ρ z d _ I J S e1) fun u s1 ⟨a, H1, I1, r1, k1, S1, hn, mu, q1⟩ => ?_) hs
  have J1 := J.keep k1 S1
  have J2 := J.setN k1 S1 hm hsl (J1.slot I1 hi) hn mu q1
  refine store_ok (v := .ref a) I1 hN hi hx r1 (fun s2 I2 => ⟨rfl, _, H1, _, I2, ⟨k1.mono fun _ => .inl, fun j b e => ?_, J2.nsrc⟩, J2, S1⟩) hf
  rcases Own.put_cases e with ⟨_, rfl⟩ | ⟨_, e⟩
  · exact .inr hn
  · exact .inl ⟨j, e⟩⟩
/-- the same where the name owned nothing ahead -/
theorem VS.own (h : VS m m' ml sl X st fs) : VS m m' ml sl X st fs := h
end
end VL
set_option Elab.async false
set_option linter.all false
set_option maxRecDepth 100000
set_option maxHeartbeats 4000000
/-! The value layer, part 6: defs and their calls. -/
namespace VL
open PySem PySem.Spec PyProof.Rows L2

abbrev DFn := List D → Src → Option (D × Src)

/-- a def's promise where no repr is under way -/
structure FnG (P : Program) (w : World) (K : PySem.W.Frag) (mg : Str → Option Value) (base : Heap) (k : Nat) (f : Addr) (fd : FuncData) (ps : List Str) (sp : Sp) : Prop where
  len : ∀ vs H Q E, sp vs H Q E → vs.length = ps.length
  run : ∀ (A : Around) (outer : List PySem.Env) (s : Shared) (H : Hp) (args : Args) (us : List Value) (vs : List V) (Q : VK), A.guards = some [] → Room k A → Env0 P w K mg base A outer s H → BindsTo s fd args (ps.zip us) → Vals vs us → sp vs H Q E0 →
    codeAny (model P w) A (.call (.ref f) args) (CR CX0 outer P w H s Q E0) s
theorem FnG.of {P : Program} {w : World} {K : PySem.W.Frag} {mg : Str → Option Value} {base : Heap} {k : Nat} {f : Addr} {fd : FuncData} {ps : List Str} {sp : Sp} (h : FnOk P w K mg base CX0 k f fd ps sp) : FnG P w K mg base k f fd ps sp :=
  ⟨h.len, fun A outer s H args us vs Q _ hr e0 hb r q => h.run A outer s H args us vs Q E0 hr e0 hb r q⟩
theorem FnG.mono {P : Program} {w : World} {K : PySem.W.Frag} {mg : Str → Option Value} {base : Heap} {j k : Nat} {f : Addr} {fd : FuncData} {ps : List Str} {sp : Sp} (h : FnG P w K mg base j f fd ps sp) (hk : j ≤ k) : FnG P w K mg base k f fd ps sp :=
  ⟨h.len, fun A outer s H args us vs Q hg hr => h.run A outer s H args us vs Q hg (hr.mono hk)⟩

/-- what a caller hands on: the places to be left alone -/
structure GOk (g : Gh) (H : Hp) : Prop where
  n0 : ∀ a, g.N0 a → MutN (H a)
  sn : ∀ a, g.src a → g.N0 a
/-- the promise of a def of n parameters that computes F -/
def spV (w : World) (n : Nat) (F : DFn) : Sp := fun vs H Q _ => vs.length = n ∧ ∃ (g : Gh) (ds : List D) (z : Src) (d : D) (z' : Src), GOk g H ∧ SrcOk g H z ∧ RpAll w g.N0 H vs ds ∧ F ds z = some (d, z') ∧
  ∀ v H', Kp g.src H H' → SrcOk g H' z' → Rp w g.N0 H' v d → Q v H'
/-- .. whose first parameter is the source -/
def spS (w : World) (n : Nat) (F : DFn) : Sp := fun vs H Q _ => vs.length = n + 1 ∧ ∃ (g : Gh) (aS aC : Addr) (xs : List V) (ds : List D) (z : Src) (d : D) (z' : Src), vs = .ref aS :: xs ∧ g.sa = some (aS, aC) ∧ GOk g H ∧ SrcOk g H z ∧ RpAll w g.N0 H xs ds ∧ F ds z = some (d, z') ∧
  ∀ v H', Kp g.src H H' → SrcOk g H' z' → Rp w g.N0 H' v d → Q v H'

/-- a body run -/
def endF (p : Fl × Src) : Option (D × Src) := match p.1 with
  | .rt d => some (d, p.2)
  | .nx _ => some (.none, p.2)
  | _ => none
def runF (nn n : Nat) (fb : DS) : DFn := fun ds z => if ds.length = n then (fb (ds.map some ++ List.replicate (nn - n) none) z).bind endF else none
def runS (nn n : Nat) (fb : DS) : DFn := fun ds z => if ds.length = n then (fb (none :: (ds.map some ++ List.replicate (nn - (n + 1)) none)) z).bind endF else none

section
variable {P : Program} {w : World} {K : PySem.W.Frag} {mg : Str → Option Value} {base : Heap}
theorem own0_N {g : Gh} {b : Addr} (h : g.N (fun _ => none) b) : g.N0 b := by
  rcases h with h | ⟨i, h⟩
  · exact h
  · cases h
/-- the state at a body's entry -/
theorem IV.start {g : Gh} {m : List Nat} {H : Hp} {vs : List V} {ds : List D} {k : Nat} (G : GOk g H) (q : RpAll w g.N0 H vs ds) (hm : ∀ i, i ∈ m → vs.length ≤ i) :
    IV w g m none (fun _ => none) (ds.map some ++ List.replicate k none) (vs.map some ++ List.replicate k none) H := by
  have hd := q.length
  have get : ∀ i d, (ds.map some ++ List.replicate k none)[i]? = some (some d) → i < vs.length ∧ ds[i]? = some d := fun i d h => by
    by_cases hi : i < ds.length
    · rw [List.getElem?_append_left (by simpa using hi), List.getElem?_map] at h
      cases e : ds[i]? with
      | none => rw [e] at h; cases h
      | some a => rw [e] at h; cases h; exact ⟨by omega, rfl⟩
    · rw [List.getElem?_append_right (by simpa using hi), List.getElem?_replicate] at h
      split at h <;> cases h
  refine ⟨by simp [hd], fun i d h1 _ => ?_, fun i d h1 h2 => ?_, fun i e => (by cases e), fun i a e => (by cases e), fun i j a e => (by cases e), G.n0, G.sn⟩
  · obtain ⟨h3, h4⟩ := get i d h1
    obtain ⟨v, h5, h6⟩ := q.get h4
    refine ⟨v, ?_, h6.move fun b o e n => ⟨e, fun z => n (own0_N z)⟩⟩
    rw [List.getElem?_append_left (by simpa using h3), List.getElem?_map, h5]
    rfl
  · obtain ⟨h3, _⟩ := get i d h1
    exact absurd (hm i h2) (by omega)
theorem IV.startS {g : Gh} {m : List Nat} {H : Hp} {vs : List V} {ds : List D} {k : Nat} {aS aC : Addr} (G : GOk g H) (hs : g.sa = some (aS, aC)) (q : RpAll w g.N0 H vs ds) (hm : ∀ i, i ∈ m → vs.length + 1 ≤ i) :
    IV w g m (some 0) (fun _ => none) (none :: (ds.map some ++ List.replicate k none)) (some (.ref aS) :: (vs.map some ++ List.replicate k none)) H := by
  have J := IV.start (w := w) (k := k) (m := m.map (· - 1)) G q (fun i hi => by
    obtain ⟨j, h1, rfl⟩ := List.mem_map.mp hi
    have := hm j h1
    omega)
  refine ⟨by have := J.len; simpa using this, fun i d h1 h2 => ?_, fun i d h1 h2 => ?_, fun i e => (by cases e; exact ⟨aS, aC, hs, rfl⟩), fun i a e => (by cases e), fun i j a e => (by cases e), G.n0, G.sn⟩
  · cases i with
    | zero => cases h1
    | succ i =>
      have h1 : (ds.map some ++ List.replicate k none)[i]? = some (some d) := by simpa using h1
      by_cases hi : i ∈ m.map (· - 1)
      · obtain ⟨a, _, h4, _⟩ := J.ow i d h1 hi
        cases h4
      · obtain ⟨v, h3, h4⟩ := J.cl i d h1 hi
        exact ⟨v, by simpa using h3, h4⟩
  · cases i with
    | zero => cases h1
    | succ i =>
      have h1 : (ds.map some ++ List.replicate k none)[i]? = some (some d) := by simpa using h1
      obtain ⟨a, _, h4, _⟩ := J.ow i d h1 (List.mem_map.mpr ⟨i + 1, h2, rfl⟩)
      cases h4

/-- a def entered: what its body does is what the call does -/
theorem enterC {C : Value → Prop} {x qual : Str} {st : Stmt} {f : Addr} {fd : FuncData} {N ps : List Str} {k : Nat} {sp : Sp} (F : Fun K x qual st f fd) (S : FnScope N ps (defScope st)) (len : ∀ vs H Q E, sp vs H Q E → vs.length = ps.length)
    (hC : ∀ (oc : Value) (od : Option Addr) (kV doc pm : Value) (an : Option Addr) (cdv ct : Value) (osl : Array (Option Value)), K.lookup f = some ⟨oc, od, .func (PySem.W.fnOf x qual (defArgs st) (defBody st) (defScope st) .none kV doc pm an cdv ct), osl⟩ → C cdv)
    (hbody : ∀ (cdv : Value), C cdv → ∀ (A : Around) (outer : List PySem.Env) (s : Shared) (H : Hp) (vs : List V) (Q : VK), (A.deeper (envOfC qual (defScope st) s.heap.objs.size f cdv)).guards = some [] → Room k (A.deeper (envOfC qual (defScope st) s.heap.objs.size f cdv)) → sp vs H Q E0 →
      ∃ t, PSs (cxOf CX0 P w K mg base N qual (defScope st) f cdv A outer s H E0).nox (defBody st) t ∧ t { nx := fun _ H' => Q .non H', rt := Q } (L2.start N vs) H) : FnG P w K mg base (k + 1) f fd ps sp := by
  obtain ⟨oc, od, kV, doc, pm, an, cdv, ct, osl, rfl, lk, hcd⟩ := F.ex
  constructor
  · exact len
  intro A outer s H args us vs Q hgd hr e0 hb rv hq
  have inK : K.In s.heap := e0.mod.kin.keeps fun c o e => (e0.bs c o e).1
  have nolim : s.heap.NoLimit := e0.mod.nolimit.keeps fun c o e => (e0.bs c o e).1
  have kinds : ∀ y ∈ ps.zip us, (defScope st).names.lookup y.1 = some .local ∨ ((defScope st).names.lookup y.1 = some .cell ∧ ((cellsFrom (s.heap.objs.size + 1) (defScope st).names []).lookup y.1).isSome = true) := by
    rintro ⟨n, v⟩ hy
    exact (S.par n (List.of_mem_zip hy).1).elim .inl fun q => .inr ⟨q, PySem.W.cellsFrom_some _ _ _ (.inl q)⟩
  apply codeAny_call_function hr.depth (inK _ _ lk) rfl S.co S.gen rfl (PySem.W.codeRec_of inK hcd)
  apply hb
  apply wpAny_newFunctionEnv_cells S.kind kinds
  intro env he s1 x
  subst he
  refine ⟨nolim.keeps x.toInCall.keep, codeAny_func ?_⟩
  obtain ⟨t, ht, q⟩ := hbody cdv (hC _ _ _ _ _ _ _ _ _ lk) A outer s H vs Q hgd (hr.deeper _) hq
  have I : Inv (cxOf CX0 P w K mg base N qual (defScope st) f cdv A outer s H E0) [] (L2.start N vs) H s1 := inv_start S hr.hd e0 (len _ _ _ _ hq) rv x
  refine wpAny_mono (ht.nox.run [] s1 (L2.start N vs) H _ I q) (fun fl s' e => ?_) fun e s' q => q
  cases fl with
  | ret u =>
    obtain ⟨v, σ', H', J, r', q'⟩ := e
    exact ⟨v, H', J.os, J.bare, J.base, J.hok, r', q'⟩
  | next =>
    obtain ⟨σ', H', J, q'⟩ := e
    exact ⟨.non, H', J.os, J.bare, J.base, J.hok, rfl, q'⟩
  | brk => exact absurd e (by rintro ⟨_, _, _, z⟩; exact z)
  | cont => exact absurd e (by rintro ⟨_, _, _, z⟩; exact z)

theorem enter {x qual : Str} {st : Stmt} {f : Addr} {fd : FuncData} {N ps : List Str} {k : Nat} {sp : Sp} (F : Fun K x qual st f fd) (S : FnScope N ps (defScope st)) (len : ∀ vs H Q E, sp vs H Q E → vs.length = ps.length)
    (hbody : ∀ (cdv : Value) (A : Around) (outer : List PySem.Env) (s : Shared) (H : Hp) (vs : List V) (Q : VK), (A.deeper (envOfC qual (defScope st) s.heap.objs.size f cdv)).guards = some [] → Room k (A.deeper (envOfC qual (defScope st) s.heap.objs.size f cdv)) → sp vs H Q E0 →
      ∃ t, PSs (cxOf CX0 P w K mg base N qual (defScope st) f cdv A outer s H E0).nox (defBody st) t ∧ t { nx := fun _ H' => Q .non H', rt := Q } (L2.start N vs) H) : FnG P w K mg base (k + 1) f fd ps sp :=
  enterC (C := fun _ => True) F S len (fun _ _ _ _ _ _ _ _ _ _ => trivial) fun cdv _ => hbody cdv

/-- statements of values as the hand layer has them -/
theorem VSs.pss {m m' ml : List Nat} {sl : Option Nat} {X : Cx} {sts : List Stmt} {fs : DS} (h : VSs m m' ml sl X sts fs) : PSs X sts (fun D σ H => ∃ g own ρ z r z', IV X.w g m sl own ρ σ H ∧ SrcOk g H z ∧ fs ρ z = some (r, z') ∧ match r with
    | .nx ρ' => ∀ σ' H' own', Gr g own H own' H' → IV X.w g m' sl own' ρ' σ' H' → SrcOk g H' z' → D.nx σ' H'
    | .bk ρ' => ∀ σ' H' own', Gr g own H own' H' → IV X.w g ml sl own' ρ' σ' H' → SrcOk g H' z' → D.bk σ' H'
    | .ct ρ' => ∀ σ' H' own', Gr g own H own' H' → IV X.w g ml sl own' ρ' σ' H' → SrcOk g H' z' → D.ct σ' H'
    | .rt d => ∀ v H', Kp (g.W own) H H' → SrcOk g H' z' → Rp X.w g.N0 H' v d → D.rt v H') := ⟨fun pins s σ H D I ⟨g, own, ρ, z, r, z', J, S, hf, q⟩ =>
  thn (h.run pins s σ H g own ρ z r z' I J S hf) fun f s1 e => by
    cases r with
    | nx ρ' => obtain ⟨rfl, σ', H', own', I1, G1, J1, S1⟩ := e; exact ⟨σ', H', I1, q σ' H' own' G1 J1 S1⟩
    | bk ρ' => obtain ⟨rfl, σ', H', own', I1, G1, J1, S1⟩ := e; exact ⟨σ', H', I1, q σ' H' own' G1 J1 S1⟩
    | ct ρ' => obtain ⟨rfl, σ', H', own', I1, G1, J1, S1⟩ := e; exact ⟨σ', H', I1, q σ' H' own' G1 J1 S1⟩
    | rt d => obtain ⟨u, v, σ', H', rfl, I1, r1, k1, S1, q1⟩ := e; exact ⟨v, σ', H', I1, r1, q v H' k1 S1 q1⟩⟩
theorem W0 {g : Gh} {b : Addr} (h : g.W (fun _ => none) b) : g.src b := by
  rcases h with h | ⟨i, h⟩
  · exact h
  · cases h
/-- THE RULE for a def: its body's denotation -/
theorem okVC {C : Value → Prop} {x qual : Str} {st : Stmt} {f : Addr} {fd : FuncData} {N ps : List Str} {k n : Nat} {m m' : List Nat} {fb : DS} (F : Fun K x qual st f fd) (S : FnScope N ps (defScope st)) (hn : ps.length = n) (hm : ∀ i, i ∈ m → n ≤ i)
    (hC : ∀ (oc : Value) (od : Option Addr) (kV doc pm : Value) (an : Option Addr) (cdv ct : Value) (osl : Array (Option Value)), K.lookup f = some ⟨oc, od, .func (PySem.W.fnOf x qual (defArgs st) (defBody st) (defScope st) .none kV doc pm an cdv ct), osl⟩ → C cdv)
    (hbody : ∀ (cdv : Value), C cdv → ∀ (A : Around) (outer : List PySem.Env) (s : Shared) (H : Hp), (A.deeper (envOfC qual (defScope st) s.heap.objs.size f cdv)).guards = some [] → Room k (A.deeper (envOfC qual (defScope st) s.heap.objs.size f cdv)) →
      VSs m m' [] none (cxOf CX0 P w K mg base N qual (defScope st) f cdv A outer s H E0).nox (defBody st) fb) : FnG P w K mg base (k + 1) f fd ps (spV w n (runF N.length n fb)) := by
  refine enterC F S (fun vs H Q E h => h.1.trans hn.symm) hC fun cdv hcdv A outer s H vs Q hgd hr hq => ?_
  obtain ⟨hl, g, ds, z, d, z', G, So, q, hf, fin⟩ := hq
  refine ⟨_, (hbody cdv hcdv A outer s H hgd hr).pss, ?_⟩
  have hd := q.length
  unfold runF at hf
  rw [if_pos (by omega)] at hf
  obtain ⟨⟨r, z1⟩, h1, h2⟩ := Option.bind_eq_some_iff.mp hf
  refine ⟨g, fun _ => none, _, z, r, z1, ?_, So, h1, ?_⟩
  · unfold L2.start
    rw [hl]
    exact IV.start G q fun i hi => by have := hm i hi; omega
  · cases r with
    | rt d' =>
      cases h2
      exact fun v H' k S1 q1 => fin v H' (k.mono fun b => W0) S1 q1
    | nx ρ' =>
      cases h2
      exact fun σ' H' own' G1 J1 S1 => fin .non H' (G1.kp.mono fun b => W0) S1 .non
    | bk ρ' => cases h2
    | ct ρ' => cases h2
theorem okV {x qual : Str} {st : Stmt} {f : Addr} {fd : FuncData} {N ps : List Str} {k n : Nat} {m m' : List Nat} {fb : DS} (F : Fun K x qual st f fd) (S : FnScope N ps (defScope st)) (hn : ps.length = n) (hm : ∀ i, i ∈ m → n ≤ i)
    (hbody : ∀ (cdv : Value) (A : Around) (outer : List PySem.Env) (s : Shared) (H : Hp), (A.deeper (envOfC qual (defScope st) s.heap.objs.size f cdv)).guards = some [] → Room k (A.deeper (envOfC qual (defScope st) s.heap.objs.size f cdv)) →
      VSs m m' [] none (cxOf CX0 P w K mg base N qual (defScope st) f cdv A outer s H E0).nox (defBody st) fb) : FnG P w K mg base (k + 1) f fd ps (spV w n (runF N.length n fb)) :=
  okVC (C := fun _ => True) F S hn hm (fun _ _ _ _ _ _ _ _ _ _ => trivial) fun cdv _ => hbody cdv
theorem okS {x qual : Str} {st : Stmt} {f : Addr} {fd : FuncData} {N ps : List Str} {k n : Nat} {m m' : List Nat} {fb : DS} (F : Fun K x qual st f fd) (S : FnScope N ps (defScope st)) (hn : ps.length = n + 1) (hm : ∀ i, i ∈ m → n + 1 ≤ i)
    (hbody : ∀ (cdv : Value) (A : Around) (outer : List PySem.Env) (s : Shared) (H : Hp), (A.deeper (envOfC qual (defScope st) s.heap.objs.size f cdv)).guards = some [] → Room k (A.deeper (envOfC qual (defScope st) s.heap.objs.size f cdv)) →
      VSs m m' [] (some 0) (cxOf CX0 P w K mg base N qual (defScope st) f cdv A outer s H E0).nox (defBody st) fb) : FnG P w K mg base (k + 1) f fd ps (spS w n (runS N.length n fb)) := by
  refine enter F S (fun vs H Q E h => h.1.trans hn.symm) fun cdv A outer s H vs Q hgd hr hq => ?_
  obtain ⟨hl, g, aS, aC, xs, ds, z, d, z', rfl, hs, G, So, q, hf, fin⟩ := hq
  refine ⟨_, (hbody cdv A outer s H hgd hr).pss, ?_⟩
  have hd := q.length
  have hl' : xs.length = n := by simpa using hl
  unfold runS at hf
  rw [if_pos (by omega)] at hf
  obtain ⟨⟨r, z1⟩, h1, h2⟩ := Option.bind_eq_some_iff.mp hf
  refine ⟨g, fun _ => none, _, z, r, z1, ?_, So, h1, ?_⟩
  · show IV w g m (some 0) _ _ (some (.ref aS) :: (xs.map some ++ List.replicate (N.length - (xs.length + 1)) none)) H
    rw [hl']
    exact IV.startS G hs q fun i hi => by have := hm i hi; omega
  · cases r with
    | rt d' =>
      cases h2
      exact fun v H' k S1 q1 => fin v H' (k.mono fun b => W0) S1 q1
    | nx ρ' =>
      cases h2
      exact fun σ' H' own' G1 J1 S1 => fin .non H' (G1.kp.mono fun b => W0) S1 .non
    | bk ρ' => cases h2
    | ct ρ' => cases h2
end

/-! ### calls -/
section
variable {m : List Nat} {sl : Option Nat} {X : Cx} {k : Nat} {f : Addr} {fd : FuncData} {ps : List Str} {sp : Sp} {x : Str} {p pos : Pos} {e : Expr} {es : List Expr} {fs : DA}
theorem run_g {pins : List (Addr × Obj)} {σ : L2.St} {H : Hp} {s : Shared} {Q : VK} {us : List Value} {vs : List V} (F : FnG X.prog X.w X.K X.mg X.base k f fd ps sp) (hgd : X.A.guards = some []) (hr : Room k X.A) (hb : Binds X.K fd ps [])
    (I : Inv X pins σ H s) (r : Vals vs us) (h : sp vs H Q E0) : wpAny (model X.prog X.w) X.A (call (.ref f) us) (EP X pins σ Q) X.xe s := by
  have hl : (us ++ []).length = ps.length := by
    rw [List.append_nil, ← r.length]
    exact F.len _ _ _ _ h
  have hb' := hb s us I.kIn hl
  rw [List.append_nil] at hb'
  refine wpAny_call (codeAny_mono (F.run X.A X.stack s H ⟨us, []⟩ us vs Q hgd hr I.env0 hb' r h) fun res s' q => ?_)
  cases res with
  | error e => exact q.elim
  | ok fl =>
    cases fl with
    | ret u => exact I.after q
    | _ => exact q.elim
def eCall (F : DFn) (fs : DA) : DE := fun ρ z => (fs ρ z).bind fun p => F p.1 p.2
theorem eCall_some {F : DFn} {ρ : Env} {z z' : Src} {d : D} (h : eCall F fs ρ z = some (d, z')) : ∃ ds z1, fs ρ z = some (ds, z1) ∧ F ds z1 = some (d, z') := by
  unfold eCall at h
  obtain ⟨q, h1, h2⟩ := Option.bind_eq_some_iff.mp h
  exact ⟨q.1, q.2, h1, h2⟩
theorem IV.gok {w : World} {g : Gh} {own : Own} {ρ : Env} {σ : L2.St} {H : Hp} (J : IV w g m sl own ρ σ H) : GOk ⟨g.N own, g.sa, g.tb⟩ H := ⟨fun a n => J.nm n, fun a n => .inl (J.sn a n)⟩
/-- f(e, ..), its arguments shared -/
theorem ve_call {n : Nat} {F : DFn} (G : FnG X.prog X.w X.K X.mg X.base k f fd ps (spV X.w n F)) (hgd : X.A.guards = some []) (hr : Room k X.A) (hg : Gl X x) (hm : X.mg x = some (.ref f)) (hk : PySem.W.keepIn X.K (.ref f) = true) (hb : Binds X.K fd ps [])
    (ha : VC m sl X (e :: es) fs) (hn : (e :: es).length = n := by rfl) (hlen : ∀ ρ z ds z', fs ρ z = some (ds, z') → ds.length = n) (hdb : (x == ("__debug__" : Str)) = false := by decide) (he : starEach (e :: es) X.env = (false, eval e X.env) :: starEach es X.env := by rfl) (hpl : (backTo pos (starEach es X.env)).any (·.1) = false := by rfl) :
    VE m sl X (.Call (.Name x p) (e :: es) [] pos) (eCall F fs) := ⟨fun pins s σ H g own ρ z d z' I J S hf => by
  obtain ⟨ds, z1, h1, h2⟩ := eCall_some hf
  refine wpAny_Call_Name_kw (ld_glob I hg hm ?_ hdb)
  refine PySem.W.callWith_K (h₀ := X.base) I.ok.mod.kin hk (thn (ha.run pos pins s σ H g own ρ z ds z1 I J S h1) fun us s1 ⟨vs, H1, I1, r, k1, S1, q⟩ => ⟨I1.kIn, ?_⟩) he hpl
  have J1 := J.keep k1 S1
  refine thn (run_g (Q := fun v H' => Kp g.src H1 H' ∧ SrcOk g H' z' ∧ Rp X.w (g.N own) H' v d) G hgd hr hb I1 r ⟨by rw [q.length]; exact hlen _ _ _ _ h1, ⟨g.N own, g.sa, g.tb⟩, ds, z1, d, z', J1.gok, S1, q, h2, fun v H' k2 S2 q2 => ⟨k2, S2, q2⟩⟩) fun u s2 ⟨v, H2, I2, r2, k2, S2, q2⟩ => ?_
  exact ⟨v, H2, I2, r2, k1.trans k2, S2, q2⟩⟩
/-- f(source, e, ..) -/
theorem ve_callS {n i : Nat} {y : Str} {py : Pos} {F : DFn} (G : FnG X.prog X.w X.K X.mg X.base k f fd ps (spS X.w n F)) (hgd : X.A.guards = some []) (hr : Room k X.A) (hg : Gl X x) (hm : X.mg x = some (.ref f)) (hk : PySem.W.keepIn X.K (.ref f) = true) (hb : Binds X.K fd ps [])
    (hi : sl = some i) (hy : PE X (.Name y py) (tVar i)) (ha : VC m sl X es fs) (hn : es.length = n := by rfl) (hlen : ∀ ρ z ds z', fs ρ z = some (ds, z') → ds.length = n) (hdb : (x == ("__debug__" : Str)) = false := by decide)
    (he : starEach (.Name y py :: es) X.env = (false, eval (.Name y py) X.env) :: starEach es X.env := by rfl) (hpl : (backTo pos (starEach es X.env)).any (·.1) = false := by rfl) :
    VE m sl X (.Call (.Name x p) (.Name y py :: es) [] pos) (eCall F fs) := ⟨fun pins s σ H g own ρ z d z' I J S hf => by
  obtain ⟨ds, z1, h1, h2⟩ := eCall_some hf
  obtain ⟨aS, aC, hs, h3⟩ := J.src i hi
  refine wpAny_Call_Name_kw (ld_glob I hg hm ?_ hdb)
  have args : wpAny (model X.prog X.w) X.A (spliced (backTo pos (starEach (.Name y py :: es) X.env))) (fun us s' => ∃ vs H', Inv X pins σ H' s' ∧ Vals (.ref aS :: vs) us ∧ Kp g.src H H' ∧ SrcOk g H' z1 ∧ RpAll X.w (g.N own) H' vs ds) X.xe s := by
    rw [he]
    show wpAny _ _ (spliced ((false, eval (.Name y py) X.env) :: backTo pos (starEach es X.env))) _ _ s
    refine Calls.spliced_cons (thn (hy.run pins s σ H (fun v H' => v = .ref aS ∧ H' = H) I ⟨_, h3, rfl, rfl⟩) fun u s1 ⟨v, H1, I1, r1, e1, e2⟩ => ?_)
    subst e1 e2
    exact thn (ha.run pos pins s1 σ _ g own ρ z ds z1 I1 J S h1) fun us s2 ⟨vs, H2, I2, r2, k2, S2, q2⟩ => ⟨vs, H2, I2, .cons r1 r2, k2, S2, q2⟩
  refine PySem.W.callWith_K (h₀ := X.base) I.ok.mod.kin hk (thn args fun us s1 ⟨vs, H1, I1, r, k1, S1, q⟩ => ⟨I1.kIn, ?_⟩) he hpl
  have J1 := J.keep k1 S1
  refine thn (run_g (Q := fun v H' => Kp g.src H1 H' ∧ SrcOk g H' z' ∧ Rp X.w (g.N own) H' v d) G hgd hr hb I1 r ⟨by show vs.length + 1 = n + 1; rw [q.length, hlen _ _ _ _ h1], ⟨g.N own, g.sa, g.tb⟩, aS, aC, vs, ds, z1, d, z', rfl, hs, J1.gok, S1, q, h2, fun v H' k2 S2 q2 => ⟨k2, S2, q2⟩⟩) fun u s2 ⟨v, H2, I2, r2, k2, S2, q2⟩ => ?_
  exact ⟨v, H2, I2, r2, k1.trans k2, S2, q2⟩⟩
end
end VL
set_option Elab.async false
set_option linter.all false
set_option maxRecDepth 100000
set_option maxHeartbeats 4000000
/-! The value layer, part 7: targets; what is walked; for-loops. -/
namespace VL
open PySem PySem.Spec PyProof.Rows L2

abbrev DG := D → Env → Option Env
abbrev DGs := List D → Env → Option Env
abbrev DI := Env → Src → Option (List D × Src)

/-- a target takes a shared value -/
structure VG (m : List Nat) (sl : Option Nat) (X : Cx) (is : List Nat) (tg : Expr) (f : DG) : Prop where
  run : ∀ (pins : List (Addr × Obj)) (s : Shared) (σ : L2.St) (H : Hp) (g : Gh) (own : Own) (ρ : Env) (v : V) (u : Value) (d : D) (ρ' : Env), Inv X pins σ H s → IV X.w g m sl own ρ σ H → RelV v u → Rp X.w (g.N own) H v d → f d ρ = some ρ' →
    wpAny (model X.prog X.w) X.A (assign tg X.env u) (fun _ s' => ∃ σ', Inv X pins σ' H s' ∧ IV X.w g m sl own ρ' σ' H ∧ ∀ vs : List Nat, (∀ i, i ∈ is → i ∈ vs) → wipe σ' vs = wipe σ vs) X.xe s
structure VGs (m : List Nat) (sl : Option Nat) (X : Cx) (is : List Nat) (tgs : List Expr) (f : DGs) : Prop where
  run : ∀ (pins : List (Addr × Obj)) (s : Shared) (σ : L2.St) (H : Hp) (g : Gh) (own : Own) (ρ : Env) (vs : List V) (us : List Value) (ds : List D) (ρ' : Env), Inv X pins σ H s → IV X.w g m sl own ρ σ H → Vals vs us → RpAll X.w (g.N own) H vs ds → f ds ρ = some ρ' →
    wpAny (model X.prog X.w) X.A (assignInOrder ((assignEach tgs X.env).map (·.2)) us) (fun _ s' => ∃ σ', Inv X pins σ' H s' ∧ IV X.w g m sl own ρ' σ' H ∧ ∀ vs : List Nat, (∀ i, i ∈ is → i ∈ vs) → wipe σ' vs = wipe σ vs) X.xe s
theorem wipe_set {σ : L2.St} {i : Nat} {x : Option V} : ∀ {vs : List Nat}, i ∈ vs → wipe (σ.set i x) vs = wipe σ vs
  | [], h => by cases h
  | v :: vs, h => by
    unfold wipe
    by_cases hv : i ∈ vs
    · rw [wipe_set hv]
    · have e : i = v := by
        rcases List.mem_cons.mp h with h | h
        · exact h
        · exact absurd h hv
      subst e
      have key : ∀ (ws : List Nat) (σ : L2.St), i ∉ ws → wipe (σ.set i x) ws = (wipe σ ws).set i x := by
        intro ws
        induction ws with
        | nil => intro σ _; rfl
        | cons w ws ih =>
          intro σ hw
          have h1 : w ≠ i := fun e => hw (by rw [e]; exact List.mem_cons_self)
          have h2 : i ∉ ws := fun z => hw (List.mem_cons_of_mem _ z)
          unfold wipe
          rw [ih σ h2, List.set_comm _ _ (Ne.symm h1)]
      rw [key vs σ hv, List.set_set]
section
variable {m : List Nat} {sl : Option Nat} {X : Cx} {pos : Pos} {is js : List Nat} {tg : Expr} {f : DG} {fs : DGs}
def gV (i : Nat) : DG := fun d ρ => some (ρ.set i (some d))
theorem vg_name {i : Nat} {x : Str} (hN : X.N.Nodup) (hi : X.N[i]? = some x := by rfl) (hx : Loc X.env.scope x := by first | exact Or.inl rfl | exact Or.inr rfl) (hm : i ∉ m := by decide) (hsl : sl ≠ some i := by decide)
    (hf : X.fn x = true ∨ X.env.scope.names.lookup x = some .local := by first | exact .inl rfl | exact .inr rfl) : VG m sl X [i] (.Name x pos) (gV i) := ⟨fun pins s σ H g own ρ v u d ρ' I J r q h => by
  cases h
  exact wpAny_assign_Name (store_ok I hN hi hx r (fun s' I' => ⟨_, I', J.set hm hsl (J.slot I hi) q, fun vs hv => wipe_set (hv i (by simp))⟩) hf)⟩
def gsNil : DGs := fun ds ρ => if ds.isEmpty then some ρ else none
def gsCons (f : DG) (fs : DGs) : DGs := fun ds ρ => match ds with
  | d :: r => (f d ρ).bind fun ρ1 => fs r ρ1
  | [] => none
theorem vgs_nil : VGs m sl X [] [] gsNil := ⟨fun pins s σ H g own ρ vs us ds ρ' I J r q h => by
  cases ds with
  | nil =>
    cases h
    cases q
    cases r
    exact assignInOrder_nil ⟨σ, I, J, fun _ _ => rfl⟩
  | cons d ds => cases h⟩
theorem vgs_cons {e : Expr} {es : List Expr} (h1 : VG m sl X is e f) (h2 : VGs m sl X js es fs)
    (hs : (assignEach (e :: es) X.env).map (·.2) = assign e X.env :: (assignEach es X.env).map (·.2) := by rfl) : VGs m sl X (is ++ js) (e :: es) (gsCons f fs) := ⟨fun pins s σ H g own ρ vs us ds ρ' I J r q h => by
  cases ds with
  | nil => cases h
  | cons d ds =>
    obtain ⟨ρ1, e1, e2⟩ := Option.bind_eq_some_iff.mp h
    cases q with
    | cons q qs =>
      cases r with
      | cons r rr =>
        rw [hs]
        refine assignInOrder_cons (thn (h1.run pins s σ H g own ρ _ _ d ρ1 I J r q e1) fun _ s1 ⟨σ1, I1, J1, w1⟩ => ?_)
        exact thn (h2.run pins s1 σ1 H g own ρ1 _ _ ds ρ' I1 J1 rr qs e2) fun _ s2 ⟨σ2, I2, J2, w2⟩ => ⟨σ2, I2, J2, fun vs hv => (w2 vs fun i hi => hv i (List.mem_append_right _ hi)).trans (w1 vs fun i hi => hv i (List.mem_append_left _ hi))⟩⟩
/-- (a, b, ..): a tuple or a list -/
def gT (fs : DGs) : DG := fun d ρ => match d with
  | .tuple ds => fs ds ρ
  | .list ds => fs ds ρ
  | _ => none
theorem gs_len {es : List Expr} (hl : ∀ ds ρ ρ', fs ds ρ = some ρ' → ds.length = es.length) : True := trivial
theorem vg_tup {es : List Expr} {k : Nat} {n : Nat} (hc : X.calm = true) (h : VGs m sl X is es fs) (hl : ∀ ds ρ ρ', fs ds ρ = some ρ' → ds.length = n)
    (hn : (assignEach es X.env).length = n := by rfl) (hst : (assignEach es X.env).findIdx? (·.1) = none := by rfl) : VG m sl X is (.Tuple es k pos) (gT fs) := ⟨fun pins s σ H g own ρ v u d ρ' I J r q hf => by
  cases d with
  | tuple ds =>
    have hf : fs ds ρ = some ρ' := hf
    cases q with
    | tup ha na ra =>
      cases r
      obtain ⟨its, rv, ht, hz⟩ := I.tuple (SqT.of ha)
      refine assign_Tuple_tuple (I.ok.hd hc) ht ?_ hst fun h' hx => ?_
      · rw [hn, ← hl _ _ _ hf, ← ra.length, rv.length]
        simp
      have I1 : Inv X pins σ H { s with heap := h' } := I.kept (t' := s.toks) fun b o e => hx b o (Nat.ne_of_lt (Heap.lt_size e)) e
      exact h.run pins _ σ H g own ρ _ _ ds ρ' I1 J (by simpa using rv) ra hf
  | list ds =>
    have hf : fs ds ρ = some ρ' := hf
    cases q with
    | lst ha na ra =>
      cases r
      obtain ⟨its, rv, pl, hz⟩ := I.list (SqL.of ha)
      have hl' := pl.isList
      have hn' : (assignEach es X.env).length = its.toArray.size := by
        rw [hn, ← hl _ _ _ hf, ← ra.length, rv.length]
        simp
      rw [PyProof.Rows.assign_Tuple]
      refine wpAny_bind (wpAny_standAt ?_)
      unfold unpack
      rw [hn', hst]
      refine wpAny_bind (wpAny_holding (PySem.W.kun_itemsOf (I.ok.hd hc) hl' fun h' hx => ?_))
      have I1 : Inv X pins σ H { s with heap := h' } := I.kept (t' := s.toks) fun b o e => hx b o (Nat.ne_of_lt (Heap.lt_size e)) e
      exact h.run pins _ σ H g own ρ _ _ ds ρ' I1 J (by simpa using rv) ra hf
  | _ => cases hf⟩
theorem gs0 : ∀ ds ρ ρ', gsNil ds ρ = some ρ' → ds.length = 0 := fun ds ρ ρ' h => by
  cases ds with
  | nil => rfl
  | cons => cases h
theorem gsS {n : Nat} (h : ∀ ds ρ ρ', fs ds ρ = some ρ' → ds.length = n) : ∀ ds ρ ρ', gsCons f fs ds ρ = some ρ' → ds.length = n + 1 := fun ds ρ ρ' e => by
  cases ds with
  | nil => cases e
  | cons d r =>
    obtain ⟨ρ1, _, e2⟩ := Option.bind_eq_some_iff.mp e
    rw [List.length_cons, h _ _ _ e2]
end

/-! ### a locked dict -/
inductive Lk (H_0 : Hp) (N : Addr → Prop) (H H' : Hp) : Prop
  | no (e : H' = H) : Lk H_0 N H H'
  | yes (d : Addr) (od : Obj) (u : HO) (h : H d = some u) (dc : IsDc u) (n : ¬ N d) (e : H' = upd H d (.frz od u)) (nf : ∀ o' u', H_0 d ≠ some (.frz o' u')) : Lk H_0 N H H'
section
variable {H_0 : Hp} {N : Addr → Prop} {H H' : Hp} {w : World} {g : Gh} {m : List Nat} {sl : Option Nat} {own : Own} {ρ : Env} {σ : L2.St} {z : Src}
theorem Lk.sm (k : Lk H_0 N H H') (b : Addr) : SmO (H b) (H' b) := by
  cases k with
  | no e => rw [e]; exact .inl rfl
  | yes d od u h dc n e nf =>
    subst e
    by_cases c : b = d
    · subst c; rw [upd_same, h]; exact .inr (.inr ⟨od, u, rfl, dc, rfl⟩)
    · rw [upd_ne c]; exact .inl rfl
theorem Lk.inN (k : Lk H_0 N H H') {b : Addr} (h : N b) : H' b = H b := by
  cases k with
  | no e => rw [e]
  | yes d od u h' dc n e nf => rw [e, upd_ne (fun c : b = d => n (c ▸ h))]
theorem Lk.nn (k : Lk H_0 N H H') {b : Addr} (h : H b = none) : H' b = none := by
  cases k with
  | no e => rw [e]; exact h
  | yes d od u h' dc n e nf => rw [e, upd_ne (ne_of_none h' h).symm]; exact h
theorem Lk.ss (k : Lk H_0 N H H') {b : Addr} (h : H b ≠ Option.none) : H' b ≠ Option.none := by
  cases k with
  | no e => rw [e]; exact h
  | yes d od u h' dc n e nf =>
    rw [e]
    by_cases c : b = d
    · subst c; rw [upd_same]; exact fun z => by cases z
    · rw [upd_ne c]; exact h
theorem IV.lk (J : IV w g m sl own ρ σ H) (k : Lk H_0 (g.N own) H H') : IV w g m sl own ρ σ H' := by
  have mv : ∀ b, H b ≠ none → ¬ g.N own b → SmO (H b) (H' b) ∧ ¬ g.N own b := fun b _ n => ⟨k.sm b, n⟩
  refine ⟨J.len, fun i d h1 h2 => ?_, fun i d h1 h2 => ?_, J.src, fun i a h => ?_, J.oi, fun a h => ?_, J.sn⟩
  · obtain ⟨v, h3, h4⟩ := J.cl i d h1 h2
    exact ⟨v, h3, h4.moveL mv⟩
  · obtain ⟨a, h3, h4, h5⟩ := J.ow i d h1 h2
    exact ⟨a, h3, h4, h5.moveL mv (k.sm a)⟩
  · obtain ⟨h1, h2, h3⟩ := J.om i a h
    exact ⟨h1, h2, by rw [k.inN (.inr ⟨i, h⟩)]; exact h3⟩
  · rw [k.inN (.inl h)]; exact J.n0 a h
theorem SrcOk.lk (S : SrcOk g H z) (k : Lk H_0 (g.N own) H H') (hs : ∀ a, g.src a → g.N0 a) : SrcOk g H' z := S.keep fun b o e n => by
  rcases n with n | ⟨c, q, rfl⟩
  · rw [k.inN (.inl (hs b n))]; exact e
  · cases k with
    | no e2 => rw [e2]; exact e
    | yes d od u h' dc n e2 nf =>
      rw [e2]
      have hb : b ≠ d := fun z => by
        subst z
        rw [h'] at e
        cases e
        exact dc c q rfl
      rw [upd_ne hb]
      exact e
theorem SmO.code {x y : Option HO} {o : HO} (h : SmO x y) (e : x = some o) (c : IsCode o) : y = some o := by
  obtain ⟨c, q, rfl⟩ := c
  rcases h with h | ⟨o, u, h, _, _⟩ | ⟨o, u, h, d, _⟩
  · rw [h, e]
  · rw [e] at h; cases h
  · rw [e] at h; cases h; exact (d c q rfl).elim
theorem SrcOk.sm (S : SrcOk g H z) (sm : ∀ b, SmO (H b) (H' b)) (eq : ∀ b, g.src b → H' b = H b) : SrcOk g H' z := S.keep fun b o e n => by
  rcases n with n | n
  · rw [eq b n]; exact e
  · exact (sm b).code e n
theorem SrcOk.wr {a : Addr} {o : HO} (S : SrcOk g H z) (hn : ¬ g.src a) (mu : Mut (H a)) : SrcOk g (upd H a o) z := S.keep fun b u e n => by
  refine (upd_ne fun c => ?_).trans e
  subst c
  rcases n with n | ⟨c, q, rfl⟩
  · exact hn n
  · rw [e] at mu; exact mu.noc c q rfl
/-- the lock is taken away at the end: H1 as it was, H2 locked, H' what came of it -/
theorem Lk.back {H1 H2 : Hp} {X : Cx} {pins : List (Addr × Obj)} {s : Shared} {W : Addr → Prop} (k : Lk X.H_0 N H1 H2) (hw : ∀ b, W b → N b) (I : Inv X pins σ H' s) (kp : Kp W H2 H') :
    ∃ H3, Inv X pins σ H3 s ∧ (∀ b, SmO (H' b) (H3 b)) ∧ (∀ b, H' b = none → H3 b = none) ∧ (∀ b, N b ∨ H1 b = none → H3 b = H' b) ∧ Kp W H1 H3 := by
  cases k with
  | no e =>
    subst e
    exact ⟨H', I, fun b => .inl rfl, fun b h => h, fun b h => rfl, kp⟩
  | yes d od u h dc n e nf =>
    subst e
    have hd : H' d = some (.frz od u) := kp d _ upd_same fun z => n (hw d z)
    refine ⟨_, I.unlock hd nf, fun b => ?_, fun b hb => ?_, fun b hb => ?_, fun b o hb hn => ?_⟩
    · by_cases c : b = d
      · subst c; rw [upd_same, hd]; exact .inr (.inl ⟨od, u, rfl, dc, rfl⟩)
      · rw [upd_ne c]; exact .inl rfl
    · rw [upd_ne (ne_of_none hd hb).symm]; exact hb
    · refine upd_ne fun c => ?_
      subst c
      rcases hb with hb | hb
      · exact n hb
      · rw [h] at hb; cases hb
    · by_cases c : b = d
      · subst c
        rw [h] at hb
        cases hb
        exact upd_same
      · rw [upd_ne c]
        exact kp b o (by rw [upd_ne c]; exact hb) hn
theorem IV.unlk {H3 : Hp} (J : IV w g m sl own ρ σ H) (sm : ∀ b, SmO (H b) (H3 b)) (eq : ∀ b, g.N own b → H3 b = H b) : IV w g m sl own ρ σ H3 := by
  have mv : ∀ b, H b ≠ none → ¬ g.N own b → SmO (H b) (H3 b) ∧ ¬ g.N own b := fun b _ n => ⟨sm b, n⟩
  refine ⟨J.len, fun i d h1 h2 => ?_, fun i d h1 h2 => ?_, J.src, fun i a h => ?_, J.oi, fun a h => ?_, J.sn⟩
  · obtain ⟨v, h3, h4⟩ := J.cl i d h1 h2
    exact ⟨v, h3, h4.moveL mv⟩
  · obtain ⟨a, h3, h4, h5⟩ := J.ow i d h1 h2
    exact ⟨a, h3, h4, h5.moveL mv (sm a)⟩
  · obtain ⟨h1, h2, h3⟩ := J.om i a h
    exact ⟨h1, h2, by rw [eq a (.inr ⟨i, h⟩)]; exact h3⟩
  · rw [eq a (.inl h)]; exact J.n0 a h
end

/-! ### what is walked -/
structure Wk (w : World) (N W : Addr → Prop) (J : It) (ds : List D) (H0 : Hp) : Prop where
  go : ∀ i H, i < ds.length → Kp W H0 H → J.go i H
  stop : ∀ i H, ds.length ≤ i → Kp W H0 H → J.stop i H
  item : ∀ i H x H' d (N' : Addr → Prop), ds[i]? = some d → Kp W H0 H → (∀ b, N' b → H b ≠ none) → (∀ b, H0 b ≠ none → ¬ N b → ¬ N' b) → J.yld i H x H' → L2.Same H H' ∧ Rp w N' H' x d
def Gh.Wl (g : Gh) (lp : Bool) (own : Own) : Addr → Prop := if lp = true then g.W own else g.src
structure VI (lp : Bool) (m : List Nat) (sl : Option Nat) (X : Cx) (tg iter : Expr) (f : DI) : Prop where
  run : ∀ (pins : List (Addr × Obj)) (s : Shared) (σ : L2.St) (H : Hp) (g : Gh) (own : Own) (ρ : Env) (z : Src) (ds : List D) (z' : Src), Inv X pins σ H s → IV X.w g m sl own ρ σ H → SrcOk g H z → f ρ z = some (ds, z') →
    wpAny (model X.prog X.w) X.A (eval iter X.env) (fun v s1 => wpAny (model X.prog X.w) X.A (pyIter v) (PIE X pins σ tg fun J H2 => ∃ H1, Kp g.src H H1 ∧ SrcOk g H1 z' ∧ Lk X.H_0 (g.N own) H1 H2 ∧ Wk X.w (g.N own) (g.Wl lp own) J ds H2) X.xe s1) X.xe s
theorem Wk.comp {w : World} {N : Addr → Prop} {g : Gh} {own : Own} {J : It} {ds : List D} {H0 : Hp} {lp : Bool} (h : Wk w N (g.Wl lp own) J ds H0) : Wk w N g.src J ds H0 := by
  have up : ∀ b, g.src b → g.Wl lp own b := fun b n => by
    unfold Gh.Wl
    split
    · exact .inl n
    · exact n
  exact ⟨fun i H a k => h.go i H a (k.mono up), fun i H a k => h.stop i H a (k.mono up), fun i H x H' d N' a k b c e => h.item i H x H' d N' a (k.mono up) b c e⟩

/-! ### the judgements as the hand layer has them -/
section
variable {lp : Bool} {m m' ml : List Nat} {sl : Option Nat} {X : Cx} {e tg iter : Expr} {es : List Expr} {f : DE} {ft : DT} {fi : DI} {fg : DG} {is : List Nat} {fa : DA}
def tE (w : World) (m : List Nat) (sl : Option Nat) (f : DE) : L2.TE := fun σ H Q => ∃ (g : Gh) (own : Own) (ρ : Env) (z : Src) (d : D) (z' : Src), IV w g m sl own ρ σ H ∧ SrcOk g H z ∧ f ρ z = some (d, z') ∧ ∀ v H', Kp g.src H H' → SrcOk g H' z' → Rp w (g.N own) H' v d → Q v H'
theorem VE.pe (h : VE m sl X e f) : PE X e (tE X.w m sl f) := ⟨fun pins s σ H Q I ⟨g, own, ρ, z, d, z', J, S, hf, q⟩ =>
  thn (h.run pins s σ H g own ρ z d z' I J S hf) fun u s1 ⟨v, H', I1, r, k, S1, q1⟩ => ⟨v, H', I1, r, q v H' k S1 q1⟩⟩
def tR (w : World) (m : List Nat) (sl : Option Nat) (f : DE) : L2.TE := fun σ H Q => ∃ (g : Gh) (own : Own) (ρ : Env) (z : Src) (d : D) (z' : Src), IV w g m sl own ρ σ H ∧ SrcOk g H z ∧ f ρ z = some (d, z') ∧ ∀ v H', Kp g.src H H' → SrcOk g H' z' → Rd w g own H' v d → Q v H'
theorem VR.pe (h : VR m sl X e f) : PE X e (tR X.w m sl f) := ⟨fun pins s σ H Q I ⟨g, own, ρ, z, d, z', J, S, hf, q⟩ =>
  thn (h.run pins s σ H g own ρ z d z' I J S hf) fun u s1 ⟨v, H', I1, r, k, S1, q1⟩ => ⟨v, H', I1, r, q v H' k S1 q1⟩⟩
def tT (w : World) (m : List Nat) (sl : Option Nat) (f : DT) : L2.TT := fun σ H Q => ∃ (g : Gh) (own : Own) (ρ : Env) (z : Src) (b : Bool) (z' : Src), IV w g m sl own ρ σ H ∧ SrcOk g H z ∧ f ρ z = some (b, z') ∧ ∀ H', Kp g.src H H' → SrcOk g H' z' → Q b H'
theorem VT.pt (h : VT m sl X e ft) : PT X e (tT X.w m sl ft) := ⟨fun pins s σ H Q I ⟨g, own, ρ, z, d, z', J, S, hf, q⟩ =>
  thn (h.run _ rfl pins s σ H g own ρ z d z' I J S hf) fun u s1 ⟨e, H', I1, k, S1⟩ => ⟨H', I1, e ▸ q H' k S1⟩⟩
def tA (w : World) (m : List Nat) (sl : Option Nat) (f : DA) : L2.TA := fun σ H Q => ∃ (g : Gh) (own : Own) (ρ : Env) (z : Src) (ds : List D) (z' : Src), IV w g m sl own ρ σ H ∧ SrcOk g H z ∧ f ρ z = some (ds, z') ∧ ∀ vs H', Kp g.src H H' → SrcOk g H' z' → RdAll w g own H' vs ds → Q vs H'
theorem VA.pa (h : VA m sl X es fa) : PA X es (tA X.w m sl fa) := ⟨fun pos pins s σ H Q I ⟨g, own, ρ, z, d, z', J, S, hf, q⟩ =>
  thn (h.run pos pins s σ H g own ρ z d z' I J S hf) fun u s1 ⟨v, H', I1, r, k, S1, q1⟩ => ⟨v, H', I1, r, q v H' k S1 q1⟩⟩
def tG (w : World) (m : List Nat) (sl : Option Nat) (is : List Nat) (f : DG) : L2.TG := fun v σ H Q => ∃ (g : Gh) (own : Own) (ρ : Env) (d : D) (ρ' : Env), IV w g m sl own ρ σ H ∧ Rp w (g.N own) H v d ∧ f d ρ = some ρ' ∧ ∀ σ', IV w g m sl own ρ' σ' H → (∀ vs : List Nat, (∀ i, i ∈ is → i ∈ vs) → wipe σ' vs = wipe σ vs) → Q σ' H
theorem VG.pg (h : VG m sl X is tg fg) : PG X tg (tG X.w m sl is fg) := ⟨fun pins s σ H v u Q I r ⟨g, own, ρ, d, ρ', J, q, hf, k⟩ =>
  thn (h.run pins s σ H g own ρ v u d ρ' I J r q hf) fun _ s1 ⟨σ', I1, J1, w1⟩ => ⟨σ', H, I1, k σ' J1 w1⟩⟩
def tI (w : World) (H_0 : Hp) (lp : Bool) (m : List Nat) (sl : Option Nat) (f : DI) : L2.TI := fun σ H R => ∃ (g : Gh) (own : Own) (ρ : Env) (z : Src) (ds : List D) (z' : Src), IV w g m sl own ρ σ H ∧ SrcOk g H z ∧ f ρ z = some (ds, z') ∧
  ∀ J H1 H2, Kp g.src H H1 → SrcOk g H1 z' → Lk H_0 (g.N own) H1 H2 → Wk w (g.N own) (g.Wl lp own) J ds H2 → R J H2
theorem VI.pi (h : VI lp m sl X tg iter fi) : PI X tg iter (tI X.w X.H_0 lp m sl fi) := ⟨fun pins s σ H R I ⟨g, own, ρ, z, ds, z', J, S, hf, q⟩ =>
  thn (h.run pins s σ H g own ρ z ds z' I J S hf) fun v s1 h1 => thn h1 fun itv s2 ⟨it, fp, tn, Ji, H2, e, I2, T, st, f, H1, k, S1, L, Wq⟩ => ⟨it, fp, tn, Ji, H2, e, I2, T, st, f, q Ji H1 H2 k S1 L Wq⟩⟩
end
end VL
set_option Elab.async false
set_option linter.all false
set_option maxRecDepth 100000
set_option maxHeartbeats 4000000
/-! The value layer, part 8: for-loops, while-loops, list comprehensions. -/
namespace VL
open PySem PySem.Spec PyProof.Rows L2

def loopF (g : DG) (fb : DS) : List D → DS
  | [], ρ, z => some (.nx ρ, z)
  | d :: ds, ρ, z => (g d ρ).bind fun ρ1 => (fb ρ1 z).bind fun p => match p.1 with
    | .nx ρ2 => loopF g fb ds ρ2 p.2
    | .ct ρ2 => loopF g fb ds ρ2 p.2
    | .bk ρ2 => some (.nx ρ2, p.2)
    | .rt d => some (.rt d, p.2)
def sFor (it : DI) (g : DG) (fb : DS) : DS := fun ρ z => (it ρ z).bind fun p => loopF g fb p.1 ρ p.2

section
variable {m m' ml : List Nat} {sl : Option Nat} {X : Cx} {tg iter : Expr} {body : List Stmt} {fi : DI} {fg : DG} {fb : DS} {is : List Nat} {pos : Pos}
theorem Gh.Wl_true {g : Gh} {own : Own} : g.Wl true own = g.W own := rfl
theorem Gh.Wl_false {g : Gh} {own : Own} : g.Wl false own = g.src := rfl
theorem IV.WN {w : World} {g : Gh} {own : Own} {ρ : Env} {σ : L2.St} {H : Hp} (J : IV w g m sl own ρ σ H) : ∀ b, g.W own b → g.N own b := fun b h => by
  rcases h with h | h
  · exact .inl (J.sn b h)
  · exact .inr h
theorem Gr.W {g : Gh} {o1 o2 : Own} {H1 H2 : Hp} (G : Gr g o1 H1 o2 H2) {b : Addr} (h : H1 b ≠ none) (n : ¬ g.W o1 b) : ¬ g.W o2 b := fun z => by
  rcases z with z | ⟨i, z⟩
  · exact n (.inl z)
  · rcases G.nw i b z with ⟨j, q⟩ | q
    · exact n (.inr ⟨j, q⟩)
    · exact h q
theorem Gr.N {g : Gh} {o1 o2 : Own} {H1 H2 : Hp} (G : Gr g o1 H1 o2 H2) {b : Addr} (h : H1 b ≠ none) (n : ¬ g.N o1 b) : ¬ g.N o2 b := fun z => by
  rcases z with z | ⟨i, z⟩
  · exact n (.inl z)
  · rcases G.nw i b z with ⟨j, q⟩ | q
    · exact n (.inr ⟨j, q⟩)
    · exact h q
theorem Gr.same {g : Gh} {o1 o2 : Own} {H1 H2 H3 : Hp} (G : Gr g o1 H1 o2 H2) (s : L2.Same H2 H3) : Gr g o1 H1 o2 H3 := ⟨fun b o h n => s b o (G.kp b o h n), G.nw, G.ns⟩
theorem IV.same {w : World} {g : Gh} {own : Own} {ρ : Env} {σ : L2.St} {H H' : Hp} {z : Src} (J : IV w g m sl own ρ σ H) (S : SrcOk g H z) (s : L2.Same H H') : IV w g m sl own ρ σ H' := J.keep (Same.kp s) (S.same s)

/-- behind a loop whose dict was locked -/
def LPost (X : Cx) (g : Gh) (own0 : Own) (H : Hp) (m : List Nat) (sl : Option Nat) (r : Fl) (z' : Src) (want : Env → Fl) (σ' : L2.St) (H' : Hp) : Prop :=
  ∃ H1 H2 own' ρ', Kp g.src H H1 ∧ Lk X.H_0 (g.N own0) H1 H2 ∧ Gr g own0 H2 own' H' ∧ IV X.w g m sl own' ρ' σ' H' ∧ SrcOk g H' z' ∧ r = want ρ'
theorem vs_for (hN : X.calm = true) (hp : PassesOwn (model X.prog X.w) X.A X.env X.xe) (hi : VI true m sl X tg iter fi) (hg : VG m sl X is tg fg) (hb : VSs m m m sl X body fb)
    (hs : ∀ x, foldedSetIterable iter X.env x = pure x := by intro _; rfl) : VS m m ml sl X (.For tg iter body [] pos) (sFor fi fg fb) := ⟨fun pins s σ H g own ρ z r z' I J S hf => by
  obtain ⟨⟨ds, z1⟩, e1, e2⟩ := Option.bind_eq_some_iff.mp hf
  have key := (ps_for (pos := pos) hp hN hi.pi hg.pg hb.pss hs).run pins s σ H
    ⟨fun σ' H' => LPost X g own H m sl r z' .nx σ' H', fun v H' => ∃ H1 H2 d, Kp g.src H H1 ∧ Lk X.H_0 (g.N own) H1 H2 ∧ Kp (g.W own) H2 H' ∧ SrcOk g H' z' ∧ Rp X.w g.N0 H' v d ∧ r = .rt d, fun _ _ => False, fun _ _ => False⟩ I
    ⟨g, own, ρ, z, ds, z1, J, S, e1, fun Ji H1 H2 k1 S1 L Wq => by
      have J1 := J.keep k1 S1
      have J2 := J1.lk L
      have S2 := S1.lk L J.sn
      refine ⟨fun i n σ' H' => n = ds.length - i ∧ i ≤ ds.length ∧ ∃ own' ρ' z2, Gr g own H2 own' H' ∧ IV X.w g m sl own' ρ' σ' H' ∧ SrcOk g H' z2 ∧ loopF fg fb (ds.drop i) ρ' z2 = some (r, z'), ⟨_, rfl, Nat.zero_le _, own, ρ, z1, J2.gr Kp.refl, J2, S2, e2⟩, ?_⟩
      rintro i n σ3 H3 ⟨rfl, hi', own3, ρ3, z3, G3, J3, S3, l3⟩
      by_cases hlt : i < ds.length
      · refine .inr ⟨Wq.go i H3 hlt G3.kp, ?_⟩
        have hd : ds[i]? = some ds[i] := List.getElem?_eq_getElem hlt
        rw [List.drop_eq_getElem_cons hlt] at l3
        simp only [loopF] at l3
        obtain ⟨ρ4, e4, l4⟩ := Option.bind_eq_some_iff.mp l3
        obtain ⟨⟨r5, z5⟩, e5, l5⟩ := Option.bind_eq_some_iff.mp l4
        refine ⟨fun σ' H' => i + 1 ≤ ds.length ∧ ∃ own' ρ' z2, Gr g own H2 own' H' ∧ IV X.w g m sl own' ρ' σ' H' ∧ SrcOk g H' z2 ∧ loopF fg fb (ds.drop (i + 1)) ρ' z2 = some (r, z'), fun σ' H' q => ⟨ds.length - (i + 1), by omega, rfl, q⟩, fun x H4 y => ?_⟩
        obtain ⟨sm, rx⟩ := Wq.item i H3 x H4 ds[i] (g.N own3) hd G3.kp (fun b h => J3.nw h) (fun b h n => G3.N h n) y
        have J4 := J3.same S3 sm
        have S4 := S3.same sm
        have G4 := G3.same sm
        refine ⟨g, own3, ρ3, ds[i], ρ4, J4, rx, e4, fun σ5 J5 _ => ?_⟩
        refine ⟨g, own3, ρ4, z3, r5, z5, J5, S4, e5, ?_⟩
        cases r5 with
        | nx ρ6 => exact fun σ6 H6 own6 G6 J6 S6 => ⟨hlt, own6, ρ6, z5, G4.trans G6, J6, S6, l5⟩
        | ct ρ6 => exact fun σ6 H6 own6 G6 J6 S6 => ⟨hlt, own6, ρ6, z5, G4.trans G6, J6, S6, l5⟩
        | bk ρ6 =>
          cases l5
          exact fun σ6 H6 own6 G6 J6 S6 => ⟨H1, H2, own6, ρ6, k1, L, G4.trans G6, J6, S6, rfl⟩
        | rt d =>
          cases l5
          refine fun v H6 k6 S6 q6 => ⟨H1, H2, d, k1, L, fun b o hb n => ?_, S6, q6, rfl⟩
          exact k6 b o (G4.kp b o hb n) (G4.W (by rw [hb]; exact fun e => nomatch e) n)
      · have e : i = ds.length := by omega
        subst e
        refine .inl ⟨Wq.stop _ H3 (Nat.le_refl _) G3.kp, ?_⟩
        rw [List.drop_length] at l3
        cases l3
        exact ⟨H1, H2, own3, ρ3, k1, L, G3, J3, S3, rfl⟩⟩
  refine thn key fun f s1 q => ?_
  cases f with
  | next =>
    obtain ⟨σ', H', I', H1, H2, own', ρ', k1, L, G, J', S', e⟩ := q
    subst e
    have Gn : ∀ b, H1 b = none → H2 b = none := fun b h => L.nn h
    obtain ⟨H3, I3, sm, nn, eq, kp⟩ := L.back (W := g.W own) J.WN I' G.kp
    have ow : ∀ i a, own' i = some a → (∃ j, own j = some a) ∨ H1 a = none := fun i a h => by
      rcases G.nw i a h with q | q
      · exact .inl q
      · cases e : H1 a with
        | none => exact .inr rfl
        | some o => exact absurd q (L.ss (by rw [e]; exact fun z => nomatch z))
    have eq' : ∀ b, g.N own' b → H3 b = H' b := fun b h => by
      rcases h with h | ⟨i, h⟩
      · exact eq b (.inl (.inl h))
      · rcases ow i b h with ⟨j, q⟩ | q
        · exact eq b (.inl (.inr ⟨j, q⟩))
        · exact eq b (.inr q)
    refine ⟨rfl, σ', H3, own', I3, ?_, J'.unlk sm eq', S'.sm sm fun b n => eq b (.inl (.inl (J.sn b n)))⟩
    refine (J.gr k1).trans ⟨kp, ow, G.ns⟩
  | brk => obtain ⟨_, _, _, q⟩ := q; exact q.elim
  | cont => obtain ⟨_, _, _, q⟩ := q; exact q.elim
  | ret u =>
    obtain ⟨v, σ', H', I', rv, H1, H2, d, k1, L, kp, S', q', e⟩ := q
    subst e
    obtain ⟨H3, I3, sm, nn, eq, kp3⟩ := L.back (W := g.W own) J.WN I' kp
    refine ⟨u, v, σ', H3, rfl, I3, rv, fun b o hb n => ?_, S'.sm sm fun b n => eq b (.inl (.inl (J.sn b n))), q'.moveL fun b _ n => ⟨sm b, n⟩⟩
    exact kp3 b o (k1 b o hb fun z => n (.inl z)) n⟩

/-! ### while -/
/-- n turns at most -/
def whileF (t : DT) (fb : DS) : Nat → DS
  | 0, _, _ => none
  | n + 1, ρ, z => (t ρ z).bind fun p => if p.1 = true then (fb ρ p.2).bind fun q => match q.1 with
      | .nx ρ2 => whileF t fb n ρ2 q.2
      | .ct ρ2 => whileF t fb n ρ2 q.2
      | .bk ρ2 => some (.nx ρ2, q.2)
      | .rt d => some (.rt d, q.2)
    else some (.nx ρ, p.2)
/-- a while-loop means what it means with any fuel -/
noncomputable def sWhile (t : DT) (fb : DS) : DS := fun ρ z => by
  classical
  exact if h : ∃ n, (whileF t fb n ρ z).isSome then whileF t fb h.choose ρ z else none
theorem whileF_mono {t : DT} {fb : DS} : ∀ {n : Nat} {ρ : Env} {z : Src} {r : Fl × Src}, whileF t fb n ρ z = some r → whileF t fb (n + 1) ρ z = some r
  | 0, _, _, _, h => by cases h
  | n + 1, ρ, z, r, h => by
    unfold whileF at h ⊢
    obtain ⟨p, h1, h2⟩ := Option.bind_eq_some_iff.mp h
    rw [h1]
    show (if p.1 = true then _ else _) = _
    by_cases c : p.1 = true
    · rw [if_pos c] at h2 ⊢
      obtain ⟨q, h3, h4⟩ := Option.bind_eq_some_iff.mp h2
      rw [h3]
      obtain ⟨q1, q2⟩ := q
      cases q1 with
      | nx ρ2 => exact whileF_mono h4
      | ct ρ2 => exact whileF_mono h4
      | bk ρ2 => exact h4
      | rt d => exact h4
    · rw [if_neg c] at h2 ⊢
      exact h2
theorem whileF_le {t : DT} {fb : DS} {n k : Nat} {ρ : Env} {z : Src} {r : Fl × Src} (h : whileF t fb n ρ z = some r) (hk : n ≤ k) : whileF t fb k ρ z = some r := by
  induction hk with
  | refl => exact h
  | step _ ih => exact whileF_mono ih
theorem sWhile_of {t : DT} {fb : DS} {n : Nat} {ρ : Env} {z : Src} {r : Fl × Src} (h : whileF t fb n ρ z = some r) : sWhile t fb ρ z = some r := by
  classical
  have ex : ∃ n, (whileF t fb n ρ z).isSome := ⟨n, by rw [h]; rfl⟩
  unfold sWhile
  rw [dif_pos ex]
  obtain ⟨r', h'⟩ := Option.isSome_iff_exists.mp ex.choose_spec
  rw [h', ← whileF_le h' (Nat.le_max_left _ n), whileF_le h (Nat.le_max_right _ _)]
theorem of_sWhile {t : DT} {fb : DS} {ρ : Env} {z : Src} {r : Fl × Src} (h : sWhile t fb ρ z = some r) : ∃ n, whileF t fb n ρ z = some r := by
  classical
  unfold sWhile at h
  split at h
  · exact ⟨_, h⟩
  · cases h
theorem sWhile_eq {t : DT} {fb : DS} {ρ : Env} {z : Src} : sWhile t fb ρ z = (t ρ z).bind fun p => if p.1 = true then (fb ρ p.2).bind fun q => match q.1 with
      | .nx ρ2 => sWhile t fb ρ2 q.2
      | .ct ρ2 => sWhile t fb ρ2 q.2
      | .bk ρ2 => some (.nx ρ2, q.2)
      | .rt d => some (.rt d, q.2)
    else some (.nx ρ, p.2) := by
  have key : ∀ r, sWhile t fb ρ z = some r ↔ ((t ρ z).bind fun p => if p.1 = true then (fb ρ p.2).bind fun q => match q.1 with
      | .nx ρ2 => sWhile t fb ρ2 q.2
      | .ct ρ2 => sWhile t fb ρ2 q.2
      | .bk ρ2 => some (.nx ρ2, q.2)
      | .rt d => some (.rt d, q.2)
    else some (.nx ρ, p.2)) = some r := by
    intro r
    constructor
    · intro h
      obtain ⟨n, h⟩ := of_sWhile h
      cases n with
      | zero => cases h
      | succ n =>
        unfold whileF at h
        obtain ⟨p, h1, h2⟩ := Option.bind_eq_some_iff.mp h
        rw [h1]
        show (if p.1 = true then _ else _) = _
        by_cases c : p.1 = true
        · rw [if_pos c] at h2 ⊢
          obtain ⟨⟨q1, q2⟩, h3, h4⟩ := Option.bind_eq_some_iff.mp h2
          rw [h3]
          cases q1 with
          | nx ρ2 => exact sWhile_of h4
          | ct ρ2 => exact sWhile_of h4
          | bk ρ2 => exact h4
          | rt d => exact h4
        · rw [if_neg c] at h2 ⊢
          exact h2
    · intro h
      obtain ⟨p, h1, h2⟩ := Option.bind_eq_some_iff.mp h
      by_cases c : p.1 = true
      · rw [if_pos c] at h2
        obtain ⟨⟨q1, q2⟩, h3, h4⟩ := Option.bind_eq_some_iff.mp h2
        have go : ∀ n, (match q1 with
            | .nx ρ2 => whileF t fb n ρ2 q2
            | .ct ρ2 => whileF t fb n ρ2 q2
            | .bk ρ2 => some (Fl.nx ρ2, q2)
            | .rt d => some (Fl.rt d, q2)) = some r → sWhile t fb ρ z = some r := fun n hn => by
          refine sWhile_of (n := n + 1) ?_
          unfold whileF
          rw [h1]
          show (if p.1 = true then _ else _) = _
          rw [if_pos c, h3]
          exact hn
        cases q1 with
        | nx ρ2 => obtain ⟨n, hn⟩ := of_sWhile h4; exact go n hn
        | ct ρ2 => obtain ⟨n, hn⟩ := of_sWhile h4; exact go n hn
        | bk ρ2 => exact go 0 h4
        | rt d => exact go 0 h4
      · rw [if_neg c] at h2
        refine sWhile_of (n := 1) ?_
        unfold whileF
        rw [h1]
        show (if p.1 = true then _ else _) = _
        rw [if_neg c]
        exact h2
  cases e : sWhile t fb ρ z with
  | some r => exact ((key r).mp e).symm
  | none =>
    generalize hx : (Option.bind (t ρ z) _) = x
    cases x with
    | none => rfl
    | some r => rw [(key r).mpr hx] at e; cases e
theorem vs_while {c : Expr} {ft : DT} (hp : PassesOwn (model X.prog X.w) X.A X.env X.xe) (hc : VT m sl X c ft) (hb : VSs m m m sl X body fb) : VS m m ml sl X (.While c body [] pos) (sWhile ft fb) := ⟨fun pins s σ H g own ρ z r z' I J S hf => by
  obtain ⟨n0, hf⟩ := of_sWhile hf
  have key := (ps_while (pos := pos) hp hc.pt hb.pss).run pins s σ H
    ⟨fun σ' H' => ∃ own' ρ', Gr g own H own' H' ∧ IV X.w g m sl own' ρ' σ' H' ∧ SrcOk g H' z' ∧ r = .nx ρ', fun v H' => ∃ d, Kp (g.W own) H H' ∧ SrcOk g H' z' ∧ Rp X.w g.N0 H' v d ∧ r = .rt d, fun _ _ => False, fun _ _ => False⟩ I
    ⟨fun n σ' H' => ∃ own' ρ' z2, Gr g own H own' H' ∧ IV X.w g m sl own' ρ' σ' H' ∧ SrcOk g H' z2 ∧ whileF ft fb n ρ' z2 = some (r, z'), ⟨n0, own, ρ, z, J.gr Kp.refl, J, S, hf⟩, ?_⟩
  · refine thn key fun f s1 q => ?_
    cases f with
    | next =>
      obtain ⟨σ', H', I', own', ρ', G, J', S', e⟩ := q
      subst e
      exact ⟨rfl, σ', H', own', I', G, J', S'⟩
    | brk => obtain ⟨_, _, _, q⟩ := q; exact q.elim
    | cont => obtain ⟨_, _, _, q⟩ := q; exact q.elim
    | ret u =>
      obtain ⟨v, σ', H', I', rv, d, kp, S', q', e⟩ := q
      subst e
      exact ⟨u, v, σ', H', rfl, I', rv, kp, S', q'⟩
  · rintro n σ3 H3 ⟨own3, ρ3, z3, G3, J3, S3, l3⟩
    cases n with
    | zero => cases l3
    | succ n =>
      unfold whileF at l3
      obtain ⟨⟨b, z4⟩, e4, l4⟩ := Option.bind_eq_some_iff.mp l3
      refine ⟨g, own3, ρ3, z3, b, z4, J3, S3, e4, fun H4 k4 S4 => ?_⟩
      have J4 := J3.keep k4 S4
      have G4 := G3.trans (J3.gr k4)
      cases b with
      | true =>
        rw [if_pos rfl] at l4
        show (if true = true then _ else _)
        rw [if_pos rfl]
        obtain ⟨⟨r5, z5⟩, e5, l5⟩ := Option.bind_eq_some_iff.mp l4
        refine ⟨fun σ' H' => ∃ own' ρ' z2, Gr g own H own' H' ∧ IV X.w g m sl own' ρ' σ' H' ∧ SrcOk g H' z2 ∧ whileF ft fb n ρ' z2 = some (r, z'), fun σ' H' q => ⟨n, Nat.lt_succ_self _, q⟩, ?_⟩
        refine ⟨g, own3, ρ3, z4, r5, z5, J4, S4, e5, ?_⟩
        cases r5 with
        | nx ρ6 => exact fun σ6 H6 own6 G6 J6 S6 => ⟨own6, ρ6, z5, G4.trans G6, J6, S6, l5⟩
        | ct ρ6 => exact fun σ6 H6 own6 G6 J6 S6 => ⟨own6, ρ6, z5, G4.trans G6, J6, S6, l5⟩
        | bk ρ6 =>
          cases l5
          exact fun σ6 H6 own6 G6 J6 S6 => ⟨own6, ρ6, G4.trans G6, J6, S6, rfl⟩
        | rt d =>
          cases l5
          refine fun v H6 k6 S6 q6 => ⟨d, fun b o hb n => ?_, S6, q6, rfl⟩
          exact k6 b o (G4.kp b o hb n) (G4.W (by rw [hb]; exact fun e => nomatch e) n)
      | false =>
        rw [if_neg (fun h : false = true => nomatch h)] at l4
        show (if false = true then _ else _)
        rw [if_neg (by decide)]
        cases l4
        exact ⟨own3, ρ3, G4, J4, S4, rfl⟩⟩
end
end VL
set_option Elab.async false
set_option linter.all false
set_option maxRecDepth 100000
set_option maxHeartbeats 4000000
/-! The value layer, part 9: list comprehensions. -/
namespace VL
open PySem PySem.Spec PyProof.Rows L2

def wipeE (ρ : Env) : List Nat → Env
  | [] => ρ
  | v :: vs => (wipeE ρ vs).set v none
theorem wipeE_length (ρ : Env) : ∀ vs : List Nat, (wipeE ρ vs).length = ρ.length
  | [] => rfl
  | v :: vs => by unfold wipeE; rw [List.length_set, wipeE_length ρ vs]
theorem wipeE_some {ρ : Env} {i : Nat} {x : D} : ∀ {vs : List Nat}, (wipeE ρ vs)[i]? = some (some x) → ρ[i]? = some (some x) ∧ i ∉ vs
  | [], h => ⟨h, by simp⟩
  | v :: vs, h => by
    unfold wipeE at h
    by_cases hi : v = i
    · subst hi
      by_cases hv : v < (wipeE ρ vs).length
      · rw [List.getElem?_set_self hv] at h; cases h
      · rw [List.getElem?_eq_none (by simpa using hv)] at h; cases h
    · rw [List.getElem?_set_ne hi] at h
      obtain ⟨h1, h2⟩ := wipeE_some h
      exact ⟨h1, fun q => (List.mem_cons.mp q).elim (fun e => hi e.symm) h2⟩
/-- D, too, is to be left alone -/
def Gh.plus (g : Gh) (D : Addr) : Gh := ⟨fun b => g.N0 b ∨ b = D, g.sa, g.tb⟩
theorem Gh.plus_N {g : Gh} {D : Addr} {own : Own} {b : Addr} : (g.plus D).N own b ↔ NF (g.N own) D b := by
  constructor
  · rintro ((h | h) | h)
    · exact .inl (.inl h)
    · exact .inr h
    · exact .inl (.inr h)
  · rintro ((h | h) | h)
    · exact .inl (.inl h)
    · exact .inr h
    · exact .inl (.inr h)
theorem IV.blk {w : World} {g : Gh} {m : List Nat} {sl : Option Nat} {own : Own} {ρ : Env} {σ : L2.St} {H2 H : Hp} {z : Src} {A : Addr} {vs : List Nat} (J : IV w g m sl own ρ σ H2) (k : Kp g.src H2 H) (S : SrcOk g H z) (hD : H2 A = none) (mu : Mut (H A)) (hs : ∀ i, sl = some i → i ∉ vs) :
    IV w (g.plus A) m sl own (wipeE ρ vs) (wipe σ vs) H := by
  have J1 := J.keep k S
  have mv : ∀ b o, H2 b = some o → ¬ g.N own b → H b = some o ∧ ¬ (g.plus A).N own b := fun b o e n => ⟨k b o e (J.srcN n), fun z => by
    rcases Gh.plus_N.mp z with z | z
    · exact n z
    · rw [z, hD] at e; cases e⟩
  refine ⟨by rw [wipeE_length, wipe_length, J.len], fun i d h1 h2 => ?_, fun i d h1 h2 => ?_, fun i e => ?_, fun i a h => ?_, J.oi, fun a h => ?_, fun a h => .inl (J.sn a h)⟩
  · obtain ⟨h1, h3⟩ := wipeE_some h1
    obtain ⟨v, h4, h5⟩ := J.cl i d h1 h2
    exact ⟨v, by rw [wipe_out h3]; exact h4, h5.move mv⟩
  · obtain ⟨h1, h3⟩ := wipeE_some h1
    obtain ⟨a, h4, h5, h6⟩ := J.ow i d h1 h2
    exact ⟨a, by rw [wipe_out h3]; exact h4, h5, h6.move mv fun o e => k a o e (J.nsrc i a h5)⟩
  · obtain ⟨aS, aC, h1, h2⟩ := J.src i e
    exact ⟨aS, aC, h1, by rw [wipe_out (hs i e)]; exact h2⟩
  · obtain ⟨h1, h2, h3⟩ := J1.om i a h
    refine ⟨h1, fun z => ?_, h3⟩
    rcases z with z | z
    · exact h2 z
    · exact mut_some (J.om i a h).2.2 (z ▸ hD)
  · rcases h with h | h
    · exact J1.n0 a h
    · rw [h]; exact .inl mu
def tTrue : DT := fun _ z => some (true, z)
structure VTs (m : List Nat) (sl : Option Nat) (X : Cx) (ifs : List Expr) (ft : DT) : Prop where
  pts : PTs X ifs (tT X.w m sl ft)
section
variable {m : List Nat} {sl : Option Nat} {X : Cx} {c : Expr} {ft : DT}
theorem vts_nil : VTs m sl X [] tTrue := ⟨⟨fun pins s σ H Q I ⟨g, own, ρ, z, b, z', J, S, hf, q⟩ => by
  cases hf
  exact wpAny_tests_nil ⟨H, I, q H Kp.refl S⟩⟩⟩
theorem vts_one (h : VT m sl X c ft) : VTs m sl X [c] ft := ⟨pts_one h.pt⟩
end

def lcF (g : DG) (t : DT) (e : DE) (ρ : Env) : List D → Src → Option (List D × Src)
  | [], z => some ([], z)
  | d :: ds, z => (g d ρ).bind fun ρ1 => (t ρ1 z).bind fun p => if p.1 = true then (e ρ1 p.2).bind fun q => (lcF g t e ρ ds q.2).map fun r => (q.1 :: r.1, r.2) else lcF g t e ρ ds p.2
def eLc (fi : DI) (g : DG) (t : DT) (e : DE) (vs : List Nat) : DE := fun ρ z => (fi ρ z).bind fun p => if p.1.length ≤ sizeLine then (lcF g t e (wipeE ρ vs) p.1 p.2).map fun q => (.list q.1, q.2) else none
/-- behind a comprehension's loop: the new list at A -/
def LcPost (X : Cx) (g : Gh) (own : Own) (H : Hp) (z' : Src) (ds : List D) (v : V) (H' : Hp) : Prop :=
  ∃ A H1 H2 acc, v = .ref A ∧ Kp g.src H H1 ∧ (∀ b, g.src b → H1 b ≠ none) ∧ Lk X.H_0 (g.N own) H1 H2 ∧ Kp g.src H2 H' ∧ SrcOk g H' z' ∧ H2 A = none ∧ H' A = some (.lst acc) ∧ RpAll X.w (NF (g.N own) A) H' acc ds
section
variable {lp : Bool} {m ml : List Nat} {sl : Option Nat} {X : Cx} {elt tg iter : Expr} {ifs : List Expr} {fi : DI} {fg : DG} {ft : DT} {fe : DE} {is vs : List Nat} {pos : Pos} {scope : Scope} {cown : List (Str × Nat)}
theorem lc_sat {pins : List (Addr × Obj)} {σ : L2.St} {H : Hp} {g : Gh} {own : Own} {ρ : Env} {z z' : Src} {d : D} (J : IV X.w g m sl own ρ σ H) (S : SrcOk g H z) (hf : eLc fi fg ft fe vs ρ z = some (d, z')) (his : ∀ i, i ∈ is → i ∈ vs) (hs : ∀ i, sl = some i → i ∉ vs) :
    ∃ ds, d = .list ds ∧ tLc (tI X.w X.H_0 lp m sl fi) (tG X.w m sl is fg) (tT X.w m sl ft) (tE X.w m sl fe) vs σ H (LcPost X g own H z' ds) := by
  obtain ⟨⟨items, z1⟩, e1, hf⟩ := Option.bind_eq_some_iff.mp hf
  split at hf
  · rename_i hz
    have hz : items.length ≤ sizeLine := hz
    obtain ⟨⟨ds, z2⟩, e2, e3⟩ := Option.map_eq_some_iff.mp hf
    cases e3
    refine ⟨ds, rfl, g, own, ρ, z, items, z1, J, S, e1, fun Ji H1 H2 k1 S1 L Wq A hA => ?_⟩
    have Wc := Wq.comp
    have J2 := (J.keep k1 S1).lk L
    have S2 := S1.lk L J.sn
    refine ⟨fun i n H' => n = items.length - i ∧ i ≤ items.length ∧ ∃ acc dacc rest z3, Kp g.src H2 H' ∧ SrcOk g H' z3 ∧ H' A = some (.lst acc) ∧ RpAll X.w (NF (g.N own) A) H' acc dacc ∧ acc.length ≤ i ∧ lcF fg ft fe (wipeE ρ vs) (items.drop i) z3 = some (rest, z2) ∧ ds = dacc ++ rest, ⟨_, rfl, Nat.zero_le _, [], [], ds, z1, Kp.upd hA, S2.same (VL.same_upd hA), upd_same, .nil, Nat.le_refl _, e2, rfl⟩, ?_⟩
    rintro i n H3 ⟨rfl, hi', acc, dacc, rest, z3, k3, S3, hA3, r3, hl3, l3, e3⟩
    by_cases hlt : i < items.length
    · refine .inr ⟨Wc.go i H3 hlt k3, ?_⟩
      have hd : items[i]? = some items[i] := List.getElem?_eq_getElem hlt
      rw [List.drop_eq_getElem_cons hlt] at l3
      unfold lcF at l3
      obtain ⟨ρ4, e4, l4⟩ := Option.bind_eq_some_iff.mp l3
      obtain ⟨⟨b5, z5⟩, e5, l5⟩ := Option.bind_eq_some_iff.mp l4
      refine ⟨fun H' => i + 1 ≤ items.length ∧ ∃ acc dacc rest z3, Kp g.src H2 H' ∧ SrcOk g H' z3 ∧ H' A = some (.lst acc) ∧ RpAll X.w (NF (g.N own) A) H' acc dacc ∧ acc.length ≤ i + 1 ∧ lcF fg ft fe (wipeE ρ vs) (items.drop (i + 1)) z3 = some (rest, z2) ∧ ds = dacc ++ rest, fun H' q => ⟨items.length - (i + 1), by omega, rfl, q⟩, fun x H4 y => ?_⟩
      have JB := J2.blk (vs := vs) k3 S3 hA (by rw [hA3]; trivial) hs
      obtain ⟨sm, rx⟩ := Wc.item i H3 x H4 items[i] ((g.plus A).N own) hd k3 (fun b h => JB.nw h) (fun b h n q => by
        rcases Gh.plus_N.mp q with q | q
        · exact n q
        · rw [q, hA] at h; exact h rfl) y
      have S4 : SrcOk g H4 z3 := S3.same sm
      have JB4 : IV X.w (g.plus A) m sl own (wipeE ρ vs) (wipe σ vs) H4 := JB.keep (Same.kp sm) S4
      refine ⟨g.plus A, own, wipeE ρ vs, items[i], ρ4, JB4, rx, e4, fun σ5 J5 w5 => ⟨?_, ?_⟩⟩
      · have := w5 vs his
        rw [this]
        have ww : ∀ (us : List Nat), (∀ v, v ∈ us → v ∈ vs) → wipe (wipe σ vs) us = wipe σ vs := by
          intro us
          induction us with
          | nil => intro _; rfl
          | cons u us ih =>
            intro hu
            have ih := ih fun v hv => hu v (List.mem_cons_of_mem _ hv)
            show (wipe (wipe σ vs) us).set u none = wipe σ vs
            rw [ih]
            have hm := hu u List.mem_cons_self
            apply List.ext_getElem?
            intro j
            by_cases hj : u = j
            · subst hj
              by_cases hb : u < (wipe σ vs).length
              · rw [List.getElem?_set_self hb]
                cases e : (wipe σ vs)[u]? with
                | none => rw [List.getElem?_eq_none_iff] at e; omega
                | some o =>
                  cases o with
                  | none => rfl
                  | some v => exact absurd hm (wipe_some e).2
              · rw [List.getElem?_eq_none (by simpa using hb), List.getElem?_eq_none (by simpa using hb)]
            · rw [List.getElem?_set_ne hj]
        exact ww vs fun _ h => h
      · refine ⟨g.plus A, own, ρ4, z3, b5, z5, J5, S4, e5, fun H5 k5 S5 => ?_⟩
        have k5 : Kp g.src H4 H5 := k5
        have S5 : SrcOk g H5 z5 := S5
        have nA : ¬ g.src A := fun q => S2.at q hA
        have hA4 : H4 A = some (.lst acc) := sm A _ hA3
        have hA5 : H5 A = some (.lst acc) := k5 A _ hA4 nA
        have kk : Kp g.src H2 H5 := (k3.trans (Same.kp sm)).trans k5
        have r5 : RpAll X.w (NF (g.N own) A) H5 acc dacc := r3.move fun b o e n => ⟨k5 b o (sm b o e) fun q => n (.inl (.inl (J.sn b q))), n⟩
        cases b5 with
        | true =>
          rw [if_pos rfl] at l5
          show if true = true then _ else _
          rw [if_pos rfl]
          obtain ⟨⟨d6, z6⟩, e6, l6⟩ := Option.bind_eq_some_iff.mp l5
          obtain ⟨⟨rest7, z7⟩, e7, l7⟩ := Option.map_eq_some_iff.mp l6
          cases l7
          have J6 := J5.keep k5 S5
          refine ⟨g.plus A, own, ρ4, z5, d6, z6, J6, S5, e6, fun v H6 k6 S6 q6 => ?_⟩
          have k6 : Kp g.src H5 H6 := k6
          have S6 : SrcOk g H6 z6 := S6
          have hA6 : H6 A = some (.lst acc) := k6 A _ hA5 nA
          have q6' : Rp X.w (NF (g.N own) A) H6 v d6 := q6.move fun b o e n => ⟨e, fun q => n (Gh.plus_N.mpr q)⟩
          have r6 : RpAll X.w (NF (g.N own) A) H6 acc dacc := r5.move fun b o e n => ⟨k6 b o e fun q => n (.inl (.inl (J.sn b q))), n⟩
          refine ⟨acc, hA6, by omega, hlt, acc ++ [v], dacc ++ [d6], rest7, z6, fun b o e n => ?_, S6.wr nA (by rw [hA6]; trivial), upd_same, (r6.append (.one q6')).move fun b o e n => ⟨?_, n⟩, by rw [List.length_append]; exact Nat.succ_le_succ hl3, e7, by rw [e3, List.append_assoc]; rfl⟩
          · rw [upd_ne (ne_of_none e hA)]; exact k6 b o (kk b o e n) n
          · rw [upd_ne (fun c => n (.inr c))]; exact e
        | false =>
          rw [if_neg (fun h : false = true => nomatch h)] at l5
          show if false = true then _ else _
          rw [if_neg (by decide)]
          exact ⟨hlt, acc, dacc, rest, z5, kk, S5, hA5, r5, by omega, l5, e3⟩
    · have e : i = items.length := by omega
      subst e
      refine .inl ⟨Wc.stop _ H3 (Nat.le_refl _) k3, ?_⟩
      rw [List.drop_length] at l3
      cases l3
      rw [List.append_nil] at e3
      subst e3
      exact ⟨A, H1, H2, acc, rfl, k1, fun b h => S1.at h, L, k3, S3, hA, hA3, r3⟩
  · cases hf
/-- the lock is gone, the new list stands -/
theorem LcPost.fin {pins : List (Addr × Obj)} {s : Shared} {σ σ' : L2.St} {H H' : Hp} {g : Gh} {own : Own} {ρ : Env} {z' : Src} {ds : List D} {v : V} (J : IV X.w g m sl own ρ σ H) (q : LcPost X g own H z' ds v H') (I : Inv X pins σ' H' s) :
    ∃ A H3, v = .ref A ∧ Inv X pins σ' H3 s ∧ Kp g.src H H3 ∧ SrcOk g H3 z' ∧ H A = none ∧ Mut (H3 A) ∧ Sh X.w (NF (g.N own) A) H3 A (.list ds) := by
  obtain ⟨A, H1, H2, acc, rfl, k1, s1, L, k2, S, hA, hA', r⟩ := q
  obtain ⟨H3, I3, sm, nn, eq, kp⟩ := L.back (W := g.src) (fun b h => .inl (J.sn b h)) I k2
  have hA1 : H1 A = none := by
    cases e : H1 A with
    | none => rfl
    | some o => exact absurd hA (L.ss (by rw [e]; exact fun z => nomatch z))
  have h0 : H A = none := by
    cases e : H A with
    | none => rfl
    | some o =>
      by_cases n : g.src A
      · exact absurd hA1 (s1 A n)
      · rw [k1 A o e n] at hA1; cases hA1
  have e3 : H3 A = some (.lst acc) := by rw [eq A (.inr hA1)]; exact hA'
  exact ⟨A, H3, rfl, I3, k1.trans kp, S.sm sm fun b n => eq b (.inl (.inl (J.sn b n))), h0, by rw [e3]; trivial, .lst e3 (r.moveL fun b _ n => ⟨sm b, n⟩)⟩
/-- what a comprehension's block must keep -/
structure BlkD (lp : Bool) (m : List Nat) (sl : Option Nat) (X : Cx) (elt tg iter : Expr) (ifs : List Expr) (scope : Scope) (cown : List (Str × Nat)) (fi : DI) (fg : DG) (ft : DT) (fe : DE) (is : List Nat) : Prop where
  calm : X.calm = true
  N : X.N.Nodup
  it : VI lp m sl X tg iter fi
  ok : BlkOk X.N X.env.scope scope cown
  tgt : ∀ (s : Shared) (H : Hp) (C : Addr) (cl : List (Str × Addr)) (fp : List Addr), VG m sl (X.blk s H scope (compEnvC scope cl C X.env) fp) is tg fg
  tst : ∀ (s : Shared) (H : Hp) (C : Addr) (cl : List (Str × Addr)) (fp : List Addr), VTs m sl (X.blk s H scope (compEnvC scope cl C X.env) fp) ifs ft
  elt : ∀ (s : Shared) (H : Hp) (C : Addr) (cl : List (Str × Addr)) (fp : List Addr), VE m sl (X.blk s H scope (compEnvC scope cl C X.env) fp) elt fe
  his : ∀ i, i ∈ is → i ∈ cown.map (·.2)
  hsl : ∀ i, sl = some i → i ∉ cown.map (·.2)
theorem vf_lc (B : BlkD lp m sl X elt tg iter ifs scope cown fi fg ft fe is) (hs : ∀ x, foldedSetIterable iter X.env x = pure x := by intro _; rfl) :
    VF m sl X (.ListComp elt [⟨tg, iter, ifs, 0⟩] scope pos) (eLc fi fg ft fe (cown.map (·.2))) := ⟨fun pins s σ H g own ρ z d z' I J S hf => by
  obtain ⟨ds, rfl, sat⟩ := lc_sat (lp := lp) (is := is) (pins := pins) J S hf B.his B.hsl
  refine thn ((pe_lc B.calm B.N B.it.pi B.ok (fun s H C cl fp => (B.tgt s H C cl fp).pg) (fun s H C cl fp => (B.tst s H C cl fp).pts) (fun s H C cl fp => (B.elt s H C cl fp).pe) hs).run pins s σ H _ I sat) fun u s1 ⟨v, H', I1, r, q⟩ => ?_
  obtain ⟨A, H3, rfl, I3, k, S3, hn, mu, sh⟩ := q.fin J I1
  exact ⟨A, H3, I3, r, k, S3, hn, mu, sh⟩⟩
variable {i : Nat} {y : Str} {py spos : Pos}
/-- name = [..] -/
theorem vs_setLc (B : BlkD lp m sl X elt tg iter ifs scope cown fi fg ft fe is) (hy : X.N[i]? = some y := by rfl) (hyl : X.env.scope.names.lookup y = some .local := by rfl) (hsw : swapsWith (.ListComp elt [⟨tg, iter, ifs, 0⟩] scope pos) (some (.Name y py)) spos.line X.env = pure true := by exact sw_true rfl rfl rfl rfl)
    (hm : i ∉ m := by decide) (hsl : sl ≠ some i := by decide) (hs : ∀ x, foldedSetIterable iter X.env x = pure x := by intro _; rfl) :
    VS m m ml sl X (.Assign [.Name y py] (.ListComp elt [⟨tg, iter, ifs, 0⟩] scope pos) spos) (sAsg i (eLc fi fg ft fe (cown.map (·.2)))) := ⟨fun pins s σ H g own ρ z r z' I J S h => by
  obtain ⟨⟨d, z1⟩, e1, e2⟩ := Option.map_eq_some_iff.mp h
  cases e2
  obtain ⟨ds, rfl, sat⟩ := lc_sat (lp := lp) (is := is) (pins := pins) J S e1 B.his B.hsl
  refine thn ((ps_setLc (g := tG X.w m sl is fg) (tt := tT X.w m sl ft) (te := tE X.w m sl fe) B.calm B.N hy hyl hsw B.it.pi B.ok (fun s H C cl fp => (B.tgt s H C cl fp).pg) (fun s H C cl fp => (B.tst s H C cl fp).pts) (fun s H C cl fp => (B.elt s H C cl fp).pe) hs).run pins s σ H
    ⟨fun σ' H' => ∃ v, σ' = σ.set i (some v) ∧ LcPost X g own H z1 ds v H', fun _ _ => False, fun _ _ => False, fun _ _ => False⟩ I ?_) fun f s1 q => ?_
  · obtain ⟨g1, o1, r1, z1', d1, z2, a1, a2, a3, a4⟩ := sat
    refine ⟨g1, o1, r1, z1', d1, z2, a1, a2, a3, fun Ji H1 H2 b1 b2 b3 b4 A hA => ?_⟩
    obtain ⟨W, w0, st⟩ := a4 Ji H1 H2 b1 b2 b3 b4 A hA
    refine ⟨W, w0, fun k n H' w => ?_⟩
    rcases st k n H' w with ⟨c1, c2⟩ | c
    · exact .inl ⟨c1, _, rfl, c2⟩
    · exact .inr c
  · cases f with
    | next =>
      obtain ⟨σ', H', I1, v, rfl, q⟩ := q
      obtain ⟨A, H3, rfl, I3, k, S3, hn, mu, sh⟩ := q.fin J I1
      have J3 := J.keep k S3
      exact ⟨rfl, _, H3, own, I3, J.gr k, J3.set hm hsl (J.slot I hy) (sh.less.rp fun n => J.nw n hn), S3⟩
    | brk => obtain ⟨_, _, _, q⟩ := q; exact q.elim
    | cont => obtain ⟨_, _, _, q⟩ := q; exact q.elim
    | ret u => obtain ⟨_, _, _, _, _, q⟩ := q; exact q.elim⟩
theorem vs_setLcF (B : BlkD lp m sl X elt tg iter ifs scope cown fi fg ft fe is) (hy : X.N[i]? = some y := by rfl) (hyl : X.env.scope.names.lookup y = some .local := by rfl) (hsw : swapsWith (.ListComp elt [⟨tg, iter, ifs, 0⟩] scope pos) (some (.Name y py)) spos.line X.env = pure true := by exact sw_true rfl rfl rfl rfl)
    (hm : i ∈ m := by decide) (hsl : sl ≠ some i := by decide) (hs : ∀ x, foldedSetIterable iter X.env x = pure x := by intro _; rfl) :
    VS m m ml sl X (.Assign [.Name y py] (.ListComp elt [⟨tg, iter, ifs, 0⟩] scope pos) spos) (sAsg i (eLc fi fg ft fe (cown.map (·.2)))) := ⟨fun pins s σ H g own ρ z r z' I J S h => by
  obtain ⟨⟨d, z1⟩, e1, e2⟩ := Option.map_eq_some_iff.mp h
  cases e2
  obtain ⟨ds, rfl, sat⟩ := lc_sat (lp := lp) (is := is) (pins := pins) J S e1 B.his B.hsl
  refine thn ((ps_setLc (g := tG X.w m sl is fg) (tt := tT X.w m sl ft) (te := tE X.w m sl fe) B.calm B.N hy hyl hsw B.it.pi B.ok (fun s H C cl fp => (B.tgt s H C cl fp).pg) (fun s H C cl fp => (B.tst s H C cl fp).pts) (fun s H C cl fp => (B.elt s H C cl fp).pe) hs).run pins s σ H
    ⟨fun σ' H' => ∃ v, σ' = σ.set i (some v) ∧ LcPost X g own H z1 ds v H', fun _ _ => False, fun _ _ => False, fun _ _ => False⟩ I ?_) fun f s1 q => ?_
  · obtain ⟨g1, o1, r1, z1', d1, z2, a1, a2, a3, a4⟩ := sat
    refine ⟨g1, o1, r1, z1', d1, z2, a1, a2, a3, fun Ji H1 H2 b1 b2 b3 b4 A hA => ?_⟩
    obtain ⟨W, w0, st⟩ := a4 Ji H1 H2 b1 b2 b3 b4 A hA
    refine ⟨W, w0, fun k n H' w => ?_⟩
    rcases st k n H' w with ⟨c1, c2⟩ | c
    · exact .inl ⟨c1, _, rfl, c2⟩
    · exact .inr c
  · cases f with
    | next =>
      obtain ⟨σ', H', I1, v, rfl, q⟩ := q
      obtain ⟨A, H3, rfl, I3, k, S3, hn, mu, sh⟩ := q.fin J I1
      have J3 := J.setF k S3 hm hsl (J.slot I hy) hn mu sh
      refine ⟨rfl, _, H3, _, I3, ⟨k.mono fun _ => .inl, fun j b e => ?_, J3.nsrc⟩, J3, S3⟩
      rcases Own.put_cases e with ⟨_, rfl⟩ | ⟨_, e⟩
      · exact .inr hn
      · exact .inl ⟨j, e⟩
    | brk => obtain ⟨_, _, _, q⟩ := q; exact q.elim
    | cont => obtain ⟨_, _, _, q⟩ := q; exact q.elim
    | ret u => obtain ⟨_, _, _, _, _, q⟩ := q; exact q.elim⟩
theorem vs_setLcN (B : BlkD lp m sl X elt tg iter ifs scope cown fi fg ft fe is) (hy : X.N[i]? = some y := by rfl) (hyl : X.env.scope.names.lookup y = some .local := by rfl) (hsw : swapsWith (.ListComp elt [⟨tg, iter, ifs, 0⟩] scope pos) (some (.Name y py)) spos.line X.env = pure true := by exact sw_true rfl rfl rfl rfl)
    (hm : i ∉ m := by decide) (hsl : sl ≠ some i := by decide) (hs : ∀ x, foldedSetIterable iter X.env x = pure x := by intro _; rfl) :
    VS m (i :: m) ml sl X (.Assign [.Name y py] (.ListComp elt [⟨tg, iter, ifs, 0⟩] scope pos) spos) (sAsg i (eLc fi fg ft fe (cown.map (·.2)))) := ⟨fun pins s σ H g own ρ z r z' I J S h => by
  obtain ⟨⟨d, z1⟩, e1, e2⟩ := Option.map_eq_some_iff.mp h
  cases e2
  obtain ⟨ds, rfl, sat⟩ := lc_sat (lp := lp) (is := is) (pins := pins) J S e1 B.his B.hsl
  refine thn ((ps_setLc (g := tG X.w m sl is fg) (tt := tT X.w m sl ft) (te := tE X.w m sl fe) B.calm B.N hy hyl hsw B.it.pi B.ok (fun s H C cl fp => (B.tgt s H C cl fp).pg) (fun s H C cl fp => (B.tst s H C cl fp).pts) (fun s H C cl fp => (B.elt s H C cl fp).pe) hs).run pins s σ H
    ⟨fun σ' H' => ∃ v, σ' = σ.set i (some v) ∧ LcPost X g own H z1 ds v H', fun _ _ => False, fun _ _ => False, fun _ _ => False⟩ I ?_) fun f s1 q => ?_
  · obtain ⟨g1, o1, r1, z1', d1, z2, a1, a2, a3, a4⟩ := sat
    refine ⟨g1, o1, r1, z1', d1, z2, a1, a2, a3, fun Ji H1 H2 b1 b2 b3 b4 A hA => ?_⟩
    obtain ⟨W, w0, st⟩ := a4 Ji H1 H2 b1 b2 b3 b4 A hA
    refine ⟨W, w0, fun k n H' w => ?_⟩
    rcases st k n H' w with ⟨c1, c2⟩ | c
    · exact .inl ⟨c1, _, rfl, c2⟩
    · exact .inr c
  · cases f with
    | next =>
      obtain ⟨σ', H', I1, v, rfl, q⟩ := q
      obtain ⟨A, H3, rfl, I3, k, S3, hn, mu, sh⟩ := q.fin J I1
      have J3 := J.setN k S3 hm hsl (J.slot I hy) hn mu sh
      refine ⟨rfl, _, H3, _, I3, ⟨k.mono fun _ => .inl, fun j b e => ?_, J3.nsrc⟩, J3, S3⟩
      rcases Own.put_cases e with ⟨_, rfl⟩ | ⟨_, e⟩
      · exact .inr hn
      · exact .inl ⟨j, e⟩
    | brk => obtain ⟨_, _, _, q⟩ := q; exact q.elim
    | cont => obtain ⟨_, _, _, q⟩ := q; exact q.elim
    | ret u => obtain ⟨_, _, _, _, _, q⟩ := q; exact q.elim⟩
end
end VL
set_option Elab.async false
set_option linter.all false
set_option maxRecDepth 100000
set_option maxHeartbeats 4000000
/-! The value layer, part 10: what is walked. -/
namespace VL
open PySem PySem.Spec PyProof.Rows L2

/-! ### enumerate(v), its start not given -/
theorem meets_enum1 {v : Value} {o : Obj} {HH : Heap → Prop} (B : Begins v o HH) :
    Meets (Builtin.«enumerate.__new__» ⟨[.type "enumerate", v], []⟩) (fun _ R s => HH s.heap ∧
      R (.ok (.ret (.ref (s.heap.push o).objs.size))) { s with heap := (s.heap.push o).push { cls := .type "enumerate", data := .fields #[.none, .bool false, .ref s.heap.objs.size, rawInt 0, .none, .none] } }) :=
  .of_wp fun prog w A R s h => by
    obtain ⟨hp, g, d, tk, os⟩ := s; obtain ⟨h1, h⟩ := h
    have hsub := sub_enumerate
    have q1 : ∀ {A' : Around} {E : Value → Shared → Prop} {Q : Value → Shared → Prop}, Q (.ref hp.objs.size) ⟨hp.push o, g, d, tk, os⟩ → wpAny (model prog w) A' (pyIter v) Q E ⟨hp, g, d, tk, os⟩ :=
      fun q => B.iter prog w _ _ ⟨hp, g, d, tk, os⟩ _ h1 q
    wp_walk using q1
    refine wpAny_stack_any fun st => wpAny_pure ?_
    split
    · rename_i c _ _ _ _ _
      cases (c == Value.type "enumerate")
      · wp_walk using q1
        exact ⟨_, rfl, h⟩
      · wp_walk using q1
        exact ⟨_, rfl, h⟩
    · wp_walk using q1
      exact ⟨_, rfl, h⟩
theorem enum_begins1 {prog : Program} {w : World} {A : Around} {E : Value → Shared → Prop} {s : Shared} {v : Value} {o : Obj} {HH : Heap → Prop} {Q : Value → Shared → Prop} (B : Begins v o HH) (h1 : HH s.heap)
    (h : ∀ h', IsEnum h' (s.heap.objs.size + 1) s.heap.objs.size 0 .none → h'.get? s.heap.objs.size = some o → h'.objs.size = s.heap.objs.size + 2 →
      (∀ b o, s.heap.get? b = some o → h'.get? b = some o) → Q (.ref (s.heap.objs.size + 1)) { s with heap := h' }) :
    wpAny (model prog w) A (call (.type "enumerate") [v]) Q E s := by
  refine callType_new F.called_enumerate (by decide) (F.typeCall_enumerate_1 _) (F.newCall_enumerate_1 _) (fun obj => F.args_object_init_2 obj _) F.entry_enumerate_new
    (meets_enum1 B) ⟨h1, ?_⟩
  have hz : (s.heap.push o).objs.size = s.heap.objs.size + 1 := Heap.size_push ..
  show _ ∧ _
  rw [hz]
  have he : IsEnum ((s.heap.push o).push { cls := .type "enumerate", data := .fields #[.none, .bool false, .ref s.heap.objs.size, rawInt 0, .none, .none] }) (s.heap.objs.size + 1) s.heap.objs.size 0 .none := by
    have := Heap.get?_push_size (s.heap.push o) (o := { cls := .type "enumerate", data := .fields #[.none, .bool false, .ref s.heap.objs.size, rawInt 0, .none, .none] }) rfl
    rw [hz] at this; exact this
  refine ⟨⟨_, he, rfl⟩, h _ he (Heap.get?_push_of_some _ (Heap.get?_push_size _ B.free)) (by rw [Heap.size_push, hz]) fun b o x => Heap.get?_push_of_some _ (Heap.get?_push_of_some _ x)⟩

/-- the tuple at a, each item in a new pair -/
def IteT (a : Addr) : It :=
  ⟨fun i H => ∃ (xs : List V) (x : V), H a = some (.tup xs) ∧ xs[i]? = some x, fun i H v H' => ∃ T x, v = .ref T ∧ H T = none ∧ H' = upd H T (.tup [.int (i : Nat), x]) ∧ ∀ xs, H a = some (.tup xs) → xs[i]? = some x, fun i H => ∃ xs : List V, H a = some (.tup xs) ∧ xs.length ≤ i⟩
theorem turn_enumT {P : Program} {w : World} {K : PySem.W.Frag} {elts : List Expr} {kk : Nat} {tpos : Pos} (a e it : Addr) :
    Turn P w K (.Tuple elts kk tpos) (IteT a) [e, it] e (fun i h => (∃ old, IsEnum h e it ((i : Nat) : Int) old) ∧ h.IsTupleIter it a i ∧ e ≠ it) where
  mem := by simp
  obj := fun i h st b hb => by
    obtain ⟨⟨old, he⟩, ⟨o, ho, hc, hd⟩, _⟩ := st
    have e' : b = e ∨ b = it := by simpa using hb
    rcases e' with z | z
    · rw [z]; exact ⟨_, he, fun v q => nomatch q⟩
    · rw [z]; exact ⟨o, ho, fun v q => by rw [hd] at q; cases q⟩
  keep := fun i h h' st k => let ⟨⟨old, he⟩, hi, hne⟩ := st; ⟨⟨old, k e (by simp) _ he⟩, hi.at fun o q => k it (by simp) o q, hne⟩
  item := by
    intro X hP hw hK hc i pins s σ H E I hf st hg
    subst hP hw hK
    obtain ⟨⟨old, he⟩, hit, hne⟩ := st
    obtain ⟨xs, x, hq, hx⟩ := hg
    obtain ⟨its, rv, p, hz⟩ := I.tuple (SqT.of hq)
    obtain ⟨u, hu, ru⟩ := rv.get hx
    have hel : e < s.heap.objs.size := Heap.lt_size he
    have hil : it < s.heap.objs.size := by obtain ⟨_, q, _⟩ := hit; exact Heap.lt_size q
    have nea : e ≠ a := fun z => by
      have := (hf e (by simp)).1
      rw [z, hq] at this
      cases this
    have nia : a ≠ it := fun z => by
      have := (hf it (by simp)).1
      rw [← z, hq] at this
      cases this
    have hlt : i < its.toArray.size := by
      have := (List.getElem?_eq_some_iff.mp hu).1
      simpa using this
    refine wpAny_pyNext_enum_itemD (Draws.tuple (prog := X.prog) (w := X.w) (A := X.A.in1) (I.ok.hd hc) it a nia its.toArray) he ⟨hit, show s.heap.IsTuple a its.toArray from p⟩ hlt hne (by simp [hne, nea]) fun x' h' tk hx' ho st' hT hsz hk => ?_
    have ex : x' = u := by
      have hx' : its.toArray[i]? = some x' := hx'
      rw [List.getElem?_toArray, hu] at hx'
      exact (Option.some.inj hx').symm
    subst ex
    refine ⟨_, rfl, wpAny_letOwnedTupleGo_enum (s := { s with heap := h', toks := tk + 1 }) ho fun h'' he' sb => ?_⟩
    have hT2 : h''.get? s.heap.objs.size = some { cls := .type "tuple", data := .seq #[.int i tk, x'] } := (sb.2 _ (Nat.ne_of_gt hel)).trans hT
    have new : ObjOk X.prog X.w (upd H s.heap.objs.size (.tup [.int (i : Nat), x])) h'' s.heap.objs.size (.tup [.int (i : Nat), x]) :=
      ⟨by show 2 ≤ sizeLine; decide, [.int i tk, x'], .cons ⟨_, rfl⟩ (.cons ru .nil), ⟨_, hT2, rfl, _, rfl⟩⟩
    have I1 : Inv X pins σ (upd H s.heap.objs.size (.tup [.int (i : Nat), x])) { s with heap := h'', toks := tk + 1 } :=
      I.turnedNew (ch := [e, it]) (fun b ob hb q => (sb.2 b (fun z => hb (by simp [z]))).trans (hk b ob (fun z => hb (by simp [z])) (fun z => hb (by simp [z])) q)) hf (Nat.le_refl _) new
    refine ⟨.ref s.heap.objs.size, _, I1, rfl, ⟨_, x, rfl, I.hok.fresh (Nat.le_refl _), rfl, fun ys hy => by rw [hq] at hy; cases hy; exact hx⟩, ⟨⟨x', ?_⟩, st'.1.at fun o q => (sb.2 it (Ne.symm hne)).trans q, hne⟩, fun b hb => ?_⟩
    · have e1 : ((i + 1 : Nat) : Int) = (i : Int) + 1 := by omega
      rw [e1]; exact he'
    · have hb' : b < s.heap.objs.size := by
        have e' : b = e ∨ b = it := by simpa using hb
        rcases e' with z | z
        · rw [z]; exact hel
        · rw [z]; exact hil
      rw [upd_ne (Nat.ne_of_lt hb')]
      exact (hf b hb).1
  done := by
    intro X hP hw hK hc i pins s σ H E I hf st hg
    subst hP hw hK
    obtain ⟨⟨old, he⟩, hit, hne⟩ := st
    obtain ⟨xs, hq, hx⟩ := hg
    obtain ⟨its, rv, p, hz⟩ := I.tuple (SqT.of hq)
    obtain ⟨f0, f1, f2, f3, f4, f5⟩ := hf it (by simp)
    have hl := rv.length
    have nia : a ≠ it := fun z => by
      rw [← z, hq] at f0
      cases f0
    have hT : s.TypeIs (.ref e) "enumerate" := ⟨_, he, rfl⟩
    unfold pyNext
    refine wpAny_bind (wpAny_attempt (wpAny_callSpecial?_slot (name := Str.ofString "__next__") hT F.slot_enumerate_next
      (wpAny_call_entry F.slot_enumerate_next hT F.entry_enumerate_next ?_ (F.args_enumerate_next_1 _))))
    show wpAny _ _ (field (.ref e) 2 >>= _) _ _ _
    refine wpAny_bind (wpAny_field he rfl (x := .ref it) rfl ?_)
    refine wpAny_bind (wpAny_nextOf_tuple_end (I.ok.hd hc) hit (show s.heap.IsTuple a its.toArray from p) (by simp; omega) fun h' x he' hx' => ?_)
    obtain ⟨o, ho, hc⟩ := hx'
    refine wpAny_bind (wpAny_isInstance (T := "StopIteration") (b := true) ⟨o, ho, hc⟩ isSubtype_stop ?_)
    exact wpAny_pure ⟨rfl, I.turned (t' := s.toks) (fun b o hb q => he' b o hb q) f0 f1 f3 f4 f5⟩
  self := fun A i s Q E st h => let ⟨⟨_, he⟩, _⟩ := st; wpAny_pyIter_enum he h

/-! ### what the iterators yield -/
def enumD (k : Int) : List D → List D
  | [] => []
  | d :: ds => .tuple [.int k, d] :: enumD (k + 1) ds
theorem enumD_get : ∀ {ds : List D} {k : Int} {i : Nat} {e : D}, (enumD k ds)[i]? = some e → ∃ d, ds[i]? = some d ∧ e = .tuple [.int (k + i), d]
  | [], _, _, _, h => by simp [enumD] at h
  | d :: ds, k, 0, e, h => by simp [enumD] at h; exact ⟨d, rfl, by rw [← h]; simp⟩
  | d :: ds, k, i + 1, e, h => by
    have h : (enumD (k + 1) ds)[i]? = some e := by simpa [enumD] using h
    obtain ⟨d', h1, h2⟩ := enumD_get h
    refine ⟨d', by simpa using h1, ?_⟩
    have e1 : k + 1 + (i : Int) = k + ((i + 1 : Nat) : Int) := by omega
    rw [h2, e1]
theorem enumD_length : ∀ {ds : List D} {k : Int}, (enumD k ds).length = ds.length
  | [], _ => rfl
  | d :: ds, k => by simp [enumD, enumD_length]
def zipD : List D → List D → List D
  | d :: ds, e :: es => .tuple [d, e] :: zipD ds es
  | _, _ => []
theorem zipD_get : ∀ {ds es : List D} {i : Nat} {x : D}, (zipD ds es)[i]? = some x → ∃ d e, ds[i]? = some d ∧ es[i]? = some e ∧ x = .tuple [d, e]
  | [], _, _, _, h => by simp [zipD] at h
  | _ :: _, [], _, _, h => by simp [zipD] at h
  | d :: ds, e :: es, 0, x, h => by simp [zipD] at h; exact ⟨d, e, rfl, rfl, h.symm⟩
  | d :: ds, e :: es, i + 1, x, h => by
    have h : (zipD ds es)[i]? = some x := by simpa [zipD] using h
    obtain ⟨d', e', h1, h2, h3⟩ := zipD_get h
    exact ⟨d', e', by simpa using h1, by simpa using h2, h3⟩
theorem zipD_length : ∀ {ds es : List D}, (zipD ds es).length = min ds.length es.length
  | [], _ => by simp [zipD]
  | _ :: _, [] => by simp [zipD]
  | d :: ds, e :: es => by simp [zipD, zipD_length]
def rangeD (lo c : Int) (n : Nat) : List D := (List.range n).map fun (i : Nat) => .int (lo + (i : Int) * c)

section
variable {w : World} {N W : Addr → Prop} {H0 : Hp} {K : PySem.W.Frag} {a b : Addr} {xs ys : List V} {ds es : List D}
theorem sq_lst {H : Hp} {zs : List V} (ha : H a = some (.lst xs)) (h : SqL K H a zs) (hk : K.lookup a = none ∨ True) : zs = xs ∨ K.lookup a ≠ none := by
  rcases h with (h | ⟨o, h⟩) | ⟨o, its, n, h, _⟩
  · rw [ha] at h; cases h; exact .inl rfl
  · rw [ha] at h; cases h
  · exact .inr (by rw [h]; exact fun z => nomatch z)
theorem Rp.to {H0 H : Hp} {N' : Addr → Prop} {v : V} {d : D} (r : Rp w N H0 v d) (hW : ∀ b, W b → N b) (k : Kp W H0 H) (hn : ∀ b, H0 b ≠ none → ¬ N b → ¬ N' b) : Rp w N' H v d :=
  r.move fun b o e n => ⟨k b o e fun z => n (hW b z), hn b (by rw [e]; exact fun z => nomatch z) n⟩
theorem wk_list (ha : H0 a = some (.lst xs)) (na : ¬ W a) (ra : RpAll w N H0 xs ds) (hW : ∀ b, W b → N b) : Wk w N W (Itl K a) ds H0 where
  go := fun i H hi k => by
    have hx : i < xs.length := by rw [ra.length]; exact hi
    exact ⟨xs, xs[i], SqL.of (k a _ ha na), List.getElem?_eq_getElem hx⟩
  stop := fun i H hi k => ⟨xs, SqL.of (k a _ ha na), by rw [ra.length]; exact hi⟩
  item := fun i H x H' d N' hd k h1 h2 y => by
    obtain ⟨e, y⟩ := y
    subst e
    have hx := y xs (SqL.of (k a _ ha na))
    obtain ⟨v, h3, h4⟩ := ra.get hd
    rw [hx] at h3
    cases h3
    exact ⟨Same.refl _, h4.to hW k h2⟩
theorem wk_tup (ha : H0 a = some (.tup xs)) (na : ¬ W a) (ra : RpAll w N H0 xs ds) (hW : ∀ b, W b → N b) : Wk w N W (Itt K a) ds H0 where
  go := fun i H hi k => by
    have hx : i < xs.length := by rw [ra.length]; exact hi
    exact ⟨xs, xs[i], SqT.of (k a _ ha na), List.getElem?_eq_getElem hx⟩
  stop := fun i H hi k => ⟨xs, SqT.of (k a _ ha na), by rw [ra.length]; exact hi⟩
  item := fun i H x H' d N' hd k h1 h2 y => by
    obtain ⟨e, y⟩ := y
    subst e
    have hx := y xs (SqT.of (k a _ ha na))
    obtain ⟨v, h3, h4⟩ := ra.get hd
    rw [hx] at h3
    cases h3
    exact ⟨Same.refl _, h4.to hW k h2⟩
theorem rangeD_get {lo c : Int} {n i : Nat} {d : D} (h : (rangeD lo c n)[i]? = some d) : i < n ∧ d = .int (lo + (i : Int) * c) := by
  unfold rangeD at h
  rw [List.getElem?_map] at h
  obtain ⟨j, h1, h2⟩ := Option.map_eq_some_iff.mp h
  obtain ⟨h3, h4⟩ := List.getElem?_eq_some_iff.mp h1
  rw [List.length_range] at h3
  rw [List.getElem_range] at h4
  subst h4
  exact ⟨h3, h2.symm⟩
theorem wk_range {lo : Int} {n : Nat} : Wk w N W (Itr lo n) (rangeD lo 1 n) H0 where
  go := fun i H hi k => show i < n by simpa [rangeD] using hi
  stop := fun i H hi k => show n ≤ i by simpa [rangeD] using hi
  item := fun i H x H' d N' hd k h1 h2 y => by
    obtain ⟨e, y⟩ := y
    subst e y
    obtain ⟨_, e⟩ := rangeD_get hd
    rw [e, Int.mul_one]
    exact ⟨Same.refl _, .int _⟩
theorem wk_rangeC {lo c : Int} {n : Nat} : Wk w N W (Itc lo c n) (rangeD lo c n) H0 where
  go := fun i H hi k => show i < n by simpa [rangeD] using hi
  stop := fun i H hi k => show n ≤ i by simpa [rangeD] using hi
  item := fun i H x H' d N' hd k h1 h2 y => by
    obtain ⟨e, y⟩ := y
    subst e y
    obtain ⟨_, e⟩ := rangeD_get hd
    rw [e]
    exact ⟨Same.refl _, .int _⟩
theorem wk_enumL (ha : H0 a = some (.lst xs)) (na : ¬ W a) (ra : RpAll w N H0 xs ds) (hW : ∀ b, W b → N b) : Wk w N W (Ite K a) (enumD 0 ds) H0 where
  go := fun i H hi k => by
    rw [enumD_length] at hi
    have hx : i < xs.length := by rw [ra.length]; exact hi
    exact ⟨xs, xs[i], SqL.of (k a _ ha na), List.getElem?_eq_getElem hx⟩
  stop := fun i H hi k => ⟨xs, SqL.of (k a _ ha na), by rw [ra.length, ← enumD_length (k := 0)]; exact hi⟩
  item := fun i H x H' d N' hd k h1 h2 y => by
    obtain ⟨T, x1, rfl, hT, rfl, y⟩ := y
    obtain ⟨d', h5, rfl⟩ := enumD_get hd
    have hx := y xs (SqL.of (k a _ ha na))
    obtain ⟨v, h3, h4⟩ := ra.get h5
    rw [hx] at h3
    cases h3
    refine ⟨VL.same_upd hT, .newTup h1 hT (.cons ?_ (.cons (h4.to hW k h2) .nil))⟩
    have e : (0 : Int) + (i : Int) = (i : Nat) := by omega
    rw [e]
    exact .int _
theorem wk_enumT (ha : H0 a = some (.tup xs)) (na : ¬ W a) (ra : RpAll w N H0 xs ds) (hW : ∀ b, W b → N b) : Wk w N W (IteT a) (enumD 0 ds) H0 where
  go := fun i H hi k => by
    rw [enumD_length] at hi
    have hx : i < xs.length := by rw [ra.length]; exact hi
    exact ⟨xs, xs[i], k a _ ha na, List.getElem?_eq_getElem hx⟩
  stop := fun i H hi k => ⟨xs, k a _ ha na, by rw [ra.length, ← enumD_length (k := 0)]; exact hi⟩
  item := fun i H x H' d N' hd k h1 h2 y => by
    obtain ⟨T, x1, rfl, hT, rfl, y⟩ := y
    obtain ⟨d', h5, rfl⟩ := enumD_get hd
    have hx := y xs (k a _ ha na)
    obtain ⟨v, h3, h4⟩ := ra.get h5
    rw [hx] at h3
    cases h3
    refine ⟨VL.same_upd hT, .newTup h1 hT (.cons ?_ (.cons (h4.to hW k h2) .nil))⟩
    have e : (0 : Int) + (i : Int) = (i : Nat) := by omega
    rw [e]
    exact .int _
theorem wk_zipL (ha : H0 a = some (.lst xs)) (na : ¬ W a) (ra : RpAll w N H0 xs ds) (hb : H0 b = some (.lst ys)) (nb : ¬ W b) (rb : RpAll w N H0 ys es) (hW : ∀ b, W b → N b) : Wk w N W (Itz K a b) (zipD ds es) H0 where
  go := fun i H hi k => by
    rw [zipD_length] at hi
    have hx : i < xs.length := by rw [ra.length]; omega
    have hy : i < ys.length := by rw [rb.length]; omega
    exact ⟨xs, ys, xs[i], ys[i], SqL.of (k a _ ha na), SqL.of (k b _ hb nb), List.getElem?_eq_getElem hx, List.getElem?_eq_getElem hy⟩
  stop := fun i H hi k => ⟨xs, ys, SqL.of (k a _ ha na), SqL.of (k b _ hb nb), by rw [zipD_length] at hi; rw [ra.length, rb.length]; omega⟩
  item := fun i H x H' d N' hd k h1 h2 y => by
    obtain ⟨T, x1, y1, rfl, hT, rfl, y, y'⟩ := y
    obtain ⟨d', e', h5, h6, rfl⟩ := zipD_get hd
    have hx := y xs (SqL.of (k a _ ha na))
    have hy := y' ys (SqL.of (k b _ hb nb))
    obtain ⟨v, h3, h4⟩ := ra.get h5
    obtain ⟨v', h3', h4'⟩ := rb.get h6
    rw [hx] at h3
    rw [hy] at h3'
    cases h3
    cases h3'
    exact ⟨VL.same_upd hT, .newTup h1 hT (.cons (h4.to hW k h2) (.cons (h4'.to hW k h2) .nil))⟩
theorem wk_zipT (ha : H0 a = some (.tup xs)) (na : ¬ W a) (ra : RpAll w N H0 xs ds) (hb : H0 b = some (.tup ys)) (nb : ¬ W b) (rb : RpAll w N H0 ys es) (hW : ∀ b, W b → N b) : Wk w N W (RZ.ItzT K a b) (zipD ds es) H0 where
  go := fun i H hi k => by
    rw [zipD_length] at hi
    have hx : i < xs.length := by rw [ra.length]; omega
    have hy : i < ys.length := by rw [rb.length]; omega
    exact ⟨xs, ys, xs[i], ys[i], SqT.of (k a _ ha na), SqT.of (k b _ hb nb), List.getElem?_eq_getElem hx, List.getElem?_eq_getElem hy⟩
  stop := fun i H hi k => ⟨xs, ys, SqT.of (k a _ ha na), SqT.of (k b _ hb nb), by rw [zipD_length] at hi; rw [ra.length, rb.length]; omega⟩
  item := fun i H x H' d N' hd k h1 h2 y => by
    obtain ⟨T, x1, y1, rfl, hT, rfl, y, y'⟩ := y
    obtain ⟨d', e', h5, h6, rfl⟩ := zipD_get hd
    have hx := y xs (SqT.of (k a _ ha na))
    have hy := y' ys (SqT.of (k b _ hb nb))
    obtain ⟨v, h3, h4⟩ := ra.get h5
    obtain ⟨v', h3', h4'⟩ := rb.get h6
    rw [hx] at h3
    rw [hy] at h3'
    cases h3
    cases h3'
    exact ⟨VL.same_upd hT, .newTup h1 hT (.cons (h4.to hW k h2) (.cons (h4'.to hW k h2) .nil))⟩
/-! ### dicts: keys -/
theorem wk_keys {kvs : List (Key × V)} {od : Obj} (ha : H0 a = some (.frz od (.dK kvs))) (na : ¬ W a) : Wk w N W (Itk a od kvs) (kvs.map fun p => kD p.1) H0 where
  go := fun i H hi k => ⟨k a _ ha na, by simpa using hi⟩
  stop := fun i H hi k => ⟨k a _ ha na, by simpa using hi⟩
  item := fun i H x H' d N' hd k h1 h2 y => by
    obtain ⟨e, kk, vv, hk, rfl⟩ := y
    subst e
    rw [List.getElem?_map, hk] at hd
    cases hd
    refine ⟨Same.refl _, ?_⟩
    cases kk with
    | inl i => exact .int i
    | inr s => exact .str s
end
/-- the keys of a locked dict whose keys are tuples -/
def ItkN (w : World) (d : Addr) (o : Obj) (ens : List (NestedKey × Addr × Value)) : It :=
  ⟨fun i H => H d = some (.frz o (dN w d ens)) ∧ i < ens.length, fun i H x H' => H' = H ∧ ∃ en, ens[i]? = some en ∧ x = .ref en.2.1, fun i H => H d = some (.frz o (dN w d ens)) ∧ ens.length ≤ i⟩
theorem frzN {X : Cx} {pins : List (Addr × Obj)} {σ : L2.St} {H : Hp} {s : Shared} {d : Addr} {o : Obj} {ens : List (NestedKey × Addr × Value)} (I : Inv X pins σ H s) (h : H d = some (.frz o (dN X.w d ens))) :
    s.heap.get? d = some o ∧ o.ExactDict ∧ ∃ (es : Array DictEntry) (ep : Nat), o.data = .dict es ep ∧ es.size = ens.length ∧ ∀ (i : Nat) (en : NestedKey × Addr × Value), ens[i]? = some en → es[i]? = some (⟨NestedKey.hash X.w en.1, .ref en.2.1, en.2.2⟩ : DictEntry) := by
  obtain ⟨hd, ⟨o', es, ep, h1, h2, h3, h4⟩, _⟩ := I.hok d _ h
  rw [hd] at h1
  cases h1
  have hl : es.size = ens.length := by
    have := congrArg List.length h4
    simpa using this
  refine ⟨hd, h2, es, ep, h3, hl, fun i en e => ?_⟩
  have := congrArg (fun l : List DictEntry => l[i]?) h4
  simp only [Array.getElem?_toList, List.getElem?_map, e, Option.map_some] at this
  exact this
theorem turn_keysN {P : Program} {w : World} {K : PySem.W.Frag} {tg : Expr} {d : Addr} {o : Obj} {es : Array DictEntry} {ep : Nat} {ens : List (NestedKey × Addr × Value)} (it : Addr) (hod : o.data = .dict es ep) :
    Turn P w K tg (ItkN w d o ens) [it] it (fun i h => h.IsKeyIter it d i ens.length ep) where
  mem := by simp
  obj := fun i h st b hb => by
    have e : b = it := by simpa using hb
    subst e
    obtain ⟨oi, e, c, dd⟩ := st
    exact ⟨oi, e, fun v z => by rw [dd] at z; cases z⟩
  keep := fun i h h' st k => st.at fun oi e => k it (by simp) oi e
  item := by
    intro X hP hw hK hc i pins s σ H E I hf st hg
    subst hP hw hK
    obtain ⟨hd, hi⟩ := hg
    obtain ⟨f0, f1, f2, f3, f4, f5⟩ := hf it (by simp)
    obtain ⟨hgd, hx, es', ep', hdt, hsz, ent⟩ := frzN I hd
    obtain ⟨rfl, rfl⟩ := dict_ep hod hdt
    have hkv : ens[i]? = some ens[i] := List.getElem?_eq_getElem hi
    have hen := ent i _ hkv
    refine next_key_item st hgd hdt hsz hen fun h' st' sb => ?_
    have I1 : Inv X pins σ H { s with heap := h' } := I.turned (t' := s.toks) (fun b ob hb e => (sb.2 b hb).trans e) f0 f1 f3 f4 f5
    obtain ⟨oi, e, c, dd⟩ := id st'
    exact ⟨_, rfl, go_of (s := { s with heap := h' }) e c dd (by decide) ⟨.ref ens[i].2.1, H, I1, rfl, ⟨rfl, _, hkv, rfl⟩, st', fun b hb => (hf b hb).1⟩⟩
  done := by
    intro X hP hw hK hc i pins s σ H E I hf st hg
    subst hP hw hK
    obtain ⟨hd, hi⟩ := hg
    obtain ⟨f0, f1, f2, f3, f4, f5⟩ := hf it (by simp)
    obtain ⟨hgd, hx, es', ep', hdt, hsz, ent⟩ := frzN I hd
    obtain ⟨rfl, rfl⟩ := dict_ep hod hdt
    exact next_key_end (I.ok.hd hc) st hgd hdt hsz hi fun h' eb => ⟨rfl, I.turned (t' := s.toks) (fun b ob hb e => eb b ob hb e) f0 f1 f3 f4 f5⟩
  self := fun A i s Q E st h => by
    refine wpAny_pyIter_slot st.typeIs F.slot_dict_keyiterator_iter (wpAny_call_entry F.slot_dict_keyiterator_iter st.typeIs F.entry_dict_keyiterator_iter ?_ (F.args_dict_keyiterator_iter_1 _))
    show wpAny _ _ (ret (.ref it)) _ _ s
    exact wpAny_pure ⟨_, rfl, "dict_keyiterator", _, st.typeIs, F.slot_dict_keyiterator_next.lookup, h⟩
theorem wk_keysN {w : World} {N W : Addr → Prop} {H0 : Hp} {a : Addr} {od : Obj} {ens : List (NestedKey × Addr × Value)} {ks : List V} {ds : List D} (ha : H0 a = some (.frz od (dN w a ens))) (na : ¬ W a) (hk : ens.map (fun x => V.ref x.2.1) = ks) (r : RpAll w N H0 ks ds) (hW : ∀ b, W b → N b) : Wk w N W (ItkN w a od ens) ds H0 where
  go := fun i H hi k => ⟨k a _ ha na, by rw [← r.length, ← hk] at hi; simpa using hi⟩
  stop := fun i H hi k => ⟨k a _ ha na, by rw [← r.length, ← hk] at hi; simpa using hi⟩
  item := fun i H x H' d N' hd k h1 h2 y => by
    obtain ⟨e, en, hen, rfl⟩ := y
    subst e
    obtain ⟨v, h3, h4⟩ := r.get hd
    rw [← hk, List.getElem?_map, hen] at h3
    cases h3
    exact ⟨Same.refl _, h4.to hW k h2⟩
end VL
set_option Elab.async false
set_option linter.all false
set_option maxRecDepth 100000
set_option maxHeartbeats 4000000
/-! The value layer, part 11: the rules for what is walked. -/
namespace VL
open PySem PySem.Spec PyProof.Rows L2

/-- the items one walks -/
def itD : D → Option (List D)
  | .list ds => some ds
  | .tuple ds => some ds
  | .dict ps => some (ps.map (·.1))
  | _ => none
inductive Src1 (w : World) (N W : Addr → Prop) (H : Hp) : V → List D → Prop
  | lst {a : Addr} {xs : List V} {ds : List D} : H a = some (.lst xs) → ¬ W a → RpAll w N H xs ds → Src1 w N W H (.ref a) ds
  | tup {a : Addr} {xs : List V} {ds : List D} : H a = some (.tup xs) → ¬ W a → RpAll w N H xs ds → Src1 w N W H (.ref a) ds
  | dK {a : Addr} {kvs : List (Key × V)} : L2.Rd H a (.dK kvs) → ¬ W a → ¬ N a → Src1 w N W H (.ref a) (kvs.map fun p => kD p.1)
  | dN {a : Addr} {ens : List (NestedKey × Addr × Value)} {ks : List V} {ds : List D} : L2.Rd H a (dN w a ens) → ¬ W a → ¬ N a → (a == sysModules) = false → ens.map (fun x => V.ref x.2.1) = ks → RpAll w N H ks ds → Src1 w N W H (.ref a) ds
theorem map_fst_zip {ks ds : List D} (h : ks.length = ds.length) : (ks.zip ds).map (·.1) = ks := by
  induction ks generalizing ds with
  | nil => rfl
  | cons k ks ih =>
    cases ds with
    | nil => cases h
    | cons d ds => simp only [List.zip_cons_cons, List.map_cons]; rw [ih (by simpa using h)]
theorem Rp.src1 {w : World} {N W : Addr → Prop} {H : Hp} {v : V} {d : D} {ds : List D} (q : Rp w N H v d) (h : itD d = some ds) (hW : ∀ b, W b → N b) : Src1 w N W H v ds := by
  cases q with
  | lst ha na ra => cases h; exact .lst ha (fun z => na (hW _ z)) ra
  | tup ha na ra => cases h; exact .tup ha (fun z => na (hW _ z)) ra
  | @dK a kvs xs ds' ks ha na e1 e2 ra =>
    have h : some ((ks.zip ds').map (·.1)) = some ds := h
    rw [map_fst_zip (by rw [← e2, ← ra.length, ← e1]; simp)] at h
    cases h
    rw [← e2]
    exact .dK ha (fun z => na (hW _ z)) na
  | @dN a ens ks ds' vs es ha na ok e1 e2 ra rv re =>
    have h : some ((ds'.zip es).map (·.1)) = some ds := h
    rw [map_fst_zip (by rw [← re.length, rv.length, ← e2]; simp)] at h
    cases h
    exact .dN ha (fun z => na (hW _ z)) na ok.ns e1 ra
  | non => cases h
  | bl => cases h
  | int => cases h
  | str => cases h
theorem Rd.lst1 {w : World} {g : Gh} {own : Own} {H : Hp} {v : V} {ds : List D} (hs : ∀ a, g.src a → g.N0 a) (q : Rd w g own H v (.list ds)) : ∃ a xs, v = .ref a ∧ H a = some (.lst xs) ∧ ¬ g.src a ∧ RpAll w (g.N own) H xs ds := by
  cases q with
  | c q =>
    cases q with
    | lst ha na ra => exact ⟨_, _, rfl, ha, fun z => na (.inl (hs _ z)), ra⟩
  | o q n =>
    cases q with
    | lst ha ra => exact ⟨_, _, rfl, ha, fun z => n (hs _ z), ra⟩

section
variable {lp : Bool} {m : List Nat} {sl : Option Nat} {X : Cx} {tg e e2 a b c : Expr} {f : DE} {fs : DA} {pos p tpos : Pos} {elts : List Expr} {kk : Nat}
theorem Wl_N {w : World} {g : Gh} {own : Own} {ρ : Env} {σ : L2.St} {H : Hp} (J : IV w g m sl own ρ σ H) : ∀ b, g.Wl lp own b → g.N own b := fun b h => by
  unfold Gh.Wl at h
  split at h
  · exact J.WN b h
  · exact .inl (J.sn b h)
/-- iter(v) -/
theorem Src1.iter {pins : List (Addr × Obj)} {σ : L2.St} {H : Hp} {s : Shared} {N W : Addr → Prop} {v : V} {u : Value} {ds : List D} (I : Inv X pins σ H s) (q : Src1 X.w N W H v ds) (r : RelV v u) (hW : ∀ b, W b → N b) :
    wpAny (model X.prog X.w) X.A (pyIter u) (PIE X pins σ tg fun J H2 => Lk X.H_0 N H H2 ∧ Wk X.w N W J ds H2) X.xe s := by
  cases q with
  | @lst a xs ds ha na ra =>
    cases r
    obtain ⟨its, rv, p, hz⟩ := I.list (SqL.of ha)
    exact wpAny_pyIter_list p.isList (pi_one (tk := s.toks) I _ (turn_list a _) ⟨_, Heap.get?_push_size _ rfl, rfl, rfl⟩ ⟨.no rfl, wk_list ha na ra hW⟩)
  | @tup a xs ds ha na ra =>
    cases r
    obtain ⟨its, rv, p, hz⟩ := I.tuple (SqT.of ha)
    exact wpAny_pyIter_tuple (show s.heap.IsTuple a its.toArray from p) (pi_one (tk := s.toks) I _ (turn_tuple a _) ⟨_, Heap.get?_push_size _ rfl, rfl, rfl⟩ ⟨.no rfl, wk_tup ha na ra hW⟩)
  | @dK a kvs ha na nN =>
    cases r
    have go : ∀ {H2 : Hp} {od : Obj}, Inv X pins σ H2 s → H2 a = some (.frz od (.dK kvs)) → Lk X.H_0 N H H2 → wpAny (model X.prog X.w) X.A (pyIter (.ref a)) (PIE X pins σ tg fun J H2 => Lk X.H_0 N H H2 ∧ Wk X.w N W J (kvs.map fun p => kD p.1) H2) X.xe s := fun {H2 od} I1 hd L => by
      obtain ⟨hs, hgd, hx, es, ep, vs, hdt, hsz, kv, hm⟩ := I1.frzK hd
      refine iter_keys hs hgd hx hdt (pi_one (tk := s.toks) I1 _ (turn_keys _ hdt) ⟨_, Heap.get?_push_size _ rfl, rfl, ?_⟩ ⟨L, wk_keys hd na⟩)
      rw [hsz] <;> rfl
    rcases ha with ha | ⟨od, ha⟩
    · obtain ⟨od, I1⟩ := I.lock ha trivial
      exact go I1 upd_same (.yes a od _ ha trivial nN rfl (I.nofrz ha trivial))
    · exact go I ha (.no rfl)
  | @dN a ens ks ds ha na nN ns hk ra =>
    cases r
    have go : ∀ {H2 : Hp} {od : Obj}, Inv X pins σ H2 s → H2 a = some (.frz od (VL.dN X.w a ens)) → Lk X.H_0 N H H2 → RpAll X.w N H2 ks ds → wpAny (model X.prog X.w) X.A (pyIter (.ref a)) (PIE X pins σ tg fun J H2 => Lk X.H_0 N H H2 ∧ Wk X.w N W J ds H2) X.xe s := fun {H2 od} I1 hd L r2 => by
      obtain ⟨hgd, hx, es, ep, hdt, hsz, ent⟩ := frzN I1 hd
      refine iter_keys ns hgd hx hdt (pi_one (tk := s.toks) I1 _ (turn_keysN _ hdt) ⟨_, Heap.get?_push_size _ rfl, rfl, ?_⟩ ⟨L, wk_keysN hd na hk r2 hW⟩)
      rw [hsz] <;> rfl
    rcases ha with ha | ⟨od, ha⟩
    · obtain ⟨od, I1⟩ := I.lock ha trivial
      have L : Lk X.H_0 N H (upd H a (.frz od (VL.dN X.w a ens))) := .yes a od _ ha dN_noc nN rfl (I.nofrz ha trivial)
      exact go I1 upd_same L (ra.moveL fun b _ n => ⟨L.sm b, n⟩)
    · exact go I ha (.no rfl) ra
/-- an iteration over data -/
def iV (f : DE) : DI := fun ρ z => (f ρ z).bind fun p => (itD p.1).map fun ds => (ds, p.2)
theorem iV_some {ρ : Env} {z z' : Src} {ds : List D} (h : iV f ρ z = some (ds, z')) : ∃ d, f ρ z = some (d, z') ∧ itD d = some ds := by
  obtain ⟨q, h1, h⟩ := Option.bind_eq_some_iff.mp h
  obtain ⟨w, h3, h⟩ := Option.map_eq_some_iff.mp h
  cases h
  exact ⟨q.1, h1, h3⟩
theorem vi_val (h : VE m sl X e f) : VI lp m sl X tg e (iV f) := ⟨fun pins s σ H g own ρ z ds z' I J S hf => by
  obtain ⟨d, h1, h2⟩ := iV_some hf
  refine thn (h.run pins s σ H g own ρ z d z' I J S h1) fun u s1 ⟨v, H1, I1, r, k, S1, q⟩ => ?_
  have hW := Wl_N (lp := lp) J
  exact thn (Src1.iter (tg := tg) I1 (q.src1 h2 hW) r hW) fun itv s2 ⟨it, fp, tn, Ji, H2, e, I2, T, st, ff, L, Wq⟩ => ⟨it, fp, tn, Ji, H2, e, I2, T, st, ff, H1, k, S1, L, Wq⟩⟩
/-- .. over a list that is owned (in a comprehension) -/
def iR (f : DE) : DI := iV (e1 lstD f)
theorem vi_own (h : VR m sl X e f) : VI false m sl X tg e (iR f) := ⟨fun pins s σ H g own ρ z ds z' I J S hf => by
  obtain ⟨d, h1, h2⟩ := iV_some hf
  obtain ⟨x, h0, hx⟩ := e1_some h1
  cases x with
  | list xs =>
    cases hx
    cases h2
    refine thn (h.run pins s σ H g own ρ z _ z' I J S h0) fun u s1 ⟨v, H1, I1, r, k, S1, q⟩ => ?_
    obtain ⟨a, vs, rfl, ha, na, ra⟩ := q.lst1 J.sn
    exact thn (Src1.iter (tg := tg) (W := g.src) I1 (.lst ha na ra) r fun b z => .inl (J.sn b z)) fun itv s2 ⟨it, fp, tn, Ji, H2, e, I2, T, st, ff, L, Wq⟩ => ⟨it, fp, tn, Ji, H2, e, I2, T, st, ff, H1, k, S1, L, Wq⟩
  | _ => cases hx⟩

/-! ### range -/
def big62 (i : Int) : Bool := decide (-(2 ^ 62) ≤ i) && decide (i < 2 ^ 62)
def iRg1 : List D → Option (List D)
  | [.int j] => if big62 j then some (rangeD 0 1 j.toNat) else none
  | _ => none
def iRg2 : List D → Option (List D)
  | [.int i, .int j] => if big62 i && big62 j then some (rangeD i 1 (j - i).toNat) else none
  | _ => none
def iRange (rg : List D → Option (List D)) (fs : DA) : DI := fun ρ z => (fs ρ z).bind fun p => (rg p.1).map fun ds => (ds, p.2)
theorem iRange_some {rg : List D → Option (List D)} {ρ : Env} {z z' : Src} {ds : List D} (h : iRange rg fs ρ z = some (ds, z')) : ∃ xs, fs ρ z = some (xs, z') ∧ rg xs = some ds := by
  obtain ⟨q, h1, h⟩ := Option.bind_eq_some_iff.mp h
  obtain ⟨w, h3, h⟩ := Option.map_eq_some_iff.mp h
  cases h
  exact ⟨q.1, h1, h3⟩
theorem RdAll.one {w : World} {g : Gh} {own : Own} {H : Hp} {vs : List V} {d : D} (q : RdAll w g own H vs [d]) : ∃ v, vs = [v] ∧ Rd w g own H v d := by
  cases q with
  | cons a b => cases b; exact ⟨_, rfl, a⟩
theorem RdAll.two {w : World} {g : Gh} {own : Own} {H : Hp} {vs : List V} {d d' : D} (q : RdAll w g own H vs [d, d']) : ∃ v v', vs = [v, v'] ∧ Rd w g own H v d ∧ Rd w g own H v' d' := by
  cases q with
  | cons a b =>
    obtain ⟨v', rfl, h⟩ := b.one
    exact ⟨_, v', rfl, a, h⟩
theorem RdAll.three {w : World} {g : Gh} {own : Own} {H : Hp} {vs : List V} {d d' d'' : D} (q : RdAll w g own H vs [d, d', d'']) : ∃ v v' v'', vs = [v, v', v''] ∧ Rd w g own H v d ∧ Rd w g own H v' d' ∧ Rd w g own H v'' d'' := by
  cases q with
  | cons a b =>
    obtain ⟨v', v'', rfl, h, h'⟩ := b.two
    exact ⟨_, v', v'', rfl, a, h, h'⟩
theorem VI.of_pi {fi : DI} {wi : L2.TI} (h : PI X tg e wi) (hw : ∀ (σ : L2.St) (H : Hp) (g : Gh) (own : Own) (ρ : Env) (z : Src) (ds : List D) (z' : Src), IV X.w g m sl own ρ σ H → SrcOk g H z → fi ρ z = some (ds, z') →
    wi σ H (fun J H2 => ∃ H1, Kp g.src H H1 ∧ SrcOk g H1 z' ∧ Lk X.H_0 (g.N own) H1 H2 ∧ Wk X.w (g.N own) (g.Wl lp own) J ds H2)) : VI lp m sl X tg e fi :=
  ⟨fun pins s σ H g own ρ z ds z' I J S hf => h.run pins s σ H _ I (hw σ H g own ρ z ds z' J S hf)⟩
theorem vi_range1 (hg : Gl X "range") (hm : X.mg "range" = none) (ha : VA m sl X [a] fs) (hs : starEach [a] X.env = [(false, eval a X.env)] := by rfl) : VI lp m sl X tg (.Call (.Name "range" p) [a] [] pos) (iRange iRg1 fs) :=
  VI.of_pi (pi_range1 hg hm ha.pa hs) fun σ H g own ρ z ds z' J S hf => by
    obtain ⟨xs, h1, h2⟩ := iRange_some hf
    refine ⟨g, own, ρ, z, xs, z', J, S, h1, fun vs H' k S' q => ?_⟩
    unfold iRg1 at h2
    split at h2
    · rename_i j
      obtain ⟨v, rfl, r⟩ := q.one
      split at h2
      · rename_i hb
        cases h2
        unfold big62 at hb
        simp only [Bool.and_eq_true, decide_eq_true_eq] at hb
        exact ⟨j, by rw [r.i], hb.1, hb.2, H', k, S', .no rfl, wk_range⟩
      · cases h2
    · cases h2
theorem vi_range2 (hg : Gl X "range") (hm : X.mg "range" = none) (ha : VA m sl X [a, b] fs) (hs : starEach [a, b] X.env = [(false, eval a X.env), (false, eval b X.env)] := by rfl) (hs2 : starEach [b] X.env = [(false, eval b X.env)] := by rfl) : VI lp m sl X tg (.Call (.Name "range" p) [a, b] [] pos) (iRange iRg2 fs) :=
  VI.of_pi (pi_range2 hg hm ha.pa hs hs2) fun σ H g own ρ z ds z' J S hf => by
    obtain ⟨xs, h1, h2⟩ := iRange_some hf
    refine ⟨g, own, ρ, z, xs, z', J, S, h1, fun vs H' k S' q => ?_⟩
    unfold iRg2 at h2
    split at h2
    · rename_i i j
      obtain ⟨v, v', rfl, r, r'⟩ := q.two
      split at h2
      · rename_i hb
        cases h2
        unfold big62 at hb
        simp only [Bool.and_eq_true, decide_eq_true_eq] at hb
        exact ⟨i, j, by rw [r.i, r'.i], ⟨hb.1.1, hb.1.2, hb.2.1, hb.2.2⟩, H', k, S', .no rfl, wk_range⟩
      · cases h2
    · cases h2

/-! ### zip -/
def iZ : List D → Option (List D)
  | [.list xs, .list ys] => some (zipD xs ys)
  | [.tuple xs, .tuple ys] => some (zipD xs ys)
  | _ => none
/-- what may be walked at the side of something that changes what is in W -/
theorem Rd.lstW {w : World} {g : Gh} {own : Own} {ρ : Env} {σ : L2.St} {H0 H : Hp} {v : V} {ds : List D} (J : IV w g m sl own ρ σ H0) (q : Rp w (g.N own) H v (.list ds)) : ∃ a xs, v = .ref a ∧ H a = some (.lst xs) ∧ ¬ g.Wl lp own a ∧ RpAll w (g.N own) H xs ds := by
  cases q with
  | lst ha na ra => exact ⟨_, _, rfl, ha, fun z => na (Wl_N J _ z), ra⟩
theorem Rp.two {w : World} {N : Addr → Prop} {H : Hp} {vs : List V} {d d' : D} (q : RpAll w N H vs [d, d']) : ∃ v v', vs = [v, v'] ∧ Rp w N H v d ∧ Rp w N H v' d' := by
  cases q with
  | cons a b =>
    cases b with
    | cons b c => cases c; exact ⟨_, _, rfl, a, b⟩
theorem Rp.one {w : World} {N : Addr → Prop} {H : Hp} {vs : List V} {d : D} (q : RpAll w N H vs [d]) : ∃ v, vs = [v] ∧ Rp w N H v d := by
  cases q with
  | cons a b => cases b; exact ⟨_, rfl, a⟩
theorem VC.pa (h : VC m sl X elts fs) : PA X elts (fun σ H Q => ∃ (g : Gh) (own : Own) (ρ : Env) (z : Src) (ds : List D) (z' : Src), IV X.w g m sl own ρ σ H ∧ SrcOk g H z ∧ fs ρ z = some (ds, z') ∧ ∀ vs H', Kp g.src H H' → SrcOk g H' z' → RpAll X.w (g.N own) H' vs ds → Q vs H') := ⟨fun pos pins s σ H Q I ⟨g, own, ρ, z, d, z', J, S, hf, q⟩ =>
  thn (h.run pos pins s σ H g own ρ z d z' I J S hf) fun u s1 ⟨v, H', I1, r, k, S1, q1⟩ => ⟨v, H', I1, r, q v H' k S1 q1⟩⟩
variable {telts : List Expr}
theorem vi_zip (hg : Gl X "zip") (hm : X.mg "zip" = none) (ha : VC m sl X [a, b] fs) (hs : starEach [a, b] X.env = (false, eval a X.env) :: starEach [b] X.env := by rfl) (hpl : (backTo pos (starEach [b] X.env)).any (·.1) = false := by rfl) :
    VI lp m sl X (.Tuple telts kk tpos) (.Call (.Name "zip" p) [a, b] [] pos) (iRange iZ fs) :=
  VI.of_pi (RZ.pi_zipA hg hm ha.pa hs hpl) fun σ H g own ρ z ds z' J S hf => by
    obtain ⟨xs, h1, h2⟩ := iRange_some hf
    refine ⟨g, own, ρ, z, xs, z', J, S, h1, fun vs H' k S' q => ?_⟩
    have hW := Wl_N (lp := lp) J
    unfold iZ at h2
    split at h2
    · rename_i xs ys
      cases h2
      obtain ⟨v, v', rfl, r, r'⟩ := Rp.two q
      cases r with
      | lst ha na ra =>
        cases r' with
        | lst hb nb rb => exact ⟨_, _, _, _, rfl, .inl ⟨SqL.of ha, SqL.of hb, H', k, S', .no rfl, wk_zipL ha (fun z => na (hW _ z)) ra hb (fun z => nb (hW _ z)) rb hW⟩⟩
    · rename_i xs ys
      cases h2
      obtain ⟨v, v', rfl, r, r'⟩ := Rp.two q
      cases r with
      | tup ha na ra =>
        cases r' with
        | tup hb nb rb => exact ⟨_, _, _, _, rfl, .inr ⟨SqT.of ha, SqT.of hb, H', k, S', .no rfl, wk_zipT ha (fun z => na (hW _ z)) ra hb (fun z => nb (hW _ z)) rb hW⟩⟩
    · cases h2
/-! ### enumerate -/
def iE : List D → Option (List D)
  | [.list xs] => some (enumD 0 xs)
  | [.tuple xs] => some (enumD 0 xs)
  | _ => none
theorem vi_enum (hg : Gl X "enumerate") (hm : X.mg "enumerate" = none) (ha : VC m sl X [a] fs) (hs : starEach [a] X.env = [(false, eval a X.env)] := by rfl) :
    VI lp m sl X (.Tuple telts kk tpos) (.Call (.Name "enumerate" p) [a] [] pos) (iRange iE fs) := ⟨fun pins s σ H g own ρ z ds z' I J S hf => by
  obtain ⟨xs, h1, h2⟩ := iRange_some hf
  have hW := Wl_N (lp := lp) J
  refine Call_ (ld_blt I hg hm boot_enumerate (PyProof.Rows.callWith_type1 (thn (ha.run pos pins s σ H g own ρ z xs z' I J S h1) fun us s1 ⟨vs, H1, I1, r1, k, S1, q⟩ => ?_) hs rfl))
  have fr : ∀ {b : Addr}, b ∈ [s1.heap.objs.size + 1, s1.heap.objs.size] → FpOk X pins H1 b := fun {b} hb => by
    have e' : b = s1.heap.objs.size + 1 ∨ b = s1.heap.objs.size := by simpa using hb
    have hle : s1.heap.objs.size ≤ b := by
      rcases e' with z | z
      · rw [z]; exact Nat.le_add_right _ _
      · rw [z]; exact Nat.le_refl _
    exact I1.fpOk hle (I1.hok.fresh hle)
  unfold iE at h2
  split at h2
  · rename_i xs
    cases h2
    obtain ⟨v, rfl, r⟩ := Rp.one q
    cases r with
    | @lst a xs' _ ha na ra =>
      cases r1 with
      | cons r rr =>
        cases rr
        cases r
        obtain ⟨its, rv, p', hz⟩ := I1.list (SqL.of ha)
        refine call_enumerate_list p'.isList fun h' he hit hsz hk => wpAny_pyIter_enum he ?_
        exact ⟨s1.heap.objs.size + 1, [s1.heap.objs.size + 1, s1.heap.objs.size], _, _, H1, rfl, I1.kept (t' := s1.toks) hk, turn_enum a (s1.heap.objs.size + 1) s1.heap.objs.size, ⟨⟨.none, he⟩, hit, Nat.succ_ne_self _⟩, fun b hb => fr hb, H1, k, S1, .no rfl, wk_enumL ha (fun z => na (hW _ z)) ra hW⟩
  · rename_i xs
    cases h2
    obtain ⟨v, rfl, r⟩ := Rp.one q
    cases r with
    | @tup a xs' _ ha na ra =>
      cases r1 with
      | cons r rr =>
        cases rr
        cases r
        obtain ⟨its, rv, p', hz⟩ := I1.tuple (SqT.of ha)
        have hT : s1.heap.IsTuple a its.toArray := p'
        refine enum_begins1 (begins_tuple a its.toArray) hT fun h' he ho hsz hk => wpAny_pyIter_enum he ?_
        exact ⟨s1.heap.objs.size + 1, [s1.heap.objs.size + 1, s1.heap.objs.size], _, _, H1, rfl, I1.kept (t' := s1.toks) hk, turn_enumT a (s1.heap.objs.size + 1) s1.heap.objs.size, ⟨⟨.none, he⟩, ⟨_, ho, rfl, rfl⟩, Nat.succ_ne_self _⟩, fun b hb => fr hb, H1, k, S1, .no rfl, wk_enumT ha (fun z => na (hW _ z)) ra hW⟩
  · cases h2⟩
end
end VL
set_option Elab.async false
set_option linter.all false
set_option maxRecDepth 100000
set_option maxHeartbeats 4000000
/-! The value layer, part 12: targets of other forms; several names at once. -/
namespace VL
open PySem PySem.Spec PyProof.Rows L2

section
variable {m ml : List Nat} {sl : Option Nat} {X : Cx} {e tg : Expr} {es : List Expr} {f : DE} {fg : DG} {pos : Pos} {is : List Nat}
/-- target = value -/
def sAsgG (f : DE) (g : DG) : DS := fun ρ z => (f ρ z).bind fun p => (g p.1 ρ).map fun ρ' => (.nx ρ', p.2)
theorem vs_asgG (he : VE m sl X e f) (hg : VG m sl X is tg fg) (hs : swapsWithSole [tg] e pos.line X.env = pure false := by rfl) (hw : swappedStores [tg] e X.env = pure none := by rfl)
    (h1 : (assignEach [tg] X.env).map (·.2) = [assign tg X.env] := by rfl) : VS m m ml sl X (.Assign [tg] e pos) (sAsgG f fg) := ⟨fun pins s σ H g own ρ z r z' I J S h => by
  obtain ⟨⟨d, z1⟩, e1, h⟩ := Option.bind_eq_some_iff.mp h
  obtain ⟨ρ', e2, e3⟩ := Option.map_eq_some_iff.mp h
  cases e3
  refine wpAny_Assign_stores (thn (he.run pins s σ H g own ρ z d _ I J S e1) fun u s1 ⟨v, H1, I1, r1, k1, S1, q1⟩ => ?_) hs hw
  rw [h1]
  have J1 := J.keep k1 S1
  exact thn (hg.run pins s1 σ H1 g own ρ v u d ρ' I1 J1 r1 q1 e2) fun _ s2 ⟨σ', I2, J2, _⟩ => ⟨rfl, σ', H1, own, I2, J.gr k1, J2, S1⟩⟩
end

def setAll (σ : L2.St) : List Nat → List V → L2.St
  | i :: is, v :: vs => setAll (σ.set i (some v)) is vs
  | _, _ => σ
abbrev DP2 := Env → Env → Src → Option (Env × Src)
/-- nothing but A is added -/
theorem IV.plus {w : World} {g : Gh} {m : List Nat} {sl : Option Nat} {own : Own} {ρ : Env} {σ : L2.St} {H2 H : Hp} {z : Src} {A : Addr} (J : IV w g m sl own ρ σ H2) (k : Kp g.src H2 H) (S : SrcOk g H z) (hD : H2 A = none) (mu : Mut (H A)) : IV w (g.plus A) m sl own ρ σ H :=
  J.blk (vs := []) k S hD mu fun _ _ => by simp
/-- values for several names, each name's slot in the end shared or owned -/
structure VPs (m mp mq : List Nat) (sl : Option Nat) (X : Cx) (es : List Expr) (is : List Nat) (f : DP2) : Prop where
  run : ∀ (pos : Pos) (pins : List (Addr × Obj)) (s : Shared) (σ : L2.St) (H : Hp) (gk : Gh) (own : Own) (ρ : Env) (z : Src) (g : Gh) (own' : Own) (ρ' : Env) (σ' : L2.St) (ρ2 : Env) (z' : Src), Inv X pins σ H s → IV X.w gk m sl own ρ σ H → SrcOk g H z → gk.st = g.st → IV X.w g mp sl own' ρ' σ' H → (∀ b, g.N own' b → gk.N own b) → ρ'.length = ρ.length → f ρ ρ' z = some (ρ2, z') →
    wpAny (model X.prog X.w) X.A (spliced (backTo pos (starEach es X.env))) (fun us s' => ∃ vs H' own2, Inv X pins σ H' s' ∧ Vals vs us ∧ vs.length = is.length ∧ Kp g.src H H' ∧ SrcOk g H' z' ∧ IV X.w g mq sl own2 ρ2 (setAll σ' is vs) H' ∧ (∀ i a, own2 i = some a → own' i = some a ∨ H a = none) ∧ ∀ i a, own2 i = some a → ¬ g.src a) X.xe s
section
variable {m mp mq ml : List Nat} {sl : Option Nat} {X : Cx} {e : Expr} {es : List Expr} {f : DE} {fp : DP2} {pos : Pos} {is : List Nat} {i : Nat}
def pNil : DP2 := fun _ ρ' z => some (ρ', z)
def pCons (i : Nat) (f : DE) (r : DP2) : DP2 := fun ρ ρ' z => (f ρ z).bind fun p => r ρ (ρ'.set i (some p.1)) p.2
theorem vps_nil : VPs m mp mp sl X [] [] pNil := ⟨fun _ pins s σ H gk own ρ z g own' ρ' σ' ρ2 z' I J S hsa J' hsub hll hf => by
  cases hf
  exact Calls.spliced_nil ⟨[], H, own', I, .nil, rfl, Kp.refl, S, J', fun i a h => .inl h, J'.nsrc⟩⟩
theorem src_sa {g g' : Gh} (h : g.st = g'.st) : g.src = g'.src := by
  have h1 : g.sa = g'.sa := congrArg Prod.fst h
  have h2 : g.tb = g'.tb := congrArg Prod.snd h
  funext b
  unfold Gh.src
  rw [h1, h2]
theorem SrcOk.sa {g g' : Gh} {H : Hp} {z : Src} (h : g.st = g'.st) (S : SrcOk g H z) : SrcOk g' H z := by
  have h1 : g.sa = g'.sa := congrArg Prod.fst h
  have h2 : g.tb = g'.tb := congrArg Prod.snd h
  unfold SrcOk at S ⊢
  rw [← h1, ← h2]
  exact S
theorem new_or {g : Gh} {H H1 : Hp} {a : Addr} (k : Kp g.src H H1) (n : ¬ g.src a) (q : H1 a = none) : H a = none := by
  cases e : H a with
  | none => rfl
  | some o => rw [k a o e n] at q; cases q
theorem vps_cons (ha : VE m sl X e f) (hr : VPs m mp mq sl X es is fp) {x : Str} (hi : X.N[i]? = some x := by rfl) (hm : i ∉ mp := by decide) (hsl : sl ≠ some i := by decide) (hs : starEach (e :: es) X.env = (false, eval e X.env) :: starEach es X.env := by rfl) : VPs m mp mq sl X (e :: es) (i :: is) (pCons i f fp) := ⟨fun pos pins s σ H gk own ρ z g own' ρ' σ' ρ2 z' I J S hsa J' hsub hll hf => by
  obtain ⟨⟨d, z1⟩, e1, e2⟩ := Option.bind_eq_some_iff.mp hf
  rw [hs]
  show wpAny _ _ (spliced ((false, eval e X.env) :: backTo pos (starEach es X.env))) _ _ s
  refine Calls.spliced_cons (thn (ha.run pins s σ H gk own ρ z d z1 I J (S.sa hsa.symm) e1) fun u s1 ⟨v, H1, I1, r1, k1, S1, q1⟩ => ?_)
  have k1' : Kp g.src H H1 := by rw [← src_sa hsa]; exact k1
  have S1' := S1.sa hsa
  have J1 := J.keep k1 S1
  have hl : i < ρ'.length := by rw [hll]; exact J.slot I hi
  have J1' := (J'.keep k1' S1').set hm hsl hl (q1.move fun b o e n => ⟨e, fun z => n (hsub b z)⟩)
  refine thn (hr.run pos pins s1 σ H1 gk own ρ z1 g own' _ _ ρ2 z' I1 J1 S1' hsa J1' hsub (by rw [List.length_set]; exact hll) e2) fun us s2 ⟨vs, H2, own2, I2, r2, hl2, k2, S2, J2, n2, m2⟩ => ?_
  refine ⟨v :: vs, H2, own2, I2, .cons r1 r2, by rw [List.length_cons, List.length_cons, hl2], k1'.trans k2, S2, J2, fun i a h => ?_, m2⟩
  exact (n2 i a h).imp (fun q => q) fun q => new_or k1' (m2 i a h) q⟩
theorem vps_consF (ha : VF m sl X e f) (hr : VPs m mp mq sl X es is fp) {x : Str} (hi : X.N[i]? = some x := by rfl) (hm : i ∈ mp := by decide) (hsl : sl ≠ some i := by decide) (hs : starEach (e :: es) X.env = (false, eval e X.env) :: starEach es X.env := by rfl) : VPs m mp mq sl X (e :: es) (i :: is) (pCons i f fp) := ⟨fun pos pins s σ H gk own ρ z g own' ρ' σ' ρ2 z' I J S hsa J' hsub hll hf => by
  obtain ⟨⟨d, z1⟩, e1, e2⟩ := Option.bind_eq_some_iff.mp hf
  rw [hs]
  show wpAny _ _ (spliced ((false, eval e X.env) :: backTo pos (starEach es X.env))) _ _ s
  refine Calls.spliced_cons (thn (ha.run pins s σ H gk own ρ z d z1 I J (S.sa hsa.symm) e1) fun u s1 ⟨A, H1, I1, r1, k1, S1, hn, mu, q1⟩ => ?_)
  have k1' : Kp g.src H H1 := by rw [← src_sa hsa]; exact k1
  have S1' := S1.sa hsa
  have J1 := J.plus k1 S1 hn mu
  have hl : i < ρ'.length := by rw [hll]; exact J.slot I hi
  have J1' := J'.setF k1' S1' hm hsl hl hn mu (q1.move (fun b o e n => ⟨e, fun z => n (z.imp (hsub b) fun z => z)⟩) fun o e => e)
  have hsub' : ∀ b, g.N (own'.put i A) b → (gk.plus A).N own b := fun b h => by
    refine Gh.plus_N.mpr ?_
    rcases h with h | ⟨j, h⟩
    · exact .inl (hsub b (.inl h))
    · rcases Own.put_cases h with ⟨_, h⟩ | ⟨_, h⟩
      · exact .inr h
      · exact .inl (hsub b (.inr ⟨j, h⟩))
  refine thn (hr.run pos pins s1 σ H1 (gk.plus A) own ρ z1 g _ _ _ ρ2 z' I1 J1 S1' hsa J1' hsub' (by rw [List.length_set]; exact hll) e2) fun us s2 ⟨vs, H2, own2, I2, r2, hl2, k2, S2, J2, n2, m2⟩ => ?_
  refine ⟨.ref A :: vs, H2, own2, I2, .cons r1 r2, by rw [List.length_cons, List.length_cons, hl2], k1'.trans k2, S2, J2, fun i a h => ?_, m2⟩
  rcases n2 i a h with q | q
  · rcases Own.put_cases q with ⟨_, q⟩ | ⟨_, q⟩
    · exact .inr (q ▸ hn)
    · exact .inl q
  · exact .inr (new_or k1' (m2 i a h) q)⟩
theorem vps_consN (ha : VF m sl X e f) (hr : VPs m (i :: mp) mq sl X es is fp) {x : Str} (hi : X.N[i]? = some x := by rfl) (hm : i ∉ mp := by decide) (hsl : sl ≠ some i := by decide) (hs : starEach (e :: es) X.env = (false, eval e X.env) :: starEach es X.env := by rfl) : VPs m mp mq sl X (e :: es) (i :: is) (pCons i f fp) := ⟨fun pos pins s σ H gk own ρ z g own' ρ' σ' ρ2 z' I J S hsa J' hsub hll hf => by
  obtain ⟨⟨d, z1⟩, e1, e2⟩ := Option.bind_eq_some_iff.mp hf
  rw [hs]
  show wpAny _ _ (spliced ((false, eval e X.env) :: backTo pos (starEach es X.env))) _ _ s
  refine Calls.spliced_cons (thn (ha.run pins s σ H gk own ρ z d z1 I J (S.sa hsa.symm) e1) fun u s1 ⟨A, H1, I1, r1, k1, S1, hn, mu, q1⟩ => ?_)
  have k1' : Kp g.src H H1 := by rw [← src_sa hsa]; exact k1
  have S1' := S1.sa hsa
  have J1 := J.plus k1 S1 hn mu
  have hl : i < ρ'.length := by rw [hll]; exact J.slot I hi
  have J1' := J'.setN k1' S1' hm hsl hl hn mu (q1.move (fun b o e n => ⟨e, fun z => n (z.imp (hsub b) fun z => z)⟩) fun o e => e)
  have hsub' : ∀ b, g.N (own'.put i A) b → (gk.plus A).N own b := fun b h => by
    refine Gh.plus_N.mpr ?_
    rcases h with h | ⟨j, h⟩
    · exact .inl (hsub b (.inl h))
    · rcases Own.put_cases h with ⟨_, h⟩ | ⟨_, h⟩
      · exact .inr h
      · exact .inl (hsub b (.inr ⟨j, h⟩))
  refine thn (hr.run pos pins s1 σ H1 (gk.plus A) own ρ z1 g _ _ _ ρ2 z' I1 J1 S1' hsa J1' hsub' (by rw [List.length_set]; exact hll) e2) fun us s2 ⟨vs, H2, own2, I2, r2, hl2, k2, S2, J2, n2, m2⟩ => ?_
  refine ⟨.ref A :: vs, H2, own2, I2, .cons r1 r2, by rw [List.length_cons, List.length_cons, hl2], k1'.trans k2, S2, J2, fun i a h => ?_, m2⟩
  rcases n2 i a h with q | q
  · rcases Own.put_cases q with ⟨_, q⟩ | ⟨_, q⟩
    · exact .inr (q ▸ hn)
    · exact .inl q
  · exact .inr (new_or k1' (m2 i a h) q)⟩
/-- what the values do, as the hand layer has it -/
def tPs (w : World) (m mq : List Nat) (sl : Option Nat) (is : List Nat) (f : DP2) : L2.TA := fun σ H Q => ∃ (g : Gh) (own : Own) (ρ : Env) (z : Src) (ρ2 : Env) (z' : Src), IV w g m sl own ρ σ H ∧ SrcOk g H z ∧ f ρ ρ z = some (ρ2, z') ∧
  ∀ vs H' own2, vs.length = is.length → Kp g.src H H' → SrcOk g H' z' → IV w g mq sl own2 ρ2 (setAll σ is vs) H' → (∀ i a, own2 i = some a → own i = some a ∨ H a = none) → (∀ i a, own2 i = some a → ¬ g.src a) → Q vs H'
theorem VPs.pa (h : VPs m m mq sl X es is fp) : PA X es (tPs X.w m mq sl is fp) := ⟨fun pos pins s σ H Q I ⟨g, own, ρ, z, ρ2, z', J, S, hf, q⟩ =>
  thn (h.run pos pins s σ H g own ρ z g own ρ σ ρ2 z' I J S rfl J (fun _ h => h) rfl hf) fun us s1 ⟨vs, H', own2, I1, r, hl, k, S1, J1, n1, m1⟩ => ⟨vs, H', I1, r, q vs H' own2 hl k S1 J1 n1 m1⟩⟩
def sPar (f : DP2) : DS := fun ρ z => (f ρ ρ z).map fun p => (.nx p.1, p.2)
theorem VPs.to {pins : List (Addr × Obj)} {σ : L2.St} {H : Hp} {g : Gh} {own : Own} {ρ : Env} {z : Src} {r : Fl} {z' : Src} (J : IV X.w g m sl own ρ σ H) (S : SrcOk g H z) (hf : sPar fp ρ z = some (r, z')) {Q : List V → Hp → Prop}
    (h : ∀ vs H' own2 ρ2, r = .nx ρ2 → vs.length = is.length → Gr g own H own2 H' → IV X.w g mq sl own2 ρ2 (setAll σ is vs) H' → SrcOk g H' z' → Q vs H') : tPs X.w m mq sl is fp σ H Q := by
  obtain ⟨⟨ρ2, z2⟩, e1, e2⟩ := Option.map_eq_some_iff.mp hf
  cases e2
  exact ⟨g, own, ρ, z, ρ2, _, J, S, e1, fun vs H' own2 hl k S1 J1 n1 m1 => h vs H' own2 ρ2 rfl hl ⟨k.mono fun _ => .inl, fun i a e => (n1 i a e).imp (fun q => ⟨i, q⟩) fun q => q, m1⟩ J1 S1⟩
variable {j l k2 kt : Nat} {x y w : Str} {a b c : Expr} {px py pw pt pt2 : Pos}
theorem vs_par2 (hc : X.calm = true) (hN : X.N.Nodup) (hp : VPs m m mq sl X [a, b] [i, j] fp) (hi : X.N[i]? = some x := by rfl) (hj : X.N[j]? = some y := by rfl) (hij : i ≠ j := by decide)
    (hx : X.env.scope.names.lookup x = some .local := by rfl) (hy : X.env.scope.names.lookup y = some .local := by rfl)
    (hw : swappedStores [.Tuple [.Name x px, .Name y py] kt pt] (.Tuple [a, b] k2 pt2) X.env = pure (some [x, y]) := by rfl)
    (hs : swapsWithSole [.Tuple [.Name x px, .Name y py] kt pt] (.Tuple [a, b] k2 pt2) pos.line X.env = pure false := by rfl) :
    VS m mq ml sl X (.Assign [.Tuple [.Name x px, .Name y py] kt pt] (.Tuple [a, b] k2 pt2) pos) (sPar fp) := ⟨fun pins s σ H g own ρ z r z' I J S hf => by
  refine thn ((ps_par hc hN hi hj hij hx hy hp.pa hw hs).run pins s σ H ⟨fun σ' H' => ∃ own2 ρ2, r = .nx ρ2 ∧ Gr g own H own2 H' ∧ IV X.w g mq sl own2 ρ2 σ' H' ∧ SrcOk g H' z', fun _ _ => False, fun _ _ => False, fun _ _ => False⟩ I ?_) fun f s1 q => ?_
  · refine VPs.to (pins := pins) J S hf fun vs H' own2 ρ2 e hl G J2 S2 => ?_
    match vs, hl with
    | [v, u], _ => exact ⟨v, u, rfl, own2, ρ2, e, G, J2, S2⟩
  · cases f with
    | next => obtain ⟨σ', H', I1, own2, ρ2, rfl, G, J2, S2⟩ := q; exact ⟨rfl, σ', H', own2, I1, G, J2, S2⟩
    | brk => obtain ⟨_, _, _, q⟩ := q; exact q.elim
    | cont => obtain ⟨_, _, _, q⟩ := q; exact q.elim
    | ret u => obtain ⟨_, _, _, _, _, q⟩ := q; exact q.elim⟩
theorem vs_par3 (hc : X.calm = true) (hN : X.N.Nodup) (hp : VPs m m mq sl X [a, b, c] [i, j, l] fp) (hi : X.N[i]? = some x := by rfl) (hj : X.N[j]? = some y := by rfl) (hl : X.N[l]? = some w := by rfl) (hij : i ≠ j := by decide) (hil : i ≠ l := by decide) (hjl : j ≠ l := by decide)
    (hx : X.env.scope.names.lookup x = some .local := by rfl) (hy : X.env.scope.names.lookup y = some .local := by rfl) (hz : X.env.scope.names.lookup w = some .local := by rfl)
    (hw : swappedStores [.Tuple [.Name x px, .Name y py, .Name w pw] kt pt] (.Tuple [a, b, c] k2 pt2) X.env = pure (some [x, y, w]) := by rfl)
    (hs : swapsWithSole [.Tuple [.Name x px, .Name y py, .Name w pw] kt pt] (.Tuple [a, b, c] k2 pt2) pos.line X.env = pure false := by rfl) :
    VS m mq ml sl X (.Assign [.Tuple [.Name x px, .Name y py, .Name w pw] kt pt] (.Tuple [a, b, c] k2 pt2) pos) (sPar fp) := ⟨fun pins s σ H g own ρ z r z' I J S hf => by
  refine thn ((ps_par3 hc hN hi hj hl hij hil hjl hx hy hz hp.pa hw hs).run pins s σ H ⟨fun σ' H' => ∃ own2 ρ2, r = .nx ρ2 ∧ Gr g own H own2 H' ∧ IV X.w g mq sl own2 ρ2 σ' H' ∧ SrcOk g H' z', fun _ _ => False, fun _ _ => False, fun _ _ => False⟩ I ?_) fun f s1 q => ?_
  · refine VPs.to (pins := pins) J S hf fun vs H' own2 ρ2 e hl G J2 S2 => ?_
    match vs, hl with
    | [v, u, t], _ => exact ⟨v, u, t, rfl, own2, ρ2, e, G, J2, S2⟩
  · cases f with
    | next => obtain ⟨σ', H', I1, own2, ρ2, rfl, G, J2, S2⟩ := q; exact ⟨rfl, σ', H', own2, I1, G, J2, S2⟩
    | brk => obtain ⟨_, _, _, q⟩ := q; exact q.elim
    | cont => obtain ⟨_, _, _, q⟩ := q; exact q.elim
    | ret u => obtain ⟨_, _, _, _, _, q⟩ := q; exact q.elim⟩
/-- names as targets, one after another -/
def gNames : List Nat → L2.TGs
  | [], vs, σ, H, Q => vs = [] ∧ Q σ H
  | i :: is, vs, σ, H, Q => ∃ v r, vs = v :: r ∧ gNames is r (σ.set i (some v)) H Q
theorem pgn_nil : PGs X [] (gNames []) := ⟨fun pins s σ H vs us Q I r h => pgs_nil.run pins s σ H vs us Q I r h⟩
theorem pgn_cons {ts : List Expr} (hN : X.N.Nodup) (h2 : PGs X ts (gNames is)) (hi : X.N[i]? = some x := by rfl) (hx : Loc X.env.scope x := by first | exact Or.inl rfl | exact Or.inr rfl) (hf : X.fn x = true ∨ X.env.scope.names.lookup x = some .local := by first | exact .inl rfl | exact .inr rfl)
    (hs : (assignEach (.Name x px :: ts) X.env).map (·.2) = assign (.Name x px) X.env :: (assignEach ts X.env).map (·.2) := by rfl) : PGs X (.Name x px :: ts) (gNames (i :: is)) :=
  ⟨fun pins s σ H vs us Q I r h => (pgs_cons (pg_name hN hi hx hf) h2 hs).run pins s σ H vs us Q I r h⟩
theorem gNames_of : ∀ {is : List Nat} {vs : List V} {σ : L2.St} {H : Hp} {Q : L2.St → Hp → Prop}, vs.length = is.length → Q (setAll σ is vs) H → gNames is vs σ H Q
  | [], [], _, _, _, _, h => ⟨rfl, h⟩
  | i :: is, v :: vs, _, _, _, hl, h => ⟨v, vs, rfl, gNames_of (by simpa using hl) h⟩
/-- a, b, .. = x, y, .. where the pair is made and taken apart -/
theorem vs_parN {ts : List Expr} {n : Nat} (hc : X.calm = true) (hp : VPs m m mq sl X es is fp) (hg : PGs X ts (gNames is)) (hlen : is.length = n := by rfl) (hsm : n ≤ 1000 := by decide)
    (hn : (assignEach ts X.env).length = n := by rfl) (hst : (assignEach ts X.env).findIdx? (·.1) = none := by rfl)
    (hs : swapsWithSole [.Tuple ts kt pt] (.Tuple es k2 pt2) pos.line X.env = pure false := by rfl) (hw : swappedStores [.Tuple ts kt pt] (.Tuple es k2 pt2) X.env = pure none := by rfl)
    (h1 : (assignEach [.Tuple ts kt pt] X.env).map (·.2) = [assign (.Tuple ts kt pt) X.env] := by rfl) :
    VS m mq ml sl X (.Assign [.Tuple ts kt pt] (.Tuple es k2 pt2) pos) (sPar fp) := ⟨fun pins s σ H g own ρ z r z' I J S hf => by
  refine thn ((ps_asg (pe_tup hp.pa) (pg_tup hc hg hn hst) hs hw h1).run pins s σ H ⟨fun σ' H' => ∃ own2 ρ2, r = .nx ρ2 ∧ Gr g own H own2 H' ∧ IV X.w g mq sl own2 ρ2 σ' H' ∧ SrcOk g H' z', fun _ _ => False, fun _ _ => False, fun _ _ => False⟩ I ?_) fun f s1 q => ?_
  · refine VPs.to (pins := pins) J S hf fun vs H' own2 ρ2 e hl G J2 S2 => ?_
    refine ⟨by rw [hl, hlen]; exact Nat.le_of_lt (small1000 hsm), fun p hp => ?_⟩
    refine ⟨p, vs, rfl, SqT.of upd_same, by rw [hl, hlen], gNames_of hl ⟨own2, ρ2, e, G.same (VL.same_upd hp), J2.same S2 (VL.same_upd hp), S2.same (VL.same_upd hp)⟩⟩
  · cases f with
    | next => obtain ⟨σ', H', I1, own2, ρ2, rfl, G, J2, S2⟩ := q; exact ⟨rfl, σ', H', own2, I1, G, J2, S2⟩
    | brk => obtain ⟨_, _, _, q⟩ := q; exact q.elim
    | cont => obtain ⟨_, _, _, q⟩ := q; exact q.elim
    | ret u => obtain ⟨_, _, _, _, _, q⟩ := q; exact q.elim⟩
end
end VL
set_option Elab.async false
set_option linter.all false
set_option maxRecDepth 100000
set_option maxHeartbeats 4000000
/-! The value layer, part 13: lists that change. -/
namespace VL
open PySem PySem.Spec PyProof.Rows L2

/-! ### o.m(..) -/
section
variable {X : Cx} {T id : String} {o e : Expr} {name : Str} {es : List Expr} {apos cpos : Pos} {Q E : Value → Shared → Prop} {s : Shared}
def IsT (s : Shared) (v : Value) (T : String) : Prop := s.TypeIs v T ∧ ∀ a, v = .ref a → ∃ ob, s.heap.get? a = some ob ∧ ob.dict = none
theorem wp_bm0 (pa : PlainAttrs T) (slot : Slot T name id) (hty : typeOf (.builtin id) = pure (.type "method_descriptor"))
    (h : wpAny (model X.prog X.w) X.A (eval o X.env) (fun v s1 => IsT s1 v T ∧ wpAny (model X.prog X.w) X.A (call (.builtin id) [v]) Q X.xe s1) X.xe s)
    (hbase : attributeBase o name X.env (eval o X.env) = eval o X.env := by rfl) (hline : (apos.endLine == cpos.line) = true := by rfl) : wpAny (model X.prog X.w) X.A (eval (.Call (.Attribute o name apos) [] [] cpos) X.env) Q X.xe s := by
  refine wpAny_Call_method0_late hbase hline (thn h fun v s1 ⟨⟨h1, h2⟩, q⟩ => ?_)
  exact ⟨T, id, pa, slot, hty, h1, h2, Calls.callWith_builtin rfl (PySem.evalArgs_none q)⟩
theorem wp_bm (pa : PlainAttrs T) (slot : Slot T name id) (hty : typeOf (.builtin id) = pure (.type "method_descriptor"))
    (h : wpAny (model X.prog X.w) X.A (eval o X.env) (fun v s1 => IsT s1 v T ∧ wpAny (model X.prog X.w) X.A (spliced (backTo cpos (starEach (e :: es) X.env))) (fun us s2 => wpAny (model X.prog X.w) X.A (call (.builtin id) (v :: us)) Q X.xe s2) X.xe s1) X.xe s)
    (hbase : attributeBase o name X.env (eval o X.env) = eval o X.env := by rfl)
    (hfew : ((backTo cpos (starEach (e :: es) X.env)).all (fun x => !x.1) && (backToKw cpos (keywordEach [] X.env)).all (fun x => x.1.isSome)
      && decide ((e :: es).length + ([] : List Keyword).length + (if ([] : List Keyword).isEmpty then 0 else 1) < 30)) = true := by rfl)
    (hline : (apos.endLine == cpos.line) = true := by rfl) (hs : starEach (e :: es) X.env = (false, eval e X.env) :: starEach es X.env := by rfl) (hplain : (backTo cpos (starEach es X.env)).any (·.1) = false := by rfl) :
    wpAny (model X.prog X.w) X.A (eval (.Call (.Attribute o name apos) (e :: es) [] cpos) X.env) Q X.xe s := by
  refine wpAny_Call_method_late hbase hfew hline rfl (thn h fun v s1 ⟨⟨h1, h2⟩, hA⟩ => ?_)
  refine ⟨T, id, pa, slot, hty, h1, h2, ?_⟩
  rw [hs] at hA ⊢
  exact Calls.callWith_builtin (by show (false || (backTo cpos (starEach es X.env)).any (·.1)) = false; rw [hplain] <;> rfl) (Calls.evalArgs_plain hA)
theorem IsT.lst {pins : List (Addr × Obj)} {σ : L2.St} {H : Hp} {a : Addr} {xs : List V} (I : Inv X pins σ H s) (h : H a = some (.lst xs)) : IsT s (.ref a) "list" :=
  tyV_is (x := .ref a) I rfl (.inl ⟨rfl, xs, SqL.of h⟩)
end

/-! ### what is evaluated and changes what is owned -/
abbrev DX := Env → Src → Option (D × Env × Src)
structure VX (m : List Nat) (sl : Option Nat) (X : Cx) (e : Expr) (f : DX) : Prop where
  run : ∀ (pins : List (Addr × Obj)) (s : Shared) (σ : L2.St) (H : Hp) (g : Gh) (own : Own) (ρ : Env) (z : Src) (d : D) (ρ' : Env) (z' : Src), Inv X pins σ H s → IV X.w g m sl own ρ σ H → SrcOk g H z → f ρ z = some (d, ρ', z') →
    wpAny (model X.prog X.w) X.A (eval e X.env) (fun u s' => ∃ v H', Inv X pins σ H' s' ∧ RelV v u ∧ Gr g own H own H' ∧ IV X.w g m sl own ρ' σ H' ∧ SrcOk g H' z' ∧ Rp X.w (g.N own) H' v d) X.xe s
/-- the slot is written: its old list or dict is another one now -/
theorem IV.wr {w : World} {g : Gh} {m : List Nat} {sl : Option Nat} {own : Own} {ρ : Env} {σ : L2.St} {H : Hp} {i : Nat} {a : Addr} {o : HO} {d : D} (J : IV w g m sl own ρ σ H) (hi : i ∈ m) (ha : own i = some a) (hl : i < ρ.length) (hσ : σ[i]? = some (some (.ref a))) (mu : Mut (some o)) (q : Sh w (g.N own) (upd H a o) a d) :
    IV w g m sl own (ρ.set i (some d)) σ (upd H a o) := by
  have nN : g.N own a := .inr ⟨i, ha⟩
  have mv : ∀ b o', H b = some o' → ¬ g.N own b → upd H a o b = some o' ∧ ¬ g.N own b := fun b o' e n => ⟨by rw [upd_ne (fun c : b = a => n (c ▸ nN))]; exact e, n⟩
  refine ⟨by rw [List.length_set]; exact J.len, fun j d' h1 h2 => ?_, fun j d' h1 h2 => ?_, J.src, fun j b e => ?_, J.oi, fun b n => ?_, J.sn⟩
  · have e : i ≠ j := fun e => h2 (e ▸ hi)
    rw [List.getElem?_set_ne e] at h1
    obtain ⟨v, h3, h4⟩ := J.cl j d' h1 h2
    exact ⟨v, h3, h4.move mv⟩
  · by_cases e : i = j
    · subst e
      rw [List.getElem?_set_self hl] at h1
      cases h1
      exact ⟨a, hσ, ha, q⟩
    · rw [List.getElem?_set_ne e] at h1
      obtain ⟨b, h3, h4, h5⟩ := J.ow j d' h1 h2
      have ne : b ≠ a := fun c => e (J.oi i j b (c ▸ ha) h4)
      exact ⟨b, h3, h4, h5.move mv fun o' e' => by rw [upd_ne ne]; exact e'⟩
  · obtain ⟨h1, h2, h3⟩ := J.om j b e
    refine ⟨h1, h2, ?_⟩
    by_cases c : b = a
    · rw [c, upd_same]; exact mu
    · rw [upd_ne c]; exact h3
  · have ne : b ≠ a := fun c => (J.om i a ha).2.1 (c ▸ n)
    rw [upd_ne ne]
    exact J.n0 b n
theorem IV.wrG {w : World} {g : Gh} {m : List Nat} {sl : Option Nat} {own : Own} {ρ : Env} {σ : L2.St} {H : Hp} {i : Nat} {a : Addr} {o : HO} (J : IV w g m sl own ρ σ H) (ha : own i = some a) : Gr g own H own (upd H a o) :=
  ⟨fun b u e n => by rw [upd_ne (fun c : b = a => n (.inr ⟨i, c ▸ ha⟩))]; exact e, fun i a h => .inl ⟨i, h⟩, J.nsrc⟩
theorem IV.wrS {w : World} {g : Gh} {m : List Nat} {sl : Option Nat} {own : Own} {ρ : Env} {σ : L2.St} {H : Hp} {i : Nat} {a : Addr} {o : HO} {z : Src} (J : IV w g m sl own ρ σ H) (ha : own i = some a) (S : SrcOk g H z) : SrcOk g (upd H a o) z :=
  S.wr (J.nsrc i a ha) (J.om i a ha).2.2
theorem Rp.wr {w : World} {g : Gh} {m : List Nat} {sl : Option Nat} {own : Own} {ρ : Env} {σ : L2.St} {H : Hp} {i : Nat} {a : Addr} {o : HO} {v : V} {d : D} (h : Rp w (g.N own) H v d) (ha : own i = some a) : Rp w (g.N own) (upd H a o) v d :=
  h.move fun b o' e n => ⟨by rw [upd_ne (fun c : b = a => n (.inr ⟨i, c ▸ ha⟩))]; exact e, n⟩
theorem RpAll.wr {w : World} {g : Gh} {own : Own} {H : Hp} {i : Nat} {a : Addr} {o : HO} {v : List V} {d : List D} (h : RpAll w (g.N own) H v d) (ha : own i = some a) : RpAll w (g.N own) (upd H a o) v d :=
  h.move fun b o' e n => ⟨by rw [upd_ne (fun c : b = a => n (.inr ⟨i, c ▸ ha⟩))]; exact e, n⟩
theorem Gr.src {g : Gh} {own : Own} {H H' : Hp} {m : List Nat} {sl : Option Nat} {w : World} {ρ : Env} {σ : L2.St} (J : IV w g m sl own ρ σ H) (k : Kp g.src H H') : Gr g own H own H' := J.gr k

/-- the list in a slot -/
def lstAt (i : Nat) (ρ : Env) : Option (List D) := match ρ[i]? with
  | some (some (.list ds)) => some ds
  | _ => none
theorem lstAt_some {i : Nat} {ρ : Env} {ds : List D} (h : lstAt i ρ = some ds) : ρ[i]? = some (some (.list ds)) := by
  unfold lstAt at h
  split at h
  · rename_i e; cases h; exact e
  · cases h
theorem IV.lstO {w : World} {g : Gh} {m : List Nat} {sl : Option Nat} {own : Own} {ρ : Env} {σ : L2.St} {H : Hp} {i : Nat} {ds : List D} (J : IV w g m sl own ρ σ H) (hi : i ∈ m) (h : lstAt i ρ = some ds) : ∃ a xs, σ[i]? = some (some (.ref a)) ∧ own i = some a ∧ H a = some (.lst xs) ∧ RpAll w (g.N own) H xs ds ∧ i < ρ.length := by
  have h := lstAt_some h
  obtain ⟨a, h1, h2, h3⟩ := J.ow i _ h hi
  cases h3 with
  | lst h4 h5 => exact ⟨a, _, h1, h2, h4, h5, (List.getElem?_eq_some_iff.mp h).1⟩
def xV (f : DE) : DX := fun ρ z => (f ρ z).map fun p => (p.1, ρ, p.2)
section
variable {m ml : List Nat} {sl : Option Nat} {X : Cx} {e a b : Expr} {f fa fb : DE} {fx : DX} {x : Str} {px apos pos cpos : Pos} {i j : Nat}
theorem vx_val (h : VE m sl X e f) : VX m sl X e (xV f) := ⟨fun pins s σ H g own ρ z d ρ' z' I J S hf => by
  obtain ⟨⟨d1, z1⟩, h1, h2⟩ := Option.map_eq_some_iff.mp hf
  cases h2
  exact thn (h.run pins s σ H g own ρ z _ _ I J S h1) fun u s1 ⟨v, H1, I1, r, k, S1, q⟩ => ⟨v, H1, I1, r, J.gr k, J.keep k S1, S1, q⟩⟩
/-- the name of an owned slot -/
theorem own_name {pins : List (Addr × Obj)} {s : Shared} {σ : L2.St} {H : Hp} {A : Addr} (I : Inv X pins σ H s) (h : σ[i]? = some (some (.ref A))) (hN : X.N[i]? = some x) (hv : Vis X.env.scope x) (hd : (x == ("__debug__" : Str)) = false) (hcd : (x == ("__classdict__" : Str)) = false) :
    wpAny (model X.prog X.w) X.A (eval (.Name x px) X.env) (fun u s1 => u = .ref A ∧ Inv X pins σ H s1) X.xe s :=
  thn ((pe_var (i := i) hN hv hd hcd).run pins s σ H (fun w H' => w = .ref A ∧ H' = H) I ⟨_, h, rfl, rfl⟩) fun u s1 ⟨w, H1, I1, r, e1, e2⟩ => by
    subst e1 e2
    exact ⟨r, I1⟩
/-- one argument -/
theorem arg1 {s : Shared} {Q : List Value → Shared → Prop} {E : Value → Shared → Prop} (h : wpAny (model X.prog X.w) X.A (eval e X.env) (fun u s1 => Q [u] s1) E s) (hs : starEach [e] X.env = [(false, eval e X.env)]) : wpAny (model X.prog X.w) X.A (spliced (backTo cpos (starEach [e] X.env))) Q E s := by
  rw [hs]
  show wpAny _ _ (spliced ((false, eval e X.env) :: [])) _ _ s
  exact Calls.spliced_cons (thn h fun u s1 q => Calls.spliced_nil q)
/-! ### append, pop -/
def xAppend (i : Nat) (f : DX) : DX := fun ρ z => (lstAt i ρ).bind fun _ => (f ρ z).bind fun p => (lstAt i p.2.1).bind fun ds => if ds.length < sizeLine then some (.none, p.2.1.set i (some (.list (ds ++ [p.1]))), p.2.2) else none
theorem vx_append (i : Nat) (he : VX m sl X e fx) (hN : X.N[i]? = some x := by rfl) (hm : i ∈ m := by decide) (hv : Vis X.env.scope x := by first | exact Or.inl rfl | exact Or.inr (Or.inl rfl) | exact Or.inr (Or.inr rfl)) (hd : (x == ("__debug__" : Str)) = false := by decide) (hcd : (x == ("__classdict__" : Str)) = false := by decide)
    (hbase : attributeBase (.Name x px) "append" X.env (eval (.Name x px) X.env) = eval (.Name x px) X.env := by rfl)
    (hfew : ((backTo cpos (starEach [e] X.env)).all (fun x => !x.1) && (backToKw cpos (keywordEach [] X.env)).all (fun x => x.1.isSome)
      && decide ([e].length + ([] : List Keyword).length + (if ([] : List Keyword).isEmpty then 0 else 1) < 30)) = true := by rfl)
    (hline : (apos.endLine == cpos.line) = true := by rfl) (hs : starEach [e] X.env = [(false, eval e X.env)] := by rfl) (hplain : (backTo cpos (starEach [] X.env)).any (·.1) = false := by rfl) :
    VX m sl X (.Call (.Attribute (.Name x px) "append" apos) [e] [] cpos) (xAppend i fx) := ⟨fun pins s σ H g own ρ z d ρ' z' I J S hf => by
  obtain ⟨ds0, h0, hf⟩ := Option.bind_eq_some_iff.mp hf
  obtain ⟨⟨d1, ρ1, z1⟩, h1, hf⟩ := Option.bind_eq_some_iff.mp hf
  obtain ⟨ds, h2, hf⟩ := Option.bind_eq_some_iff.mp hf
  split at hf
  · rename_i hz
    cases hf
    obtain ⟨A, xs0, hσ, hA, hH0, _, _⟩ := J.lstO hm h0
    refine wp_bm F.plainAttrs_list F.slot_list_append F.type_list_append (thn (own_name I hσ hN hv hd hcd) fun u s1 ⟨e1, I1⟩ => ?_) hbase hfew hline hs hplain
    subst e1
    refine ⟨IsT.lst I1 hH0, arg1 (thn (he.run pins s1 σ H g own ρ z d1 ρ1 z1 I1 J S h1) fun u s2 ⟨v, H2, I2, r2, G2, J2, S2, q2⟩ => ?_) hs⟩
    obtain ⟨A', xs, hσ', hA', hH, ra, hl⟩ := J2.lstO hm h2
    rw [hσ] at hσ'
    cases hσ'
    refine thn (mt_append pins s2 σ H2 (.ref A) [v] (.ref A) [u] (fun v' H' => v' = .non ∧ H' = upd H2 A (.lst (xs ++ [v]))) I2 rfl (.cons r2 .nil) ⟨A, xs, v, rfl, rfl, hH, by rw [ra.length]; exact hz, rfl, rfl⟩) fun u3 s3 ⟨v3, H3, I3, r3, e3, e4⟩ => ?_
    subst e3 e4
    have J3 := J2.wr (o := .lst (xs ++ [v])) (d := .list (ds ++ [d1])) hm hA' hl hσ trivial (.lst upd_same ((ra.append (.one q2)).wr hA'))
    exact ⟨.non, _, I3, r3, G2.trans (J2.wrG hA'), J3, J2.wrS hA' S2, .non⟩
  · cases hf⟩
def xPop (i : Nat) : DX := fun ρ z => (lstAt i ρ).bind fun ds => (ds[ds.length - 1]?).map fun d => (d, ρ.set i (some (.list ds.dropLast)), z)
theorem vx_pop (i : Nat) (hN : X.N[i]? = some x := by rfl) (hm : i ∈ m := by decide) (hv : Vis X.env.scope x := by first | exact Or.inl rfl | exact Or.inr (Or.inl rfl) | exact Or.inr (Or.inr rfl)) (hd : (x == ("__debug__" : Str)) = false := by decide) (hcd : (x == ("__classdict__" : Str)) = false := by decide)
    (hbase : attributeBase (.Name x px) "pop" X.env (eval (.Name x px) X.env) = eval (.Name x px) X.env := by rfl) (hline : (apos.endLine == cpos.line) = true := by rfl) :
    VX m sl X (.Call (.Attribute (.Name x px) "pop" apos) [] [] cpos) (xPop i) := ⟨fun pins s σ H g own ρ z d ρ' z' I J S hf => by
  obtain ⟨ds, h0, hf⟩ := Option.bind_eq_some_iff.mp hf
  obtain ⟨d1, h1, hf⟩ := Option.map_eq_some_iff.mp hf
  cases hf
  obtain ⟨A, xs, hσ, hA, hH, ra, hl⟩ := J.lstO hm h0
  obtain ⟨y, hy, qy⟩ := ra.get h1
  refine wp_bm0 F.plainAttrs_list F.slot_list_pop F.type_list_pop (thn (own_name I hσ hN hv hd hcd) fun u s1 ⟨e1, I1⟩ => ?_) hbase hline
  subst e1
  refine ⟨IsT.lst I1 hH, ?_⟩
  refine thn (mt_pop pins s1 σ H (.ref A) [] (.ref A) [] (fun v' H' => v' = y ∧ H' = upd H A (.lst xs.dropLast)) I1 rfl .nil ⟨A, xs, y, rfl, rfl, hH, by rw [ra.length]; exact hy, rfl, rfl⟩) fun u3 s3 ⟨v3, H3, I3, r3, e3, e4⟩ => ?_
  subst e3 e4
  exact ⟨_, _, I3, r3, J.wrG hA, J.wr (o := .lst xs.dropLast) hm hA hl hσ trivial (.lst upd_same (ra.dropLast.wr hA)), J.wrS hA S, qy.wr (m := m) (sl := sl) (ρ := ρ) (σ := σ) hA⟩⟩
/-- the place i as list.pop has it -/
def ixP (i : Int) (n : Nat) : Option Nat := if big62 i then seqIndex? i n else none
def xPopAt (i : Nat) (f : DE) : DX := fun ρ z => (lstAt i ρ).bind fun ds => (f ρ z).bind fun p => match p.1 with
  | .int k => (ixP k ds.length).bind fun j => (ds[j]?).map fun d => (d, ρ.set i (some (.list (ds.eraseIdx j))), p.2)
  | _ => none
theorem vx_popAt (i : Nat) (he : VE m sl X e f) (hN : X.N[i]? = some x := by rfl) (hm : i ∈ m := by decide) (hv : Vis X.env.scope x := by first | exact Or.inl rfl | exact Or.inr (Or.inl rfl) | exact Or.inr (Or.inr rfl)) (hd : (x == ("__debug__" : Str)) = false := by decide) (hcd : (x == ("__classdict__" : Str)) = false := by decide)
    (hbase : attributeBase (.Name x px) "pop" X.env (eval (.Name x px) X.env) = eval (.Name x px) X.env := by rfl)
    (hfew : ((backTo cpos (starEach [e] X.env)).all (fun x => !x.1) && (backToKw cpos (keywordEach [] X.env)).all (fun x => x.1.isSome)
      && decide ([e].length + ([] : List Keyword).length + (if ([] : List Keyword).isEmpty then 0 else 1) < 30)) = true := by rfl)
    (hline : (apos.endLine == cpos.line) = true := by rfl) (hs : starEach [e] X.env = [(false, eval e X.env)] := by rfl) (hplain : (backTo cpos (starEach [] X.env)).any (·.1) = false := by rfl) :
    VX m sl X (.Call (.Attribute (.Name x px) "pop" apos) [e] [] cpos) (xPopAt i f) := ⟨fun pins s σ H g own ρ z d ρ' z' I J S hf => by
  obtain ⟨ds, h0, hf⟩ := Option.bind_eq_some_iff.mp hf
  obtain ⟨⟨dk, z1⟩, h1, hf⟩ := Option.bind_eq_some_iff.mp hf
  obtain ⟨A, xs0, hσ, hA, hH0, _, _⟩ := J.lstO hm h0
  refine wp_bm F.plainAttrs_list F.slot_list_pop F.type_list_pop (thn (own_name I hσ hN hv hd hcd) fun u s1 ⟨e1, I1⟩ => ?_) hbase hfew hline hs hplain
  subst e1
  refine ⟨IsT.lst I1 hH0, arg1 (thn (he.run pins s1 σ H g own ρ z dk z1 I1 J S h1) fun u s2 ⟨v, H2, I2, r2, k2, S2, q2⟩ => ?_) hs⟩
  have J2 := J.keep k2 S2
  obtain ⟨A', xs, hσ', hA', hH, ra, hl⟩ := J2.lstO hm h0
  rw [hσ] at hσ'
  cases hσ'
  cases q2 with
  | int kk =>
    obtain ⟨j, hj, hf⟩ := Option.bind_eq_some_iff.mp hf
    obtain ⟨d1, hd1, hf⟩ := Option.map_eq_some_iff.mp hf
    cases hf
    obtain ⟨y, hy, qy⟩ := ra.get hd1
    unfold ixP at hj
    split at hj
    · rename_i hb
      unfold big62 at hb
      simp only [Bool.and_eq_true, decide_eq_true_eq] at hb
      refine thn (mt_popAt pins s2 σ H2 (.ref A) [.int kk] (.ref A) [u] (fun v' H' => v' = y ∧ H' = upd H2 A (.lst (xs.eraseIdx j))) I2 rfl (.cons r2 .nil) ⟨A, xs, kk, j, y, rfl, rfl, hH, by omega, by omega, by rw [ra.length]; exact hj, hy, rfl, rfl⟩) fun u3 s3 ⟨v3, H3, I3, r3, e3, e4⟩ => ?_
      subst e3 e4
      exact ⟨_, _, I3, r3, (J.gr k2).trans (J2.wrG hA'), J2.wr (o := .lst (xs.eraseIdx j)) hm hA' hl hσ trivial (.lst upd_same ((ra.eraseIdx j).wr hA')), J2.wrS hA' S2, qy.wr (m := m) (sl := sl) (ρ := ρ) (σ := σ) hA'⟩
    · cases hj
  | _ => cases hf⟩
/-- (a, b), each may change what is owned -/
def xTup2 (f h : DX) : DX := fun ρ z => (f ρ z).bind fun p => (h p.2.1 p.2.2).map fun q => (.tuple [p.1, q.1], q.2.1, q.2.2)
theorem vx_tup2 {fy : DX} {x1} (ha : VX m sl X a fx) (hb : VX m sl X b fy) (hs : starEach [a, b] X.env = [(false, eval a X.env), (false, eval b X.env)] := by rfl) : VX m sl X (.Tuple [a, b] x1 pos) (xTup2 fx fy) := ⟨fun pins s σ H g own ρ z d ρ' z' I J S hf => by
  obtain ⟨⟨d1, ρ1, z1⟩, h1, hf⟩ := Option.bind_eq_some_iff.mp hf
  obtain ⟨⟨d2, ρ2, z2⟩, h2, hf⟩ := Option.map_eq_some_iff.mp hf
  cases hf
  refine wpAny_Tuple_spliced ?_
  rw [hs]
  show wpAny _ _ (spliced ((false, eval a X.env) :: (false, eval b X.env) :: [])) _ _ s
  refine Calls.spliced_cons (thn (ha.run pins s σ H g own ρ z d1 ρ1 z1 I J S h1) fun u1 s1 ⟨v1, H1, I1, r1, G1, J1, S1, q1⟩ => ?_)
  refine Calls.spliced_cons (thn (hb.run pins s1 σ H1 g own ρ1 z1 d2 _ _ I1 J1 S1 h2) fun u2 s2 ⟨v2, H2, I2, r2, G2, J2, S2, q2⟩ => ?_)
  refine Calls.spliced_nil ⟨by show 2 ≤ sizeLine; decide, ?_⟩
  have hf : H2 s2.heap.objs.size = none := I2.hok.fresh (Nat.le_refl _)
  have q1' : Rp X.w (g.N own) H2 v1 d1 := q1.move fun b o e n => ⟨G2.kp b o e fun z => n (J.WN b z), n⟩
  refine ⟨.ref s2.heap.objs.size, upd H2 s2.heap.objs.size (.tup [v1, v2]), I2.laid (t' := s2.toks) (fun b u e => Heap.get?_push_of_some _ e) (Nat.le_refl _) ?_, rfl, (G1.trans G2).same (VL.same_upd hf), J2.same S2 (VL.same_upd hf), S2.same (VL.same_upd hf), .newTup (fun b n => J2.nw n) hf (.cons q1' (.cons q2 .nil))⟩
  exact ⟨by show 2 ≤ sizeLine; decide, [u1, u2], .cons r1 (.cons r2 .nil), ⟨_, Heap.get?_push_size _ rfl, rfl, _, rfl⟩⟩⟩

/-! ### statements -/
def sDo (f : DX) : DS := fun ρ z => (f ρ z).map fun p => (.nx p.2.1, p.2.2)
theorem vs_do (he : VX m sl X e fx) (hs : swapsWith e none pos.line X.env = pure false := by rfl) : VS m m ml sl X (.Expr e pos) (sDo fx) := ⟨fun pins s σ H g own ρ z r z' I J S hf => by
  obtain ⟨⟨d, ρ1, z1⟩, h1, h2⟩ := Option.map_eq_some_iff.mp hf
  cases h2
  exact wpAny_Expr_any (thn (he.run pins s σ H g own ρ z d ρ1 _ I J S h1) fun u s1 ⟨v, H1, I1, r1, G1, J1, S1, q1⟩ => ⟨rfl, σ, H1, own, I1, G1, J1, S1⟩) I.quiet hs⟩
def sAsgX (i : Nat) (f : DX) : DS := fun ρ z => (f ρ z).map fun p => (.nx (p.2.1.set i (some p.1)), p.2.2)
theorem vs_asgX (he : VX m sl X e fx) (hN : X.N.Nodup) (hi : X.N[i]? = some x := by rfl) (hx : Loc X.env.scope x := by first | exact Or.inl rfl | exact Or.inr rfl) (hm : i ∉ m := by decide) (hsl : sl ≠ some i := by decide) (hs : swapsWith e (some (.Name x px)) pos.line X.env = pure false := by rfl)
    (hf : X.fn x = true ∨ X.env.scope.names.lookup x = some .local := by first | exact .inl rfl | exact .inr rfl) : VS m m ml sl X (.Assign [.Name x px] e pos) (sAsgX i fx) := ⟨fun pins s σ H g own ρ z r z' I J S h => by
  obtain ⟨⟨d, ρ1, z1⟩, e1, e2⟩ := Option.map_eq_some_iff.mp h
  cases e2
  refine wpAny_Assign_Name (thn (he.run pins s σ H g own ρ z d ρ1 _ I J S e1) fun u s1 ⟨v, H1, I1, r1, G1, J1, S1, q1⟩ => ?_) hs
  exact store_ok I1 hN hi hx r1 (fun s2 I2 => ⟨rfl, _, H1, own, I2, G1, J1.set hm hsl (J1.slot I1 hi) q1, S1⟩) hf⟩
def sRetX (f : DX) : DS := fun ρ z => (f ρ z).map fun p => (.rt p.1, p.2.2)
theorem vs_retX (h : VX m sl X e fx) : VS m ml ml sl X (.Return (some e) pos) (sRetX fx) := ⟨fun pins s σ H g own ρ z r z' I J S hf => by
  obtain ⟨⟨d, ρ1, z1⟩, e1, e2⟩ := Option.map_eq_some_iff.mp hf
  cases e2
  exact wpAny_Return_some (thn (h.run pins s σ H g own ρ z d ρ1 _ I J S e1) fun u s1 ⟨v, H1, I1, r1, G1, J1, S1, q1⟩ => ⟨u, v, σ, H1, rfl, I1, r1, G1.kp, S1, q1.out⟩)⟩
end
end VL
set_option Elab.async false
set_option linter.all false
set_option maxRecDepth 100000
set_option maxHeartbeats 4000000
/-! The value layer, part 13T: sorted of a tuple. -/
namespace VL
open PySem PySem.Spec PyProof.Rows L2 PySem.W PySem.Calls
section
variable {prog : Program} {w : World} {A : Around} {E : Value → Shared → Prop} {s : Shared} {l : Addr} {us : List Value}
theorem collect_tp {Q : List Value → Shared → Prop} (ht : IsTup s.heap l us.toArray) (hz : us.length ≤ sizeLine)
    (q : Q us { s with heap := (s.heap.push (seqObj "list" #[] 0)).update s.heap.objs.size (Obj.mapSeq (· ++ us.toArray)) }) : wpAny (model prog w) A (collect (.ref l)) Q E s := by
  obtain ⟨o, e, hc, n, dt⟩ := ht
  have e2 : (s.heap.push (seqObj "list" #[] 0)).get? l = some o := Heap.get?_push_of_some _ e
  have e3 : (s.heap.push (seqObj "list" #[] 0)).get? s.heap.objs.size = some (seqObj "list" #[] 0) := Heap.get?_push_size _ rfl
  have fits : (#[] ++ us.toArray : Array Value).size ≤ sizeLine + 1 := by simp only [Array.size_append, List.size_toArray, List.length_nil]; omega
  have whole : ((#[] : Array Value) ++ us.toArray).toList = us := by simp
  unfold collect
  refine wpAny_bind (wpAny_runValue (codeAny_builtin entry_proto_collect' (show wpAny _ _ (do again (.builtin "list.__iadd__" ⟨[← newList [], .ref l], []⟩)) _ _ s from ?_)))
  refine wpAny_bind (wpAny_newList (wpAny_pure ⟨Code.quiet_builtin _ (by decide +kernel), codeAny_builtin entry_list_iadd' (show wpAny _ _ (Builtin.List.listExtendWith (.ref s.heap.objs.size) (.ref l) (.ref s.heap.objs.size)) _ _ { s with heap := s.heap.push (seqObj "list" #[] 0) } from ?_)⟩))
  unfold Builtin.List.listExtendWith
  refine wpAny_bind (wpAny_typeOf (T := "tuple") ⟨o, e2, hc⟩ ?_)
  have same : (Value.type "tuple" == Value.type "tuple") = true := by rfl
  rw [if_pos (by rw [same]; simp)]
  refine wpAny_bind (listItems_at e2 dt (wpAny_bind (listItems_at (xs := #[]) (n := 0) e3 rfl ?_)))
  rw [if_neg (by simp)]
  refine wpAny_bind (listUpdate_at (xs := #[]) (n := 0) e3 rfl (wpAny_pure ?_) (Nat.zero_le _) fits)
  refine wpAny_bind (wpAny_load (get?_update_seq e3 _) ?_)
  show wpAny _ _ (pure ((#[] : Array Value) ++ us.toArray).toList) Q E _
  rw [whole]
  exact wpAny_pure q
theorem sortedT {kw : List (Str × Value)} {Q : Value → Shared → Prop} (ht : IsTup s.heap l us.toArray) (hz : us.length ≤ sizeLine) (a1 : argsOk "sorted" ⟨[.ref l], kw⟩) (a2 : ∀ x, argsOk "list.sort" ⟨[.ref x], kw⟩)
    (body : ∀ E' : Value → Shared → Prop, wpAny (model prog w) A.in1.in1 (Builtin.«list.sort» ⟨[.ref (s.heap.objs.size + 1)], kw⟩) (fun f s' => f = .done (.ret .none) ∧ Q (.ref (s.heap.objs.size + 1)) s') E' { s with heap := copyHeap s.heap us }) : wpAny (model prog w) A (call (.builtin "sorted") [.ref l] kw) Q E s := by
  have sz : ((s.heap.push (seqObj "list" #[] 0)).update s.heap.objs.size (Obj.mapSeq (· ++ us.toArray))).objs.size = s.heap.objs.size + 1 := by rw [Heap.size_update, size_push']
  refine call_function_entry_kw kind_sorted plain_sorted entry_sorted a1 ?_
  unfold Builtin.«sorted»
  refine wpAny_bind (m := checkCount "sorted" 1 1 _) (wpAny_pure (wpAny_bind (collect_tp ht hz (wpAny_bind (wpAny_newList ?_ hz)))))
  show wpAny _ _ _ _ _ { s with heap := copyHeap s.heap us }
  rw [sz]
  refine wpAny_bind (wpAny_holding (wpAny_call_entry_kw slot_list_sort ⟨_, copyHeap_at s.heap us, rfl⟩ entry_list_sort (show wpAny (model prog w) A.in1.in1 (Builtin.«list.sort» ⟨[.ref (s.heap.objs.size + 1)], kw⟩) _ _ _ from ?_) (a2 _)))
  refine wpAny_mono (body _) (fun f s' hf => ?_) fun _ _ e => e
  obtain ⟨rfl, q⟩ := hf
  exact ⟨_, rfl, wpAny_pure ⟨_, rfl, q⟩⟩
variable {β : Type} {bs : List β} {R : Value → β → Prop} {enc : β → PyData}
theorem sortedT_data {Q : Value → Shared → Prop} (ht : IsTup s.heap l us.toArray) (e : EachIs R us bs) (er : EachIs (fun v b => ∃ as, Reads s.heap v (enc b) as) us bs) (al : AllAlike (bs.map enc)) (so : Sortable (bs.map enc)) (hz : bs.length ≤ sizeLine)
    (hu : ∀ b, b ∈ bs → A.units + 2 + (enc b).depth < cLine) (q : ∀ out, out.length = bs.length → EachIs R out (bs.mergeSort (dataLe false enc)) → Q (.ref (s.heap.objs.size + 1)) { s with heap := sortedAll s.heap us (List.toArray out) }) : wpAny (model prog w) A (call (.builtin "sorted") [.ref l]) Q E s := by
  have len := e.length
  have rd : EachIs (fun v b => ∃ as, Reads (sortingHeap (copyHeap s.heap us) (s.heap.objs.size + 1) us) v (enc b) as) us bs := er.mono fun _ _ ⟨as, r⟩ => ⟨as, PyProof.Rows.Reads.keeps (fun _ _ => sorting_copy_old) r⟩
  have at_ := SortsAt.data (prog := prog) (w := w) (A := A.in1.in1) (s := { s with heap := sortingHeap (copyHeap s.heap us) (s.heap.objs.size + 1) us }) (each_map (R := fun v d => ∃ as, Reads (sortingHeap (copyHeap s.heap us) (s.heap.objs.size + 1) us) v d as) enc rd) al so (bound_map hu)
  refine sortedT ht (by rw [len]; exact hz) (args_sorted1 _) (fun _ => args_list_sort _) fun _ => ?_
  exact list_sort_vals (s := { s with heap := copyHeap s.heap us }) (copyHeap_at s.heap us) at_ (by rw [len]; exact hz) ⟨rfl, q _ (by rw [sortVals_length false rfl]; exact len) (sortVals_data false e rd al)⟩
end
end VL
set_option Elab.async false
set_option linter.all false
set_option maxRecDepth 100000
set_option maxHeartbeats 4000000
/-! The value layer, part 14: calls of builtins. -/
namespace VL
open PySem PySem.Spec PyProof.Rows L2

/-- a call by data, its result shared -/
def OpC (X : Cx) (F : List Value → Sem Value) (op : List D → Option D) : Prop :=
  ∀ (pins : List (Addr × Obj)) (s : Shared) (σ : L2.St) (H : Hp) (g : Gh) (own : Own) (vs : List V) (us : List Value) (ds : List D) (d : D), Inv X pins σ H s → Vals vs us → (∀ b, g.N own b → H b ≠ none) → RdAll X.w g own H vs ds → op ds = some d →
    wpAny (model X.prog X.w) X.A (F us) (fun r s' => ∃ v' H', Inv X pins σ H' s' ∧ RelV v' r ∧ L2.Same H H' ∧ Rp X.w (g.N own) H' v' d) X.xe s
/-- .. a new list or dict -/
def OpN (X : Cx) (F : List Value → Sem Value) (op : List D → Option D) : Prop :=
  ∀ (pins : List (Addr × Obj)) (s : Shared) (σ : L2.St) (H : Hp) (g : Gh) (own : Own) (vs : List V) (us : List Value) (ds : List D) (d : D), Inv X pins σ H s → Vals vs us → (∀ b, g.N own b → H b ≠ none) → RdAll X.w g own H vs ds → op ds = some d →
    wpAny (model X.prog X.w) X.A (F us) (fun r s' => ∃ p H', Inv X pins σ H' s' ∧ r = .ref p ∧ L2.Same H H' ∧ H p = none ∧ Mut (H' p) ∧ Sh X.w (NF (g.N own) p) H' p d) X.xe s
def eC1 (op : List D → Option D) (fs : DA) : DE := fun ρ z => (fs ρ z).bind fun p => (op p.1).map fun d => (d, p.2)
section
variable {m ml : List Nat} {sl : Option Nat} {X : Cx} {e : Expr} {es : List Expr} {f : DE} {fs : DA} {op : List D → Option D} {x : Str} {p pos : Pos} {fid T : String}
theorem eC1_some {ρ : Env} {z z' : Src} {d : D} (h : eC1 op fs ρ z = some (d, z')) : ∃ ds, fs ρ z = some (ds, z') ∧ op ds = some d := by
  obtain ⟨q, h1, h⟩ := Option.bind_eq_some_iff.mp h
  obtain ⟨w, h3, h⟩ := Option.map_eq_some_iff.mp h
  cases h
  exact ⟨q.1, h1, h3⟩
theorem ve_callB (hc : OpC X (fun us => call (.builtin fid) us) op) (hg : Gl X x) (hm : X.mg x = none) (hv : bootBuiltins x = some (.builtin fid)) (ha : VA m sl X (e :: es) fs) (hn : x ≠ "__name__" := by decide) (hdb : (x == ("__debug__" : Str)) = false := by decide)
    (he : starEach (e :: es) X.env = (false, eval e X.env) :: starEach es X.env := by rfl) (hpl : (backTo pos (starEach es X.env)).any (·.1) = false := by rfl) : VE m sl X (.Call (.Name x p) (e :: es) [] pos) (eC1 op fs) := ⟨fun pins s σ H g own ρ z d z' I J S hf => by
  obtain ⟨ds, h1, h2⟩ := eC1_some hf
  refine wpAny_Call_Name_kw (ld_blt I hg hm hv ?_ hn hdb)
  refine PyProof.Rows.callWith_builtin1 (thn (ha.run pos pins s σ H g own ρ z ds z' I J S h1) fun us s1 ⟨vs, H1, I1, r1, k1, S1, q1⟩ => ?_) he hpl
  exact thn (hc pins s1 σ H1 g own vs us ds d I1 r1 (fun b n => (J.keep k1 S1).nw n) q1 h2) fun r s2 ⟨v, H2, I2, r2, k2, q2⟩ => ⟨v, H2, I2, r2, k1.trans (Same.kp k2), S1.same k2, q2⟩⟩
theorem ve_callTy (hc : OpC X (fun us => call (.type T) us) op) (hg : Gl X x) (hm : X.mg x = none) (hv : bootBuiltins x = some (.type T)) (ha : VA m sl X (e :: es) fs) (hn : x ≠ "__name__" := by decide) (hdb : (x == ("__debug__" : Str)) = false := by decide)
    (he : starEach (e :: es) X.env = (false, eval e X.env) :: starEach es X.env := by rfl) (hpl : (backTo pos (starEach es X.env)).any (·.1) = false := by rfl) : VE m sl X (.Call (.Name x p) (e :: es) [] pos) (eC1 op fs) := ⟨fun pins s σ H g own ρ z d z' I J S hf => by
  obtain ⟨ds, h1, h2⟩ := eC1_some hf
  refine wpAny_Call_Name_kw (ld_blt I hg hm hv ?_ hn hdb)
  refine PyProof.Rows.callWith_type1 (thn (ha.run pos pins s σ H g own ρ z ds z' I J S h1) fun us s1 ⟨vs, H1, I1, r1, k1, S1, q1⟩ => ?_) he hpl
  exact thn (hc pins s1 σ H1 g own vs us ds d I1 r1 (fun b n => (J.keep k1 S1).nw n) q1 h2) fun r s2 ⟨v, H2, I2, r2, k2, q2⟩ => ⟨v, H2, I2, r2, k1.trans (Same.kp k2), S1.same k2, q2⟩⟩
theorem vf_callB (hc : OpN X (fun us => call (.builtin fid) us) op) (hg : Gl X x) (hm : X.mg x = none) (hv : bootBuiltins x = some (.builtin fid)) (ha : VA m sl X (e :: es) fs) (hn : x ≠ "__name__" := by decide) (hdb : (x == ("__debug__" : Str)) = false := by decide)
    (he : starEach (e :: es) X.env = (false, eval e X.env) :: starEach es X.env := by rfl) (hpl : (backTo pos (starEach es X.env)).any (·.1) = false := by rfl) : VF m sl X (.Call (.Name x p) (e :: es) [] pos) (eC1 op fs) := ⟨fun pins s σ H g own ρ z d z' I J S hf => by
  obtain ⟨ds, h1, h2⟩ := eC1_some hf
  refine wpAny_Call_Name_kw (ld_blt I hg hm hv ?_ hn hdb)
  refine PyProof.Rows.callWith_builtin1 (thn (ha.run pos pins s σ H g own ρ z ds z' I J S h1) fun us s1 ⟨vs, H1, I1, r1, k1, S1, q1⟩ => ?_) he hpl
  exact thn (hc pins s1 σ H1 g own vs us ds d I1 r1 (fun b n => (J.keep k1 S1).nw n) q1 h2) fun r s2 ⟨v, H2, I2, r2, k2, hp, mu, q2⟩ => ⟨v, H2, I2, r2, k1.trans (Same.kp k2), S1.same k2, k1.none S1 hp, mu, q2⟩⟩
theorem vf_callTy (hc : OpN X (fun us => call (.type T) us) op) (hg : Gl X x) (hm : X.mg x = none) (hv : bootBuiltins x = some (.type T)) (ha : VA m sl X (e :: es) fs) (hn : x ≠ "__name__" := by decide) (hdb : (x == ("__debug__" : Str)) = false := by decide)
    (he : starEach (e :: es) X.env = (false, eval e X.env) :: starEach es X.env := by rfl) (hpl : (backTo pos (starEach es X.env)).any (·.1) = false := by rfl) : VF m sl X (.Call (.Name x p) (e :: es) [] pos) (eC1 op fs) := ⟨fun pins s σ H g own ρ z d z' I J S hf => by
  obtain ⟨ds, h1, h2⟩ := eC1_some hf
  refine wpAny_Call_Name_kw (ld_blt I hg hm hv ?_ hn hdb)
  refine PyProof.Rows.callWith_type1 (thn (ha.run pos pins s σ H g own ρ z ds z' I J S h1) fun us s1 ⟨vs, H1, I1, r1, k1, S1, q1⟩ => ?_) he hpl
  exact thn (hc pins s1 σ H1 g own vs us ds d I1 r1 (fun b n => (J.keep k1 S1).nw n) q1 h2) fun r s2 ⟨v, H2, I2, r2, k2, hp, mu, q2⟩ => ⟨v, H2, I2, r2, k1.trans (Same.kp k2), S1.same k2, k1.none S1 hp, mu, q2⟩⟩
theorem opc_of {c : Value} {r : List V → Hp → VK → Prop} (hc : CallR X c r) (h : ∀ (g : Gh) (own : Own) (H : Hp) (vs : List V) (ds : List D) (d : D), (∀ b, g.N own b → H b ≠ none) → RdAll X.w g own H vs ds → op ds = some d → r vs H fun v' H' => L2.Same H H' ∧ Rp X.w (g.N own) H' v' d) : OpC X (fun us => call c us) op :=
  fun pins s σ H g own vs us ds d I rv hn q e => thn (hc pins s σ H vs us _ I rv (h g own H vs ds d hn q e)) fun r s' ⟨v', H', I', r', k, q⟩ => ⟨v', H', I', r', k, q⟩
theorem opn_of {c : Value} {r : List V → Hp → VK → Prop} (hc : CallR X c r) (h : ∀ (g : Gh) (own : Own) (H : Hp) (vs : List V) (ds : List D) (d : D), (∀ b, g.N own b → H b ≠ none) → RdAll X.w g own H vs ds → op ds = some d → r vs H fun v' H' => ∃ p, v' = .ref p ∧ L2.Same H H' ∧ H p = none ∧ Mut (H' p) ∧ Sh X.w (NF (g.N own) p) H' p d) : OpN X (fun us => call c us) op :=
  fun pins s σ H g own vs us ds d I rv hn q e => thn (hc pins s σ H vs us _ I rv (h g own H vs ds d hn q e)) fun r s' ⟨v', H', I', r', p, e, k⟩ => by
    subst e
    exact ⟨p, H', I', r', k⟩

/-! ### len, sum, any, all, min, max, abs -/
def lenD : List D → Option D
  | [.list xs] => some (.int xs.length)
  | [.tuple xs] => some (.int xs.length)
  | [.str x] => if x.length ≤ sizeLine then some (.int x.length) else none
  | _ => none
theorem opc_len : OpC X (fun us => call (.builtin "len") us) lenD := opc_of call_len fun g own H vs ds d hn q e => by
  unfold lenD at e
  split at e
  · cases e
    obtain ⟨v, rfl, r⟩ := q.one
    obtain ⟨a, ws, rfl, ha, ra⟩ := r.list
    exact ⟨_, ws.length, rfl, .inl ⟨ws, SqL.of ha, rfl⟩, Same.refl _, by rw [ra.length]; exact .int _⟩
  · cases e
    obtain ⟨v, rfl, r⟩ := q.one
    obtain ⟨a, ws, rfl, ha, na, ra⟩ := r.tuple
    exact ⟨_, ws.length, rfl, .inr ⟨ws, SqT.of ha, rfl⟩, Same.refl _, by rw [ra.length]; exact .int _⟩
  · split at e
    · rename_i hz
      cases e
      obtain ⟨v, rfl, r⟩ := q.one
      rw [r.st]
      exact ⟨_, _, rfl, ⟨hz, rfl⟩, Same.refl _, .int _⟩
    · cases e
  · cases e
def intsD : List D → Option (List Int)
  | [] => some []
  | .int i :: ds => (intsD ds).map (i :: ·)
  | _ => none
theorem RpAll.ints {w : World} {N : Addr → Prop} {H : Hp} : ∀ {vs : List V} {ds : List D} {ns : List Int}, RpAll w N H vs ds → intsD ds = some ns → vs = ns.map V.int
  | _, _, _, .nil, e => by cases e; rfl
  | _, _, _, .cons (d := d) r t, e => by
    cases r with
    | int i =>
      obtain ⟨ns', h1, h2⟩ := Option.map_eq_some_iff.mp e
      cases h2
      rw [t.ints h1]
      rfl
    | _ => cases e
def boolsD : List D → Option (List Bool)
  | [] => some []
  | .bool i :: ds => (boolsD ds).map (i :: ·)
  | _ => none
theorem RpAll.bools {w : World} {N : Addr → Prop} {H : Hp} : ∀ {vs : List V} {ds : List D} {ns : List Bool}, RpAll w N H vs ds → boolsD ds = some ns → vs = ns.map V.bl
  | _, _, _, .nil, e => by cases e; rfl
  | _, _, _, .cons (d := d) r t, e => by
    cases r with
    | bl i =>
      obtain ⟨ns', h1, h2⟩ := Option.map_eq_some_iff.mp e
      cases h2
      rw [t.bools h1]
      rfl
    | _ => cases e
def sumD : List D → Option D
  | [.list xs] => (intsD xs).map fun ns => .int ns.sum
  | _ => none
theorem opc_sum (hc : X.calm = true) : OpC X (fun us => call (.builtin "sum") us) sumD := opc_of (cr_sum hc) fun g own H vs ds d hn q e => by
  unfold sumD at e
  split at e
  · obtain ⟨ns, h1, h2⟩ := Option.map_eq_some_iff.mp e
    cases h2
    obtain ⟨v, rfl, r⟩ := q.one
    obtain ⟨a, ws, rfl, ha, ra⟩ := r.list
    exact ⟨a, ns, rfl, by rw [← ra.ints h1]; exact SqL.of ha, Same.refl _, .int _⟩
  · cases e
def anyD : List D → Option D
  | [.list xs] => (boolsD xs).map fun ns => .bool (ns.any id)
  | _ => none
theorem opc_any (hc : X.calm = true) : OpC X (fun us => call (.builtin "any") us) anyD := opc_of (cr_any hc) fun g own H vs ds d hn q e => by
  unfold anyD at e
  split at e
  · obtain ⟨ns, h1, h2⟩ := Option.map_eq_some_iff.mp e
    cases h2
    obtain ⟨v, rfl, r⟩ := q.one
    obtain ⟨a, ws, rfl, ha, ra⟩ := r.list
    exact ⟨a, ns, rfl, by rw [← ra.bools h1]; exact SqL.of ha, Same.refl _, .bl _⟩
  · cases e
def allD : List D → Option D
  | [.list xs] => (boolsD xs).map fun ns => .bool (ns.all id)
  | _ => none
theorem opc_all (hc : X.calm = true) : OpC X (fun us => call (.builtin "all") us) allD := opc_of (cr_all hc) fun g own H vs ds d hn q e => by
  unfold allD at e
  split at e
  · obtain ⟨ns, h1, h2⟩ := Option.map_eq_some_iff.mp e
    cases h2
    obtain ⟨v, rfl, r⟩ := q.one
    obtain ⟨a, ws, rfl, ha, ra⟩ := r.list
    exact ⟨a, ns, rfl, by rw [← ra.bools h1]; exact SqL.of ha, Same.refl _, .bl _⟩
  · cases e
def min2D : List D → Option D
  | [.int i, .int j] => some (.int (if j < i then j else i))
  | _ => none
theorem opc_min2 (hc : X.calm = true) : OpC X (fun us => call (.builtin "min") us) min2D := opc_of (call_min2 hc) fun g own H vs ds d hn q e => by
  unfold min2D at e
  split at e
  · cases e
    obtain ⟨v, v', rfl, r, r'⟩ := q.two
    exact ⟨_, _, by rw [r.i, r'.i], Same.refl _, .int _⟩
  · cases e
def max2D : List D → Option D
  | [.int i, .int j] => some (.int (if j > i then j else i))
  | _ => none
theorem opc_max2 (hc : X.calm = true) : OpC X (fun us => call (.builtin "max") us) max2D := opc_of (call_max2 hc) fun g own H vs ds d hn q e => by
  unfold max2D at e
  split at e
  · cases e
    obtain ⟨v, v', rfl, r, r'⟩ := q.two
    exact ⟨_, _, by rw [r.i, r'.i], Same.refl _, .int _⟩
  · cases e
def absD : List D → Option D
  | [.int i] => some (.int (if i < 0 then -i else i))
  | _ => none
theorem opc_abs : OpC X (fun us => call (.builtin "abs") us) absD := opc_of call_abs fun g own H vs ds d hn q e => by
  unfold absD at e
  split at e
  · cases e
    obtain ⟨v, rfl, r⟩ := q.one
    exact ⟨_, by rw [r.i], Same.refl _, .int _⟩
  · cases e

/-! ### tuple, list -/
def tupleD : List D → Option D
  | [.list xs] => some (.tuple xs)
  | [.tuple xs] => some (.tuple xs)
  | _ => none
theorem opc_tuple : OpC X (fun us => call (.type "tuple") us) tupleD := opc_of call_tuple_of fun g own H vs ds d hn q e => by
  unfold tupleD at e
  split at e
  · cases e
    obtain ⟨v, rfl, r⟩ := q.one
    obtain ⟨a, ws, rfl, ha, ra⟩ := r.list
    exact ⟨a, ws, rfl, .inl ⟨SqL.of ha, fun l hl => ⟨VL.same_upd hl, .newTup hn hl ra⟩⟩⟩
  · cases e
    obtain ⟨v, rfl, r⟩ := q.one
    obtain ⟨a, ws, rfl, ha, na, ra⟩ := r.tuple
    exact ⟨a, ws, rfl, .inr ⟨SqT.of ha, Same.refl _, .tup ha na ra⟩⟩
  · cases e
def listD : List D → Option D
  | [.list xs] => some (.list xs)
  | [.tuple xs] => some (.list xs)
  | _ => none
theorem opn_list : OpN X (fun us => call (.type "list") us) listD := opn_of call_list_of fun g own H vs ds d hn q e => by
  unfold listD at e
  split at e
  · cases e
    obtain ⟨v, rfl, r⟩ := q.one
    obtain ⟨a, ws, rfl, ha, ra⟩ := r.list
    exact ⟨a, ws, rfl, .inl (SqL.of ha), fun l hl => ⟨l, rfl, VL.same_upd hl, hl, by rw [upd_same]; trivial, .lst upd_same (ra.fresh hl)⟩⟩
  · cases e
    obtain ⟨v, rfl, r⟩ := q.one
    obtain ⟨a, ws, rfl, ha, na, ra⟩ := r.tuple
    exact ⟨a, ws, rfl, .inr (SqT.of ha), fun l hl => ⟨l, rfl, VL.same_upd hl, hl, by rw [upd_same]; trivial, .lst upd_same (ra.fresh hl)⟩⟩
  · cases e

/-! ### sorted -/
def notNone : D → Bool
  | .none => false
  | _ => true
def tupNE : D → Bool
  | .tuple (_ :: _) => true
  | _ => false
def notTup : D → Bool
  | .tuple _ => false
  | .none => false
  | _ => true
def sortOk (ds : List D) : Bool := PyData.plainAll ds && (decide (PyData.depthAll ds ≤ 60) && (decide (ds.length ≤ sizeLine) && (ds.all (fun x => ds.all (PySem.W.alike x) && notNone x) && (ds.all tupNE || ds.all notTup))))
def sortedD : List D → Option D
  | [.list xs] => if sortOk xs then some (.list (xs.mergeSort (PySem.W.dataLe false fun d => d))) else none
  | [.tuple xs] => if sortOk xs then some (.list (xs.mergeSort (PySem.W.dataLe false fun d => d))) else none
  | _ => none
theorem zip_all {w : World} {N : Addr → Prop} {H : Hp} : ∀ {vs : List V} {ds : List D}, RpAll w N H vs ds → ∀ p, p ∈ vs.zip ds → Rp w N H p.1 p.2
  | _, _, .nil, p, h => by simp at h
  | _, _, .cons r t, p, h => by
    rw [List.zip_cons_cons] at h
    rcases List.mem_cons.mp h with h | h
    · subst h; exact r
    · exact zip_all t p h
theorem all_zip {w : World} {N : Addr → Prop} {H : Hp} : ∀ {ps : List (V × D)}, (∀ p, p ∈ ps → Rp w N H p.1 p.2) → RpAll w N H (ps.map (·.1)) (ps.map (·.2))
  | [], _ => .nil
  | p :: ps, h => .cons (h p List.mem_cons_self) (all_zip fun q hq => h q (List.mem_cons_of_mem _ hq))
theorem each_zip {s : Shared} {w : World} {N : Addr → Prop} {H : Hp} {pins : List (Addr × Obj)} {σ : L2.St} (I : Inv X pins σ H s) : ∀ {vs : List V} {ds : List D} {us : List Value}, RpAll w N H vs ds → Vals vs us → PyData.plainAll ds = true →
    PySem.W.EachIs (fun (u : Value) (p : V × D) => RelV p.1 u) us (vs.zip ds) ∧ PySem.W.EachIs (fun (u : Value) (p : V × D) => ∃ as, Reads s.heap u p.2 as) us (vs.zip ds) ∧ (vs.zip ds).map (·.2) = ds
  | _, _, _, .nil, .nil, _ => ⟨.nil, .nil, rfl⟩
  | _, _, _, .cons r t, .cons rv tv, hp => by
    obtain ⟨h1, h2, h3⟩ := each_zip I t tv (plain_all_cons hp).2
    refine ⟨.cons rv h1, .cons (Dp.reads I _ _ _ (r.dp (plain_all_cons hp).1) rv) h2, ?_⟩
    rw [List.zip_cons_cons, List.map_cons, h3]
theorem vals_each : ∀ {us : List Value} {ps : List (V × D)}, PySem.W.EachIs (fun (u : Value) (p : V × D) => RelV p.1 u) us ps → Vals (ps.map (·.1)) us
  | _, _, .nil => .nil
  | _, _, .cons r t => .cons r (vals_each t)
theorem depthAll_le : ∀ {ds : List D} {d : D}, d ∈ ds → d.depth ≤ PyData.depthAll ds
  | _ :: _, d, h => by
    rcases List.mem_cons.mp h with h | h
    · subst h; simp only [PyData.depthAll]; exact Nat.le_max_left _ _
    · simp only [PyData.depthAll]; exact Nat.le_trans (depthAll_le h) (Nat.le_max_right _ _)
theorem opn_sorted (hu : X.A.units + 64 < cLine) : OpN X (fun us => call (.builtin "sorted") us) sortedD := by
  intro pins s σ H g own vs us ds d I rv hn q e
  unfold sortedD at e
  split at e
  · rename_i xs
    split at e
    · rename_i hz
      cases e
      obtain ⟨v, rfl, r⟩ := q.one
      obtain ⟨a, ws, rfl, ha, ra⟩ := r.list
      unfold sortOk at hz
      simp only [Bool.and_eq_true, Bool.or_eq_true, decide_eq_true_eq, List.all_eq_true] at hz
      obtain ⟨h1, h2, h3, h4, h5⟩ := hz
      obtain ⟨its, rvs, hl, _⟩ := I.list (SqL.of ha)
      rw [Vals.ref1 rv]
      obtain ⟨e1, e2, e3⟩ := each_zip I ra rvs h1
      have hz : ∀ p, p ∈ ws.zip xs → p.2 ∈ xs := fun p hp => by
        have := List.mem_map_of_mem (f := (·.2)) hp
        rw [e3] at this
        exact this
      refine PySem.W.sorted_data (enc := fun p : V × D => p.2) hl.isList e1 e2 (by rw [e3]; exact fun x hx y hy => (h4 x hx).1 y hy) (by
        rw [e3]
        rcases h5 with h5 | h5
        · refine .inl fun d hd => ?_
          have := h5 d hd
          unfold tupNE at this
          split at this
          · exact ⟨_, _, rfl⟩
          · cases this
        · refine .inr fun d hd => ⟨fun c => ?_, fun ys c => ?_⟩
          · have := h5 d hd; rw [c] at this; cases this
          · have := h5 d hd; rw [c] at this; cases this) (by rw [← List.length_map (f := (·.2)), e3]; exact h3) (fun b hb => by
        have := Nat.le_trans (depthAll_le (hz b hb)) h2
        omega) fun out ho eo => ?_
      obtain ⟨ep, he'⟩ := PyProof.Rows.sortedAll_at s.heap its out.toArray
      have hl' : ((ws.zip xs).mergeSort (PySem.W.dataLe false fun p : V × D => p.2)).length = xs.length := by
        rw [List.length_mergeSort, ← List.length_map (f := (·.2)), e3]
      have key := all_zip (ps := (ws.zip xs).mergeSort (PySem.W.dataLe false fun p : V × D => p.2)) fun p hp => zip_all ra p (List.mem_mergeSort.mp hp)
      have em : ((ws.zip xs).mergeSort (PySem.W.dataLe false fun p : V × D => p.2)).map (·.2) = xs.mergeSort (PySem.W.dataLe false fun d => d) := by
        rw [List.map_mergeSort (r := PySem.W.dataLe false fun p : V × D => p.2) (f := fun p : V × D => p.2) (s := PySem.W.dataLe false fun d => d) (fun _ _ _ _ => rfl), e3]
      rw [em] at key
      have hf : H (s.heap.objs.size + 1) = none := I.hok.fresh (Nat.le_succ _)
      refine ⟨s.heap.objs.size + 1, upd H (s.heap.objs.size + 1) (.lst (((ws.zip xs).mergeSort (PySem.W.dataLe false fun p : V × D => p.2)).map (·.1))), I.laid (t' := s.toks) (fun _ _ => PyProof.Rows.sortedAll_old) (Nat.le_succ _) ⟨by rw [List.length_map, hl']; exact h3, out, ep, vals_each eo, he'⟩, rfl, VL.same_upd hf, hf, by rw [upd_same]; trivial, .lst upd_same (key.fresh hf)⟩
    · cases e
  · rename_i xs
    split at e
    · rename_i hz
      cases e
      obtain ⟨v, rfl, r⟩ := q.one
      obtain ⟨a, ws, rfl, ha, _, ra⟩ := r.tuple
      unfold sortOk at hz
      simp only [Bool.and_eq_true, Bool.or_eq_true, decide_eq_true_eq, List.all_eq_true] at hz
      obtain ⟨h1, h2, h3, h4, h5⟩ := hz
      obtain ⟨its, rvs, hl, _⟩ := I.tuple (SqT.of ha)
      rw [Vals.ref1 rv]
      obtain ⟨e1, e2, e3⟩ := each_zip I ra rvs h1
      have hz : ∀ p, p ∈ ws.zip xs → p.2 ∈ xs := fun p hp => by
        have := List.mem_map_of_mem (f := (·.2)) hp
        rw [e3] at this
        exact this
      refine sortedT_data (enc := fun p : V × D => p.2) hl e1 e2 (by rw [e3]; exact fun x hx y hy => (h4 x hx).1 y hy) (by
        rw [e3]
        rcases h5 with h5 | h5
        · refine .inl fun d hd => ?_
          have := h5 d hd
          unfold tupNE at this
          split at this
          · exact ⟨_, _, rfl⟩
          · cases this
        · refine .inr fun d hd => ⟨fun c => ?_, fun ys c => ?_⟩
          · have := h5 d hd; rw [c] at this; cases this
          · have := h5 d hd; rw [c] at this; cases this) (by rw [← List.length_map (f := (·.2)), e3]; exact h3) (fun b hb => by
        have := Nat.le_trans (depthAll_le (hz b hb)) h2
        omega) fun out ho eo => ?_
      obtain ⟨ep, he'⟩ := PyProof.Rows.sortedAll_at s.heap its out.toArray
      have hl' : ((ws.zip xs).mergeSort (PySem.W.dataLe false fun p : V × D => p.2)).length = xs.length := by
        rw [List.length_mergeSort, ← List.length_map (f := (·.2)), e3]
      have key := all_zip (ps := (ws.zip xs).mergeSort (PySem.W.dataLe false fun p : V × D => p.2)) fun p hp => zip_all ra p (List.mem_mergeSort.mp hp)
      have em : ((ws.zip xs).mergeSort (PySem.W.dataLe false fun p : V × D => p.2)).map (·.2) = xs.mergeSort (PySem.W.dataLe false fun d => d) := by
        rw [List.map_mergeSort (r := PySem.W.dataLe false fun p : V × D => p.2) (f := fun p : V × D => p.2) (s := PySem.W.dataLe false fun d => d) (fun _ _ _ _ => rfl), e3]
      rw [em] at key
      have hf : H (s.heap.objs.size + 1) = none := I.hok.fresh (Nat.le_succ _)
      refine ⟨s.heap.objs.size + 1, upd H (s.heap.objs.size + 1) (.lst (((ws.zip xs).mergeSort (PySem.W.dataLe false fun p : V × D => p.2)).map (·.1))), I.laid (t' := s.toks) (fun _ _ => PyProof.Rows.sortedAll_old) (Nat.le_succ _) ⟨by rw [List.length_map, hl']; exact h3, out, ep, vals_each eo, he'⟩, rfl, VL.same_upd hf, hf, by rw [upd_same]; trivial, .lst upd_same (key.fresh hf)⟩
    · cases e
  · cases e

/-! ### isinstance -/
/-- isinstance(x, T) -/
def isaD (T : String) (d : D) : Option D := if d.plain then match T with
  | "int" => some (.bool d.isInt)
  | "bool" => some (.bool d.isBool)
  | "tuple" => some (.bool d.isTuple)
  | "list" => some (.bool d.isList)
  | "str" => some (.bool d.isStr)
  | "dict" => some (.bool d.isDict)
  | _ => none
  else none
theorem ve_isa {a : Expr} {y : Str} {py : Pos} (hg : Gl X "isinstance") (hm : X.mg "isinstance" = none) (hgy : Gl X y) (hmy : X.mg y = none) (hy : bootBuiltins y = some (.type T)) (ha : VR m sl X a f) (hny : y ≠ "__name__" := by decide) (hdy : (y == ("__debug__" : Str)) = false := by decide)
    (he : starEach [a, .Name y py] X.env = [(false, eval a X.env), (false, eval (.Name y py) X.env)] := by rfl) : VE m sl X (.Call (.Name "isinstance" p) [a, .Name y py] [] pos) (e1 (isaD T) f) := ⟨fun pins s σ H g own ρ z d z' I J S hf => by
  obtain ⟨x, h1, h2⟩ := e1_some hf
  unfold isaD at h2
  split at h2
  · rename_i hp
    refine wpAny_Call_Name_kw (ld_blt I hg hm (by rfl) ?_ (by decide) (by decide))
    refine PyProof.Rows.callWith_builtin1 ?_ he (by rfl)
    rw [he]
    show wpAny _ _ (spliced ((false, eval a X.env) :: (false, eval (.Name y py) X.env) :: [])) _ _ s
    refine Calls.spliced_cons (thn (ha.run pins s σ H g own ρ z x z' I J S h1) fun u s1 ⟨v, H1, I1, r1, k1, S1, q1⟩ => ?_)
    refine Calls.spliced_cons (ld_blt I1 hgy hmy hy (Calls.spliced_nil ?_) hny hdy)
    obtain ⟨as, rd⟩ := q1.reads I1 hp r1
    have fin : ∀ (b : Bool), d = .bool b → ∀ tk, s1.toks ≤ tk → ∃ v H', Inv X pins σ H' { s1 with toks := tk } ∧ RelV v (.bool b) ∧ Kp g.src H H' ∧ SrcOk g H' z' ∧ Rp X.w (g.N own) H' v d := fun b e tk _ => by
      subst e
      exact ⟨.bl b, H1, I1.tok tk, rfl, k1, S1, .bl b⟩
    split at h2
    · cases h2; exact PySem.W.isinstance_int_data rd (fin _ rfl)
    · cases h2; exact PySem.W.isinstance_bool_data rd (fin _ rfl)
    · cases h2; exact PySem.W.isinstance_tuple_data rd (fin _ rfl)
    · cases h2; exact PySem.W.isinstance_list_data rd (fin _ rfl)
    · cases h2; exact PySem.W.isinstance_str_data rd (fin _ rfl)
    · cases h2; exact PySem.W.isinstance_dict_data rd (fin _ rfl)
    · cases h2
  · cases h2⟩

/-! ### list(range(..)), tuple(range(..)) -/
def rgOk (a b : Int) : Bool := big62 a && (big62 b && decide ((b - a).toNat ≤ 2 ^ 24))
theorem rgOk_of {a b : Int} (h : rgOk a b = true) : RgOk a b := by
  unfold rgOk big62 at h
  simp only [Bool.and_eq_true, decide_eq_true_eq] at h
  exact ⟨h.1.1, h.1.2, h.2.1.1, h.2.1.2, h.2.2⟩
theorem rg_rp {w : World} {N : Addr → Prop} {H : Hp} {a b : Int} : RpAll w N H (rgV a b) (rangeD a 1 (b - a).toNat) := by
  unfold rgV rangeD
  generalize (List.range (b - a).toNat) = l
  induction l with
  | nil => exact .nil
  | cons i l ih =>
    refine .cons ?_ ih
    show Rp w N H (.int (a + (i : Nat))) (.int (a + (i : Int) * 1))
    rw [Int.mul_one]
    exact .int _
def rg1D : List D → Option (List D)
  | [.int j] => if rgOk 0 j then some (rangeD 0 1 (j - 0).toNat) else none
  | _ => none
def eLRg (fs : DA) : DE := fun ρ z => (fs ρ z).bind fun p => (rg1D p.1).map fun ds => (.list ds, p.2)
def eTRg (fs : DA) : DE := fun ρ z => (fs ρ z).bind fun p => (rg1D p.1).map fun ds => (.tuple ds, p.2)
def eA1 (f : DE) : DA := aCons f aNil
variable {a : Expr} {pr : Pos}
theorem eA1_some {ρ : Env} {z z' : Src} {ds : List D} (h : eA1 f ρ z = some (ds, z')) : ∃ d, f ρ z = some (d, z') ∧ ds = [d] := by
  obtain ⟨x, z1, xs, h1, h2, rfl⟩ := aCons_some h
  cases h2
  exact ⟨x, h1, rfl⟩
theorem vf_listRg (hc : X.calm = true) (hgr : Gl X "range") (hmr : X.mg "range" = none) (hg : Gl X "list") (hm : X.mg "list" = none) (ha : VE m sl X a f) (na : starEach [a] X.env = (false, eval a X.env) :: starEach [] X.env := by rfl)
    (nb : starEach [.Call (.Name "range" pr) [a] [] p] X.env = (false, eval (.Call (.Name "range" pr) [a] [] p) X.env) :: starEach [] X.env := by rfl) {p2 : Pos} : VF m sl X (.Call (.Name "list" p2) [.Call (.Name "range" pr) [a] [] p] [] pos) (eLRg (eA1 f)) := ⟨fun pins s σ H g own ρ z d z' I J S hf => by
  obtain ⟨⟨xs, z1⟩, h1, h2⟩ := Option.bind_eq_some_iff.mp hf
  obtain ⟨ds, h3, h4⟩ := Option.map_eq_some_iff.mp h2
  cases h4
  obtain ⟨d0, h5, rfl⟩ := eA1_some h1
  unfold rg1D at h3
  split at h3
  · rename_i j heq
    cases heq
    split at h3
    · rename_i hb
      cases h3
      refine thn ((pe_listRg hc hg hm (prg_1 hgr hmr ha.pe na) nb).run pins s σ H (fun v H' => ∃ p, v = .ref p ∧ Kp g.src H H' ∧ SrcOk g H' z1 ∧ H p = none ∧ Mut (H' p) ∧ Sh X.w (NF (g.N own) p) H' p (.list (rangeD 0 1 (j - 0).toNat))) I ⟨g, own, ρ, z, .int j, _, J, S, h5, fun v H' k S1 q => ?_⟩) fun u s1 ⟨v, H1, I1, r1, p, e, k, S1, hp, mu, sh⟩ => ?_
      · cases q
        exact ⟨j, rfl, rgOk_of hb, fun q hq => ⟨q, rfl, k.trans (Kp.upd hq), S1.same (VL.same_upd hq), k.none S1 hq, by rw [upd_same]; trivial, .lst upd_same rg_rp⟩⟩
      · subst e
        exact ⟨p, H1, I1, r1, k, S1, hp, mu, sh⟩
    · cases h3
  · cases h3⟩
theorem ve_tupRg (hc : X.calm = true) (hgr : Gl X "range") (hmr : X.mg "range" = none) (hg : Gl X "tuple") (hm : X.mg "tuple" = none) (ha : VE m sl X a f) (na : starEach [a] X.env = (false, eval a X.env) :: starEach [] X.env := by rfl)
    (nb : starEach [.Call (.Name "range" pr) [a] [] p] X.env = (false, eval (.Call (.Name "range" pr) [a] [] p) X.env) :: starEach [] X.env := by rfl) {p2 : Pos} : VE m sl X (.Call (.Name "tuple" p2) [.Call (.Name "range" pr) [a] [] p] [] pos) (eTRg (eA1 f)) := ⟨fun pins s σ H g own ρ z d z' I J S hf => by
  obtain ⟨⟨xs, z1⟩, h1, h2⟩ := Option.bind_eq_some_iff.mp hf
  obtain ⟨ds, h3, h4⟩ := Option.map_eq_some_iff.mp h2
  cases h4
  obtain ⟨d0, h5, rfl⟩ := eA1_some h1
  unfold rg1D at h3
  split at h3
  · rename_i j heq
    cases heq
    split at h3
    · rename_i hb
      cases h3
      refine thn ((pe_tupRg hc hg hm (prg_1 hgr hmr ha.pe na) nb).run pins s σ H (fun v H' => Kp g.src H H' ∧ SrcOk g H' z1 ∧ Rp X.w (g.N own) H' v (.tuple (rangeD 0 1 (j - 0).toNat))) I ⟨g, own, ρ, z, .int j, _, J, S, h5, fun v H' k S1 q => ?_⟩) fun u s1 ⟨v, H1, I1, r1, k, S1, q1⟩ => ⟨v, H1, I1, r1, k, S1, q1⟩
      cases q
      exact ⟨j, rfl, rgOk_of hb, fun q hq => ⟨k.trans (Kp.upd hq), S1.same (VL.same_upd hq), .newTup (fun b n => (J.keep k S1).nw n) hq rg_rp⟩⟩
    · cases h3
  · cases h3⟩
end
end VL
set_option Elab.async false
set_option linter.all false
set_option maxRecDepth 100000
set_option maxHeartbeats 4000000
/-! The value layer, part 15: dicts. -/
namespace VL
open PySem PySem.Spec PyProof.Rows L2

mutual
/-- a datum as a key -/
def keyOf : D → Option NestedKey
  | .none => some .none
  | .int i => some (.num i)
  | .str x => some (.text x)
  | .tuple ds => (keysOf ds).map .tup
  | _ => none
def keysOf : List D → Option (List NestedKey)
  | [] => some []
  | d :: ds => (keyOf d).bind fun k => (keysOf ds).map (k :: ·)
end
def nkK : Key → NestedKey
  | .inl i => .num i
  | .inr x => .text x
theorem nkK_inj {a b : Key} (h : nkK a = nkK b) : a = b := by
  cases a <;> cases b <;> simp_all [nkK]
theorem keyOf_kD (k : Key) : keyOf (kD k) = some (nkK k) := by cases k <;> simp [kD, keyOf, nkK]
mutual
theorem keyOf_data : ∀ k : NestedKey, keyOf k.data = some k
  | .none => by simp [NestedKey.data, keyOf]
  | .num i => by simp [NestedKey.data, keyOf]
  | .text x => by simp [NestedKey.data, keyOf]
  | .tup ks => by simp [NestedKey.data, keyOf, keysOf_datas ks]
theorem keysOf_datas : ∀ ks : List NestedKey, keysOf (NestedKey.datas ks) = some ks
  | [] => by simp [NestedKey.datas, keysOf]
  | k :: ks => by simp [NestedKey.datas, keysOf, keyOf_data k, keysOf_datas ks]
end
mutual
theorem data_keyOf : ∀ {d : D} {k : NestedKey}, keyOf d = some k → k.data = d
  | .none, k, h => by simp [keyOf] at h; subst h; simp [NestedKey.data]
  | .int i, k, h => by simp [keyOf] at h; subst h; simp [NestedKey.data]
  | .str x, k, h => by simp [keyOf] at h; subst h; simp [NestedKey.data]
  | .tuple ds, k, h => by
    rw [keyOf] at h
    obtain ⟨ks, h1, rfl⟩ := Option.map_eq_some_iff.mp h
    rw [NestedKey.data, datas_keysOf h1]
  | .bool _, k, h => by simp [keyOf] at h
  | .list _, k, h => by simp [keyOf] at h
  | .dict _, k, h => by simp [keyOf] at h
theorem datas_keysOf : ∀ {ds : List D} {ks : List NestedKey}, keysOf ds = some ks → NestedKey.datas ks = ds
  | [], ks, h => by simp [keysOf] at h; subst h; simp [NestedKey.datas]
  | d :: ds, ks, h => by
    rw [keysOf] at h
    obtain ⟨k, h1, h2⟩ := Option.bind_eq_some_iff.mp h
    obtain ⟨ks', h3, rfl⟩ := Option.map_eq_some_iff.mp h2
    rw [NestedKey.datas, data_keyOf h1, datas_keysOf h3]
end
section
variable {X : Cx} {pins : List (Addr × Obj)} {σ : L2.St} {H : Hp} {s : Shared} {w : World} {N : Addr → Prop}
mutual
theorem rp_nested (I : Inv X pins σ H s) : ∀ {d : D} {v : V} {u : Value} {k : NestedKey}, Rp w N H v d → RelV v u → keyOf d = some k → NestedIs s.heap k u
  | _, _, _, _, .non, r, h => by cases r; simp [keyOf] at h; subst h; exact .none
  | _, _, _, _, .bl b, r, h => by simp [keyOf] at h
  | _, _, _, _, .int i, r, h => by obtain ⟨t, rfl⟩ := r; simp [keyOf] at h; subst h; exact .int i t
  | _, _, _, _, .str x, r, h => by obtain ⟨t, rfl⟩ := r; simp [keyOf] at h; subst h; exact .text x t
  | _, _, _, _, .tup (a := a) (xs := xs) (ds := ds) ha _ ra, r, h => by
    cases r
    rw [keyOf] at h
    obtain ⟨ks, h1, rfl⟩ := Option.map_eq_some_iff.mp h
    obtain ⟨its, rv, p, hz⟩ := I.tuple (SqT.of ha)
    obtain ⟨o, ho, hc, n, hd⟩ := p
    exact .tup ho hc hd (by simpa using rps_nested I ra rv h1)
  | _, _, _, _, .lst _ _ _, r, h => by simp [keyOf] at h
  | _, _, _, _, .dK _ _ _ _ _, r, h => by simp [keyOf] at h
  | _, _, _, _, .dN _ _ _ _ _ _ _ _, r, h => by simp [keyOf] at h
theorem rps_nested (I : Inv X pins σ H s) : ∀ {ds : List D} {vs : List V} {us : List Value} {ks : List NestedKey}, RpAll w N H vs ds → Vals vs us → keysOf ds = some ks → NestedAll s.heap ks us
  | _, _, _, _, .nil, .nil, h => by simp [keysOf] at h; subst h; exact .nil
  | _, _, _, _, .cons r t, .cons rv tv, h => by
    rw [keysOf] at h
    obtain ⟨k, h1, h2⟩ := Option.bind_eq_some_iff.mp h
    obtain ⟨ks', h3, rfl⟩ := Option.map_eq_some_iff.mp h2
    exact .cons (rp_nested I r rv h1) (rps_nested I t tv h3)
end
end

/-! ### a dict as pairs of data -/
def dGet (ps : List (D × D)) (k : NestedKey) : Option D := (ps.find? fun p => decide (keyOf p.1 = some k)).map (·.2)
def dPut (ps : List (D × D)) (kd : D) (k : NestedKey) (v : D) : List (D × D) := if (dGet ps k).isSome then ps.map fun p => if keyOf p.1 = some k then (p.1, v) else p else ps ++ [(kd, v)]
def dDel (ps : List (D × D)) (k : NestedKey) : List (D × D) := ps.filter fun p => decide (keyOf p.1 ≠ some k)
inductive KAll (w : World) (N : Addr → Prop) (H : Hp) : List (Key × V) → List (D × D) → Prop
  | nil : KAll w N H [] []
  | cons {k : Key} {v : V} {d : D} {kvs : List (Key × V)} {ps : List (D × D)} : Rp w N H v d → KAll w N H kvs ps → KAll w N H ((k, v) :: kvs) ((kD k, d) :: ps)
inductive NAll (w : World) (N : Addr → Prop) (H : Hp) : List (NestedKey × Addr × Value) → List (D × D) → Prop
  | nil : NAll w N H [] []
  | cons {k : NestedKey} {a : Addr} {u : Value} {v : V} {d : D} {ens : List (NestedKey × Addr × Value)} {ps : List (D × D)} : Rp w N H (.ref a) k.data → RelV v u → Rp w N H v d → NAll w N H ens ps → NAll w N H ((k, a, u) :: ens) ((k.data, d) :: ps)
inductive Dc (w : World) (N : Addr → Prop) (H : Hp) (a : Addr) (ps : List (D × D)) : Prop
  | k {kvs : List (Key × V)} : L2.Rd H a (.dK kvs) → KAll w N H kvs ps → Dc w N H a ps
  | n {ens : List (NestedKey × Addr × Value)} : L2.Rd H a (VL.dN w a ens) → DNok a ens → NAll w N H ens ps → Dc w N H a ps
section
variable {w : World} {N : Addr → Prop} {H : Hp} {a : Addr}
theorem kall_of : ∀ {kvs : List (Key × V)} {ds : List D}, RpAll w N H (kvs.map (·.2)) ds → KAll w N H kvs ((kvs.map fun p => kD p.1).zip ds)
  | [], _, r => by cases r; exact .nil
  | (k, v) :: kvs, _, .cons r t => .cons r (kall_of t)
theorem kall_to : ∀ {kvs : List (Key × V)} {ps : List (D × D)}, KAll w N H kvs ps → ∃ ds, RpAll w N H (kvs.map (·.2)) ds ∧ ps = (kvs.map fun p => kD p.1).zip ds
  | _, _, .nil => ⟨[], .nil, rfl⟩
  | _, _, .cons r t => by
    obtain ⟨ds, h1, h2⟩ := kall_to t
    exact ⟨_ :: ds, .cons r h1, by rw [h2]; rfl⟩
theorem nall_of : ∀ {ens : List (NestedKey × Addr × Value)} {vs : List V} {es : List D}, RpAll w N H (ens.map fun x => V.ref x.2.1) (ens.map fun x => x.1.data) → Vals vs (ens.map (·.2.2)) → RpAll w N H vs es → NAll w N H ens ((ens.map fun x => x.1.data).zip es)
  | [], _, _, _, rv, re => by cases rv; cases re; exact .nil
  | (k, b, u) :: ens, _, _, .cons rk tk, .cons rv tv, .cons re te => .cons rk rv re (nall_of tk tv te)
theorem nall_to : ∀ {ens : List (NestedKey × Addr × Value)} {ps : List (D × D)}, NAll w N H ens ps → ∃ vs es, RpAll w N H (ens.map fun x => V.ref x.2.1) (ens.map fun x => x.1.data) ∧ Vals vs (ens.map (·.2.2)) ∧ RpAll w N H vs es ∧ ps = (ens.map fun x => x.1.data).zip es
  | _, _, .nil => ⟨[], [], .nil, .nil, .nil, rfl⟩
  | _, _, .cons rk rv re t => by
    obtain ⟨vs, es, h1, h2, h3, h4⟩ := nall_to t
    exact ⟨_ :: vs, _ :: es, .cons rk h1, .cons rv h2, .cons re h3, by rw [h4]; rfl⟩
theorem Sh.dc {ps : List (D × D)} (h : Sh w N H a (.dict ps)) : Dc w N H a ps := by
  cases h with
  | dK h e1 e2 r =>
    subst e1 e2
    exact .k h (kall_of r)
  | dN h o e1 e2 r v t =>
    subst e1 e2
    exact .n h o (nall_of r v t)
theorem Dc.sh {ps : List (D × D)} (h : Dc w N H a ps) : Sh w N H a (.dict ps) := by
  cases h with
  | k h r =>
    obtain ⟨ds, h1, rfl⟩ := kall_to r
    exact .dK h rfl rfl h1
  | n h o r =>
    obtain ⟨vs, es, h1, h2, h3, rfl⟩ := nall_to r
    exact .dN h o rfl rfl h1 h2 h3
theorem Rp.dict {v : V} {ps : List (D × D)} (h : Rp w N H v (.dict ps)) : ∃ a, v = .ref a ∧ ¬ N a ∧ Dc w N H a ps := by
  cases h with
  | dK h n e1 e2 r => exact ⟨_, rfl, n, (Sh.dK h e1 e2 r).dc⟩
  | dN h n o e1 e2 r v t => exact ⟨_, rfl, n, (Sh.dN h o e1 e2 r v t).dc⟩
theorem Rd.dict {g : Gh} {own : Own} {v : V} {ps : List (D × D)} (h : Rd w g own H v (.dict ps)) : ∃ a, v = .ref a ∧ ¬ g.N0 a ∧ Dc w (g.N own) H a ps := by
  cases h with
  | c h => obtain ⟨a, e, n, q⟩ := h.dict; exact ⟨a, e, fun z => n (.inl z), q⟩
  | o h n => exact ⟨_, rfl, n, h.dc⟩
/-! #### the pairs and the entries -/
theorem KAll.get : ∀ {kvs : List (Key × V)} {ps : List (D × D)} {k : Key} {d : D}, KAll w N H kvs ps → dGet ps (nkK k) = some d → ∃ v, valV kvs k = some v ∧ Rp w N H v d
  | _, _, _, _, .nil, h => by simp [dGet] at h
  | _, _, k, d, .cons (k := k') (d := d') r t, h => by
    by_cases c : k' = k
    · subst c
      unfold dGet at h
      rw [List.find?_cons, show decide (keyOf (kD k') = some (nkK k')) = true by simp [keyOf_kD]] at h
      cases h
      exact ⟨_, valV_pos rfl, r⟩
    · have hc : decide (keyOf (kD k') = some (nkK k)) = false := by
        rw [keyOf_kD]
        exact decide_eq_false fun e => c (nkK_inj (Option.some.inj e))
      unfold dGet at h
      rw [List.find?_cons, hc] at h
      obtain ⟨v, h1, h2⟩ := t.get (show dGet _ _ = some d from h)
      exact ⟨v, by rw [valV_neg c]; exact h1, h2⟩
theorem KAll.none : ∀ {kvs : List (Key × V)} {ps : List (D × D)} {k : Key}, KAll w N H kvs ps → dGet ps (nkK k) = Option.none → valV kvs k = Option.none
  | _, _, _, .nil, h => rfl
  | _, _, k, .cons (k := k') r t, h => by
    by_cases c : k' = k
    · subst c
      unfold dGet at h
      rw [List.find?_cons, show decide (keyOf (kD k') = some (nkK k')) = true by simp [keyOf_kD]] at h
      cases h
    · have hc : decide (keyOf (kD k') = some (nkK k)) = false := by
        rw [keyOf_kD]
        exact decide_eq_false fun e => c (nkK_inj (Option.some.inj e))
      unfold dGet at h
      rw [List.find?_cons, hc] at h
      rw [valV_neg c]
      exact t.none h
theorem KAll.isSome {kvs : List (Key × V)} {ps : List (D × D)} {k : Key} (q : KAll w N H kvs ps) : (valV kvs k).isSome = (dGet ps (nkK k)).isSome := by
  cases e : dGet ps (nkK k) with
  | none => rw [q.none e]; rfl
  | some d => obtain ⟨v, h, _⟩ := q.get e; rw [h]; rfl
theorem KAll.length : ∀ {kvs : List (Key × V)} {ps : List (D × D)}, KAll w N H kvs ps → kvs.length = ps.length
  | _, _, .nil => rfl
  | _, _, .cons _ t => by rw [List.length_cons, List.length_cons, t.length]
theorem NAll.length : ∀ {kvs : List (NestedKey × Addr × Value)} {ps : List (D × D)}, NAll w N H kvs ps → kvs.length = ps.length
  | _, _, .nil => rfl
  | _, _, .cons _ _ _ t => by rw [List.length_cons, List.length_cons, t.length]
theorem KAll.move {N' : Addr → Prop} {H' : Hp} (k : ∀ b o, H b = some o → ¬ N b → H' b = some o ∧ ¬ N' b) : ∀ {kvs : List (Key × V)} {ps : List (D × D)}, KAll w N H kvs ps → KAll w N' H' kvs ps
  | _, _, .nil => .nil
  | _, _, .cons r t => .cons (r.move k) (t.move k)
theorem NAll.move {N' : Addr → Prop} {H' : Hp} (k : ∀ b o, H b = some o → ¬ N b → H' b = some o ∧ ¬ N' b) : ∀ {kvs : List (NestedKey × Addr × Value)} {ps : List (D × D)}, NAll w N H kvs ps → NAll w N' H' kvs ps
  | _, _, .nil => .nil
  | _, _, .cons r1 r2 r3 t => .cons (r1.move k) r2 (r3.move k) (t.move k)
theorem KAll.put {kvs : List (Key × V)} {ps : List (D × D)} {k : Key} {v : V} {d : D} (q : KAll w N H kvs ps) (r : Rp w N H v d) : KAll w N H (putK kvs k v) (dPut ps (kD k) (nkK k) d) := by
  have map : ∀ {kvs : List (Key × V)} {ps : List (D × D)}, KAll w N H kvs ps → KAll w N H (kvs.map fun kv => if kv.1 = k then (kv.1, v) else kv) (ps.map fun p => if keyOf p.1 = some (nkK k) then (p.1, d) else p) := by
    intro kvs ps q
    induction q with
    | nil => exact .nil
    | @cons k' v' d' kvs ps r' t ih =>
      rw [List.map_cons, List.map_cons]
      by_cases c : k' = k
      · subst c
        rw [if_pos rfl, if_pos (keyOf_kD k')]
        exact .cons r ih
      · rw [if_neg c, if_neg (by rw [keyOf_kD]; exact fun e => c (nkK_inj (Option.some.inj e)))]
        exact .cons r' ih
  have app : ∀ {kvs : List (Key × V)} {ps : List (D × D)}, KAll w N H kvs ps → KAll w N H (kvs ++ [(k, v)]) (ps ++ [(kD k, d)]) := by
    intro kvs ps q
    induction q with
    | nil => exact .cons r .nil
    | cons r' t ih => exact .cons r' ih
  unfold putK dPut
  rw [valV_any, q.isSome]
  split
  · exact map q
  · exact app q
theorem KAll.drop {kvs : List (Key × V)} {ps : List (D × D)} {k : Key} (q : KAll w N H kvs ps) : KAll w N H (dropK kvs k) (dDel ps (nkK k)) := by
  unfold dropK dDel
  induction q with
  | nil => exact .nil
  | @cons k' v' d' kvs ps r' t ih =>
    rw [List.filter_cons, List.filter_cons]
    by_cases c : k' = k
    · subst c
      rw [if_neg (by simp), if_neg (by simp [keyOf_kD])]
      exact ih
    · rw [if_pos (by simpa using c), if_pos (by simp only [keyOf_kD, decide_eq_true_eq]; exact fun e => c (nkK_inj (Option.some.inj e)))]
      exact .cons r' ih
theorem NAll.get : ∀ {ens : List (NestedKey × Addr × Value)} {ps : List (D × D)} {k : NestedKey} {d : D}, NAll w N H ens ps → dGet ps k = some d → ∃ p v, atKey ens k = some p ∧ RelV v p.2 ∧ Rp w N H v d
  | _, _, _, _, .nil, h => by simp [dGet] at h
  | _, _, k, d, .cons (k := k') (a := a') (u := u') (d := d') r1 r2 r3 t, h => by
    by_cases c : k' = k
    · subst c
      unfold dGet at h
      rw [List.find?_cons, show decide (keyOf k'.data = some k') = true by simp [keyOf_data]] at h
      cases h
      exact ⟨(a', u'), _, by simp [atKey, List.find?_cons], r2, r3⟩
    · have hc : decide (keyOf k'.data = some k) = false := by
        rw [keyOf_data]
        exact decide_eq_false fun e => c (Option.some.inj e)
      unfold dGet at h
      rw [List.find?_cons, hc] at h
      obtain ⟨p, v, h1, h2, h3⟩ := t.get (show dGet _ _ = some d from h)
      refine ⟨p, v, ?_, h2, h3⟩
      unfold atKey at h1 ⊢
      rw [List.find?_cons, show decide (k' = k) = false from decide_eq_false c]
      exact h1
theorem NAll.none : ∀ {ens : List (NestedKey × Addr × Value)} {ps : List (D × D)} {k : NestedKey}, NAll w N H ens ps → dGet ps k = Option.none → atKey ens k = Option.none
  | _, _, _, .nil, h => rfl
  | _, _, k, .cons (k := k') r1 r2 r3 t, h => by
    by_cases c : k' = k
    · subst c
      unfold dGet at h
      rw [List.find?_cons, show decide (keyOf k'.data = some k') = true by simp [keyOf_data]] at h
      cases h
    · have hc : decide (keyOf k'.data = some k) = false := by
        rw [keyOf_data]
        exact decide_eq_false fun e => c (Option.some.inj e)
      unfold dGet at h
      rw [List.find?_cons, hc] at h
      have := t.none h
      unfold atKey at this ⊢
      rw [List.find?_cons, show decide (k' = k) = false from decide_eq_false c]
      exact this
theorem NAll.isSome {ens : List (NestedKey × Addr × Value)} {ps : List (D × D)} {k : NestedKey} (q : NAll w N H ens ps) : (atKey ens k).isSome = (dGet ps k).isSome := by
  cases e : dGet ps k with
  | none => rw [q.none e]; rfl
  | some d => obtain ⟨p, v, h, _⟩ := q.get e; rw [h]; rfl
theorem NAll.put {ens : List (NestedKey × Addr × Value)} {ps : List (D × D)} {k : NestedKey} {b : Addr} {u : Value} {v : V} {d : D} (q : NAll w N H ens ps) (rk : Rp w N H (.ref b) k.data) (rv : RelV v u) (r : Rp w N H v d) : NAll w N H (storedH ens k b u) (dPut ps k.data k d) := by
  have map : ∀ {ens : List (NestedKey × Addr × Value)} {ps : List (D × D)}, NAll w N H ens ps → NAll w N H (ens.map (putAt k u)) (ps.map fun p => if keyOf p.1 = some k then (p.1, d) else p) := by
    intro ens ps q
    induction q with
    | nil => exact .nil
    | @cons k' a' u' v' d' ens ps r1 r2 r3 t ih =>
      rw [List.map_cons, List.map_cons]
      unfold putAt
      by_cases c : k' = k
      · subst c
        rw [if_pos rfl, if_pos (keyOf_data k')]
        exact .cons r1 rv r ih
      · rw [if_neg c, if_neg (by rw [keyOf_data]; exact fun e => c (Option.some.inj e))]
        exact .cons r1 r2 r3 ih
  have app : ∀ {ens : List (NestedKey × Addr × Value)} {ps : List (D × D)}, NAll w N H ens ps → NAll w N H (ens ++ [(k, b, u)]) (ps ++ [(k.data, d)]) := by
    intro ens ps q
    induction q with
    | nil => exact .cons rk rv r .nil
    | cons r1 r2 r3 t ih => exact .cons r1 r2 r3 ih
  unfold storedH dPut
  rw [q.isSome]
  split
  · exact map q
  · exact app q
theorem NAll.drop {ens : List (NestedKey × Addr × Value)} {ps : List (D × D)} {k : NestedKey} (q : NAll w N H ens ps) : NAll w N H (withoutH ens k) (dDel ps k) := by
  unfold withoutH dDel
  induction q with
  | nil => exact .nil
  | @cons k' a' u' v' d' ens ps r1 r2 r3 t ih =>
    rw [List.filter_cons, List.filter_cons]
    by_cases c : k' = k
    · subst c
      rw [if_neg (by simp), if_neg (by simp [keyOf_data])]
      exact ih
    · rw [if_pos (by simpa using c), if_pos (by simp only [keyOf_data, decide_eq_true_eq]; exact fun e => c (Option.some.inj e))]
      exact .cons r1 r2 r3 ih
end
end VL
set_option Elab.async false
set_option linter.all false
set_option maxRecDepth 100000
set_option maxHeartbeats 4000000
/-! The value layer, part 16: dicts read and written. -/
namespace VL
open PySem PySem.Spec PyProof.Rows L2

def isTup : NestedKey → Bool
  | .tup _ => true
  | _ => false
def kOk (k : NestedKey) : Bool := decide (k.depth ≤ 8)
/-- None is no key here -/
def kSome : NestedKey → Bool
  | .none => false
  | _ => true
def tupKeyed (ps : List (D × D)) : Bool := ps.all fun p => match p.1 with | .tuple _ => true | _ => false
def flatKeyed (ps : List (D × D)) : Bool := ps.all fun p => match p.1 with | .int _ => true | .str _ => true | _ => false
section
variable {X : Cx} {pins : List (Addr × Obj)} {σ : L2.St} {H : Hp} {s : Shared} {w : World} {N : Addr → Prop} {a : Addr} {g : Gh} {own : Own} {y : V} {u : Value} {dk : D} {k : NestedKey} {ps : List (D × D)} {kvs : List (Key × V)} {ens : List (NestedKey × Addr × Value)}
/-- a key that is an int or a text -/
theorem flat_key (q : Rd w g own H y dk) (h : keyOf dk = some k) (ht : isTup k = false) (hn : kSome k = true) : ∃ j : Key, y = kV j ∧ k = nkK j ∧ dk = kD j := by
  cases dk with
  | none => simp [keyOf] at h; subst h; cases hn
  | bool b => simp [keyOf] at h
  | int i => simp [keyOf] at h; subst h; exact ⟨.inl i, q.i, rfl, rfl⟩
  | str x => simp [keyOf] at h; subst h; exact ⟨.inr x, q.st, rfl, rfl⟩
  | list xs => simp [keyOf] at h
  | tuple xs =>
    rw [keyOf] at h
    obtain ⟨ks, h1, rfl⟩ := Option.map_eq_some_iff.mp h
    cases ht
  | dict xs => simp [keyOf] at h
theorem tup_key (I : Inv X pins σ H s) (q : Rd w g own H y dk) (r : RelV y u) (h : keyOf dk = some k) (ht : isTup k = true) : ∃ b, u = .ref b ∧ Rp w (g.N own) H (.ref b) dk ∧ NestedIs s.heap k (.ref b) ∧ k.data = dk := by
  have hd := data_keyOf h
  cases dk with
  | none => simp [keyOf] at h; subst h; cases ht
  | bool b => simp [keyOf] at h
  | int i => simp [keyOf] at h; subst h; cases ht
  | str x => simp [keyOf] at h; subst h; cases ht
  | list xs => simp [keyOf] at h
  | tuple xs =>
    cases q with
    | c q =>
      have n := rp_nested I q r h
      cases q with
      | tup ha na ra =>
        cases r
        exact ⟨_, rfl, .tup ha na ra, n, hd⟩
    | o q _ => cases q
  | dict xs => simp [keyOf] at h
theorem NAll.tups : ∀ {ens : List (NestedKey × Addr × Value)} {ps : List (D × D)}, NAll w N H ens ps → ∀ x, x ∈ ens → isTup x.1 = true
  | _, _, .nil, x, h => by simp at h
  | _, _, .cons (k := k) r1 r2 r3 t, x, h => by
    rcases List.mem_cons.mp h with h | h
    · subst h
      cases k with
      | tup ks => rfl
      | none => simp only [NestedKey.data] at r1; cases r1
      | num i => simp only [NestedKey.data] at r1; cases r1
      | text i => simp only [NestedKey.data] at r1; cases r1
    · exact t.tups x h
theorem NAll.nested (I : Inv X pins σ H s) : ∀ {ens : List (NestedKey × Addr × Value)} {ps : List (D × D)}, NAll w N H ens ps → ∀ x, x ∈ ens → NestedIs s.heap x.1 (.ref x.2.1)
  | _, _, .nil, x, h => by simp at h
  | _, _, .cons (k := k) r1 r2 r3 t, x, h => by
    rcases List.mem_cons.mp h with h | h
    · subst h; exact rp_nested I r1 rfl (keyOf_data k)
    · exact t.nested I x h
/-- the machine's dict -/
theorem dn_at (I : Inv X pins σ H s) (h : L2.Rd H a (VL.dN X.w a ens)) (ok : DNok a ens) (q : NAll X.w N H ens ps) : s.heap.DictOfH (nestedKind X.prog X.w) a ens := by
  obtain ⟨⟨o, es, ep, h1, h2, h3, h4⟩, _⟩ := h.ok I.hok
  exact ⟨o, es, ep, h1, h2, h3, h4, fun x hx => ⟨q.nested I x hx, ok.dp x hx⟩, ok.nd⟩
/-- the empty dict is a dict of tuple keys, too -/
theorem d0_at (I : Inv X pins σ H s) (h : L2.Rd H a (.dK [])) : s.heap.DictOfH (nestedKind X.prog X.w) a [] ∧ (a == sysModules) = false := by
  obtain ⟨_, hd, vs, rel, o, es, ep, h1, h2, h3, h4, h5, _⟩ := dk_rd I.hok h
  cases rel
  have : es.toList = [] := by
    generalize es.toList = l at h5
    cases h5
    rfl
  exact ⟨⟨o, es, ep, h1, h2, h3, by rw [this]; rfl, by simp, by simp⟩, hd⟩
theorem isT_dc (I : Inv X pins σ H s) (q : Dc X.w N H a ps) : IsT s (.ref a) "dict" := by
  have : ∃ o : Obj, s.heap.get? a = some o ∧ o.ExactDict := by
    cases q with
    | k h _ =>
      obtain ⟨_, _, vs, _, o, _, _, h1, h2, _⟩ := dk_rd I.hok h
      exact ⟨o, h1, h2⟩
    | n h _ _ =>
      obtain ⟨⟨o, _, _, h1, h2, _⟩, _⟩ := h.ok I.hok
      exact ⟨o, h1, h2⟩
  obtain ⟨o, h1, h2⟩ := this
  exact ⟨⟨o, h1, h2.1⟩, fun b e => by cases e; exact ⟨o, h1, h2.2.1⟩⟩
theorem kall_get_key (q : KAll w N H kvs ps) {d : D} (h : dGet ps k = some d) : isTup k = false ∧ kSome k = true := by
  unfold dGet at h
  obtain ⟨p, h1, h2⟩ := Option.map_eq_some_iff.mp h
  have hp := List.find?_some h1
  have hm := List.mem_of_find?_eq_some h1
  have : ∀ {kvs : List (Key × V)} {ps : List (D × D)}, KAll w N H kvs ps → ∀ p, p ∈ ps → ∃ j, p.1 = kD j := by
    intro kvs ps q
    induction q with
    | nil => intro p h; simp at h
    | cons r t ih =>
      intro p h
      rcases List.mem_cons.mp h with h | h
      · subst h; exact ⟨_, rfl⟩
      · exact ih p h
  obtain ⟨j, hj⟩ := this q p hm
  rw [hj, keyOf_kD] at hp
  have hp := Option.some.inj (of_decide_eq_true hp)
  subst hp
  cases j <;> exact ⟨rfl, rfl⟩
theorem nall_get_key (q : NAll w N H ens ps) {d : D} (h : dGet ps k = some d) : isTup k = true ∧ ∃ x, x ∈ ens ∧ x.1 = k := by
  obtain ⟨p, v, h1, _⟩ := q.get h
  unfold atKey at h1
  obtain ⟨x, h2, h3⟩ := Option.map_eq_some_iff.mp h1
  have hp : x.1 = k := of_decide_eq_true (p := x.1 = k) (by simpa using List.find?_some h2)
  have hm := List.mem_of_find?_eq_some h2
  exact ⟨hp ▸ q.tups x hm, x, hm, hp⟩
variable {A : Around} {E : Value → Shared → Prop}
/-- d[k], there -/
theorem dc_getItem {Q : Value → Shared → Prop} {d : D} (hu : A.units + 64 < cLine) (I : Inv X pins σ H s) (q : Dc X.w (g.N own) H a ps) (ky : Rd X.w g own H y dk) (r : RelV y u) (hk : keyOf dk = some k) (h : dGet ps k = some d)
    (fin : ∀ v w' s', Inv X pins σ H s' → RelV v w' → Rp X.w (g.N own) H v d → Q w' s') : wpAny (model X.prog X.w) A (getItem (.ref a) u) Q E s := by
  cases q with
  | k hr qa =>
    obtain ⟨h1, h2⟩ := kall_get_key qa h
    obtain ⟨j, rfl, rfl, _⟩ := flat_key ky hk h1 h2
    obtain ⟨v, hv, rv⟩ := qa.get h
    exact d_getItem (by omega) I (.inl ⟨_, j, hr, rfl, hv.symm⟩) r fun w' s' I' rw' => fin v w' s' I' rw' rv
  | n hr ok qa =>
    obtain ⟨h1, x, hx, hxk⟩ := nall_get_key qa h
    obtain ⟨b, rfl, _, n, _⟩ := tup_key I ky r hk h1
    obtain ⟨p, v, hp, rv, rd⟩ := qa.get h
    exact wpAny_getItem_heap (show A.in1.units + 8 < cLine by show A.units + 1 + 8 < cLine; omega) (show (nestedKind X.prog X.w).is s.heap k b from ⟨n, hxk ▸ ok.dp x hx⟩) (dn_at I hr ok qa) hp (fin v p.2 _ (I.tok _) rv rd)
/-- one kind of keys -/
def sameCls (ps : List (D × D)) (k : NestedKey) : Bool := kSome k && (kOk k && if isTup k then tupKeyed ps else flatKeyed ps)
theorem kall_tup (q : KAll w N H kvs ps) (h : tupKeyed ps = true) : kvs = [] := by
  cases q with
  | nil => rfl
  | @cons k v d kvs ps r t =>
    unfold tupKeyed at h
    rw [List.all_cons, Bool.and_eq_true] at h
    cases k <;> exact absurd h.1 (by simp [kD])
theorem nall_flat (q : NAll w N H ens ps) (h : flatKeyed ps = true) : ens = [] := by
  cases q with
  | nil => rfl
  | @cons k a u v d ens ps r1 r2 r3 t =>
    unfold flatKeyed at h
    rw [List.all_cons, Bool.and_eq_true] at h
    cases k with
    | tup ks => exact absurd h.1 (by simp [NestedKey.data])
    | none => simp only [NestedKey.data] at r1; cases r1
    | num i => simp only [NestedKey.data] at r1; cases r1
    | text i => simp only [NestedKey.data] at r1; cases r1
theorem dc_contains {Q : Value → Shared → Prop} (neg : Bool) (hu : A.units + 64 < cLine) (I : Inv X pins σ H s) (q : Dc X.w (g.N own) H a ps) (ky : Rd X.w g own H y dk) (r : RelV y u) (hk : keyOf dk = some k) (hc : sameCls ps k = true)
    (fin : ∀ s', Inv X pins σ H s' → Q (.bool (if neg then !(dGet ps k).isSome else (dGet ps k).isSome)) s') : wpAny (model X.prog X.w) A (compareOp (if neg then .NotIn else .In) u (.ref a)) Q E s := by
  unfold sameCls at hc
  simp only [Bool.and_eq_true] at hc
  obtain ⟨hc1, hc2, hc3⟩ := hc
  have room : (nestedKind X.prog X.w).room A.in1 := show A.in1.units + 8 < cLine by show A.units + 1 + 8 < cLine; omega
  have dep : k.depth ≤ 8 := of_decide_eq_true hc2
  cases ht : isTup k with
  | true =>
    rw [if_pos ht] at hc3
    obtain ⟨b, rfl, _, n, _⟩ := tup_key I ky r hk ht
    have go : ∀ {ens : List (NestedKey × Addr × Value)}, s.heap.DictOfH (nestedKind X.prog X.w) a ens → (a == sysModules) = false → (atKey ens k).isSome = (dGet ps k).isSome → wpAny (model X.prog X.w) A (compareOp (if neg then .NotIn else .In) (.ref b) (.ref a)) Q E s := fun {ens} hm hs e => by
      cases neg with
      | true =>
        simp only [if_true] at fin ⊢
        refine wpAny_notIn_heap room ⟨n, dep⟩ hs hm ?_
        rw [e]
        exact fin _ (I.tok _)
      | false =>
        simp only [Bool.false_eq_true, if_false] at fin ⊢
        refine wpAny_in_heap room ⟨n, dep⟩ hs hm ?_
        rw [e]
        exact fin _ (I.tok _)
    cases q with
    | k hr qa =>
      have e := kall_tup qa hc3
      subst e
      cases qa
      obtain ⟨h1, h2⟩ := d0_at I hr
      exact go h1 h2 rfl
    | n hr ok qa => exact go (dn_at I hr ok qa) ok.ns qa.isSome
  | false =>
    rw [if_neg (by rw [ht]; decide)] at hc3
    obtain ⟨j, rfl, rfl, _⟩ := flat_key ky hk ht hc1
    cases q with
    | k hr qa =>
      cases neg with
      | true =>
        simp only [if_true] at fin ⊢
        refine d_notIn (by omega) I (.inl ⟨_, j, hr, rfl, rfl⟩) r fun s' I' => ?_
        rw [qa.isSome]
        exact fin s' I'
      | false =>
        simp only [Bool.false_eq_true, if_false] at fin ⊢
        refine d_in (by omega) I (.inl ⟨_, j, hr, rfl, rfl⟩) r fun s' I' => ?_
        rw [qa.isSome]
        exact fin s' I'
    | n hr ok qa => exact absurd (nall_flat qa hc3) ok.ne
/-- d[k] = v, d owned: what stands there then -/
theorem dc_setItem {Q : Unit → Shared → Prop} {v : V} {uv : Value} {d : D} (hu : A.units + 64 < cLine) (I : Inv X pins σ H s) (q : Dc X.w N H a ps) (hN : N a) (mu : Mut (H a)) (ky : Rd X.w g own H y dk) (hgN : g.N own = N) (r : RelV y u) (hk : keyOf dk = some k) (hc : sameCls ps k = true) (hz : ps.length < sizeLine)
    (rv : RelV v uv) (qv : Rp X.w N H v d)
    (fin : ∀ o s', Inv X pins σ (upd H a o) s' → Mut (some o) → Dc X.w N (upd H a o) a (dPut ps dk k d) → Q () s') : wpAny (model X.prog X.w) A (setItem (.ref a) u uv) Q E s := by
  unfold sameCls at hc
  simp only [Bool.and_eq_true] at hc
  obtain ⟨hc1, hc2, hc3⟩ := hc
  have room : (nestedKind X.prog X.w).room A.in1 := show A.in1.units + 8 < cLine by show A.units + 1 + 8 < cLine; omega
  have dep : k.depth ≤ 8 := of_decide_eq_true hc2
  have mv : ∀ o, ∀ b o', H b = some o' → ¬ N b → upd H a o b = some o' ∧ ¬ N b := fun o b o' e n => ⟨by rw [upd_ne (fun c : b = a => n (c ▸ hN))]; exact e, n⟩
  have exact1 : ∀ {o}, L2.Rd H a o → H a = some o := fun {o} h => by
    rcases h with h | ⟨od, h⟩
    · exact h
    · rw [h] at mu; exact mu.elim
  cases ht : isTup k with
  | true =>
    rw [if_pos ht] at hc3
    obtain ⟨b, rfl, rk, n, hdk⟩ := tup_key I ky r hk ht
    rw [hgN] at rk
    have go : ∀ {ens : List (NestedKey × Addr × Value)}, s.heap.DictOfH (nestedKind X.prog X.w) a ens → (a == sysModules) = false → ens.length ≤ sizeLine → ens.length = ps.length → NAll X.w N H ens ps → (∀ x, x ∈ ens → x.1.depth ≤ 8) → wpAny (model X.prog X.w) A (setItem (.ref a) (.ref b) uv) Q E s := fun {ens} hm hs hz1 hlen qa hdp => by
      refine wpAny_setItem_heap (hsz := hz1) room ⟨n, dep⟩ hm fun h' hm' hs' => ?_
      obtain ⟨o, es, ep, h1, h2, h3, h4, h5, h6⟩ := hm'
      have hl : (storedH ens k b uv).length ≤ sizeLine := by have := storedH_length ens k b uv; omega
      refine fin (VL.dN X.w a (storedH ens k b uv)) _ (d_write I mu.k hs' ⟨o, h1⟩ ⟨⟨o, es, ep, h1, h2, h3, h4⟩, ⟨o, h1⟩, fun g1 g2 ⟨o', es', ep', e1, e2⟩ hk' => ⟨o', es', ep', hk' o' e1, e2⟩⟩) dN_noc ?_
      refine .n (.inl upd_same) ⟨h6, fun x hx => (h5 x hx).2, hs, hl, fun c => ?_⟩ ?_
      · have hp := (qa.put (k := k) (b := b) (u := uv) (v := v) (d := d) (by rw [hdk]; exact rk) rv qv).length
        rw [c] at hp
        unfold dPut at hp
        split at hp
        · rename_i hh
          have : ps = [] := by
            cases ps with
            | nil => rfl
            | cons p ps => simp at hp
          subst this
          simp [dGet] at hh
        · simp at hp
      · have := (qa.put (k := k) (b := b) (u := uv) (v := v) (d := d) (by rw [hdk]; exact rk) rv qv).move (mv (VL.dN X.w a (storedH ens k b uv)))
        rw [hdk] at this
        exact this
    cases q with
    | k hr qa =>
      have e := kall_tup qa hc3
      subst e
      cases qa
      obtain ⟨h1, h2⟩ := d0_at I hr
      exact go h1 h2 (Nat.zero_le _) rfl .nil (by simp)
    | n hr ok qa => exact go (dn_at I hr ok qa) ok.ns ok.sz qa.length qa ok.dp
  | false =>
    rw [if_neg (by rw [ht]; decide)] at hc3
    obtain ⟨j, rfl, rfl, hdk⟩ := flat_key ky hk ht hc1
    cases q with
    | k hr qa =>
      have hH := exact1 hr
      refine d_setItem (by omega) I (DPut.k hH (by rw [qa.length]; exact hz)) r rv fun s' I' => fin _ s' I' trivial ?_
      rw [hdk]
      exact .k (.inl upd_same) ((qa.put qv).move (mv _))
    | n hr ok qa => exact absurd (nall_flat qa hc3) ok.ne
/-- d.pop(k), there -/
theorem dc_pop {Q : Value → Shared → Prop} {d : D} (hu : A.units + 64 < cLine) (I : Inv X pins σ H s) (q : Dc X.w N H a ps) (hN : N a) (mu : Mut (H a)) (ky : Rd X.w g own H y dk) (r : RelV y u) (hk : keyOf dk = some k) (h : dGet ps k = some d)
    (fin : ∀ o v w' s', Inv X pins σ (upd H a o) s' → Mut (some o) → Dc X.w N (upd H a o) a (dDel ps k) → RelV v w' → Rp X.w N H v d → Q w' s') : wpAny (model X.prog X.w) A (call (.builtin "dict.pop") [.ref a, u]) Q E s := by
  have room : (nestedKind X.prog X.w).room A.in1 := show A.in1.units + 8 < cLine by show A.units + 1 + 8 < cLine; omega
  have mv : ∀ o, ∀ b o', H b = some o' → ¬ N b → upd H a o b = some o' ∧ ¬ N b := fun o b o' e n => ⟨by rw [upd_ne (fun c : b = a => n (c ▸ hN))]; exact e, n⟩
  have exact1 : ∀ {o}, L2.Rd H a o → H a = some o := fun {o} h => by
    rcases h with h | ⟨od, h⟩
    · exact h
    · rw [h] at mu; exact mu.elim
  cases q with
  | k hr qa =>
    obtain ⟨h1, h2⟩ := kall_get_key qa h
    obtain ⟨j, rfl, rfl, _⟩ := flat_key ky hk h1 h2
    obtain ⟨v, hv, rv⟩ := qa.get h
    exact d_pop I (exact1 hr) r hv (.inl rfl) fun w' s' I' rw' => fin _ v w' s' I' trivial (.k (.inl upd_same) (qa.drop.move (mv _))) rw' rv
  | @n ens hr ok qa =>
    obtain ⟨h1, x, hx, hxk⟩ := nall_get_key qa h
    obtain ⟨b, rfl, _, n, _⟩ := tup_key I ky r hk h1
    obtain ⟨p, v, hp, rv, rd⟩ := qa.get h
    refine call_pop_heap (hsz := ok.sz) (.inl rfl) (F.args_dict_pop_2 _ _) room ⟨n, hxk ▸ ok.dp x hx⟩ ok.ns (dn_at I hr ok qa) hp fun h' hm' hs' => ?_
    obtain ⟨o, es, ep, e1, e2, e3, e4, e5, e6⟩ := hm'
    have hl : (withoutH ens k).length ≤ ens.length := List.length_filter_le _ _
    by_cases c : withoutH ens k = []
    · have hp0 := (qa.drop (k := k)).length
      rw [c] at hp0 e4
      have h0 : dDel ps k = [] := List.length_eq_zero_iff.mp hp0.symm
      have h4 : es.toList = [] := e4
      have h4' : es = #[] := by simpa using congrArg List.toArray h4
      subst h4'
      refine fin (.dK []) v p.2 _ (d_write I mu.k hs' ⟨o, e1⟩ ⟨Nat.zero_le _, ok.ns, [], .nil, o, #[], ep, e1, e2, e3, fun e he => by simp at he, .nil, by simp⟩) trivial ?_ rv rd
      rw [h0]
      exact .k (.inl upd_same) .nil
    · refine fin (VL.dN X.w a (withoutH ens k)) v p.2 _ (d_write I mu.k hs' ⟨o, e1⟩ ⟨⟨o, es, ep, e1, e2, e3, e4⟩, ⟨o, e1⟩, fun g1 g2 ⟨o', es', ep', f1, f2⟩ hk' => ⟨o', es', ep', hk' o' f1, f2⟩⟩) dN_noc ?_ rv rd
      exact .n (.inl upd_same) ⟨e6, fun x hx => (e5 x hx).2, ok.ns, Nat.le_trans hl ok.sz, c⟩ (qa.drop.move (mv _))
end
end VL
set_option Elab.async false
set_option linter.all false
set_option maxRecDepth 100000
set_option maxHeartbeats 4000000
/-! The value layer, part 17: the rules for dicts. -/
namespace VL
open PySem PySem.Spec PyProof.Rows L2

section
variable {m ml : List Nat} {sl : Option Nat} {X : Cx} {e a b c : Expr} {f fa fb fc : DE} {x : Str} {px pos cpos apos tpos : Pos} {i : Nat}
/-! ### x[k] -/
def ixA : D → D → Option D
  | .dict ps, k => (keyOf k).bind (dGet ps)
  | x, i => ixD x i
theorem ixd_any (hu : X.A.units + 64 < cLine) : IxD X ixA := by
  intro value slice pins s σ H g own x y v u dx dy d I rx ry hn q1 q2 e hs
  cases dx with
  | dict ps =>
    obtain ⟨k, h1, h2⟩ := Option.bind_eq_some_iff.mp (show (keyOf dy).bind (dGet ps) = some d from e)
    obtain ⟨A, rfl, _, qd⟩ := q1.dict
    cases rx
    have hT := (isT_dc I qd).1
    unfold subscriptTail
    refine wpAny_bind ?_
    rw [getitemInPython_of_ne hT.not_modules]
    refine wpAny_bind (wpAny_specialOf hT PySem.F.slot_dict_getitem.lookup ?_)
    have fin : wpAny (model X.prog X.w) X.A (subscripted slice false (.ref A) u) (fun r s₃ => wpAny (model X.prog X.w) X.A (letTemporaryGo value (.ref A) r >>= fun _ => pure r) (fun r s' => ∃ v' H', Inv X pins σ H' s' ∧ RelV v' r ∧ L2.Same H H' ∧ Rp X.w (g.N own) H' v' d) X.xe s₃) X.xe s := by
      rw [hs]
      refine wpAny_operating ?_
      exact dc_getItem hu I qd q2 ry h1 h2 fun v' w' s' I' r' q' => wpAny_bind (wpAny_letTemporaryGo (wpAny_pure ⟨v', H, I', r', Same.refl _, q'⟩))
    first
      | exact wpAny_pure (wpAny_bind fin)
      | exact wpAny_bind (wpAny_pure (wpAny_bind fin))
      | exact wpAny_bind fin
  | list xs => exact ixd_seq value slice pins s σ H g own x y v u (.list xs) dy d I rx ry hn q1 q2 e hs
  | tuple xs => exact ixd_seq value slice pins s σ H g own x y v u (.tuple xs) dy d I rx ry hn q1 q2 e hs
  | str xs => exact ixd_seq value slice pins s σ H g own x y v u (.str xs) dy d I rx ry hn q1 q2 e hs
  | none => cases e
  | bool _ => cases e
  | int _ => cases e

/-! ### k in x -/
def inA : D → D → Option D
  | d, .dict ps => (keyOf d).bind fun k => if sameCls ps k then some (.bool (dGet ps k).isSome) else none
  | d, y => inD d y
def notInA : D → D → Option D
  | d, .dict ps => (keyOf d).bind fun k => if sameCls ps k then some (.bool (!(dGet ps k).isSome)) else none
  | d, y => notInD d y
theorem op2_in (hu : X.A.units + 64 < cLine) : Op2 X (compareOp .In) inA := by
  intro pins s σ H g own x y v u dx dy d I rx ry hn q1 q2 e
  cases dy with
  | dict ps =>
    have e : ((keyOf dx).bind fun k => if sameCls ps k then some (PyData.bool (dGet ps k).isSome) else none) = some d := by cases dx <;> exact e
    obtain ⟨k, h1, h2⟩ := Option.bind_eq_some_iff.mp e
    split at h2
    · rename_i hc
      cases h2
      obtain ⟨A, rfl, _, qd⟩ := q2.dict
      cases ry
      exact dc_contains false hu I qd q1 rx h1 hc fun s' I' => ⟨.bl _, H, I', rfl, Same.refl _, .bl _⟩
    · cases h2
  | list xs => exact op2_in_seq hu pins s σ H g own x y v u dx (.list xs) d I rx ry hn q1 q2 (by cases dx <;> exact e)
  | tuple xs => exact op2_in_seq hu pins s σ H g own x y v u dx (.tuple xs) d I rx ry hn q1 q2 (by cases dx <;> exact e)
  | str xs => exact op2_in_seq hu pins s σ H g own x y v u dx (.str xs) d I rx ry hn q1 q2 (by cases dx <;> exact e)
  | none => exact op2_in_seq hu pins s σ H g own x y v u dx .none d I rx ry hn q1 q2 (by cases dx <;> exact e)
  | bool t => exact op2_in_seq hu pins s σ H g own x y v u dx (.bool t) d I rx ry hn q1 q2 (by cases dx <;> exact e)
  | int t => exact op2_in_seq hu pins s σ H g own x y v u dx (.int t) d I rx ry hn q1 q2 (by cases dx <;> exact e)
theorem op2_notIn (hu : X.A.units + 64 < cLine) : Op2 X (compareOp .NotIn) notInA := by
  intro pins s σ H g own x y v u dx dy d I rx ry hn q1 q2 e
  cases dy with
  | dict ps =>
    have e : ((keyOf dx).bind fun k => if sameCls ps k then some (PyData.bool (!(dGet ps k).isSome)) else none) = some d := by cases dx <;> exact e
    obtain ⟨k, h1, h2⟩ := Option.bind_eq_some_iff.mp e
    split at h2
    · rename_i hc
      cases h2
      obtain ⟨A, rfl, _, qd⟩ := q2.dict
      cases ry
      exact dc_contains true hu I qd q1 rx h1 hc fun s' I' => ⟨.bl _, H, I', rfl, Same.refl _, .bl _⟩
    · cases h2
  | list xs => exact op2_notIn_seq hu pins s σ H g own x y v u dx (.list xs) d I rx ry hn q1 q2 (by cases dx <;> exact e)
  | tuple xs => exact op2_notIn_seq hu pins s σ H g own x y v u dx (.tuple xs) d I rx ry hn q1 q2 (by cases dx <;> exact e)
  | str xs => exact op2_notIn_seq hu pins s σ H g own x y v u dx (.str xs) d I rx ry hn q1 q2 (by cases dx <;> exact e)
  | none => exact op2_notIn_seq hu pins s σ H g own x y v u dx .none d I rx ry hn q1 q2 (by cases dx <;> exact e)
  | bool t => exact op2_notIn_seq hu pins s σ H g own x y v u dx (.bool t) d I rx ry hn q1 q2 (by cases dx <;> exact e)
  | int t => exact op2_notIn_seq hu pins s σ H g own x y v u dx (.int t) d I rx ry hn q1 q2 (by cases dx <;> exact e)

/-! ### x[k] = v -/
def storeD (c k v : D) : Option D := match c with
  | .dict ps => (keyOf k).bind fun nk => if sameCls ps nk && decide (ps.length < sizeLine) then some (.dict (dPut ps k nk v)) else none
  | .list xs => match k with
    | .int j => (ixN xs.length j).map fun n => .list (xs.set n v)
    | _ => none
  | _ => none
def sStore (i : Nat) (fk fv : DE) : DS := fun ρ z => (fv ρ z).bind fun p => (fk ρ p.2).bind fun q => (eVar i ρ q.2).bind fun r => (storeD r.1 q.1 p.1).map fun d => (.nx (ρ.set i (some d)), q.2)
theorem vs_store (i : Nat) (hu : X.A.units + 64 < cLine) (hv : VE m sl X e fa) (hk : VR m sl X b fb) (hN : X.N[i]? = some x := by rfl) (hm : i ∈ m := by decide) (hvis : Vis X.env.scope x := by first | exact Or.inl rfl | exact Or.inr (Or.inl rfl) | exact Or.inr (Or.inr rfl)) (hd : (x == ("__debug__" : Str)) = false := by decide) (hcd : (x == ("__classdict__" : Str)) = false := by decide)
    (hs : swapsWith e (some (.Subscript (.Name x px) b tpos)) pos.line X.env = pure false := by rfl) :
    VS m m ml sl X (.Assign [.Subscript (.Name x px) b tpos] e pos) (sStore i fb fa) := ⟨fun pins s σ H g own ρ z r z' I J S h => by
  obtain ⟨⟨d1, z1⟩, e1, h⟩ := Option.bind_eq_some_iff.mp h
  obtain ⟨⟨dk, z2⟩, e2, h⟩ := Option.bind_eq_some_iff.mp h
  obtain ⟨⟨dc, z3⟩, e3, h⟩ := Option.bind_eq_some_iff.mp h
  obtain ⟨d, e4, e5⟩ := Option.map_eq_some_iff.mp h
  cases e5
  obtain ⟨h0, rfl⟩ := eVar_some e3
  obtain ⟨A, hσ, hA, _⟩ := J.ow i dc h0 hm
  refine wpAny_Assign_Subscript (thn (hv.run pins s σ H g own ρ z d1 z1 I J S e1) fun uv s1 ⟨v, H1, I1, r1, k1, S1, q1⟩ => ?_) hs
  have J1 := J.keep k1 S1
  refine thn (own_name I1 hσ hN hvis hd hcd) fun u s2 ⟨e6, I2⟩ => ?_
  subst e6
  refine thn (hk.run pins s2 σ H1 g own ρ z1 dk _ I2 J1 S1 e2) fun uk s3 ⟨y, H3, I3, r3, k3, S3, q3⟩ => ?_
  have J3 := J1.keep k3 S3
  have q1' := q1.keepK J k3
  obtain ⟨A', hσ', hA', sh⟩ := J3.ow i dc h0 hm
  rw [hσ] at hσ'
  cases hσ'
  have mu := (J3.om i A hA').2.2
  have hl : i < ρ.length := (List.getElem?_eq_some_iff.mp h0).1
  have G3 := (J.gr k1).trans (J1.gr k3)
  cases dc with
  | dict ps =>
    obtain ⟨k, h1, h2⟩ := Option.bind_eq_some_iff.mp (show ((keyOf dk).bind fun nk => if sameCls ps nk && decide (ps.length < sizeLine) then some (PyData.dict (dPut ps dk nk d1)) else none) = some d from e4)
    split at h2
    · rename_i hc
      rw [Bool.and_eq_true, decide_eq_true_eq] at hc
      cases h2
      refine dc_setItem (N := g.N own) hu I3 sh.dc (.inr ⟨i, hA'⟩) mu q3 rfl r3 h1 hc.1 hc.2 r1 q1' fun o s4 I4 mo qd => ?_
      exact ⟨rfl, σ, _, own, I4, G3.trans (J3.wrG hA'), J3.wr hm hA' hl hσ mo qd.sh, J3.wrS hA' S3⟩
    · cases h2
  | list xs =>
    cases dk with
    | int j =>
      obtain ⟨n, h1, h2⟩ := Option.map_eq_some_iff.mp (show (ixN xs.length j).map (fun n => PyData.list (xs.set n d1)) = some d from e4)
      cases h2
      cases sh with
      | @lst vs _ hH ra =>
        refine thn (set_list pins s3 σ H3 (.ref A) y v (.ref A) uk uv (fun H' => H' = upd H3 A (.lst (vs.set n v))) I3 rfl r3 r1 ⟨A, vs, j, n, rfl, q3.i, hH, by rw [ra.length]; exact h1, rfl⟩) fun _ s4 ⟨H4, I4, e4⟩ => ?_
        subst e4
        exact ⟨rfl, σ, _, own, I4, G3.trans (J3.wrG hA'), J3.wr (o := .lst (vs.set n v)) hm hA' hl hσ trivial (.lst upd_same ((ra.set q1' n).wr hA')), J3.wrS hA' S3⟩
    | _ => cases e4
  | _ => cases e4⟩

/-! ### x.pop(k) of a dict -/
def dictAt (i : Nat) (ρ : Env) : Option (List (D × D)) := match ρ[i]? with
  | some (some (.dict ps)) => some ps
  | _ => none
theorem dictAt_some {i : Nat} {ρ : Env} {ps : List (D × D)} (h : dictAt i ρ = some ps) : ρ[i]? = some (some (.dict ps)) := by
  unfold dictAt at h
  split at h
  · rename_i e; cases h; exact e
  · cases h
def xPopD (i : Nat) (f : DE) : DX := fun ρ z => (dictAt i ρ).bind fun ps => (f ρ z).bind fun p => (keyOf p.1).bind fun k => (dGet ps k).map fun d => (d, ρ.set i (some (.dict (dDel ps k))), p.2)
theorem vx_popD (i : Nat) (hu : X.A.units + 64 < cLine) (he : VR m sl X e f) (hN : X.N[i]? = some x := by rfl) (hm : i ∈ m := by decide) (hv : Vis X.env.scope x := by first | exact Or.inl rfl | exact Or.inr (Or.inl rfl) | exact Or.inr (Or.inr rfl)) (hd : (x == ("__debug__" : Str)) = false := by decide) (hcd : (x == ("__classdict__" : Str)) = false := by decide)
    (hbase : attributeBase (.Name x px) "pop" X.env (eval (.Name x px) X.env) = eval (.Name x px) X.env := by rfl)
    (hfew : ((backTo cpos (starEach [e] X.env)).all (fun x => !x.1) && (backToKw cpos (keywordEach [] X.env)).all (fun x => x.1.isSome)
      && decide ([e].length + ([] : List Keyword).length + (if ([] : List Keyword).isEmpty then 0 else 1) < 30)) = true := by rfl)
    (hline : (apos.endLine == cpos.line) = true := by rfl) (hs : starEach [e] X.env = [(false, eval e X.env)] := by rfl) (hplain : (backTo cpos (starEach [] X.env)).any (·.1) = false := by rfl) :
    VX m sl X (.Call (.Attribute (.Name x px) "pop" apos) [e] [] cpos) (xPopD i f) := ⟨fun pins s σ H g own ρ z d ρ' z' I J S hf => by
  obtain ⟨ps, h0, hf⟩ := Option.bind_eq_some_iff.mp hf
  obtain ⟨⟨dk, z1⟩, h1, hf⟩ := Option.bind_eq_some_iff.mp hf
  obtain ⟨k, h2, hf⟩ := Option.bind_eq_some_iff.mp hf
  obtain ⟨d1, h3, hf⟩ := Option.map_eq_some_iff.mp hf
  cases hf
  have h0 := dictAt_some h0
  obtain ⟨A, hσ, hA, sh0⟩ := J.ow i _ h0 hm
  refine wp_bm F.plainAttrs_dict F.slot_dict_pop F.type_dict_pop (thn (own_name I hσ hN hv hd hcd) fun u s1 ⟨e1, I1⟩ => ?_) hbase hfew hline hs hplain
  subst e1
  refine ⟨isT_dc I1 sh0.dc, arg1 (thn (he.run pins s1 σ H g own ρ z dk z1 I1 J S h1) fun u s2 ⟨y, H2, I2, r2, k2, S2, q2⟩ => ?_) hs⟩
  have J2 := J.keep k2 S2
  obtain ⟨A', hσ', hA', sh⟩ := J2.ow i _ h0 hm
  rw [hσ] at hσ'
  cases hσ'
  have hl : i < ρ.length := (List.getElem?_eq_some_iff.mp h0).1
  refine dc_pop (N := g.N own) hu I2 sh.dc (.inr ⟨i, hA'⟩) (J2.om i A hA').2.2 q2 r2 h2 h3 fun o v w' s3 I3 mo qd rv qv => ?_
  exact ⟨v, _, I3, rv, (J.gr k2).trans (J2.wrG hA'), J2.wr hm hA' hl hσ mo qd.sh, J2.wrS hA' S2, qv.wr (m := m) (sl := sl) (ρ := ρ) (σ := σ) hA'⟩⟩

/-! ### {} -/
theorem vf_dict0 : VF m sl X (.Dict [] [] pos) (eC (.dict [])) := ⟨fun pins s σ H g own ρ z d z' I J S hf => by
  cases hf
  refine thn (pe_dnewK.run pins s σ H (fun v H' => ∃ p, v = .ref p ∧ H p = none ∧ H' = upd H p (.dK [])) I fun p hp => ⟨p, rfl, hp, rfl⟩) fun u s1 ⟨v, H1, I1, r1, p, e1, hp, e2⟩ => ?_
  subst e1 e2
  exact ⟨p, _, I1, r1, Kp.upd hp, S.same (VL.same_upd hp), hp, by rw [upd_same]; trivial, (Dc.k (.inl upd_same) .nil).sh⟩⟩
end

/-! ### what a dict's entries are -/
section
variable {X : Cx} {pins : List (Addr × Obj)} {σ : L2.St} {H : Hp} {s : Shared} {N : Addr → Prop} {a : Addr} {ps : List (D × D)}
theorem nall_at {w : World} : ∀ {ens : List (NestedKey × Addr × Value)} {ps : List (D × D)} {i : Nat} {p : D × D}, NAll w N H ens ps → ps[i]? = some p → ∃ x v, ens[i]? = some x ∧ Rp w N H (.ref x.2.1) p.1 ∧ RelV v x.2.2 ∧ Rp w N H v p.2
  | _, _, _, _, .nil, h => by simp at h
  | _, _, 0, p, .cons r1 r2 r3 t, h => by simp at h; subst h; exact ⟨_, _, rfl, r1, r2, r3⟩
  | _, _, i + 1, p, .cons r1 r2 r3 t, h => by
    obtain ⟨x, v, h1, h2⟩ := nall_at t (show _ = some p by simpa using h)
    exact ⟨x, v, by simpa using h1, h2⟩
theorem kall_at {w : World} : ∀ {kvs : List (Key × V)} {ps : List (D × D)} {i : Nat} {p : D × D}, KAll w N H kvs ps → ps[i]? = some p → ∃ k v, kvs[i]? = some (k, v) ∧ p.1 = kD k ∧ Rp w N H v p.2
  | _, _, _, _, .nil, h => by simp at h
  | _, _, 0, p, .cons r t, h => by simp at h; subst h; exact ⟨_, _, rfl, rfl, r⟩
  | _, _, i + 1, p, .cons r t, h => by
    obtain ⟨k, v, h1, h2⟩ := kall_at t (show _ = some p by simpa using h)
    exact ⟨k, v, by simpa using h1, h2⟩
theorem rp_kD {w : World} {k : Key} : Rp w N H (kV k) (kD k) := by
  cases k with
  | inl i => exact .int i
  | inr x => exact .str x
theorem dc_raw (I : Inv X pins σ H s) (q : Dc X.w N H a ps) : ∃ (o : Obj) (es : Array DictEntry) (ep : Nat), s.heap.get? a = some o ∧ o.ExactDict ∧ o.data = .dict es ep ∧ (a == sysModules) = false ∧ ps.length ≤ sizeLine ∧ es.size = ps.length ∧
    ∀ (i : Nat) (p : D × D), ps[i]? = some p → ∃ (en : DictEntry) (k v : V), es[i]? = some en ∧ RelV k en.key ∧ Rp X.w N H k p.1 ∧ RelV v en.val ∧ Rp X.w N H v p.2 := by
  cases q with
  | @k kvs hr qa =>
    obtain ⟨z, hd, vs, rel, o, es, ep, h1, h2, h3, h4, h5, _⟩ := dk_rd I.hok hr
    have hl : kvs.length = vs.length := Paired.length rel
    have h5l := h5.length
    refine ⟨o, es, ep, h1, h2, h3, hd, by rw [← qa.length]; exact z, ?_, fun i p hp => ?_⟩
    · rw [Array.length_toList] at h5l
      rw [h5l, ← hl, qa.length]
    · obtain ⟨k, v, e1, e2, e3⟩ := kall_at qa hp
      obtain ⟨u, hu, ru⟩ := kv_get rel e1
      have key : ∀ {es : List DictEntry} {vs : List (Key × Value)} {i : Nat} {kv : Key × Value}, Pairs (mixKind X.prog X.w) es vs → vs[i]? = some kv → ∃ en, es[i]? = some en ∧ (mixKind X.prog X.w).is kv.1 en.key = true ∧ en.val = kv.2 := by
        intro es vs i kv h
        induction h generalizing i with
        | nil => intro e; simp at e
        | cons a1 a2 t ih =>
          intro e
          cases i with
          | zero => simp at e; subst e; exact ⟨_, rfl, a1, a2⟩
          | succ i => obtain ⟨en, b1, b2⟩ := ih (i := i) (by simpa using e); exact ⟨en, by simpa using b1, b2⟩
      obtain ⟨en, f1, f2, f3⟩ := key h5 hu
      refine ⟨en, kV k, v, by rw [← Array.getElem?_toList]; exact f1, relV_key (show keyIs k en.key = true from f2), by rw [e2]; exact rp_kD, by rw [f3]; exact ru, e3⟩
  | @n ens hr ok qa =>
    obtain ⟨⟨o, es, ep, h1, h2, h3, h4⟩, _⟩ := hr.ok I.hok
    have hl : es.size = ens.length := by
      have := congrArg List.length h4
      simpa using this
    refine ⟨o, es, ep, h1, h2, h3, ok.ns, by rw [← qa.length]; exact ok.sz, by rw [hl, qa.length], fun i p hp => ?_⟩
    obtain ⟨x, v, e1, e2, e3, e4⟩ := nall_at qa hp
    have := congrArg (fun l : List DictEntry => l[i]?) h4
    simp only [Array.getElem?_toList, List.getElem?_map, e1, Option.map_some] at this
    exact ⟨_, .ref x.2.1, v, this, rfl, e2, e3, e4⟩
theorem pick {w : World} : ∀ {us : List Value} {ds : List D}, us.length = ds.length → (∀ (i : Nat) (u : Value) (d : D), us[i]? = some u → ds[i]? = some d → ∃ v, RelV v u ∧ Rp w N H v d) → ∃ vs, Vals vs us ∧ RpAll w N H vs ds
  | [], [], _, _ => ⟨[], .nil, .nil⟩
  | u :: us, d :: ds, hl, h => by
    obtain ⟨v, h1, h2⟩ := h 0 u d rfl rfl
    obtain ⟨vs, h3, h4⟩ := pick (us := us) (ds := ds) (by simpa using hl) fun i u d e1 e2 => h (i + 1) u d (by simpa using e1) (by simpa using e2)
    exact ⟨v :: vs, .cons h1 h3, .cons h2 h4⟩

/-! ### list(d) -/
def listA : List D → Option D
  | [.dict ps] => some (.list (ps.map (·.1)))
  | ds => listD ds
theorem opn_listA (hc : X.calm = true) : OpN X (fun us => call (.type "list") us) listA := by
  intro pins s σ H g own vs us ds d I rv hn q e
  unfold listA at e
  split at e
  · rename_i ps
    cases e
    obtain ⟨v, rfl, r⟩ := q.one
    obtain ⟨a, rfl, _, qd⟩ := r.dict
    rw [Vals.ref1 rv]
    obtain ⟨o, es, ep, h1, h2, h3, h4, h5, h6, h7⟩ := dc_raw I qd
    refine PySem.W.kdl_call (kdl_raw h4 h2 h3) (I.ok.hd hc) h1 (by rw [h6]; exact h5) fun h' tk acc c' hk hD hacc => ?_
    obtain ⟨ws, k1, k2⟩ := pick (w := X.w) (N := g.N own) (H := H) (us := acc.toList) (ds := ps.map (·.1)) (by rw [Array.length_toList, hacc.1, h6, List.length_map]) fun i u d e1 e2 => by
      rw [List.getElem?_map] at e2
      obtain ⟨p, e3, e4⟩ := Option.map_eq_some_iff.mp e2
      subst e4
      obtain ⟨en, k, v, e5, e6, e7, _⟩ := h7 i p e3
      obtain ⟨en', e8, e9⟩ := hacc.2 i u (by rw [← Array.getElem?_toList]; exact e1)
      rw [e5] at e8
      cases e8
      subst e9
      exact ⟨k, e6, e7⟩
    have hf : H s.heap.objs.size = none := I.hok.fresh (Nat.le_refl _)
    refine ⟨s.heap.objs.size, upd H s.heap.objs.size (.lst ws), I.laid (t' := tk) hk (Nat.le_refl _) (show ObjOk X.prog X.w _ _ _ (.lst ws) from ⟨by rw [k2.length, List.length_map]; exact h5, acc.toList, c', k1, by rw [Array.toArray_toList]; exact hD⟩), rfl, VL.same_upd hf, hf, by rw [upd_same]; trivial, .lst upd_same (k2.fresh hf)⟩
  · exact opn_list pins s σ H g own vs us ds d I rv hn q e
end
end VL
set_option Elab.async false
set_option linter.all false
set_option maxRecDepth 100000
set_option maxHeartbeats 4000000
/-! The value layer, part 18: defs that are called; comparisons in a row; flat results. -/
namespace VL
open PySem PySem.Spec PyProof.Rows L2

/-- a def of n parameters that computes F, as a callee -/
structure CalV (P : Program) (w : World) (K : PySem.W.Frag) (mg : Str → Option Value) (base : Heap) (k : Nat) (x : Str) (n : Nat) (F : DFn) : Prop where
  ex : ∃ f fd ps, FnG P w K mg base k f fd ps (spV w n F) ∧ mg x = some (.ref f) ∧ PySem.W.keepIn K (.ref f) = true ∧ L2.Binds K fd ps []
/-- .. whose first parameter is the source -/
structure CalS (P : Program) (w : World) (K : PySem.W.Frag) (mg : Str → Option Value) (base : Heap) (k : Nat) (x : Str) (n : Nat) (F : DFn) : Prop where
  ex : ∃ f fd ps, FnG P w K mg base k f fd ps (spS w n F) ∧ mg x = some (.ref f) ∧ PySem.W.keepIn K (.ref f) = true ∧ L2.Binds K fd ps []
section
variable {P : Program} {w : World} {K : PySem.W.Frag} {mg : Str → Option Value} {base : Heap} {k j n : Nat} {x : Str} {F G : DFn}
theorem CalV.up (h : CalV P w K mg base j x n F) (hk : j ≤ k) : CalV P w K mg base k x n F := by
  obtain ⟨f, fd, ps, h1, h2⟩ := h.ex
  exact ⟨f, fd, ps, h1.mono hk, h2⟩
theorem CalS.up (h : CalS P w K mg base j x n F) (hk : j ≤ k) : CalS P w K mg base k x n F := by
  obtain ⟨f, fd, ps, h1, h2⟩ := h.ex
  exact ⟨f, fd, ps, h1.mono hk, h2⟩
/-- what a def is known by -/
structure Def (K : PySem.W.Frag) (mg : Str → Option Value) (x : Str) (st : Stmt) (f : Addr) (fd : FuncData) (ps : List Str) : Prop where
  fn : L2.Fun K x x st f fd
  mg : mg x = some (.ref f)
  bd : L2.Binds K fd ps []
/-- nothing at all is promised -/
theorem CalV.zero {st : Stmt} {f : Addr} {fd : FuncData} {ps : List Str} (D : Def K mg x st f fd ps) (hn : ps.length = n) : CalV P w K mg base k x n (fun _ _ => none) :=
  ⟨f, fd, ps, ⟨fun vs H Q E h => h.1.trans hn.symm, fun A outer s H args us vs Q _ _ _ _ _ h => by
    obtain ⟨_, _, _, _, _, _, _, _, _, h, _⟩ := h
    cases h⟩, D.mg, D.fn.kp, D.bd⟩
theorem CalS.zero {st : Stmt} {f : Addr} {fd : FuncData} {ps : List Str} (D : Def K mg x st f fd ps) (hn : ps.length = n + 1) : CalS P w K mg base k x n (fun _ _ => none) :=
  ⟨f, fd, ps, ⟨fun vs H Q E h => h.1.trans hn.symm, fun A outer s H args us vs Q _ _ _ _ _ h => by
    obtain ⟨_, _, _, _, _, _, _, _, _, _, _, _, _, _, h, _⟩ := h
    cases h⟩, D.mg, D.fn.kp, D.bd⟩
theorem Def.v {st : Stmt} {f : Addr} {fd : FuncData} {N ps : List Str} {m m' : List Nat} {fb : DS} (D : Def K mg x st f fd ps) (S : FnScope N ps (defScope st)) (hn : ps.length = n) (hm : ∀ i, i ∈ m → n ≤ i)
    (hbody : ∀ (cdv : Value) (A : Around) (outer : List PySem.Env) (s : Shared) (H : Hp), (A.deeper (envOfC x (defScope st) s.heap.objs.size f cdv)).guards = some [] → Room k (A.deeper (envOfC x (defScope st) s.heap.objs.size f cdv)) →
      VSs m m' [] none (cxOf CX0 P w K mg base N x (defScope st) f cdv A outer s H E0).nox (defBody st) fb) : CalV P w K mg base (k + 1) x n (runF N.length n fb) :=
  ⟨f, fd, ps, okV D.fn S hn hm hbody, D.mg, D.fn.kp, D.bd⟩
/-- .. whose code object is known -/
structure DefC (K : PySem.W.Frag) (mg : Str → Option Value) (x : Str) (st : Stmt) (f : Addr) (fd : FuncData) (ps : List Str) (c : Addr) : Prop where
  d : Def K mg x st f fd ps
  cd : ∀ (oc : Value) (od : Option Addr) (kV doc pm : Value) (an : Option Addr) (cdv ct : Value) (osl : Array (Option Value)), K.lookup f = some ⟨oc, od, .func (PySem.W.fnOf x x (defArgs st) (defBody st) (defScope st) .none kV doc pm an cdv ct), osl⟩ → cdv = .ref c
theorem DefC.v {c : Addr} {st : Stmt} {f : Addr} {fd : FuncData} {N ps : List Str} {m m' : List Nat} {fb : DS} (D : DefC K mg x st f fd ps c) (S : FnScope N ps (defScope st)) (hn : ps.length = n) (hm : ∀ i, i ∈ m → n ≤ i)
    (hbody : ∀ (cdv : Value), cdv = .ref c → ∀ (A : Around) (outer : List PySem.Env) (s : Shared) (H : Hp), (A.deeper (envOfC x (defScope st) s.heap.objs.size f cdv)).guards = some [] → Room k (A.deeper (envOfC x (defScope st) s.heap.objs.size f cdv)) →
      VSs m m' [] none (cxOf CX0 P w K mg base N x (defScope st) f cdv A outer s H E0).nox (defBody st) fb) : CalV P w K mg base (k + 1) x n (runF N.length n fb) :=
  ⟨f, fd, ps, okVC (C := fun v => v = .ref c) D.d.fn S hn hm D.cd hbody, D.d.mg, D.d.fn.kp, D.d.bd⟩
theorem Def.s {st : Stmt} {f : Addr} {fd : FuncData} {N ps : List Str} {m m' : List Nat} {fb : DS} (D : Def K mg x st f fd ps) (S : FnScope N ps (defScope st)) (hn : ps.length = n + 1) (hm : ∀ i, i ∈ m → n + 1 ≤ i)
    (hbody : ∀ (cdv : Value) (A : Around) (outer : List PySem.Env) (s : Shared) (H : Hp), (A.deeper (envOfC x (defScope st) s.heap.objs.size f cdv)).guards = some [] → Room k (A.deeper (envOfC x (defScope st) s.heap.objs.size f cdv)) →
      VSs m m' [] (some 0) (cxOf CX0 P w K mg base N x (defScope st) f cdv A outer s H E0).nox (defBody st) fb) : CalS P w K mg base (k + 1) x n (runS N.length n fb) :=
  ⟨f, fd, ps, okS D.fn S hn hm hbody, D.mg, D.fn.kp, D.bd⟩
end
section
variable {m ml : List Nat} {sl : Option Nat} {X : Cx} {k j n i : Nat} {x y : Str} {p py pos : Pos} {e : Expr} {es : List Expr} {fs : DA} {F : DFn} {f : DE}
theorem ve_cal (c : CalV X.prog X.w X.K X.mg X.base k x n F) (hgd : X.A.guards = some []) (hr : Room j X.A) (ha : VC m sl X (e :: es) fs) (hlen : ∀ ρ z ds z', fs ρ z = some (ds, z') → ds.length = n) (hk : k ≤ j := by first | exact Nat.le_refl _ | omega) (hg : Gl X x := by rfl) (hn : (e :: es).length = n := by rfl)
    (hdb : (x == ("__debug__" : Str)) = false := by decide) (he : starEach (e :: es) X.env = (false, eval e X.env) :: starEach es X.env := by rfl) (hpl : (backTo pos (starEach es X.env)).any (·.1) = false := by rfl) :
    VE m sl X (.Call (.Name x p) (e :: es) [] pos) (eCall F fs) := by
  obtain ⟨f, fd, ps, h1, h2, h3, h4⟩ := c.ex
  exact ve_call h1 hgd (hr.mono hk) hg h2 h3 h4 ha hn hlen hdb he hpl
theorem ve_calS (c : CalS X.prog X.w X.K X.mg X.base k x n F) (hgd : X.A.guards = some []) (hr : Room j X.A) (ha : VC m sl X es fs) (hlen : ∀ ρ z ds z', fs ρ z = some (ds, z') → ds.length = n) (i : Nat) (hi : sl = some i := by rfl) (hN : X.N[i]? = some y := by rfl) (hk : k ≤ j := by first | exact Nat.le_refl _ | omega) (hg : Gl X x := by rfl) (hn : es.length = n := by rfl)
    (hv : Vis X.env.scope y := by first | exact Or.inl rfl | exact Or.inr (Or.inl rfl) | exact Or.inr (Or.inr rfl)) (hd : (y == ("__debug__" : Str)) = false := by decide) (hcd : (y == ("__classdict__" : Str)) = false := by decide)
    (hdb : (x == ("__debug__" : Str)) = false := by decide) (he : starEach (.Name y py :: es) X.env = (false, eval (.Name y py) X.env) :: starEach es X.env := by rfl) (hpl : (backTo pos (starEach es X.env)).any (·.1) = false := by rfl) :
    VE m sl X (.Call (.Name x p) (.Name y py :: es) [] pos) (eCall F fs) := by
  obtain ⟨f, fd, ps, h1, h2, h3, h4⟩ := c.ex
  exact ve_callS h1 hgd (hr.mono hk) hg h2 h3 h4 hi (pe_var (i := i) hN hv hd hcd) ha hn hlen hdb he hpl
theorem eq_nil : ∀ ρ z ds z', aNil ρ z = some (ds, z') → ds.length = 0 := fun ρ z ds z' h => by cases h; rfl
theorem eq_cons {n : Nat} (h : ∀ ρ z ds z', fs ρ z = some (ds, z') → ds.length = n) : ∀ ρ z ds z', aCons f fs ρ z = some (ds, z') → ds.length = n + 1 := fun ρ z ds z' e => by
  obtain ⟨x, z1, xs, h1, h2, rfl⟩ := aCons_some e
  rw [List.length_cons, h _ _ _ _ h2]

/-! ### a op b op c -/
def eChain (op op' : D → D → Option D) (fa fb fc : DE) : DE := fun ρ z => (fa ρ z).bind fun p => (fb ρ p.2).bind fun q => (op p.1 q.1).bind fun d => (asB d).bind fun b => if b = true then (fc ρ q.2).bind fun r => (op' q.1 r.1).map fun d => (d, r.2) else some (.bool false, q.2)
variable {a b c : Expr} {fa fb fc : DE} {o o' : CmpOp} {op op' : D → D → Option D}
theorem ve_chain (ho : Op2 X (compareOp o) op) (ho' : Op2 X (compareOp o') op') (ha : VR m sl X a fa) (hb : VR m sl X b fb) (hc : VR m sl X c fc) (hm : lastMarks [o, o'] [b, c] = false := by with_unfolding_all rfl) :
    VE m sl X (.Compare a [o, o'] [b, c] pos) (eChain op op' fa fb fc) := ⟨fun pins s σ H g own ρ z d z' I J S hf => by
  obtain ⟨⟨d1, z1⟩, e1, hf⟩ := Option.bind_eq_some_iff.mp hf
  obtain ⟨⟨d2, z2⟩, e2, hf⟩ := Option.bind_eq_some_iff.mp hf
  obtain ⟨d3, e3, hf2⟩ := Option.bind_eq_some_iff.mp hf
  obtain ⟨k, e4, hf3⟩ := Option.bind_eq_some_iff.mp hf2
  obtain rfl := asB_some e4
  clear hf2
  refine Compare_chain (thn (ha.run pins s σ H g own ρ z d1 z1 I J S e1) fun v s1 ⟨vx, H1, I1, r1, k1, S1, q1⟩ => chain_link (thn (hb.run pins s1 σ H1 g own ρ z1 d2 z2 I1 (J.keep k1 S1) S1 e2) fun u s2 ⟨vy, H2, I2, r2, k2, S2, q2⟩ => ?_)) hm
  have J2 := (J.keep k1 S1).keep k2 S2
  refine thn (ho pins s2 σ H2 g own vx vy v u d1 d2 _ I2 r1 r2 (fun b n => J2.nw n) (q1.keep J k2) q2 e3) fun r s3 ⟨v3, H3, I3, r3, k3, q3⟩ => ?_
  cases q3
  cases r3
  have S3 := S2.same k3
  have J3 := J2.keep (Same.kp k3) S3
  refine wpAny_truthy_bool ?_
  cases k with
  | false =>
    rw [if_neg (fun h : false = true => nomatch h)] at hf3
    cases hf3
    exact ite_ff ⟨.bl false, H3, I3, rfl, (k1.trans k2).trans (Same.kp k3), S3, .bl false⟩
  | true =>
    rw [if_pos rfl] at hf3
    obtain ⟨⟨d5, z5⟩, e5, hf4⟩ := Option.bind_eq_some_iff.mp hf3
    obtain ⟨d6, e6, hf5⟩ := Option.map_eq_some_iff.mp hf4
    cases hf5
    refine ite_tt (chain_last (thn (hc.run pins s3 σ H3 g own ρ z2 d5 _ I3 J3 S3 e5) fun w' s4 ⟨v4, H4, I4, r4, k4, S4, q4⟩ => ?_))
    have J4 := J3.keep k4 S4
    refine thn (ho' pins s4 σ H4 g own vy v4 u w' d2 d5 _ I4 r2 r4 (fun b n => J4.nw n) ((q2.keep J (Same.kp k3)).keep J k4) q4 e6) fun r s5 ⟨v5, H5, I5, r5, k5, q5⟩ => ?_
    exact ⟨v5, H5, I5, r5, (((k1.trans k2).trans (Same.kp k3)).trans k4).trans (Same.kp k5), S4.same k5, q5⟩⟩

/-! ### what leans on nothing -/
def flatD : D → Bool
  | .none => true
  | .bool _ => true
  | .int _ => true
  | .str _ => true
  | _ => false
def eFlat (f : DE) : DE := fun ρ z => (f ρ z).bind fun p => if flatD p.1 then some p else none
/-- within an expression whose value is flat what is owned may be handed on -/
theorem ve_flat {m' : List Nat} (h : VE m' sl X e f) (hm : ∀ i, i ∈ m' → i ∈ m := by decide) : VE m sl X e (eFlat f) := ⟨fun pins s σ H g own ρ z d z' I J S hf => by
  obtain ⟨⟨d1, z1⟩, e1, hf⟩ := Option.bind_eq_some_iff.mp hf
  split at hf
  · rename_i hd
    cases hf
    refine thn (h.run pins s σ H g (own.cut m') ρ z d _ I (J.less hm) S e1) fun u s1 ⟨v, H1, I1, r1, k1, S1, q1⟩ => ⟨v, H1, I1, r1, k1, S1, ?_⟩
    cases q1 with
    | non => exact .non
    | bl b => exact .bl b
    | int i => exact .int i
    | str x => exact .str x
    | tup => cases hd
    | lst => cases hd
    | dK => cases hd
    | dN => cases hd
  · cases hf⟩
end
end VL
set_option Elab.async false
set_option linter.all false
set_option maxRecDepth 100000
set_option maxHeartbeats 4000000
/-! The value layer, part 19: extend; dict of pairs; a dict's values. -/
namespace VL
open PySem PySem.Spec PyProof.Rows L2
theorem huV {k : Nat} {A : Around} (r : Room k A) : A.units + 64 < cLine := by have := r.un; omega

/-! ### extend -/
open PySem.AutoSeq1 in
theorem ext_tup (l b : Addr) (xs ys : Array Value) (n n2 : Nat) (dd : Option Addr) (sl : Array (Option Value)) (h0 : ¬(!xs.isEmpty && Builtin.List.listTooLong (xs.size + ys.size)) = true) (h1 : xs.size ≤ sizeLine) (h2 : xs.size + ys.size ≤ sizeLine + 1) :
    Meets (Builtin.«list.extend» ⟨[.ref l, .ref b], []⟩) (fun _ R s => s.heap.get? l = some { cls := .type "list", data := .seq xs n } ∧ s.heap.get? b = some { cls := .type "tuple", dict := dd, data := .seq ys n2, slots := sl } ∧
      R (.ok (.ret Value.none)) { s with heap := s.heap.update l (Obj.mapSeq fun x => x ++ ys), toks := s.toks }) :=
  .of_wp fun prog w A R s h => by
    obtain ⟨hp, g, d, tk, os⟩ := s
    obtain ⟨hl, hb, h⟩ := h
    have a1 := idx_int
    have a2 := PySem.AutoSeq1.sub_tuple_tuple
    have a3 := PySem.AutoSeq1.sub_list_list
    have a4 := PySem.AutoSeq1.sub_tuple_list
    have a5 := PySem.AutoSeq1.sub_list_tuple
    have hz' : (xs ++ ys).size ≤ sizeLine + 1 := by rw [Array.size_append]; exact h2
    wp_walk using (wpAny_updateSeq hl rfl (hz := h1) (_hz' := hz')), wpAny_loadPart' hl, wpAny_loadPart' hb
    exact ⟨_, rfl, h⟩
section
variable {m ml : List Nat} {sl : Option Nat} {X : Cx} {e a b : Expr} {f fa fb : DE} {fx : DX} {fs : DA} {x : Str} {p px apos pos cpos : Pos} {i j : Nat}
def seqD : D → Option (List D)
  | .list xs => some xs
  | .tuple xs => some xs
  | _ => none
def xExtend (i : Nat) (f : DE) : DX := fun ρ z => (lstAt i ρ).bind fun ds => (f ρ z).bind fun p => (seqD p.1).bind fun es => if ds.length + es.length ≤ sizeLine then some (.none, ρ.set i (some (.list (ds ++ es))), p.2) else none
theorem vx_extend (i : Nat) (he : VR m sl X e f) (hN : X.N[i]? = some x := by rfl) (hm : i ∈ m := by decide) (hv : Vis X.env.scope x := by first | exact Or.inl rfl | exact Or.inr (Or.inl rfl) | exact Or.inr (Or.inr rfl)) (hd : (x == ("__debug__" : Str)) = false := by decide) (hcd : (x == ("__classdict__" : Str)) = false := by decide)
    (hbase : attributeBase (.Name x px) "extend" X.env (eval (.Name x px) X.env) = eval (.Name x px) X.env := by rfl)
    (hfew : ((backTo cpos (starEach [e] X.env)).all (fun x => !x.1) && (backToKw cpos (keywordEach [] X.env)).all (fun x => x.1.isSome)
      && decide ([e].length + ([] : List Keyword).length + (if ([] : List Keyword).isEmpty then 0 else 1) < 30)) = true := by rfl)
    (hline : (apos.endLine == cpos.line) = true := by rfl) (hs : starEach [e] X.env = [(false, eval e X.env)] := by rfl) (hplain : (backTo cpos (starEach [] X.env)).any (·.1) = false := by rfl) :
    VX m sl X (.Call (.Attribute (.Name x px) "extend" apos) [e] [] cpos) (xExtend i f) := ⟨fun pins s σ H g own ρ z d ρ' z' I J S hf => by
  obtain ⟨ds, h0, hf⟩ := Option.bind_eq_some_iff.mp hf
  obtain ⟨⟨d1, z1⟩, h1, hf⟩ := Option.bind_eq_some_iff.mp hf
  obtain ⟨es, h2, hf⟩ := Option.bind_eq_some_iff.mp hf
  split at hf
  · rename_i hz
    cases hf
    obtain ⟨A, xs0, hσ, hA, hH0, _, _⟩ := J.lstO hm h0
    refine wp_bm F.plainAttrs_list F.slot_list_extend F.type_list_extend (thn (own_name I hσ hN hv hd hcd) fun u s1 ⟨e1, I1⟩ => ?_) hbase hfew hline hs hplain
    subst e1
    refine ⟨IsT.lst I1 hH0, arg1 (thn (he.run pins s1 σ H g own ρ z d1 _ I1 J S h1) fun u s2 ⟨v, H2, I2, r2, k2, S2, q2⟩ => ?_) hs⟩
    have J2 := J.keep k2 S2
    obtain ⟨A', xs, hσ', hA', hH, ra, hl⟩ := J2.lstO hm h0
    rw [hσ] at hσ'
    cases hσ'
    have fin : ∀ {ys : List V} {u' : Value} {s3 : Shared}, RpAll X.w (g.N own) H2 ys es → Inv X pins σ (upd H2 A (.lst (xs ++ ys))) s3 → u' = .none → ∃ v H', Inv X pins σ H' s3 ∧ RelV v u' ∧ Gr g own H own H' ∧ IV X.w g m sl own (ρ.set i (some (.list (ds ++ es)))) σ H' ∧ SrcOk g H' z1 ∧ Rp X.w (g.N own) H' v .none := fun {ys u' s3} q I3 e => by
      subst e
      exact ⟨.non, _, I3, rfl, (J.gr k2).trans (J2.wrG hA'), J2.wr (o := .lst (xs ++ ys)) hm hA' hl hσ trivial (.lst upd_same ((ra.append q).wr hA')), J2.wrS hA' S2, .non⟩
    have la := ra.length
    cases d1 with
    | list zs =>
      cases h2
      obtain ⟨b, ys, rfl, hb, rb⟩ := q2.list
      cases r2
      have lb := rb.length
      exact thn (mt_extend pins s2 σ H2 (.ref A) [.ref b] (.ref A) [.ref b] (fun v' H' => v' = .non ∧ H' = upd H2 A (.lst (xs ++ ys))) I2 rfl (.cons rfl .nil) ⟨A, b, xs, ys, rfl, rfl, hH, hb, by omega, rfl, rfl⟩) fun u3 s3 ⟨v3, H3, I3, r3, e3, e4⟩ => by
        subst e3 e4
        exact fin rb I3 r3
    | tuple zs =>
      cases h2
      obtain ⟨b, ys, rfl, hb, _, rb⟩ := q2.tuple
      cases r2
      have lb := rb.length
      obtain ⟨zz, its, n, r, hl1, e⟩ := I2.lstM hH
      obtain ⟨its2, rv, ⟨⟨cls, dd, dt, sl2⟩, ho, hc, n2, hd2⟩, hz2⟩ := I2.tuple (SqT.of hb)
      simp only at hc hd2
      subst hc hd2
      have l2 := rv.length
      have hsz : its.toArray.size + its2.toArray.size ≤ sizeLine := by rw [List.size_toArray, List.size_toArray]; omega
      have hlong : ¬ (!its.toArray.isEmpty && Builtin.List.listTooLong (its.toArray.size + its2.toArray.size)) = true := by
        rw [notLongL hsz, Bool.and_false]
        exact Bool.false_ne_true
      refine call_meets F.slot_list_extend ⟨_, e, rfl⟩ F.entry_list_extend (F.args_list_extend_2 _ _) (ext_tup A b its.toArray its2.toArray n n2 dd sl2 hlong (by rw [List.size_toArray]; omega) (by omega)) ⟨e, ho, ?_⟩
      exact fin rb (I2.lset (its' := its ++ its2) hH e (by simp) (r.append rv) (by rw [List.length_append]; omega)) rfl
    | _ => cases h2
  · cases hf⟩

/-! ### dict(pairs) -/
/-- items that are pairs, their first a key -/
def pairsD : List D → Option (List (D × NestedKey × D))
  | [] => some []
  | .tuple [k, v] :: ds => (keyOf k).bind fun nk => (pairsD ds).map ((k, nk, v) :: ·)
  | _ => none
def mergeD (ts : List (D × NestedKey × D)) : List (D × D) := ts.foldl (fun acc t => dPut acc t.1 t.2.1 t.2.2) []
def dictOkF (ts : List (D × NestedKey × D)) : Bool := ts.all fun t => !isTup t.2.1 && kSome t.2.1
def dictOkT (ts : List (D × NestedKey × D)) : Bool := ts.all fun t => isTup t.2.1 && kOk t.2.1
def dictD : List D → Option D
  | [.list xs] => (pairsD xs).bind fun ts => if dictOkF ts || dictOkT ts then some (.dict (mergeD ts)) else none
  | _ => none
/-- an item of the list of pairs: its tuple, what stands in it -/
structure PIt (X : Cx) (s : Shared) (N : Addr → Prop) (H : Hp) (T : Addr) (t : D × NestedKey × D) (kv vv : V) (ku vu : Value) : Prop where
  at_ : H T = some (.tup [kv, vv])
  rk : RelV kv ku
  rv : RelV vv vu
  pr : PairAt s.heap T ku vu
  qk : Rp X.w N H kv t.1
  qv : Rp X.w N H vv t.2.2
  key : keyOf t.1 = some t.2.1
theorem pitems {pins : List (Addr × Obj)} {s : Shared} {σ : L2.St} {H : Hp} {N : Addr → Prop} (I : Inv X pins σ H s) : ∀ {vs : List V} {ds : List D} {ts : List (D × NestedKey × D)}, RpAll X.w N H vs ds → pairsD ds = some ts →
    ∃ rs : List (Addr × V × V × Value × Value), vs = rs.map (fun r => V.ref r.1) ∧ Paired (fun r t => PIt X s N H r.1 t r.2.1 r.2.2.1 r.2.2.2.1 r.2.2.2.2) rs ts
  | _, _, _, .nil, h => by cases h; exact ⟨[], rfl, .nil⟩
  | _, _, _, .cons (d := d) (ds := ds) r t, h => by
    unfold pairsD at h
    split at h
    · rename_i heq; cases heq
    · rename_i k v ds' heq
      cases heq
      obtain ⟨nk, h1, h2⟩ := Option.bind_eq_some_iff.mp h
      obtain ⟨ts', h3, h4⟩ := Option.map_eq_some_iff.mp h2
      cases h4
      obtain ⟨rs, e1, e2⟩ := pitems I t h3
      cases r with
      | @tup T xs _ ha na ra =>
        obtain ⟨kv, vv, rfl, qk, qv⟩ := Rp.two ra
        obtain ⟨its, rv, p, hz⟩ := I.tuple (SqT.of ha)
        obtain ⟨ku, vu, rfl, r1, r2⟩ := rv.two
        exact ⟨(T, kv, vv, ku, vu) :: rs, by rw [e1]; rfl, .cons ⟨ha, r1, r2, .inl p, qk, qv, h1⟩ e2⟩
    · cases h
theorem paired_nth {α β : Type} {F : α → β → Prop} : ∀ {xs : List α} {ys : List β} {i : Nat} {x : α}, Paired F xs ys → xs[i]? = some x → ∃ y, ys[i]? = some y ∧ F x y
  | _, _, _, _, .nil, h => by simp at h
  | _, _, 0, _, .cons h t, e => by simp at e; subst e; exact ⟨_, rfl, h⟩
  | _, _, i + 1, _, .cons h t, e => by
    obtain ⟨y, h1, h2⟩ := paired_nth t (show _ = some _ by simpa using e)
    exact ⟨y, by simpa using h1, h2⟩
theorem opn_dict (hc : X.calm = true) (hu : X.A.units + 64 < cLine) : OpN X (fun us => call (.type "dict") us) dictD := by
  intro pins s σ H g own vs us ds d I rv hn q e
  unfold dictD at e
  split at e
  · rename_i xs
    obtain ⟨ts, h1, h2⟩ := Option.bind_eq_some_iff.mp e
    split at h2
    · rename_i hok
      cases h2
      obtain ⟨v, rfl, r⟩ := q.one
      obtain ⟨a, ws, rfl, ha, ra⟩ := r.list
      rw [Vals.ref1 rv]
      obtain ⟨rs, e1, e2⟩ := pitems I ra h1
      subst e1
      have hf : H s.heap.objs.size = none := I.hok.fresh (Nat.le_refl _)
      by_cases hF : dictOkF ts = true
      · -- flat keys
        have key : ∀ {rs : List (Addr × V × V × Value × Value)} {ts : List (D × NestedKey × D)}, Paired (fun r t => PIt X s (g.N own) H r.1 t r.2.1 r.2.2.1 r.2.2.2.1 r.2.2.2.2) rs ts → dictOkF ts = true →
            ∃ kvs : List (Key × V), Paired (fun (p : Addr) (kv : Key × V) => SqT X.K H p [kV kv.1, kv.2]) (rs.map (·.1)) kvs ∧ ∀ (acc : List (Key × V)) (ps : List (D × D)), KAll X.w (g.N own) H acc ps → KAll X.w (g.N own) H (mergeK acc kvs) (ts.foldl (fun acc t => dPut acc t.1 t.2.1 t.2.2) ps) := by
          intro rs ts h
          induction h with
          | nil => intro _; exact ⟨[], .nil, fun acc ps q => q⟩
          | @cons r t rs ts p _ ih =>
            intro hall
            unfold dictOkF at hall
            rw [List.all_cons, Bool.and_eq_true, Bool.and_eq_true] at hall
            obtain ⟨kvs, k1, k2⟩ := ih hall.2
            obtain ⟨j, ej, ek, ed⟩ := flat_key (g := g) (own := own) (.c p.qk) p.key (by simpa using hall.1.1) hall.1.2
            refine ⟨(j, r.2.2.1) :: kvs, .cons (SqT.of (by rw [← ej]; exact p.at_)) k1, fun acc ps q => ?_⟩
            show KAll _ _ _ (mergeK (putK acc j r.2.2.1) kvs) _
            refine k2 _ _ ?_
            show KAll _ _ _ _ (dPut ps t.1 t.2.1 t.2.2)
            rw [ed, ek]
            exact q.put p.qv
        obtain ⟨kvs, k1, k2⟩ := key e2 hF
        refine thn (call_dictP hc pins s σ H [.ref a] [.ref a] (fun v' H' => ∃ p, v' = .ref p ∧ H p = none ∧ H' = upd H p (.dK (mergeK [] kvs))) I (.cons rfl .nil) ⟨a, rs.map (·.1), kvs, rfl, by rw [List.map_map]; exact SqL.of ha, k1, fun p hp => ⟨p, rfl, hp, rfl⟩⟩) fun u s1 ⟨v1, H1, I1, r1, p, e3, hp, e4⟩ => ?_
        subst e3 e4
        refine ⟨p, _, I1, r1, VL.same_upd hp, hp, by rw [upd_same]; trivial, (Dc.k (.inl upd_same) ((k2 [] [] .nil).move fun b o eb n => ⟨VL.same_upd hp b o eb, fun z => z.elim n fun z => by rw [z, hp] at eb; cases eb⟩)).sh⟩
      · -- tuples as keys
        have hT : dictOkT ts = true := by simpa [hF] using hok
        have hne : ts ≠ [] := fun c => hF (by rw [c]; rfl)
        obtain ⟨its, rvs, pl, hz⟩ := I.list (SqL.of ha)
        have hits : its = rs.map fun r => Value.ref r.1 := by
          have : ∀ {rs : List (Addr × V × V × Value × Value)} {its : List Value}, Vals (rs.map fun r => V.ref r.1) its → its = rs.map fun r => Value.ref r.1 := by
            intro rs
            induction rs with
            | nil => intro its h; cases h; rfl
            | cons r rs ih =>
              intro its h
              cases h with
              | cons h t => rw [ih t, show _ = Value.ref r.1 from h]; rfl
          exact this rvs
        subst hits
        rw [List.length_map] at hz
        have hlen : rs.length = ts.length := Paired.length e2
        -- the keys' own tuples
        have kref : ∀ {rs : List (Addr × V × V × Value × Value)} {ts : List (D × NestedKey × D)}, Paired (fun r t => PIt X s (g.N own) H r.1 t r.2.1 r.2.2.1 r.2.2.2.1 r.2.2.2.2) rs ts → dictOkT ts = true →
            ∃ ens : List (NestedKey × Addr × Value), ens.length = rs.length ∧ (∀ (i : Nat) (r : Addr × V × V × Value × Value), rs[i]? = some r → ∃ (k : NestedKey) (b : Addr), ens[i]? = some (k, b, r.2.2.2.2) ∧ r.2.2.2.1 = Value.ref b) ∧ (∀ x, x ∈ ens → ∃ kv d, Rp X.w (g.N own) H kv d ∧ RelV kv (.ref x.2.1) ∧ keyOf d = some x.1 ∧ x.1.depth ≤ 8) ∧
              ∀ (acc : List (NestedKey × Addr × Value)) (ps : List (D × D)), NAll X.w (g.N own) H acc ps → NAll X.w (g.N own) H (storedAllH acc ens) (ts.foldl (fun acc t => dPut acc t.1 t.2.1 t.2.2) ps) := by
          intro rs ts h
          induction h with
          | nil => intro _; exact ⟨[], rfl, fun i r h => by simp at h, fun x h => by simp at h, fun acc ps q => q⟩
          | @cons r t rs ts p _ ih =>
            intro hall
            unfold dictOkT at hall
            rw [List.all_cons, Bool.and_eq_true, Bool.and_eq_true] at hall
            obtain ⟨ens, k0, k1, k2, k3⟩ := ih hall.2
            obtain ⟨b, eb, rb, nb, db⟩ := tup_key (g := g) (own := own) I (.c p.qk) p.rk p.key hall.1.1
            refine ⟨(t.2.1, b, r.2.2.2.2) :: ens, by simp [k0], fun i r' h => ?_, fun x h => ?_, fun acc ps q => ?_⟩
            · cases i with
              | zero => simp at h; subst h; exact ⟨t.2.1, b, rfl, eb⟩
              | succ i => obtain ⟨k, b', h1, h2⟩ := k1 i r' (by simpa using h); exact ⟨k, b', by simpa using h1, h2⟩
            · rcases List.mem_cons.mp h with h | h
              · subst h
                exact ⟨.ref b, t.1, rb, rfl, p.key, of_decide_eq_true hall.1.2⟩
              · exact k2 x h
            · show NAll _ _ _ (storedAllH (storedH acc t.2.1 b r.2.2.2.2) ens) _
              refine k3 _ _ ?_
              have := q.put (k := t.2.1) (b := b) (u := r.2.2.2.2) (v := r.2.2.1) (d := t.2.2) (by rw [db]; exact rb) p.rv p.qv
              rw [db] at this
              exact this
        obtain ⟨ens, k0, k1, k2, k3⟩ := kref e2 hT
        have stay : ∀ h' : Heap, (∀ b o, s.heap.get? b = some o → h'.get? b = some o) → ∀ x, x ∈ ens → (nestedKind X.prog X.w).is h' x.1 x.2.1 := fun h' hk x hx => by
          obtain ⟨kv, d, q1, q2, q3, q4⟩ := k2 x hx
          exact ⟨NestedIs.at (fun b o vs n eb _ => hk b o eb) _ _ (rp_nested I q1 q2 q3), q4⟩
        have room : (nestedKind X.prog X.w).room X.A.in1.in1 := show X.A.in1.in1.units + 8 < cLine by show X.A.units + 1 + 1 + 8 < cLine; omega
        obtain ⟨o, n, ho, hcl, hdd, hdt⟩ := pl
        refine call_dict_pairsH (ps := ens) (PairArg.list a (rs.map fun r => Value.ref r.1).toArray (fun j => (rs.getD j (0, .non, .non, .none, .none)).1) (rs.map fun r => (r.2.2.2.1, r.2.2.2.2))) (I.ok.hd hc) room
          ⟨⟨o, n, ho, hcl, hdd, hdt⟩, by simp, fun j k v hj => ?_⟩ ⟨by simp [k0], fun i key v hr => ?_⟩ (fun h' hk x hx => ?_) (by simpa using hz) fun h' tk hm hk => ?_
        · rw [List.getElem?_map] at hj
          obtain ⟨r, hr, er⟩ := Option.map_eq_some_iff.mp hj
          cases er
          have hg : rs.getD j (0, .non, .non, .none, .none) = r := by rw [List.getD_eq_getElem?_getD, hr]; rfl
          obtain ⟨t, _, pt⟩ := paired_nth e2 hr
          refine ⟨by simp [hr, hg], ?_⟩
          show PairAt s.heap (rs.getD j (0, .non, .non, .none, .none)).1 _ _
          rw [hg]
          exact pt.pr
        · have hr : (rs.map fun r => (r.2.2.2.1, r.2.2.2.2))[i]? = some (key, v) := hr
          rw [List.getElem?_map] at hr
          obtain ⟨r, hr', er⟩ := Option.map_eq_some_iff.mp hr
          cases er
          exact k1 i r hr'
        · refine stay h' (fun b o e => hk b o (Nat.ne_of_lt (Heap.lt_size e)) (by simp) e) x hx
        · have q0 := k3 [] [] .nil
          obtain ⟨o', es, ep, m1, m2, m3, m4, m5, m6⟩ := hm
          have kp : ∀ b o, s.heap.get? b = some o → h'.get? b = some o := fun b o e => hk b o (by simp) e
          have hns : (s.heap.objs.size == sysModules) = false := beq_eq_false_iff_ne.mpr (Nat.ne_of_gt I.big)
          have hsl : (storedAllH [] ens).length ≤ sizeLine := by
            have : ∀ (ens acc : List (NestedKey × Addr × Value)), (storedAllH acc ens).length ≤ acc.length + ens.length := by
              intro ens
              induction ens with
              | nil => intro acc; exact Nat.le_refl _
              | cons x ens ih =>
                intro acc
                have h1 := ih (storedH acc x.1 x.2.1 x.2.2)
                have h2 := storedH_length acc x.1 x.2.1 x.2.2
                show (storedAllH (storedH acc x.1 x.2.1 x.2.2) ens).length ≤ _
                rw [List.length_cons]
                omega
            have := this ens []
            rw [List.length_nil, Nat.zero_add, k0] at this
            omega
          have hne2 : storedAllH [] ens ≠ [] := fun c => by
            have hl := q0.length
            rw [c] at hl
            have : ∀ (ts : List (D × NestedKey × D)) (ps : List (D × D)), ps ≠ [] → ts.foldl (fun acc t => dPut acc t.1 t.2.1 t.2.2) ps ≠ [] := by
              intro ts
              induction ts with
              | nil => intro ps h; exact h
              | cons t ts ih =>
                intro ps h
                have np : dPut ps t.1 t.2.1 t.2.2 ≠ [] := fun c => by
                  unfold dPut at c
                  split at c
                  · exact h (by simpa using c)
                  · simp at c
                exact ih _ np
            cases ts with
            | nil => exact hne rfl
            | cons t ts =>
              refine this ts (dPut [] t.1 t.2.1 t.2.2) (by simp [dPut, dGet]) ?_
              exact List.length_eq_zero_iff.mp hl.symm
          refine ⟨s.heap.objs.size, upd H s.heap.objs.size (VL.dN X.w s.heap.objs.size (storedAllH [] ens)), I.laid (t' := tk) kp (Nat.le_refl _) ⟨⟨o', es, ep, m1, m2, m3, m4⟩, ⟨o', m1⟩, fun g1 g2 ⟨o2, es', ep', f1, f2⟩ hk' => ⟨o2, es', ep', hk' o2 f1, f2⟩⟩, rfl, VL.same_upd hf, hf, by rw [upd_same]; exact dN_noc, ?_⟩
          exact (Dc.n (.inl upd_same) ⟨m6, fun x hx => (m5 x hx).2, hns, hsl, hne2⟩ (q0.move fun b o eb n => ⟨VL.same_upd hf b o eb, fun z => z.elim n fun z => by rw [z, hf] at eb; cases eb⟩)).sh
    · cases h2
  · cases e
end
end VL
set_option Elab.async false
set_option linter.all false
set_option maxRecDepth 100000
set_option maxHeartbeats 4000000
/-! The value layer, part 20: a dict's values; sorted by length; a comprehension whose items change what is owned. -/
namespace VL
open PySem PySem.Spec PyProof.Rows L2
/-! ### list(d.values()) -/
theorem kdl_vals {prog : Program} {w : World} {v d : Addr} {es : Array DictEntry} {ep : Nat} :
    PySem.W.KdlSrc prog w "dict_values" v d es.size (fun i u => ∃ hi : i < es.size, u = es[i].val) (fun h => h.IsValuesView v d ∧ h.DictRaw d es ep) where
  type := fun _ hm => hm.1.typeIs
  there := fun _ hm => ⟨let ⟨_, ho, _⟩ := hm.1; Heap.lt_size ho, let ⟨_, ho, _⟩ := hm.2; Heap.lt_size ho⟩
  keep := fun _ _ hm hk => ⟨let ⟨o, ho, x⟩ := hm.1; ⟨o, hk v (.inl rfl) o ho, x⟩, hm.2.at fun o e => hk d (.inr rfl) o e⟩
  notList := by decide
  notTuple := by decide
  hint := fun _ _ _ _ hm hq => PySem.W.kdl_hint_values hm.1.typeIs hq
  iter := fun _ s hh hm => ⟨_, _, (fun _ _ hq => wpAny_pyIter_values_raw hm.1 hm.2 hq), Walks.rawValues hh _ d (let ⟨_, ho, _⟩ := hm.2; Nat.ne_of_lt (Heap.lt_size ho)) es ep, ⟨⟨_, Heap.get?_push_size _ rfl, rfl, rfl⟩, hm.2.at fun o e => Heap.get?_push_of_some _ e⟩⟩
section
variable {m ml m' : List Nat} {sl : Option Nat} {X : Cx} {e a b : Expr} {f fa fb : DE} {fx : DX} {fs : DA} {x : Str} {p p2 px apos pos cpos kp : Pos} {i j : Nat}
def valsD : D → Option D
  | .dict ps => some (.list (ps.map (·.2)))
  | _ => none
theorem vf_listVals (hc : X.calm = true) (hg : Gl X "list") (hm : X.mg "list" = none) (he : VR m sl X e f)
    (hbase : attributeBase e "values" X.env (eval e X.env) = eval e X.env := by rfl) (hline : (apos.endLine == cpos.line) = true := by rfl)
    (hst : starEach [.Call (.Attribute e "values" apos) [] [] cpos] X.env = (false, eval (.Call (.Attribute e "values" apos) [] [] cpos) X.env) :: starEach [] X.env := by rfl) :
    VF m sl X (.Call (.Name "list" p) [.Call (.Attribute e "values" apos) [] [] cpos] [] pos) (e1 valsD f) := ⟨fun pins s σ H g own ρ z d z' I J S hf => by
  obtain ⟨dx, h1, h2⟩ := e1_some hf
  refine Call_ (ld_blt I hg hm boot_list (PyProof.Rows.callWith_type1 ?_ hst (by rfl)))
  rw [hst]
  show wpAny _ _ (spliced ((false, eval (.Call (.Attribute e "values" apos) [] [] cpos) X.env) :: [])) _ _ s
  refine Calls.spliced_cons (wp_bm0 F.plainAttrs_dict F.slot_dict_values F.type_dict_values (thn (he.run pins s σ H g own ρ z dx z' I J S h1) fun u s1 ⟨v, H1, I1, r1, k1, S1, q1⟩ => ?_) hbase hline)
  cases dx with
  | dict ps =>
    cases h2
    obtain ⟨A, rfl, _, qd⟩ := q1.dict
    cases r1
    have hT := isT_dc I1 qd
    obtain ⟨o, es, ep, g1, g2, g3, g4, g5, g6, g7⟩ := dc_raw I1 qd
    refine ⟨hT, call_meetsIn F.slot_dict_values hT.1 F.entry_dict_values (F.args_dict_values_1 _) (meets_dict_values_raw A g4) ⟨⟨es, ep, o, g1, g2, g3⟩, ?_⟩⟩
    refine Calls.spliced_nil ?_
    have I2 : Inv X pins σ H1 { s1 with heap := s1.heap.push { cls := .type "dict_values", data := .fields #[.ref A] } } := I1.kept (t' := s1.toks) fun b ob q => Heap.get?_push_of_some _ q
    refine PySem.W.kdl_call (kdl_vals (es := es) (ep := ep) (d := A)) (I2.ok.hd hc) ⟨⟨_, Heap.get?_push_size _ rfl, rfl, rfl⟩, o, Heap.get?_push_of_some _ g1, g2, g3⟩ (by rw [g6]; exact g5) fun h' tk acc c' hk hD hacc => ?_
    obtain ⟨ws, k3, k4⟩ := pick (w := X.w) (N := g.N own) (H := H1) (us := acc.toList) (ds := ps.map (·.2)) (by rw [Array.length_toList, hacc.1, g6, List.length_map]) fun i u d e1 e2 => by
      rw [List.getElem?_map] at e2
      obtain ⟨p, e3, e4⟩ := Option.map_eq_some_iff.mp e2
      subst e4
      obtain ⟨en, k, v, e5, e6, e7, e8, e9⟩ := g7 i p e3
      obtain ⟨hi, f1⟩ := hacc.2 i u (by rw [← Array.getElem?_toList]; exact e1)
      rw [Array.getElem?_eq_getElem hi] at e5
      cases e5
      subst f1
      exact ⟨v, e8, e9⟩
    have hf : H1 (s1.heap.push { cls := .type "dict_values", data := .fields #[.ref A] }).objs.size = none := I2.hok.fresh (Nat.le_refl _)
    refine ⟨_, upd H1 _ (.lst ws), I2.laid (t' := tk) hk (Nat.le_refl _) (show ObjOk X.prog X.w _ _ _ (.lst ws) from ⟨by rw [k4.length, List.length_map]; exact g5, acc.toList, c', k3, by rw [Array.toArray_toList]; exact hD⟩), rfl, k1.trans (Kp.upd hf), S1.same (VL.same_upd hf), k1.none S1 hf, by rw [upd_same]; trivial, .lst upd_same (k4.fresh hf)⟩
  | _ => cases h2⟩

/-! ### sorted(x, key=len) -/
def lenK : D → D
  | .list xs => .int xs.length
  | .tuple xs => .int xs.length
  | _ => .none
def isSeq : D → Bool
  | .list _ => true
  | .tuple _ => true
  | _ => false
def sortedLenD : D → Option D
  | .list xs => if xs.all isSeq && decide (xs.length ≤ sizeLine) then some (.list (xs.mergeSort (PySem.W.dataLe false lenK))) else none
  | _ => none
theorem each_rel : ∀ {vs : List V} {us : List Value} {ds : List D}, Vals vs us → vs.length = ds.length → PySem.W.EachIs (fun (u : Value) (p : V × D) => RelV p.1 u) us (vs.zip ds)
  | [], _, [], .nil, _ => .nil
  | v :: vs, _, d :: ds, .cons r t, h => .cons r (each_rel t (by simpa using h))
theorem zip_snd {vs : List V} {ds : List D} (h : vs.length = ds.length) : (vs.zip ds).map (·.2) = ds := by
  induction vs generalizing ds with
  | nil => cases ds with
    | nil => rfl
    | cons => cases h
  | cons v vs ih =>
    cases ds with
    | nil => cases h
    | cons d ds => rw [List.zip_cons_cons, List.map_cons, ih (by simpa using h)]
theorem vf_sortedLen (hu : X.A.units + 64 < cLine) (hg : Gl X "sorted") (hm : X.mg "sorted" = none) (hgl : Gl X "len") (hml : X.mg "len" = none) (he : VR m sl X e f)
    (hst : backTo pos (starEach [e] X.env) = (false, eval e X.env) :: backTo pos (starEach [] X.env) := by rfl) (hpl : (backTo pos (starEach [e] X.env)).any (·.1) = false := by rfl)
    (hall : (backToKw pos (keywordEach [⟨some "key", .Name "len" p2, kp⟩] X.env)).all (·.1.isSome) = true := by rfl) (hnone : (backToKw pos (keywordEach [⟨some "key", .Name "len" p2, kp⟩] X.env)).any (·.1.isNone) = false := by rfl) (hks : (backToKw pos (keywordEach [⟨some "key", .Name "len" p2, kp⟩] X.env)).filterMap (·.1) = [Str.ofString "key"] := by rfl) :
    VF m sl X (.Call (.Name "sorted" p) [e] [⟨some "key", .Name "len" p2, kp⟩] pos) (e1 sortedLenD f) := ⟨fun pins s σ H g own ρ z d z' I J S hf => by
  obtain ⟨dx, h1, h2⟩ := e1_some hf
  refine wpAny_Call_Name_kw (ld_blt I hg hm (by rfl) ?_ (by decide) (by decide))
  refine PyProof.Rows.callWith_kw ?_ hst hpl hall hnone
  rw [hst]
  show wpAny _ _ (spliced ((false, eval e X.env) :: [])) _ _ s
  refine Calls.spliced_cons (thn (he.run pins s σ H g own ρ z dx z' I J S h1) fun u s1 ⟨v, H1, I1, r1, k1, S1, q1⟩ => Calls.spliced_nil ?_)
  refine kwAll_cons (ld_blt I1 hgl hml (by rfl) (kwAll_nil ?_) (by decide) (by decide))
  rw [hks]
  cases dx with
  | list xs =>
    have h2 : (if xs.all isSeq && decide (xs.length ≤ sizeLine) then some (PyData.list (xs.mergeSort (PySem.W.dataLe false lenK))) else none) = some d := h2
    split at h2
    · rename_i hz
      simp only [Bool.and_eq_true, decide_eq_true_eq, List.all_eq_true] at hz
      cases h2
      obtain ⟨A, ws, rfl, ha, ra⟩ := q1.list
      cases r1
      obtain ⟨its, rvs, hl, _⟩ := I1.list (SqL.of ha)
      have hlen := ra.length
      have e3 := zip_snd hlen
      have keyInt : ∀ d, d ∈ xs → ∃ n : Nat, lenK d = .int n := fun d hd => by
        have := hz.1 d hd
        cases d with
        | list ys => exact ⟨_, rfl⟩
        | tuple ys => exact ⟨_, rfl⟩
        | _ => cases this
      have mem2 : ∀ p, p ∈ ws.zip xs → p.2 ∈ xs := fun p hp => by
        have := List.mem_map_of_mem (f := (·.2)) hp
        rw [e3] at this
        exact this
      have keys : ∀ d, d ∈ (ws.zip xs).map (fun p : V × D => lenK p.2) → ∃ n : Nat, d = .int n := fun d hd => by
        obtain ⟨p, hp, e⟩ := List.mem_map.mp hd
        obtain ⟨n, hn⟩ := keyInt p.2 (mem2 p hp)
        exact ⟨n, by rw [← e, hn]⟩
      refine PySem.W.sorted_key_data (b := false) (R := fun u p => RelV p.1 u) (fun p : V × D => lenK p.2) hl.isList (each_rel rvs hlen) (fun x hx y hy => ?_) (.inr fun d hd => ?_) (by rw [← List.length_map (f := (·.2)), e3]; exact hz.2) (fun p hp => ?_) (PyProof.Rows.ksk_s1 _ _) (fun _ => PyProof.Rows.ksk_l1 _ _) (fun x => PyProof.Rows.ksk_t4 "len" x) (fun u p rp hp h tk hk => ?_) fun out c h' tk hk _ hD ho eo => ?_
      · obtain ⟨n, rfl⟩ := keys x hx
        obtain ⟨k, rfl⟩ := keys y hy
        simp [PySem.W.alike]
      · obtain ⟨n, rfl⟩ := keys d hd
        exact ⟨fun c => (nomatch c), fun xs c => (nomatch c)⟩
      · obtain ⟨n, hn⟩ := keyInt p.2 (mem2 p hp)
        rw [hn]
        show X.A.units + 2 + 0 < cLine
        omega
      · have qp := zip_all ra p hp
        have hs := hz.1 p.2 (mem2 p hp)
        have I2 : Inv X pins σ H1 { s1 with heap := h, toks := tk } := I1.kept hk
        obtain ⟨pv, pd⟩ := p
        have hl63 := line63
        cases qp with
        | @tup T zs dz hT _ rz =>
          cases rp
          obtain ⟨its2, rv2, pl2, hz2⟩ := I2.tuple (SqT.of hT)
          have l2 := rv2.length
          have l3 := rz.length
          refine len_tuple pl2 (by simp only [List.size_toArray]; omega) ⟨h, _, rfl, fun b o e => e, ?_⟩
          have e4 : its2.toArray.size = dz.length := by rw [List.size_toArray, ← l2, l3]
          rw [e4]
          exact .int _ _
        | @lst T zs dz hT _ rz =>
          cases rp
          obtain ⟨its2, rv2, pl2, hz2⟩ := I2.list (SqL.of hT)
          have l2 := rv2.length
          have l3 := rz.length
          refine Calls.call_len_list pl2.isList (by simp only [List.size_toArray]; omega) ⟨h, _, rfl, fun b o e => e, ?_⟩
          have e4 : its2.toArray.size = dz.length := by rw [List.size_toArray, ← l2, l3]
          rw [e4]
          exact .int _ _
        | _ => cases hs
      · have hl' : ((ws.zip xs).mergeSort (PySem.W.dataLe false fun p : V × D => lenK p.2)).length = xs.length := by
          rw [List.length_mergeSort, ← List.length_map (f := (·.2)), e3]
        have key := all_zip (ps := (ws.zip xs).mergeSort (PySem.W.dataLe false fun p : V × D => lenK p.2)) fun p hp => zip_all ra p (List.mem_mergeSort.mp hp)
        have em : ((ws.zip xs).mergeSort (PySem.W.dataLe false fun p : V × D => lenK p.2)).map (·.2) = xs.mergeSort (PySem.W.dataLe false lenK) := by
          rw [List.map_mergeSort (r := PySem.W.dataLe false fun p : V × D => lenK p.2) (f := fun p : V × D => p.2) (s := PySem.W.dataLe false lenK) (fun _ _ _ _ => rfl), e3]
        rw [em] at key
        have hf : H1 (s1.heap.objs.size + 1) = none := I1.hok.fresh (Nat.le_succ _)
        exact ⟨s1.heap.objs.size + 1, upd H1 (s1.heap.objs.size + 1) (.lst (((ws.zip xs).mergeSort (PySem.W.dataLe false fun p : V × D => lenK p.2)).map (·.1))), I1.laid (t' := tk) hk (Nat.le_succ _) ⟨by rw [List.length_map, hl']; exact hz.2, out, c, vals_each eo, hD⟩, rfl, k1.trans (Kp.upd hf), S1.same (VL.same_upd hf), k1.none S1 hf, by rw [upd_same]; trivial, .lst upd_same (key.fresh hf)⟩
    · cases h2
  | _ => cases h2⟩
end
end VL
set_option Elab.async false
set_option linter.all false
set_option maxRecDepth 100000
set_option maxHeartbeats 4000000
/-! The value layer, part 21: return [..], each item changing what is owned. -/
namespace VL
open PySem PySem.Spec PyProof.Rows L2
def lcXF (g : DG) (e : DX) (vs : List Nat) : Env → List D → Src → Option (List D × Src)
  | _, [], z => some ([], z)
  | ρ, d :: ds, z => (g d ρ).bind fun ρ1 => (e ρ1 z).bind fun q => (lcXF g e vs (wipeE q.2.1 vs) ds q.2.2).map fun r => (q.1 :: r.1, r.2)
def sRetLcX (fi : DI) (g : DG) (e : DX) (vs : List Nat) : DS := fun ρ z => (fi ρ z).bind fun p => if p.1.length ≤ sizeLine then (lcXF g e vs (wipeE ρ vs) p.1 p.2).map fun q => (.rt (.list q.1), q.2) else none
def tX (w : World) (m : List Nat) (sl : Option Nat) (f : DX) : L2.TE := fun σ H Q => ∃ (g : Gh) (own : Own) (ρ : Env) (z : Src) (d : D) (ρ' : Env) (z' : Src), IV w g m sl own ρ σ H ∧ SrcOk g H z ∧ f ρ z = some (d, ρ', z') ∧
  ∀ v H', Gr g own H own H' → IV w g m sl own ρ' σ H' → SrcOk g H' z' → Rp w (g.N own) H' v d → Q v H'
theorem VX.pe {m : List Nat} {sl : Option Nat} {X : Cx} {e : Expr} {f : DX} (h : VX m sl X e f) : PE X e (tX X.w m sl f) := ⟨fun pins s σ H Q I ⟨g, own, ρ, z, d, ρ', z', J, S, hf, q⟩ =>
  thn (h.run pins s σ H g own ρ z d ρ' z' I J S hf) fun u s1 ⟨v, H', I1, r, G, J1, S1, q1⟩ => ⟨v, H', I1, r, q v H' G J1 S1 q1⟩⟩
theorem IV.wipes {w : World} {g : Gh} {m : List Nat} {sl : Option Nat} {own : Own} {ρ : Env} {σ : L2.St} {H : Hp} {vs : List Nat} (J : IV w g m sl own ρ σ H) (hs : ∀ i, sl = some i → i ∉ vs) : IV w g m sl own (wipeE ρ vs) (wipe σ vs) H := by
  refine ⟨by rw [wipeE_length, wipe_length, J.len], fun i d h1 h2 => ?_, fun i d h1 h2 => ?_, fun i e => ?_, J.om, J.oi, J.n0, J.sn⟩
  · obtain ⟨h1, h3⟩ := wipeE_some h1
    obtain ⟨v, h4, h5⟩ := J.cl i d h1 h2
    exact ⟨v, by rw [wipe_out h3]; exact h4, h5⟩
  · obtain ⟨h1, h3⟩ := wipeE_some h1
    obtain ⟨a, h4, h5⟩ := J.ow i d h1 h2
    exact ⟨a, by rw [wipe_out h3]; exact h4, h5⟩
  · obtain ⟨aS, aC, h1, h2⟩ := J.src i e
    exact ⟨aS, aC, h1, by rw [wipe_out (hs i e)]; exact h2⟩
theorem wipe_wipe {σ : L2.St} {vs : List Nat} : ∀ (us : List Nat), (∀ v, v ∈ us → v ∈ vs) → wipe (wipe σ vs) us = wipe σ vs
  | [], _ => rfl
  | u :: us, hu => by
    have ih := wipe_wipe (σ := σ) us fun v hv => hu v (List.mem_cons_of_mem _ hv)
    show (wipe (wipe σ vs) us).set u none = wipe σ vs
    rw [ih]
    have hm := hu u List.mem_cons_self
    apply List.ext_getElem?
    intro j
    by_cases hj : u = j
    · subst hj
      by_cases hb : u < (wipe σ vs).length
      · rw [List.getElem?_set_self hb]
        cases e : (wipe σ vs)[u]? with
        | none => rw [List.getElem?_eq_none_iff] at e; omega
        | some o =>
          cases o with
          | none => rfl
          | some v => exact absurd hm (wipe_some e).2
      · rw [List.getElem?_eq_none (by simpa using hb), List.getElem?_eq_none (by simpa using hb)]
    · rw [List.getElem?_set_ne hj]
section
variable {m m' ml : List Nat} {sl : Option Nat} {X : Cx} {elt tg iter : Expr} {fi : DI} {fg : DG} {fe : DX} {is : List Nat} {pos rpos : Pos} {scope : Scope} {cown : List (Str × Nat)}
theorem vs_retLcX (hc : X.calm = true) (hN : X.N.Nodup) (hi : VI true m sl X tg iter fi) (ok : BlkOk X.N X.env.scope scope cown)
    (hg : ∀ (s : Shared) (H : Hp) (C : Addr) (cl : List (Str × Addr)) (fp : List Addr), VG m sl (X.blk s H scope (compEnvC scope cl C X.env) fp) is tg fg)
    (he : ∀ (s : Shared) (H : Hp) (C : Addr) (cl : List (Str × Addr)) (fp : List Addr), VX m sl (X.blk s H scope (compEnvC scope cl C X.env) fp) elt fe)
    (his : ∀ i, i ∈ is → i ∈ cown.map (·.2)) (hsl : ∀ i, sl = some i → i ∉ cown.map (·.2)) (hs : ∀ x, foldedSetIterable iter X.env x = pure x := by intro _; rfl) :
    VS m m' ml sl X (.Return (some (.ListComp elt [⟨tg, iter, [], 0⟩] scope pos)) rpos) (sRetLcX fi fg fe (cown.map (·.2))) := ⟨fun pins s σ H g own ρ z r z' I J S hf => by
  generalize hvs : cown.map (·.2) = vs at *
  obtain ⟨⟨items, z1⟩, e1, hf⟩ := Option.bind_eq_some_iff.mp hf
  have hf : (if items.length ≤ sizeLine then (lcXF fg fe vs (wipeE ρ vs) items z1).map (fun q => (Fl.rt (.list q.1), q.2)) else none) = some (r, z') := hf
  split at hf
  · rename_i hz
    obtain ⟨⟨ds, z2⟩, e2, e3⟩ := Option.map_eq_some_iff.mp hf
    cases e3
    refine wpAny_Return_some (thn ((pe_lc (g := tG X.w m sl is fg) (tt := tYes) (te := tX X.w m sl fe) hc hN hi.pi ok (fun s H C cl fp => (hg s H C cl fp).pg) (fun s H C cl fp => pts_nil) (fun s H C cl fp => (he s H C cl fp).pe) hs).run pins s σ H
      (fun v H' => ∃ A H1 H2 acc, v = .ref A ∧ Kp g.src H H1 ∧ Lk X.H_0 (g.N own) H1 H2 ∧ Gr g own H2 own H' ∧ SrcOk g H' z2 ∧ H2 A = none ∧ ¬ g.src A ∧ H' A = some (.lst acc) ∧ RpAll X.w (NF (g.N own) A) H' acc ds) I ?_) fun u s1 ⟨v, H', I', rv, q⟩ => ?_)
    · rw [hvs]
      refine ⟨g, own, ρ, z, items, z1, J, S, e1, fun Ji H1 H2 k1 S1 L Wq A hA => ?_⟩
      have J2 := (J.keep k1 S1).lk L
      have S2 := S1.lk L J.sn
      have nA : ¬ g.src A := fun q => S2.at q hA
      have noA : ∀ i, own i ≠ some A := fun i e => mut_some (J2.om i A e).2.2 hA
      refine ⟨fun i n H' => n = items.length - i ∧ i ≤ items.length ∧ ∃ acc dacc rest z3 ρb, Gr g own H2 own H' ∧ IV X.w (g.plus A) m sl own ρb (wipe σ vs) H' ∧ SrcOk g H' z3 ∧ H' A = some (.lst acc) ∧ RpAll X.w (NF (g.N own) A) H' acc dacc ∧ acc.length ≤ i ∧ lcXF fg fe vs ρb (items.drop i) z3 = some (rest, z2) ∧ ds = dacc ++ rest, ⟨_, rfl, Nat.zero_le _, [], [], ds, z1, wipeE ρ vs, J2.gr (Kp.upd hA), J2.blk (Kp.upd hA) (S2.same (VL.same_upd hA)) hA (by rw [upd_same]; trivial) hsl, S2.same (VL.same_upd hA), upd_same, .nil, Nat.le_refl _, e2, rfl⟩, ?_⟩
      rintro i n H3 ⟨rfl, hi', acc, dacc, rest, z3, ρb, G3, J3, S3, hA3, r3, hl3, l3, e3⟩
      by_cases hlt : i < items.length
      · refine .inr ⟨Wq.go i H3 hlt G3.kp, ?_⟩
        have hd : items[i]? = some items[i] := List.getElem?_eq_getElem hlt
        rw [List.drop_eq_getElem_cons hlt] at l3
        unfold lcXF at l3
        obtain ⟨ρ4, e4, l4⟩ := Option.bind_eq_some_iff.mp l3
        obtain ⟨⟨d6, ρ6, z6⟩, e6, l6⟩ := Option.bind_eq_some_iff.mp l4
        obtain ⟨⟨rest7, z7⟩, e7, l7⟩ := Option.map_eq_some_iff.mp l6
        cases l7
        refine ⟨fun H' => i + 1 ≤ items.length ∧ ∃ acc dacc rest z3 ρb, Gr g own H2 own H' ∧ IV X.w (g.plus A) m sl own ρb (wipe σ vs) H' ∧ SrcOk g H' z3 ∧ H' A = some (.lst acc) ∧ RpAll X.w (NF (g.N own) A) H' acc dacc ∧ acc.length ≤ i + 1 ∧ lcXF fg fe vs ρb (items.drop (i + 1)) z3 = some (rest, z7) ∧ ds = dacc ++ rest, fun H' q => ⟨items.length - (i + 1), by omega, rfl, q⟩, fun x H4 y => ?_⟩
        obtain ⟨sm, rx⟩ := Wq.item i H3 x H4 items[i] ((g.plus A).N own) hd G3.kp (fun b h => J3.nw h) (fun b h n q => by
          rcases Gh.plus_N.mp q with q | q
          · exact n q
          · rw [q, hA] at h; exact h rfl) y
        have S4 : SrcOk g H4 z3 := S3.same sm
        have J4 : IV X.w (g.plus A) m sl own ρb (wipe σ vs) H4 := J3.keep (Same.kp sm) S4
        refine ⟨g.plus A, own, ρb, items[i], ρ4, J4, rx, e4, fun σ5 J5 w5 => ⟨?_, ?_⟩⟩
        · have := w5 vs his
          rw [this]
          exact wipe_wipe vs fun _ h => h
        · have hw5 : wipe σ5 vs = wipe σ vs := by
            rw [w5 vs his]
            exact wipe_wipe vs fun _ h => h
          dsimp only [tYes]
          rw [if_pos rfl]
          refine ⟨g.plus A, own, ρ4, z3, d6, ρ6, z6, J5, S4, e6, fun v H6 G6 J6 S6 q6 => ?_⟩
          have S6 : SrcOk g H6 z6 := S6
          have nW : ¬ (g.plus A).W own A := fun q => by
            rcases q with q | ⟨i, q⟩
            · exact nA q
            · exact noA i q
          have hA6 : H6 A = some (.lst acc) := G6.kp A _ (sm A _ hA3) nW
          have q6' : Rp X.w (NF (g.N own) A) H6 v d6 := q6.move fun b o e n => ⟨e, fun q => n (Gh.plus_N.mpr q)⟩
          have mv6 : ∀ b o, H3 b = some o → ¬ NF (g.N own) A b → H6 b = some o ∧ ¬ NF (g.N own) A b := fun b o e n => ⟨G6.kp b o (sm b o e) fun q => n (.inl (by
            rcases q with q | q
            · exact .inl (J.sn b q)
            · exact .inr q)), n⟩
          have r6 : RpAll X.w (NF (g.N own) A) H6 acc dacc := r3.move mv6
          have J7 := (J6.wipes hsl)
          rw [hw5] at J7
          have nN : ∀ b, b = A → ¬ g.N own b → True := fun _ _ _ => trivial
          have up : ∀ b o, H6 b = some o → b ≠ A → upd H6 A (.lst (acc ++ [v])) b = some o := fun b o e n => by rw [upd_ne n]; exact e
          refine ⟨acc, hA6, by omega, hlt, acc ++ [v], dacc ++ [d6], rest7, z6, wipeE ρ6 vs, ?_, ?_, S6.wr nA (by rw [hA6]; trivial), upd_same, (r6.append (.one q6')).move fun b o e n => ⟨up b o e fun c => n (.inr c), n⟩, by rw [List.length_append]; exact Nat.succ_le_succ hl3, e7, by rw [e3, List.append_assoc]; rfl⟩
          · refine ⟨fun b o e n => ?_, fun i a h => .inl ⟨i, h⟩, J.nsrc⟩
            have h6 := G6.kp b o (sm b o (G3.kp b o e n)) n
            exact up b o h6 (ne_of_none e hA)
          · -- the new list is written: nothing that is owned, nothing shared
            have mvA : ∀ b o, H6 b = some o → ¬ (g.plus A).N own b → upd H6 A (.lst (acc ++ [v])) b = some o ∧ ¬ (g.plus A).N own b := fun b o e n => ⟨up b o e fun c => n (.inl (.inr c)), n⟩
            refine ⟨J7.len, fun j d h1 h2 => ?_, fun j d h1 h2 => ?_, J7.src, fun j a h => ?_, J7.oi, fun a h => ?_, J7.sn⟩
            · obtain ⟨v', h3, h4⟩ := J7.cl j d h1 h2
              exact ⟨v', h3, h4.move mvA⟩
            · obtain ⟨a, h3, h4, h5⟩ := J7.ow j d h1 h2
              exact ⟨a, h3, h4, h5.move mvA fun o e => up a o e fun c => noA j (c ▸ h4)⟩
            · obtain ⟨h1, h2, h3⟩ := J7.om j a h
              refine ⟨h1, h2, ?_⟩
              rw [upd_ne (fun c : a = A => noA j (c ▸ h))]
              exact h3
            · by_cases c : a = A
              · rw [c, upd_same]; exact .inl trivial
              · rw [upd_ne c]; exact J7.n0 a h
      · have e : i = items.length := by omega
        subst e
        refine .inl ⟨Wq.stop _ H3 (Nat.le_refl _) G3.kp, ?_⟩
        rw [List.drop_length] at l3
        cases l3
        rw [List.append_nil] at e3
        subst e3
        exact ⟨A, H1, H2, acc, rfl, k1, L, G3, S3, hA, nA, hA3, r3⟩
    · obtain ⟨A, H1, H2, acc, rfl, k1, L, G, S', hA, nA, hA', ra⟩ := q
      obtain ⟨H3, I3, sm, nn, eq, kp⟩ := L.back (W := g.W own) J.WN I' G.kp
      have hA1 : H1 A = none := by
        cases e : H1 A with
        | none => rfl
        | some o => exact absurd hA (L.ss (by rw [e]; exact fun z => nomatch z))
      have e3 : H3 A = some (.lst acc) := by rw [eq A (.inr hA1)]; exact hA'
      have n0A : ¬ g.N0 A := fun z => by
        have h1 : H A ≠ none := mutN_some (J.n0 A z)
        cases e : H A with
        | none => exact h1 e
        | some o => rw [k1 A o e nA] at hA1; cases hA1
      refine ⟨u, .ref A, σ, H3, rfl, I3, rv, fun b o hb n => kp b o (k1 b o hb fun z => n (.inl z)) n, S'.sm sm fun b n => eq b (.inl (.inl (J.sn b n))), ?_⟩
      refine .lst e3 n0A ?_
      exact (ra.moveL fun b _ n => ⟨sm b, n⟩).move fun b o e n => ⟨e, fun z => n (.inl (.inl z))⟩
  · cases hf⟩
end
end VL
set_option Elab.async false
set_option linter.all false
set_option maxRecDepth 100000
set_option maxHeartbeats 4000000
/-! The value layer, part 22: the drawing source. -/
namespace VL
open PySem PySem.Spec PyProof.Rows L2
/-- cells are taken from the end while what is left is below 2 -/
def popW : List Int → Int → List Int × Int
  | [], l => ([], l)
  | c :: cs, l => if l < 2 then popW cs c else (c :: cs, l)
/-- the cells of a SrcSt lie as in the list: the next one is the last -/
def pickI (most : Int) (st : SrcSt) : Int × SrcSt :=
  if most < 2 then (0, st) else
    let p := popW st.cells.reverse st.left
    let st1 : SrcSt := { st with cells := p.1.reverse, left := p.2 }
    if 1 < st1.left then (st1.left.fmod most, { st1 with left := st1.left.fdiv most })
    else
      let lap := st1.turn + 1
      let a := (st1.mixed + lap * 104729).fmod 998244353
      let b := (a * a + lap * 17).fmod 2147483647
      ((b.fdiv 16).fmod most, { st1 with turn := lap })
def pickD : DFn := fun ds z => match ds, z with
  | [.int most], some st => if most.natAbs < 1073741824 ∧ (-(2 ^ 40) < st.turn ∧ st.turn < 2 ^ 40) ∧ st.cells.length ≤ sizeLine then some (.int (pickI most st).1, some (pickI most st).2) else none
  | _, _ => none
end VL
set_option Elab.async false
set_option linter.all false
set_option maxRecDepth 100000
set_option maxHeartbeats 4000000
/-! The value layer, part 23: the reading of _law_pick. -/
namespace VL
open PySem PySem.Spec PyProof.Rows L2
def gL (f : Str) : L2.TE := tDGet (tVar 0) (tC (V.str f))
def cI (t : L2.TA) : L2.TE := tCB (fun xs H Q => (∃ i, xs = [V.int i] ∧ Q (V.int i) H) ∨ ∃ k, xs = [V.bl k] ∧ Q (V.int (if k then 1 else 0)) H) t
def lenR (K : PySem.W.Frag) (t : L2.TA) : L2.TE := tCB (fun xs H Q => ∃ x n, xs = [x] ∧ LenV K x H n ∧ Q (V.int n) H) t
def ltI (a b : L2.TE) : L2.TE := tOp (rI0 fun i j => V.bl (decide (i < j))) a b
def gtI (a b : L2.TE) : L2.TE := tOp (rI0 fun i j => V.bl (decide (j < i))) a b
def modI (a b : L2.TE) : L2.TE := tOp (rI (fun x j => j ≠ 0) fun i j => V.int (i.fmod j)) a b
def divI (a b : L2.TE) : L2.TE := tOp (rI CDivN fun i j => V.int (i.fdiv j)) a b
variable {X : Cx}
/-- the four entries -/
def skv (aC : Addr) (l x t : Int) : List (Key × V) := [(.inr "cells", .ref aC), (.inr "left", .int l), (.inr "mixed", .int x), (.inr "turn", .int t)]
theorem skv_cells {aC : Addr} {l x t : Int} : valV (skv aC l x t) (.inr "cells") = some (.ref aC) := by rfl
theorem skv_left {aC : Addr} {l x t : Int} : valV (skv aC l x t) (.inr "left") = some (.int l) := by rfl
theorem skv_mixed {aC : Addr} {l x t : Int} : valV (skv aC l x t) (.inr "mixed") = some (.int x) := by rfl
theorem skv_turn {aC : Addr} {l x t : Int} : valV (skv aC l x t) (.inr "turn") = some (.int t) := by rfl
theorem put_left {aC : Addr} {l x t y : Int} : putK (skv aC l x t) (.inr "left") (.int y) = skv aC y x t := by rfl
theorem put_turn {aC : Addr} {l x t y : Int} : putK (skv aC l x t) (.inr "turn") (.int y) = skv aC l x y := by rfl
/-- the source as it stands -/
structure SAt (H : Hp) (aS aC : Addr) (cells : List Int) (l x t : Int) : Prop where
  s : H aS = some (.dK (skv aC l x t))
  c : H aC = some (.lst (cells.map V.int))
theorem SAt.get {H : Hp} {aS aC : Addr} {cells : List Int} {l x t : Int} {σ : L2.St} {Q : L2.VK} (S : SAt H aS aC cells l x t) (h0 : σ[0]? = some (some (.ref aS))) {f : Str} {v : V} (hv : valV (skv aC l x t) (.inr f) = some v) (h : Q v H) : gL f σ H Q :=
  ⟨.ref aS, h0, aS, v, rfl, .inl ⟨_, .inr f, .inl S.s, rfl, hv.symm⟩, h⟩
theorem SAt.put_left {H : Hp} {aS aC : Addr} {cells : List Int} {l x t y : Int} (S : SAt H aS aC cells l x t) (ne : aS ≠ aC) : SAt (upd H aS (.dK (skv aC y x t))) aS aC cells y x t := ⟨upd_same, by rw [upd_ne (Ne.symm ne)]; exact S.c⟩
theorem SAt.put_turn {H : Hp} {aS aC : Addr} {cells : List Int} {l x t y : Int} (S : SAt H aS aC cells l x t) (ne : aS ≠ aC) : SAt (upd H aS (.dK (skv aC l x y))) aS aC cells l x y := ⟨upd_same, by rw [upd_ne (Ne.symm ne)]; exact S.c⟩
def pickT (K : PySem.W.Frag) : L2.TS :=
  tSeq (tIfS (tTest (ltI (tVar 1) (tC (V.int 2)))) (tRet (tC (V.int 0))) tNext)
  (tSeq (tAsg (gL "cells") (gName 2))
  (tSeq (tWhile (L2.tAnd (tTest (ltI (gL "left") (tC (V.int 2)))) (tTest (gtI (lenR K (tCons (tVar 2) tNil)) (tC (V.int 0))))) (sDPut (tVar 0) (tC (V.str "left")) (tBM0 K "list" rPop (tVar 2))))
  (tSeq (tAsg (gL "left") (gName 3))
  (tSeq (tIfS (tTest (gtI (tVar 3) (tC (V.int 1)))) (tSeq (sDPut (tVar 0) (tC (V.str "left")) (divI (tVar 3) (tVar 1))) (tRet (modI (cI (tCons (tVar 3) tNil)) (tVar 1)))) tNext)
  (tSeq (sDPut (tVar 0) (tC (V.str "turn")) (tOp (rI0 fun i j => V.int (i + j)) (gL "turn") (tC (V.int 1))))
  (tSeq (tAsg (gL "turn") (gName 4))
  (tSeq (tAsg (modI (cI (tCons (tOp (rI0 fun i j => V.int (i + j)) (gL "mixed") (tOp (rI (fun i j => -(2 ^ 64) < i ∧ i < 2 ^ 64 ∨ -(2 ^ 64) < j ∧ j < 2 ^ 64) fun i j => V.int (i * j)) (tVar 4) (tC (V.int 104729)))) tNil)) (tC (V.int 998244353))) (gName 5))
  (tSeq (tAsg (modI (cI (tCons (tOp (rI0 fun i j => V.int (i + j)) (tOp (rI (fun i j => -(2 ^ 64) < i ∧ i < 2 ^ 64 ∨ -(2 ^ 64) < j ∧ j < 2 ^ 64) fun i j => V.int (i * j)) (tVar 5) (tVar 5)) (tOp (rI (fun i j => -(2 ^ 64) < i ∧ i < 2 ^ 64 ∨ -(2 ^ 64) < j ∧ j < 2 ^ 64) fun i j => V.int (i * j)) (tVar 4) (tC (V.int 17)))) tNil)) (tC (V.int 2147483647))) (gName 5))
  (tRet (modI (cI (tCons (divI (tVar 5) (tC (V.int 16))) tNil)) (tVar 1)))))))))))
theorem popW_stop {cs : List Int} {l : Int} (h : ¬ (l < 2 ∧ cs ≠ [])) : popW cs.reverse l = (cs.reverse, l) := by
  cases e : cs.reverse with
  | nil => rfl
  | cons c r =>
    have hne : cs ≠ [] := fun z => by rw [z] at e; cases e
    have hl : ¬ l < 2 := fun z => h ⟨z, hne⟩
    unfold popW
    rw [if_neg hl]
theorem popW_go {cs : List Int} {l c : Int} (hl : l < 2) (hc : cs[cs.length - 1]? = some c) : popW cs.reverse l = popW cs.dropLast.reverse c := by
  have hne : cs ≠ [] := fun z => by rw [z] at hc; simp at hc
  have e : cs = cs.dropLast ++ [c] := by
    have h1 := List.dropLast_concat_getLast hne
    have h2 : cs.getLast hne = c := by
      rw [List.getLast_eq_getElem]
      have := List.getElem?_eq_some_iff.mp hc
      exact this.2
    rw [h2] at h1
    exact h1.symm
  rw [show cs.reverse = c :: cs.dropLast.reverse by rw [congrArg List.reverse e, List.reverse_append]; rfl]
  show (if l < 2 then popW cs.dropLast.reverse c else _) = _
  rw [if_pos hl]
theorem pick_read {K : PySem.W.Frag} {H : Hp} {aS aC : Addr} {st : SrcSt} {most : Int} (ne : aS ≠ aC) (S : SAt H aS aC st.cells st.left st.mixed st.turn) (hm : most.natAbs < 1073741824) (ht : -(2 ^ 40) < st.turn ∧ st.turn < 2 ^ 40) (hz : st.cells.length ≤ sizeLine) {Q : L2.VK}
    (q : ∀ H', SAt H' aS aC (pickI most st).2.cells (pickI most st).2.left (pickI most st).2.mixed (pickI most st).2.turn → (∀ b, b ≠ aS → b ≠ aC → H' b = H b) → Q (.int (pickI most st).1) H') :
    pickT K { nx := fun _ H' => Q .non H', rt := Q } (L2.start ["source", "most", "cells", "others", "lap", "stirred"] [.ref aS, .int most]) H := by
  unfold pickI at q
  have dt : ∀ {p : Prop} [Decidable p], p → V.bl (decide p) = V.bl true := fun h => by rw [decide_eq_true h]
  have df : ∀ {p : Prop} [Decidable p], ¬ p → V.bl (decide p) = V.bl false := fun h => by rw [decide_eq_false h]
  by_cases h2 : most < 2
  · rw [if_pos h2] at q
    exact ⟨.int most, rfl, most, 2, rfl, rfl, true, dt h2, ite_tt (q H S fun b _ _ => rfl)⟩
  rw [if_neg h2] at q
  refine ⟨.int most, rfl, most, 2, rfl, rfl, false, df h2, ite_ff ?_⟩
  refine S.get rfl skv_cells ?_
  -- what comes behind the loop
  have fin : ∀ (cs : List Int) (l : Int) (H' : Hp), SAt H' aS aC cs l st.mixed st.turn → (∀ b, b ≠ aS → b ≠ aC → H' b = H b) → popW st.cells.reverse st.left = (cs.reverse, l) →
      (tSeq (tAsg (gL "left") (gName 3))
        (tSeq (tIfS (tTest (gtI (tVar 3) (tC (V.int 1)))) (tSeq (sDPut (tVar 0) (tC (V.str "left")) (divI (tVar 3) (tVar 1))) (tRet (modI (cI (tCons (tVar 3) tNil)) (tVar 1)))) tNext)
        (tSeq (sDPut (tVar 0) (tC (V.str "turn")) (tOp (rI0 fun i j => V.int (i + j)) (gL "turn") (tC (V.int 1))))
        (tSeq (tAsg (gL "turn") (gName 4))
        (tSeq (tAsg (modI (cI (tCons (tOp (rI0 fun i j => V.int (i + j)) (gL "mixed") (tOp (rI (fun i j => -(2 ^ 64) < i ∧ i < 2 ^ 64 ∨ -(2 ^ 64) < j ∧ j < 2 ^ 64) fun i j => V.int (i * j)) (tVar 4) (tC (V.int 104729)))) tNil)) (tC (V.int 998244353))) (gName 5))
        (tSeq (tAsg (modI (cI (tCons (tOp (rI0 fun i j => V.int (i + j)) (tOp (rI (fun i j => -(2 ^ 64) < i ∧ i < 2 ^ 64 ∨ -(2 ^ 64) < j ∧ j < 2 ^ 64) fun i j => V.int (i * j)) (tVar 5) (tVar 5)) (tOp (rI (fun i j => -(2 ^ 64) < i ∧ i < 2 ^ 64 ∨ -(2 ^ 64) < j ∧ j < 2 ^ 64) fun i j => V.int (i * j)) (tVar 4) (tC (V.int 17)))) tNil)) (tC (V.int 2147483647))) (gName 5))
        (tRet (modI (cI (tCons (divI (tVar 5) (tC (V.int 16))) tNil)) (tVar 1))))))))) { nx := fun _ H' => Q .non H', rt := Q } [some (.ref aS), some (.int most), some (.ref aC), none, none, none] H' := by
    intro cs l H' S' out hp
    rw [hp] at q
    simp only [List.reverse_reverse] at q
    refine S'.get rfl skv_left ?_
    by_cases hl : 1 < l
    · rw [if_pos hl] at q
      refine ⟨.int l, rfl, l, 1, rfl, rfl, true, dt hl, ite_tt ?_⟩
      refine ⟨.int l, rfl, .int most, rfl, l, most, rfl, rfl, ⟨by omega, hm⟩, .ref aS, rfl, aS, _, rfl, DPut.k (k := .inr "left") S'.s (by show 4 < sizeLine; decide), ?_⟩
      refine ⟨.int l, rfl, .inl ⟨l, rfl, .int most, rfl, l, most, rfl, rfl, by omega, ?_⟩⟩
      have S2 := S'.put_left (y := l.fdiv most) ne
      exact q _ S2 fun b h1 h2 => by
        show upd H' aS _ b = H b
        rw [upd_ne h1]
        exact out b h1 h2
    · rw [if_neg hl] at q
      refine ⟨.int l, rfl, l, 1, rfl, rfl, false, df hl, ite_ff ?_⟩
      refine S'.get rfl skv_turn ⟨st.turn, 1, rfl, rfl, .ref aS, rfl, aS, _, rfl, DPut.k (k := .inr "turn") S'.s (by show 4 < sizeLine; decide), ?_⟩
      have S2 := S'.put_turn (y := st.turn + 1) ne
      refine S2.get rfl skv_turn ?_
      refine S2.get rfl skv_mixed ?_
      refine ⟨.int (st.turn + 1), rfl, st.turn + 1, 104729, rfl, rfl, .inr (by omega), ?_⟩
      refine ⟨st.mixed, (st.turn + 1) * 104729, rfl, rfl, .inl ⟨_, rfl, _, 998244353, rfl, rfl, (show (998244353 : Int) ≠ 0 by decide), ?_⟩⟩
      have hb := Int.fmod_nonneg_of_pos (st.mixed + (st.turn + 1) * 104729) (show (0 : Int) < 998244353 by decide)
      have hb2 := Int.fmod_lt_of_pos (st.mixed + (st.turn + 1) * 104729) (show (0 : Int) < 998244353 by decide)
      refine ⟨_, rfl, _, rfl, _, _, rfl, rfl, .inl (by constructor <;> omega), ?_⟩
      refine ⟨_, rfl, _, 17, rfl, rfl, .inr (by omega), ?_⟩
      refine ⟨_, _, rfl, rfl, .inl ⟨_, rfl, _, 2147483647, rfl, rfl, (show (2147483647 : Int) ≠ 0 by decide), ?_⟩⟩
      refine ⟨_, rfl, _, 16, rfl, rfl, ⟨by decide, by decide⟩, .inl ⟨_, rfl, .int most, rfl, _, most, rfl, rfl, by omega, ?_⟩⟩
      exact q _ S2 fun b h1 h2 => by
        show upd H' aS _ b = H b
        rw [upd_ne h1]
        exact out b h1 h2
  -- the loop
  refine ⟨fun m σ' H' => ∃ cs l, σ' = [some (.ref aS), some (.int most), some (.ref aC), none, none, none] ∧ m = cs.length ∧ SAt H' aS aC cs l st.mixed st.turn ∧ (∀ b, b ≠ aS → b ≠ aC → H' b = H b) ∧ popW cs.reverse l = popW st.cells.reverse st.left ∧ cs.length ≤ sizeLine,
    ⟨st.cells.length, st.cells, st.left, rfl, rfl, S, fun b _ _ => rfl, rfl, hz⟩, ?_⟩
  rintro m σ' H' ⟨cs, l, rfl, rfl, S', out, hp, hz'⟩
  by_cases hl : l < 2
  · refine S'.get rfl skv_left ⟨l, 2, rfl, rfl, true, dt hl, ite_tt ?_⟩
    refine ⟨.ref aC, rfl, .ref aC, cs.length, rfl, .inl ⟨_, SqL.of S'.c, by simp⟩, cs.length, 0, rfl, rfl, ?_⟩
    by_cases hc : cs = []
    · subst hc
      refine ⟨false, df (by decide), ite_ff ?_⟩
      exact fin [] l H' S' out (by rw [← hp]; rfl)
    · have hlen : 0 < cs.length := List.length_pos_iff.mpr hc
      refine ⟨true, dt (by omega), ite_tt ?_⟩
      have hlast : cs[cs.length - 1]? = some (cs[cs.length - 1]'(by omega)) := List.getElem?_eq_getElem (by omega)
      refine ⟨fun σ'' H'' => ∃ cs' l', cs'.length < cs.length ∧ σ'' = [some (.ref aS), some (.int most), some (.ref aC), none, none, none] ∧ SAt H'' aS aC cs' l' st.mixed st.turn ∧ (∀ b, b ≠ aS → b ≠ aC → H'' b = H b) ∧ popW cs'.reverse l' = popW st.cells.reverse st.left ∧ cs'.length ≤ sizeLine, ?_, ?_⟩
      · rintro σ'' H'' ⟨cs', l', h1, rfl, h3, h4, h5, h6⟩
        exact ⟨cs'.length, h1, cs', l', rfl, rfl, h3, h4, h5, h6⟩
      · refine ⟨.ref aC, rfl, .inl ⟨rfl, _, SqL.of S'.c⟩, aC, _, .int (cs[cs.length - 1]'(by omega)), rfl, rfl, S'.c, by simp [hlen], ?_⟩
        have S1 : SAt (upd H' aC (.lst ((cs.map V.int).dropLast))) aS aC cs.dropLast l st.mixed st.turn := ⟨by rw [upd_ne ne]; exact S'.s, by rw [upd_same, List.map_dropLast]⟩
        refine ⟨.ref aS, rfl, aS, _, rfl, DPut.k (k := .inr "left") S1.s (by show 4 < sizeLine; decide), cs.dropLast, cs[cs.length - 1]'(by omega), by rw [List.length_dropLast]; omega, rfl, S1.put_left ne, fun b h1 h2 => ?_, by rw [← popW_go hl hlast]; exact hp, by rw [List.length_dropLast]; omega⟩
        show upd (upd H' aC _) aS _ b = H b
        rw [upd_ne h1, upd_ne h2]
        exact out b h1 h2
  · refine S'.get rfl skv_left ⟨l, 2, rfl, rfl, false, df hl, ite_ff ?_⟩
    refine ite_ff ?_
    exact fin cs l H' S' out (by rw [← hp]; exact popW_stop fun c => hl c.1)
end VL
set_option Elab.async false
set_option linter.all false
set_option maxRecDepth 100000
set_option maxHeartbeats 4000000
/-! The value layer, part 24: the reading of _law_open_cells. -/
namespace VL
open PySem PySem.Spec PyProof.Rows L2
def mulI (a b : L2.TE) : L2.TE := tOp (rI CMul fun i j => V.int (i * j)) a b
def addI (a b : L2.TE) : L2.TE := tOp (rI0 fun i j => V.int (i + j)) a b
def absR (t : L2.TA) : L2.TE := tCB (fun xs H Q => ∃ i, xs = [V.int i] ∧ Q (V.int (if i < 0 then -i else i)) H) t
def openT (K : PySem.W.Frag) : L2.TS :=
  tSeq (tAsg (tC (V.int 11)) (gName 1))
  (tSeq (tFor (iList K (tVar 0)) (gName 2) (tAsg (modI (cI (tCons (addI (addI (mulI (tVar 1) (tC (V.int 69069))) (mulI (tVar 2) (tC (V.int 31)))) (tC (V.int 5))) tNil)) (tC (V.int 2147483629))) (gName 1)))
  (tSeq (tAsg (tLc (iList K (tVar 0)) (gName 2) tYes (absR (tCons (tVar 2) tNil)) [2]) (gName 3))
  (tRet (tDisp [(tC (V.str "cells"), tRevL K (tVar 3)), (tC (V.str "left"), tC (V.int 1)), (tC (V.str "mixed"), tVar 1), (tC (V.str "turn"), tC (V.int 0))]))))
def stirI (s : Int) (c : Int) : Int := (s * 69069 + c * 31 + 5).fmod 2147483629
def absI (i : Int) : Int := if i < 0 then -i else i
def openSt (ns : List Int) : SrcSt := { cells := (ns.map absI).reverse, left := 1, mixed := ns.foldl stirI 11, turn := 0 }
theorem SqL.same {K : PySem.W.Frag} {H H' : Hp} {a : Addr} {xs : List V} (h : SqL K H a xs) (k : L2.Same H H') : SqL K H' a xs := by
  rcases h with (h | ⟨o, h⟩) | h
  · exact .inl (.inl (k a _ h))
  · exact .inl (.inr ⟨o, k a _ h⟩)
  · exact .inr h
theorem open_read {K : PySem.W.Frag} {H : Hp} {a : Addr} {ns : List Int} {Q : L2.VK} (hS : SqL K H a (ns.map V.int)) (hl : ns.length ≤ 1000)
    (q : ∀ H' aS aC, H aS = none → H aC = none → aS ≠ aC → SAt H' aS aC (openSt ns).cells (openSt ns).left (openSt ns).mixed (openSt ns).turn → L2.Same H H' → Q (.ref aS) H') :
    openT K { nx := fun _ H' => Q .non H', rt := Q } (L2.start ["script", "stirred", "cell", "cells"] [.ref a]) H := by
  have hline : ns.length < sizeLine := small1000 hl
  -- the loop
  refine ⟨.ref a, rfl, a, rfl, ⟨_, hS⟩, ?_⟩
  refine for_list (xs := ns.map V.int) (fun i σ H' => H' = H ∧ ∃ c, σ = [some (.ref a), some (.int ((ns.take i).foldl stirI 11)), c, none]) ⟨rfl, none, rfl⟩ (fun i σ H' _ h => by rw [h.1]; exact hS) (fun i x σ H' hx h => ?_) (fun σ H' h => ?_)
  · obtain ⟨rfl, c, rfl⟩ := h
    rw [List.getElem?_map] at hx
    obtain ⟨n, hn, rfl⟩ := Option.map_eq_some_iff.mp hx
    refine ⟨.int ((ns.take i).foldl stirI 11), rfl, (ns.take i).foldl stirI 11, 69069, rfl, rfl, .inr ⟨by decide, by decide⟩, ?_⟩
    refine ⟨.int n, rfl, n, 31, rfl, rfl, .inr ⟨by decide, by decide⟩, ?_⟩
    refine ⟨_, _, rfl, rfl, ?_⟩
    refine ⟨_, 5, rfl, rfl, .inl ⟨_, rfl, _, 2147483629, rfl, rfl, (show (2147483629 : Int) ≠ 0 by decide), rfl, some (.int n), ?_⟩⟩
    have e : (ns.take (i + 1)).foldl stirI 11 = stirI ((ns.take i).foldl stirI 11) n := by
      rw [List.take_add_one, hn, List.foldl_append]
      rfl
    rw [e]
    rfl
  obtain ⟨e0, c, rfl⟩ := h
  have e0 := e0.symm
  subst e0
  rw [List.length_map, List.take_length]
  -- the comprehension
  refine ⟨.ref a, rfl, a, rfl, ⟨_, hS⟩, fun A hA => ?_⟩
  refine lc_list (xs := ns.map V.int) (fun i H' => H' = upd H A (.lst ((ns.take i).map fun n => V.int (absI n)))) rfl (fun i H' _ h => by rw [h]; exact SqL.same hS (VL.same_upd hA)) (fun i x H' hx h => ?_) (fun H' h => ?_)
  · subst h
    rw [List.getElem?_map] at hx
    obtain ⟨n, hn, rfl⟩ := Option.map_eq_some_iff.mp hx
    refine ⟨rfl, ?_⟩
    dsimp only [tYes]
    rw [if_pos rfl]
    refine ⟨.int n, rfl, n, rfl, _, upd_same, ?_, ?_⟩
    · rw [List.length_map, List.length_take]; omega
    · rw [upd_upd, List.take_add_one, hn, List.map_append]
      rfl
  · rw [List.length_map, List.take_length] at h
    subst h
    -- the dict
    intro p hp
    have nAp : A ≠ p := fun e => by rw [← e, upd_same] at hp; cases hp
    have hpH : H p = none := by rw [upd_ne nAp.symm] at hp; exact hp
    refine ⟨.ref A, rfl, A, _, rfl, SqL.of (by rw [upd_ne nAp]; exact upd_same), fun r hr => ?_⟩
    have nrp : r ≠ p := fun e => by rw [e, upd_same] at hr; cases hr
    have hrH : H r = none := by
      rw [upd_ne nrp] at hr
      by_cases c : r = A
      · rw [c, upd_same] at hr; cases hr
      · rw [upd_ne c] at hr; exact hr
    refine ⟨_, rfl, ?_⟩
    refine ⟨by rw [upd_ne nrp.symm, upd_same], [(.inr "cells", .ref r), (.inr "left", .int 1), (.inr "mixed", .int (ns.foldl stirI 11)), (.inr "turn", .int 0)], rfl, by show 4 ≤ 15; decide, ?_⟩
    refine q _ p r hpH hrH nrp.symm ⟨upd_same, ?_⟩ fun b o e => ?_
    · rw [upd_ne nrp, upd_same]
      show some (HO.lst ((ns.map fun n => V.int (absI n)).reverse)) = some (HO.lst (((ns.map absI).reverse).map V.int))
      rw [List.map_reverse, List.map_map]
      rfl
    · rw [upd_ne (ne_of_none e hpH), upd_ne (ne_of_none e hrH), upd_ne (ne_of_none e hpH), upd_ne (ne_of_none e hA)]
      exact e
end VL
set_option Elab.async false
set_option linter.all false
set_option maxRecDepth 100000
set_option maxHeartbeats 4000000
/-! The value layer, part 25: _law_pick and _law_open_cells as callees; the law's body and its call. -/
namespace VL
open PySem PySem.Spec PyProof.Rows L2
section
variable {P : Program} {w : World} {K : PySem.W.Frag} {mg : Str → Option Value} {base : Heap} {k : Nat}
abbrev pickN : List Str := ["source", "most", "cells", "others", "lap", "stirred"]
abbrev openN : List Str := ["script", "stirred", "cell", "cells"]
theorem pickI_tb {most : Int} {st : SrcSt} : (pickI most st).2.tb = st.tb := by
  unfold pickI
  split
  · rfl
  · dsimp only
    split <;> rfl
theorem SrcOk.sat {g : Gh} {H : Hp} {aS aC : Addr} {z : Src} (S : SrcOk g H z) (hs : g.sa = some (aS, aC)) : ∃ st, z = some st ∧ aS ≠ aC ∧ SAt H aS aC st.cells st.left st.mixed st.turn := by
  have h := S.m
  rw [hs] at h
  cases z with
  | none => exact h.elim
  | some st => exact ⟨st, rfl, h.1, h.2.1, h.2.2⟩
theorem cal_pick {st : Stmt} {f : Addr} {fd : FuncData} (D : Def K mg "_law_pick" st f fd ["source", "most"]) (S : FnScope pickN ["source", "most"] (defScope st))
    (hd : ∀ (cdv : Value) (A : Around) (outer : List PySem.Env) (s : Shared) (H : Hp), Room k (A.deeper (envOfC "_law_pick" (defScope st) s.heap.objs.size f cdv)) → PSs (cxOf CX0 P w K mg base pickN "_law_pick" (defScope st) f cdv A outer s H E0).nox (defBody st) (pickT K)) :
    CalS P w K mg base (k + 1) "_law_pick" 1 pickD := by
  refine ⟨f, fd, _, enter D.fn S (fun vs H Q E h => h.1) fun cdv A outer s H vs Q hgd hr hq => ?_, D.mg, D.fn.kp, D.bd⟩
  obtain ⟨hl, g, aS, aC, xs, ds, z, d, z', rfl, hs, G, So, q, hf, fin⟩ := hq
  refine ⟨_, hd cdv A outer s H hr, ?_⟩
  obtain ⟨st0, rfl, ne, Sa⟩ := So.sat hs
  unfold pickD at hf
  split at hf
  · rename_i most st1 e2
    cases e2
    split at hf
    · rename_i c
      cases hf
      cases q with
      | cons q1 q2 =>
        cases q2
        cases q1
        refine pick_read ne Sa c.1 c.2.1 c.2.2 fun H' S' out => ?_
        have kp : Kp g.src H H' := fun b o e n => by
          rw [out b (fun c => n (.inl ⟨aS, aC, hs, .inl c⟩)) fun c => n (.inl ⟨aS, aC, hs, .inr c⟩)]
          exact e
        refine fin _ H' kp ⟨?_, ?_, fun st2 e2 => by cases e2; rw [pickI_tb]; exact So.2.2 st0 rfl⟩ (.int _)
        · rw [hs]
          exact ⟨ne, S'.s, S'.c⟩
        · refine fun p hp => ?_
          have S0 : ∀ b u, H b = some u → b = aS ∨ b = aC → (∃ xs, u = .lst xs) ∨ ∃ xs, u = .dK xs := fun b u e c => by
            rcases c with rfl | rfl
            · rw [Sa.s] at e; cases e; exact .inr ⟨_, rfl⟩
            · rw [Sa.c] at e; cases e; exact .inl ⟨_, rfl⟩
          have st : ∀ b u, H b = some u → (∀ xs, u ≠ .lst xs) → (∀ xs, u ≠ .dK xs) → H' b = some u := fun b u e h1 h2 => by
            rw [out b (fun c => ?_) fun c => ?_]
            · exact e
            · rcases S0 b u e (.inl c) with ⟨xs, z⟩ | ⟨xs, z⟩
              · exact h1 xs z
              · exact h2 xs z
            · rcases S0 b u e (.inr c) with ⟨xs, z⟩ | ⟨xs, z⟩
              · exact h1 xs z
              · exact h2 xs z
          obtain ⟨ps, h1, h2, h3⟩ := So.t p hp
          refine ⟨ps, st _ _ h1 (fun xs z => nomatch z) (fun xs z => nomatch z), h2, fun pos cv hc => ?_⟩
          obtain ⟨c, e1, e2⟩ := h3 pos cv hc
          exact ⟨c, e1, st _ _ e2 (fun xs z => nomatch z) (fun xs z => nomatch z)⟩
    · cases hf
  · cases hf
/-- what _law_open_cells promises -/
def spO (K : PySem.W.Frag) : Sp := fun vs H Q _ => vs.length = 1 ∧ ∃ (a : Addr) (ns : List Int), vs = [.ref a] ∧ SqL K H a (ns.map V.int) ∧ ns.length ≤ 1000 ∧
  ∀ H' aS aC, H aS = none → H aC = none → aS ≠ aC → SAt H' aS aC (openSt ns).cells (openSt ns).left (openSt ns).mixed (openSt ns).turn → L2.Same H H' → Q (.ref aS) H'
structure CalO (P : Program) (w : World) (K : PySem.W.Frag) (mg : Str → Option Value) (base : Heap) (k : Nat) (x : Str) : Prop where
  ex : ∃ f fd, FnG P w K mg base k f fd ["script"] (spO K) ∧ mg x = some (.ref f) ∧ PySem.W.keepIn K (.ref f) = true ∧ L2.Binds K fd ["script"] []
theorem cal_open {st : Stmt} {f : Addr} {fd : FuncData} (D : Def K mg "_law_open_cells" st f fd ["script"]) (S : FnScope openN ["script"] (defScope st))
    (hd : ∀ (cdv : Value) (A : Around) (outer : List PySem.Env) (s : Shared) (H : Hp), Room k (A.deeper (envOfC "_law_open_cells" (defScope st) s.heap.objs.size f cdv)) → PSs (cxOf CX0 P w K mg base openN "_law_open_cells" (defScope st) f cdv A outer s H E0).nox (defBody st) (openT K)) :
    CalO P w K mg base (k + 1) "_law_open_cells" := by
  refine ⟨f, fd, enter D.fn S (fun vs H Q E h => h.1) fun cdv A outer s H vs Q hgd hr hq => ?_, D.mg, D.fn.kp, D.bd⟩
  obtain ⟨hl, a, ns, rfl, hS, hn, fin⟩ := hq
  exact ⟨_, hd cdv A outer s H hr, open_read hS hn fin⟩
theorem CalO.up {j : Nat} {x : Str} (h : CalO P w K mg base j x) (hk : j ≤ k) : CalO P w K mg base k x := by
  obtain ⟨f, fd, h1, h2⟩ := h.ex
  exact ⟨f, fd, h1.mono hk, h2⟩

/-- _law_open_cells(script) -/
def tOpen (K : PySem.W.Frag) : L2.TE := fun σ H Q => ∃ (a : Addr) (ns : List Int), σ[0]? = some (some (.ref a)) ∧ SqL K H a (ns.map V.int) ∧ ns.length ≤ 1000 ∧
  ∀ H' aS aC, H aS = none → H aC = none → aS ≠ aC → SAt H' aS aC (openSt ns).cells (openSt ns).left (openSt ns).mixed (openSt ns).turn → L2.Same H H' → Q (.ref aS) H'
theorem pe_open {X : Cx} {j : Nat} {x y : Str} {p py pos : Pos} (c : CalO X.prog X.w X.K X.mg X.base k x) (hgd : X.A.guards = some []) (hr : Room j X.A) (hk : k ≤ j) (hg : Gl X x) (hN : X.N[0]? = some y)
    (hv : Vis X.env.scope y) (hd : (y == ("__debug__" : Str)) = false) (hcd : (y == ("__classdict__" : Str)) = false) (hdb : (x == ("__debug__" : Str)) = false) : PE X (.Call (.Name x p) [.Name y py] [] pos) (tOpen X.K) := ⟨fun pins s σ H Q I h => by
  obtain ⟨a, ns, h0, hS, hl, q⟩ := h
  obtain ⟨f, fd, F, hm, hki, hb⟩ := c.ex
  refine wpAny_Call_Name_kw (ld_glob I hg hm ?_ hdb)
  refine PySem.W.callWith_K (h₀ := X.base) I.ok.mod.kin hki ?_ (by rfl) (by rfl)
  show wpAny _ _ (spliced ((false, eval (.Name y py) X.env) :: backTo pos (starEach [] X.env))) _ _ s
  refine Calls.spliced_cons (thn ((pe_var (i := 0) hN hv hd hcd).run pins s σ H (fun v H' => v = .ref a ∧ H' = H) I ⟨_, h0, rfl, rfl⟩) fun u s1 ⟨v, H1, I1, r1, e1, e2⟩ => ?_)
  subst e1 e2
  refine Calls.spliced_nil ⟨I1.kIn, ?_⟩
  exact thn (run_g (Q := Q) F hgd (hr.mono hk) hb I1 (.cons r1 .nil) ⟨rfl, a, ns, rfl, hS, hl, q⟩) fun u s2 q => q⟩
/-- what the law promises -/
def spL (K : PySem.W.Frag) (nn : Nat) (fb : DS) : Sp := fun vs H Q _ => vs.length = 1 ∧ ∃ (a : Addr) (ns : List Int) (T : List (Addr × Str)) (z' : Src), vs = [.ref a] ∧ SqL K H a (ns.map V.int) ∧ ns.length ≤ 1000 ∧ LamX.Tabs T H ∧
  (fb (List.replicate nn none) (some { openSt ns with tb := T })).bind endF = some (.bool true, z') ∧ ∀ H', Q (.bl true) H'
theorem ok_lawV {st : Stmt} {f : Addr} {fd : FuncData} {N' : List Str} {m m' : List Nat} {fb : DS} {rest : List Stmt} {p1 p2 p3 p4 p5 : Pos} (D : Def K mg "law" st f fd ["script"]) (S : FnScope ("script" :: "source" :: N') ["script"] (defScope st))
    (hb : defBody st = .Assign [.Name "source" p1] (.Call (.Name "_law_open_cells" p2) [.Name "script" p3] [] p4) p5 :: rest) (c : CalO P w K mg base k "_law_open_cells")
    (hg : (defScope st).names.lookup ("_law_open_cells" : Str) = some NameKind.globalImplicit) (hl0 : (defScope st).names.lookup ("script" : Str) = some NameKind.local) (hl : (defScope st).names.lookup ("source" : Str) = some NameKind.local)
    (hbody : ∀ (cdv : Value) (A : Around) (outer : List PySem.Env) (s : Shared) (H : Hp), (A.deeper (envOfC "law" (defScope st) s.heap.objs.size f cdv)).guards = some [] → Room k (A.deeper (envOfC "law" (defScope st) s.heap.objs.size f cdv)) →
      VSs m m' [] (some 1) (cxOf CX0 P w K mg base ("script" :: "source" :: N') "law" (defScope st) f cdv A outer s H E0).nox rest fb) : FnG P w K mg base (k + 1) f fd ["script"] (spL K (N'.length + 2) fb) := by
  refine enter D.fn S (fun vs H Q E h => h.1) fun cdv A outer s H vs Q hgd hr hq => ?_
  obtain ⟨_, a, ns, T, z', rfl, hS, hn, hT, hf, fin⟩ := hq
  obtain ⟨⟨r, z1⟩, h1, h2⟩ := Option.bind_eq_some_iff.mp hf
  have hpe := pe_open (X := (cxOf CX0 P w K mg base ("script" :: "source" :: N') "law" (defScope st) f cdv A outer s H E0).nox) (p := p2) (py := p3) (pos := p4) (y := "script") c hgd hr (Nat.le_refl _) hg rfl (.inl hl0) (by decide) (by decide) (by decide)
  rw [hb]
  refine ⟨_, pss_cons (ps_set (i := 1) S.nd rfl (.inl hl) hpe) (hbody cdv A outer s H hgd hr).pss, ?_⟩
  refine ⟨a, ns, rfl, hS, hn, fun H' aS aC nS nC ne Sa sm => ?_⟩
  have T' : LamX.Tabs T H' := hT.ext sm
  refine ⟨⟨fun b => (b = aS ∨ b = aC) ∨ ∃ p, p ∈ T ∧ b = p.1, some (aS, aC), T⟩, fun _ => none, List.replicate (N'.length + 2) none, some { openSt ns with tb := T }, r, z1, ?_, ⟨⟨ne, Sa.s, Sa.c⟩, T', fun st e => by cases e; rfl⟩, h1, ?_⟩
  · have no : ∀ i d, (List.replicate (N'.length + 2) (none : Option VL.D))[i]? = some (some d) → False := fun i d h => by
      rw [List.getElem?_replicate] at h
      split at h <;> cases h
    refine ⟨by simp [L2.start], fun i d h _ => (no i d h).elim, fun i d h _ => (no i d h).elim, fun i e => ?_, fun i a e => (by cases e), fun i j a e => (by cases e), fun b hb => ?_, fun b hb => ?_⟩
    · cases e
      exact ⟨aS, aC, rfl, rfl⟩
    · rcases hb with (rfl | rfl) | ⟨p, hp, rfl⟩
      · rw [Sa.s]; exact .inl trivial
      · rw [Sa.c]; exact .inl trivial
      · obtain ⟨ps, h3, _⟩ := T' p hp
        exact .inr ⟨ps, h3⟩
    · rcases hb with ⟨aS', aC', e, h⟩ | h
      · cases e
        exact .inl h
      · exact .inr h
  · cases r with
    | rt d =>
      cases h2
      intro v H' _ _ q
      cases q
      exact fin H'
    | nx ρ' => cases h2
    | bk ρ' => cases h2
    | ct ρ' => cases h2
end
end VL
set_option Elab.async false
set_option linter.all false
set_option maxRecDepth 100000
set_option maxHeartbeats 4000000
/-! The value layer, part 26: the law is called. -/
namespace VL
open PySem PySem.Spec PyProof.Rows L2
/-- the heap as it is told of at the law's call: tables, and the script where the frozen part does not hold it -/
def topH (K : PySem.W.Frag) (a : Addr) (o : Obj) (xs : List V) (tb : List Addr) : Hp := fun b =>
  if b ∈ tb then some (.tbl #[]) else if b = a ∧ K.lookup a = none then some (.frz o (.lst xs)) else none
section
variable {K : PySem.W.Frag} {a b : Addr} {o : Obj} {xs : List V} {tb : List Addr} {u : HO}
theorem topH_tb (h : b ∈ tb) : topH K a o xs tb b = some (.tbl #[]) := if_pos h
theorem topH_cases (h : topH K a o xs tb b = some u) : (b ∈ tb ∧ u = .tbl #[]) ∨ (b ∉ tb ∧ b = a ∧ K.lookup a = none ∧ u = .frz o (.lst xs)) := by
  unfold topH at h
  split at h
  · rename_i c
    cases h
    exact .inl ⟨c, rfl⟩
  · rename_i c
    split at h
    · rename_i c2
      cases h
      exact .inr ⟨c, c2.1, c2.2, rfl⟩
    · cases h
end
theorem law_callG {P : Program} {w : World} {K : PySem.W.Frag} {mg mb : Str → Option Value} {k : Nat} {fa a : Addr} {cs : List (Addr × Addr)} {fd : FuncData} {x : Str} {sp : Sp} {t : Shared} {vs : List Value} {ns : List Int}
    (kin : K.In t.heap) (hns : t.heap.Ns mainGlobals mg) (hb : t.heap.Ns builtinsNs mb) (hbb : ∀ x : Str, x ≠ "__name__" → mb x = bootBuiltins x) (hlim : t.heap.NoLimit) (hg : t.gens = #[])
    (tab : ∀ p ∈ cs, t.heap.get? p.2 = some { cls := .none, data := .fields #[] }) (ntab : ∀ p ∈ cs, K.lookup p.2 = none) (hd : ∀ p ∈ cs, PySem.W.CodeHd t.heap p.1 p.2)
    (bmain : ∃ (bm : Addr) (ob : Obj), mg "__builtins__" = some (.ref bm) ∧ bm ≠ builtinsNs ∧ t.heap.get? bm = some ob ∧ ob.cls = .type "module" ∧ ob.dict = some builtinsNs ∧ ob.data = .plain)
    (ha : t.heap.get? a = some { cls := .type "list", data := .seq vs.toArray }) (hi : IntsAre vs ns) (hl : ns.length ≤ sizeLine) (hr : Room k callerA)
    (F : ∀ base : Heap, K.In base → base.Ns mainGlobals mg → (∀ p ∈ cs, LamX.TabB base mg p.1 p.2) → FnG P w K mg base k fa fd [x] sp) (hbind : ∀ (s : Shared) (u : Value), BindsTo s fd ⟨[u], []⟩ [(x, u)])
    (hsp : ∀ (H : Hp) (Q : VK), (∀ p ∈ cs, H p.2 = some (.tbl #[])) → SqL K H a (ns.map V.int) → (∀ H', Q (.bl true) H') → sp [.ref a] H Q E0) :
    codeAny (model P w) callerA (.call (.ref fa) ⟨[.ref a], []⟩) (fun r s' => r = .ok (.ret (.bool true)) ∧ OldK t.heap s'.heap ∧ s'.os = t.os ∧ AllBare s'.gens) t := by
  have rv := vals_ints hi
  let tb := cs.map (·.2)
  let so : Obj := { cls := .type "list", data := .seq vs.toArray }
  let H := topH K a so (ns.map V.int) tb
  have tbG : ∀ b, b ∈ tb → t.heap.get? b = some { cls := .none, data := .fields #[] } := fun b h => by
    obtain ⟨p, hp, rfl⟩ := List.mem_map.mp h
    exact tab p hp
  have tbK : ∀ b, b ∈ tb → K.lookup b = none := fun b h => by
    obtain ⟨p, hp, rfl⟩ := List.mem_map.mp h
    exact ntab p hp
  have a_tb : a ∉ tb := fun h => by
    have e := (tbG a h).symm.trans ha
    cases e
  have inTb : ∀ p, p ∈ cs → p.2 ∈ tb := fun p hp => List.mem_map.mpr ⟨p, hp, rfl⟩
  have hTb : ∀ p ∈ cs, H p.2 = some (.tbl #[]) := fun p hp => topH_tb (inTb p hp)
  -- an object that is neither a list nor a table is not told of
  have off : ∀ (b : Addr) (o : Obj), t.heap.get? b = some o → (∀ v n, o.data ≠ .seq v n) → o.data ≠ .fields #[] → H b = none := fun b o e n1 n2 => by
    cases q : H b with
    | none => rfl
    | some u =>
      rcases topH_cases q with ⟨h, _⟩ | ⟨_, rfl, _, _⟩
      · have z := (tbG b h).symm.trans e
        cases z
        exact (n2 rfl).elim
      · have z := ha.symm.trans e
        cases z
        exact (n1 _ _ rfl).elim
  have ns_ : ∀ (b : Addr) (m : Str → Option Value), t.heap.Ns b m → (hidT t.heap H).Ns b m := fun b m ⟨o, es, ep, e, d, r⟩ =>
    ⟨o, es, ep, hidT_get e (off b o e (fun v n z => by rw [d] at z; cases z) fun z => by rw [d] at z; cases z), d, r⟩
  have kinH : K.In (hidT t.heap H) := fun b o e => hidT_get (kin b o e) (by
    cases q : H b with
    | none => rfl
    | some u =>
      rcases topH_cases q with ⟨h, _⟩ | ⟨_, rfl, h, _⟩
      · rw [tbK b h] at e; cases e
      · rw [h] at e; cases e)
  have md : L2.Mod K mg (hidT t.heap H) := by
    refine ⟨kinH, ns_ _ _ hns, ⟨mb, ns_ _ _ hb, hbb⟩, ?_⟩
    obtain ⟨m, h1, h2⟩ := hlim
    exact ⟨m, ns_ _ _ h1, h2⟩
  have tbs : ∀ p ∈ cs, LamX.TabB (hidT t.heap H) mg p.1 p.2 := fun p hp => by
    obtain ⟨og, esg, epg, eg, dg, _⟩ := hns
    have gt : mainGlobals ≠ p.2 := fun z => by
      rw [z, tab p hp] at eg
      cases eg
      cases dg
    refine ⟨?_, ?_, gt⟩
    · obtain ⟨oc, us, file, tf, flags, tg, inF, text, tt, e1, r1, r2, r3, more⟩ := hd p hp
      exact ⟨oc, us, file, tf, flags, tg, inF, text, tt, hidT_get e1 (off _ oc e1 (fun v n z => by rw [r2] at z; cases z) fun z => by rw [r2] at z; cases z; simp at r3), r1, r2, r3, more⟩
    · obtain ⟨bm, ob, b1, b2, b3, b4, b5, b6⟩ := bmain
      refine ⟨bm, ob, b1, b2, fun z => ?_, fun z => ?_, hidT_get b3 (off bm ob b3 (fun v n z => by rw [b6] at z; cases z) fun z => by rw [b6] at z; cases z), b4, b5, b6⟩
      · rw [z, eg] at b3
        cases b3
        rw [dg] at b6
        cases b6
      · rw [z, tab p hp] at b3
        cases b3
        cases b6
  have okH : HOk P w H t.heap := fun b u e => by
    rcases topH_cases e with ⟨h, rfl⟩ | ⟨_, rfl, _, rfl⟩
    · exact tbG b h
    · exact ⟨ha, by rw [List.length_map]; exact hl, vs, _, rv, ha⟩
  have script : SqL K H a (ns.map V.int) := by
    cases e : K.lookup a with
    | none => exact .inl (.inr ⟨so, by
        show topH K a so (ns.map V.int) tb a = _
        unfold topH
        rw [if_neg a_tb, if_pos ⟨rfl, e⟩]⟩)
    | some o =>
      have z := (kin a o e).symm.trans ha
      cases z
      exact .inr ⟨_, vs.toArray, _, e, rfl, rfl, rfl, by rw [List.size_toArray, hi.length]; exact hl, by simpa using rv⟩
  have e0 : Env0 P w K mg (hidT t.heap H) callerA [] t H := by
    refine ⟨rfl, md, fun b o e => of_hidT e, Nat.le_of_eq (hidT_size _ _), trivial, fun b hb => ?_, okH, .of_eq hg⟩
    exact (List.not_mem_nil hb).elim
  have run := (F _ kinH (ns_ _ _ hns) tbs).run callerA [] t H ⟨[.ref a], []⟩ [.ref a] [.ref a] (fun v _ => v = .bl true) rfl hr e0 (hbind t (.ref a)) (.cons rfl .nil) (hsp H _ hTb script fun _ => rfl)
  refine codeAny_mono run fun r t' h => ?_
  cases r with
  | error e => exact False.elim h
  | ok fl =>
    cases fl with
    | next => exact False.elim h
    | brk => exact False.elim h
    | cont => exact False.elim h
    | ret u =>
      obtain ⟨v, H', os, bare, un, ok', rv', rfl⟩ := h
      obtain rfl : u = Value.bool true := rv'
      have stays : ∀ b o, b ∉ tb → t.heap.get? b = some o → t'.heap.get? b = some o := fun b o nb e => by
        cases q : H b with
        | none => exact un.keep b o e q (fun z => List.not_mem_nil z) (fun z => List.not_mem_nil z)
        | some u =>
          rcases topH_cases q with ⟨h, _⟩ | ⟨_, rfl, _, rfl⟩
          · exact absurd h nb
          · obtain rfl : so = o := Option.some.inj (ha.symm.trans e)
            exact (ok' _ _ (un.frzs _ _ _ q)).1
      have grows : ∀ p ∈ cs, ∃ more : Array Value, t'.heap.get? p.2 = some { cls := .none, data := .fields more } := fun p hp => by
        obtain ⟨more, z⟩ := un.tbls p.2 #[] (hTb p hp)
        exact ⟨_, ok' p.2 _ z⟩
      refine ⟨rfl, ⟨fun b o e => ?_, fun b o e => ?_⟩, os, bare⟩ <;> by_cases hb : b ∈ tb
      · obtain ⟨p, hp, rfl⟩ := List.mem_map.mp hb
        obtain ⟨more, hm⟩ := grows p hp
        obtain rfl : _ = o := Option.some.inj ((tab p hp).symm.trans e)
        exact .inr (.inl ⟨((hd p hp).tab (tab p hp)).isCodeTable, rfl, #[], more, rfl, by rw [Array.empty_append]; exact hm⟩)
      · exact .inl (stays b o hb e)
      · obtain ⟨p, hp, rfl⟩ := List.mem_map.mp hb
        obtain ⟨more, hm⟩ := grows p hp
        exact ⟨_, hm⟩
      · exact ⟨o, stays b o hb e⟩
/-- what is asked of the law at the heap in which it is called -/
def LawG (l : PySem.W.OpenLaw) (w : World) (K : PySem.W.Frag) (k n : Nat) (x : Str) (mg : Str → Option Value) (fa : Addr) (h : Heap) : Prop :=
  ∃ (fd : FuncData) (cs : List (Addr × Addr)) (sp : Sp), (∀ p ∈ cs, h.get? p.2 = some { cls := .none, data := .fields #[] }) ∧ (∀ p ∈ cs, K.lookup p.2 = none) ∧ (∀ p ∈ cs, PySem.W.CodeHd h p.1 p.2) ∧ (∀ (s : Shared) (u : Value), BindsTo s fd ⟨[u], []⟩ [(x, u)]) ∧
    (∀ (H : Hp) (Q : VK) (a : Addr) (ns : List Int), ns.length ≤ n → (∀ z ∈ ns, Builtin.Int.intBits z ≤ 1048576) → (∀ p ∈ cs, H p.2 = some (.tbl #[])) → SqL K H a (ns.map V.int) → (∀ H', Q (.bl true) H') → sp [.ref a] H Q E0) ∧
    ∀ base : Heap, K.In base → base.Ns mainGlobals mg → (∀ p ∈ cs, LamX.TabB base mg p.1 p.2) → FnG l.prog w K mg base k fa fd [x] sp
theorem walkG {l : PySem.W.OpenLaw} {n k : Nat} {q : Program} {loose : List Str} {XP : (Str → Option Value) → Heap → Prop} {YP : World → Heap → Prop} {d : DefRec} {K : Params → PySem.W.Frag} {x : Str} (hn : l.most = some n) (hn2 : n ≤ sizeLine) (hdf : d.params.defaults = []) (hr : Room k callerA)
    (hY : ∀ (w : World) (h : Heap), YP w h → (K w.params).In h) (F : ∀ (w : World) (mg : Str → Option Value) (fa : Addr) (h : Heap), YP w h → (K w.params).In h → h.Ns mainGlobals mg → mg d.name = some (.ref fa) → LawG l w (K w.params) k n x mg fa h) :
    PySem.W.WalkO q loose XP YP l.row.toRowW d [] (fun f vs => PySem.call f vs) := by
  refine Att.attach_callB hn hdf fun w s0 t mg mb fa o pm cd doc a vs ns G Y _ _ _ hmg ho hints hlen bits hg => ?_
  have kin := hY w _ Y
  obtain ⟨fd, cs, sp, h1, h2, h3, h4, h5, h6⟩ := F w mg fa _ Y kin G.T.g hmg
  exact law_callG kin G.T.g G.T.b G.T.builtins G.T.nolimit hg h1 h2 h3 G.T.bmain ho hints (Nat.le_trans hlen hn2) hr h6 h4 fun H Q hH hS hQ => h5 H Q a ns hlen bits hH hS hQ
end VL
set_option Elab.async false
set_option linter.all false
set_option maxRecDepth 100000
set_option maxHeartbeats 4000000
/-! The value layer, part 27: a lambda as the key of sorted. -/
namespace VL
open PySem PySem.Spec PyProof.Rows L2 LamX
section
variable {X : Cx} {pins : List (Addr × Obj)} {σ : L2.St} {H : Hp} {s : Shared}
/-- what the making of a lambda does to what is told of the heap -/
def Made (P c : Addr) (q : Str) (H H1 : Hp) : Prop := H1 = H ∨ ∃ ps, H c = none ∧ H1 = upd (upd H P (.tbl ps)) c (CodeO c q)
theorem Made.kp {P c : Addr} {q : Str} {H H1 : Hp} {W : Addr → Prop} (h : Made P c q H H1) (hP : W P) : Kp W H H1 := by
  rcases h with rfl | ⟨ps, hc, rfl⟩
  · exact Kp.refl
  · intro b o e n
    rw [upd_ne (ne_of_none e hc), upd_ne (fun z : b = P => n (by rw [z]; exact hP))]
    exact e
theorem lam_mk {T : List (Addr × Str)} {c P : Addr} {q : Str} {params : Arguments} {body : Expr} {scope : Scope} {pos : Pos} {E : Value → Shared → Prop} {Q : Value → Shared → Prop} (I : Inv X pins σ H s) (TB : TabB X.base X.mg c P) (code : X.env.code = .ref c)
    (eq : X.env.qual ++ "<lambda>" = q) (mem : (P, q) ∈ T) (only : ∀ p ∈ T, p.1 = P → p.2 = q) (tabs : Tabs T H) (hdef : defaultsOf params X.env = ([], [])) (free : ∀ y ∈ scope.names, y.2 = .free → ∃ c, X.env.cells.lookup y.1 = some c)
    (h : ∀ (f c' : Addr) (pm ctv : Value) (H1 : Hp) (s' : Shared), Inv X pins σ H1 s' → Made P c' q H H1 → Tabs T H1 → s'.heap.get? f = some (PySem.W.kla_obj "<lambda>" q params body scope (cloFrom X.env.cells scope.names []) pm c' ctv) → H1 f = none → H1 c' = some (CodeO c' q) → Q (.ref f) s') :
    wpAny (model X.prog X.w) X.A (eval (.Lambda params body scope pos) X.env) Q E s := by
  subst eq
  obtain ⟨ps, tP, trip, known⟩ := tabs _ mem
  have atP : s.heap.get? P = some { cls := .none, data := .fields ps } := I.hok P _ tP
  have bm : s.heap.BuiltinsAt X.mg P := TB.bm.keeps I.bk
  have gl := I.mod.glob.keeps I.bk
  have hd := TB.code.keeps I.bk
  refine PySem.W.kla_eval hdef ?_
  cases look : codeAmong pos ps.toList with
  | some cv =>
    obtain ⟨c', rfl, ec⟩ := known pos cv look
    exact PySem.W.kla_makeFunctionHit (mg := X.mg) (c := c) (P := P) (ps := ps) (closure_ok free) I.ok.glob gl code hd atP trip look bm fun ctv h' tk hx hsz =>
      h _ c' ((X.mg "__name__").getD .none) ctv H _ (I.kept (s := s) (t' := tk) fun b o e => Heap.get?_push_of_some _ (hx b o e)) (.inl rfl) tabs (Heap.get?_push_size _ rfl) (I.hok.fresh hsz) ec
  | none =>
    refine PySem.W.kla_makeFunction (mg := X.mg) (c := c) (P := P) (ps := ps) (closure_ok free) I.ok.glob gl code hd atP trip look TB.gP bm fun c' ctv h' tk hx hge hlt hrec htb => ?_
    obtain ⟨c2, oc, us, t, e2, hoc, hdt, hv⟩ := hrec
    cases e2
    have big : s.heap.objs.size ≤ h'.objs.size := Nat.le_trans hge (Nat.le_of_lt hlt)
    have cN : H c' = none := I.hok.fresh hge
    have I1 := inv_table (t' := tk) (more := #[rawInt pos.line, rawInt pos.col, .ref c']) (h' := h'.push (PySem.W.kla_obj "<lambda>" (X.env.qual ++ "<lambda>") params body scope (cloFrom X.env.cells scope.names []) ((X.mg "__name__").getD .none) c' ctv)) I tP
      (fun b o hb e => Heap.get?_push_of_some _ (hx b o hb e)) (Heap.get?_push_of_some _ htb) hge ⟨oc, us, t, Heap.get?_push_of_some _ hoc, hdt, hv⟩
    have keep : ∀ b o, H b = some o → b ≠ P → upd (upd H P (.tbl (ps ++ #[rawInt pos.line, rawInt pos.col, .ref c']))) c' (CodeO c' (X.env.qual ++ "<lambda>")) b = some o := fun b o e n => by
      rw [upd_ne (ne_of_none e cN), upd_ne n]; exact e
    have noP : ∀ b r, H b = some (CodeO b r) → b ≠ P := fun b r e z => by
      subst z; rw [tP] at e; exact codeO_ne _ (Option.some.inj e).symm
    refine h h'.objs.size c' _ ctv _ _ I1 (.inr ⟨_, cN, rfl⟩) (fun p hp => ?_) (Heap.get?_push_size _ rfl) ?_ upd_same
    · by_cases hb : p.1 = P
      · refine ⟨ps ++ #[rawInt pos.line, rawInt pos.col, .ref c'], by rw [hb, upd_ne (ne_of_none tP cN), upd_same], ?_, fun p' cv hcv => ?_⟩
        · rw [Array.toList_append]; exact PySem.TriplesOk_snoc _ _ _ _ trip
        · rw [Array.toList_append] at hcv
          rw [only p hp hb]
          rcases among_app _ trip hcv with z | z
          · obtain ⟨c0, e1, e2⟩ := known p' cv z
            exact ⟨c0, e1, keep _ _ e2 (noP _ _ e2)⟩
          · exact ⟨c', z, upd_same⟩
      · obtain ⟨ps', a1, a2, a3⟩ := tabs p hp
        refine ⟨ps', keep _ _ a1 hb, a2, fun p' cv hcv => ?_⟩
        obtain ⟨c0, e1, e2⟩ := a3 p' cv hcv
        exact ⟨c0, e1, keep _ _ e2 (noP _ _ e2)⟩
    · rw [upd_ne (Nat.ne_of_gt hlt), upd_ne (Nat.ne_of_gt (Nat.lt_of_lt_of_le (Heap.lt_size atP) big))]
      exact I.hok.fresh big
end
end VL
set_option Elab.async false
set_option linter.all false
set_option maxRecDepth 100000
set_option maxHeartbeats 4000000
/-! The value layer, part 28: sorted of a tuple by a key; the key (len(x), x). -/
namespace VL
open PySem PySem.Spec PyProof.Rows L2 LamX PySem.W PySem.Calls
section
variable {prog : Program} {w : World} {A : Around} {E : Value → Shared → Prop} {s : Shared} {l : Addr} {us : List Value}
variable {β : Type} {bs : List β} {R : Value → β → Prop}
theorem sortedT_key {f : Value} {kw : List (Str × Value)} {b : Bool} {Q : Value → Shared → Prop} (k : β → PyData) (ht : IsTup s.heap l us.toArray) (e : EachIs R us bs) (al : AllAlike (bs.map k)) (so : Sortable (bs.map k)) (hz : bs.length ≤ sizeLine) (hu : ∀ x, x ∈ bs → A.units + 2 + (k x).depth < cLine)
    (a1 : argsOk "sorted" ⟨[.ref l], kw⟩) (a2 : ∀ x, argsOk "list.sort" ⟨[.ref x], kw⟩) (tree : ∀ x, Builtin.«list.sort» ⟨[.ref x], kw⟩ = ksk_tree x f b)
    (turn : ∀ (v : Value) (x : β), R v x → x ∈ bs → ∀ (h : Heap) (tk : Nat), (∀ b o, s.heap.get? b = some o → h.get? b = some o) → wpAny (model prog w) A.in1.in1 (call f [v]) (KeyPure (k x) { s with heap := h, toks := tk }) (fun _ _ => False) { s with heap := h, toks := tk })
    (fin : ∀ out c h' tk, (∀ b o, s.heap.get? b = some o → h'.get? b = some o) → h'.get? (s.heap.objs.size + 1) = some (seqObj "list" (List.toArray out) c) → EachIs R out (bs.mergeSort (dataLe b k)) → Q (.ref (s.heap.objs.size + 1)) { s with heap := h', toks := tk }) :
    wpAny (model prog w) A (call (.builtin "sorted") [.ref l] kw) Q E s := by
  have len := e.length
  have up : ∀ g : Heap, KeepsBut (s.heap.objs.size + 1) (copyHeap s.heap us) g → ∀ b o, s.heap.get? b = some o → g.get? b = some o := fun g kp b o q => kp b o (Nat.ne_of_lt (Nat.lt_succ_of_lt (Heap.lt_size q))) (copyHeap_old q)
  refine sortedT ht (by rw [len]; exact hz) a1 a2 fun E' => ?_
  rw [tree]
  refine keyH_tree (kz := bs.map k) (s := { s with heap := copyHeap s.heap us }) (copyHeap_at s.heap us) (by rw [List.length_map, len]) (by rw [len]; exact hz) al so (bound_map (A := A.in1.in1) hu) (keyH_turns (s := { s with heap := copyHeap s.heap us }) e fun v x hR hx h tk kp => turn v x hR hx h tk (up h kp)) fun h' tk out c kp hD ko => ?_
  exact ⟨rfl, fin out c h' tk (up h' kp) hD (keyedOut_each k ko e)⟩
end

/-! ### (len(x), x) -/
section
variable {prog : Program} {w : World} {A : Around} {E : Value → Shared → Prop} {s : Shared} {a : Addr} {its : Array Value} {env : PySem.Env} {x : Str} {mg mb m2 : Str → Option Value} {p1 p2 p3 p4 pos : Pos} {j : Nat}
theorem key_len (hk : env.scope.kind = .function) (hx : env.kindOf x = some .local) (hl : env.kindOf "len" = some .globalImplicit) (gG : env.globals = mainGlobals) (gB : env.builtins = builtinsNs) (n2 : s.heap.Ns env.locals m2) (hv : m2 x = some (.ref a))
    (ng : s.heap.Ns mainGlobals mg) (hm : mg "len" = none) (nb : s.heap.Ns builtinsNs mb) (hb : mb "len" = some (.builtin "len")) (ht : IsTup s.heap a its) (fit : (its.size : Int) < 2 ^ 63) {Q : Value → Shared → Prop}
    (q : Q (.ref s.heap.objs.size) { s with heap := s.heap.push { cls := .type "tuple", data := .seq #[.int its.size (s.toks + 1), .ref a] }, toks := s.toks + 1 + 1 }) (hd : (x == ("__debug__" : Str)) = false := by decide) :
    wpAny (model prog w) A (eval (.Tuple [.Call (.Name "len" p1) [.Name x p2] [] p3, .Name x p4] j pos) env) Q E s := by
  refine wpAny_Tuple ?_
  show wpAny _ _ (spliced ((false, eval (.Call (.Name "len" p1) [.Name x p2] [] p3) env) :: backTo pos ((false, eval (.Name x p4) env) :: []))) _ _ s
  refine Calls.spliced_cons ?_
  refine wpAny_Call_Name_kw (Calls.Name_function_global hk hl (Calls.loadGlobal_builtin (by rw [gG]; exact ng) hm (by rw [gB]; exact nb) hb ?_) (by decide))
  refine PyProof.Rows.callWith_builtin1 (rest := []) ?_
  show wpAny _ _ (spliced ((false, eval (.Name x p2) env) :: [])) _ _ s
  refine Calls.spliced_cons (wpAny_Name (wpAny_loadName_local hk hx n2 hv (Calls.spliced_nil ?_)) hd)
  refine len_tuple ht fit ?_
  show wpAny _ _ (spliced ((false, eval (.Name x p4) env) :: [])) _ _ _
  refine Calls.spliced_cons (wpAny_Name (wpAny_loadName_local hk hx n2 hv (Calls.spliced_nil ?_)) hd)
  exact ⟨by show 2 ≤ sizeLine; decide, q⟩
end
end VL
set_option Elab.async false
set_option linter.all false
set_option maxRecDepth 100000
set_option maxHeartbeats 4000000
/-! The value layer, part 29: sorted(x, key=lambda y: (len(y), y)) of a tuple of flat tuples. -/
namespace VL
open PySem PySem.Spec PyProof.Rows L2 LamX Classical
def flatT : D → Bool
  | .tuple ds => ds.all flatData
  | _ => false
def keyLenT : D → D
  | .tuple ds => .tuple [.int ds.length, .tuple ds]
  | d => d
def sortedByOk (xs : List D) : Bool := xs.all (fun x => flatT x && decide ((keyLenT x).depth ≤ 60)) && (xs.all fun x => xs.all fun y => PySem.W.alike (keyLenT x) (keyLenT y)) && decide (xs.length ≤ sizeLine)
def sortedByD : D → Option D
  | .tuple xs => if sortedByOk xs then some (.list (xs.mergeSort (PySem.W.dataLe false keyLenT))) else none
  | _ => none
theorem reads_flat {h : Heap} : ∀ {vs : List Value} {ds : List D} {as : List Addr}, ds.all flatData = true → ReadsAll h vs ds as → as = []
  | _, _, _, _, .nil => rfl
  | _, _, _, hf, .cons r t => by
    simp only [List.all_cons, Bool.and_eq_true] at hf
    rw [(flat_of_reads hf.1 r).2, reads_flat hf.2 t]
    rfl
theorem flat_plain : ∀ {ds : List D}, ds.all flatData = true → (PyData.tuple ds).plain = true
  | [], _ => rfl
  | d :: ds, h => by
    simp only [List.all_cons, Bool.and_eq_true] at h
    have t : PyData.plainAll ds = true := flat_plain h.2
    have hd : d.plain = true := by
      have := h.1
      cases d <;> first | rfl | cases this
    show PyData.plainAll (d :: ds) = true
    simp [PyData.plainAll, hd, t]
section
variable {X : Cx} {pins : List (Addr × Obj)} {σ : L2.St} {H : Hp} {s : Shared} {x : Str} {p1 p2 p3 p4 bpos : Pos} {j k : Nat}
/-- the scope of lambda x: (len(x), x) -/
structure KeyS (scope : Scope) (x : Str) : Prop where
  kind : scope.kind = .function
  co : scope.isCoroutine = false
  gen : scope.isGenerator = false
  x : scope.names.lookup x = some .local
  len : scope.names.lookup ("len" : Str) = some .globalImplicit
  own : ∀ y ∈ scope.names, y.2 ≠ .cell ∧ y.2 ≠ .free
theorem key_call {N : Addr → Prop} {scope : Scope} {params : Arguments} {q : Str} {cl : List (Str × Addr)} {pm ctv : Value} {f c' a : Addr} {ds : List D} (hr : Room k X.A) (I : Inv X pins σ H s) (S : KeyS scope x)
    (hf : s.heap.get? f = some (PySem.W.kla_obj "<lambda>" q params (.Tuple [.Call (.Name "len" p1) [.Name x p2] [] p3, .Name x p4] j bpos) scope cl pm c' ctv)) (hc : H c' = some (CodeO c' q)) (hm : X.mg "len" = none)
    (bind : ∀ v : Value, bindArgs (PySem.W.kla_fn "<lambda>" q params (.Tuple [.Call (.Name "len" p1) [.Name x p2] [] p3, .Name x p4] j bpos) scope cl pm (.ref c') ctv) ⟨[v], []⟩ = pure [(x, v)])
    (qd : Rp X.w N H (.ref a) (.tuple ds)) (fl : ds.all flatData = true) (plain : (PyData.tuple ds).plain = true) (hd : (x == ("__debug__" : Str)) = false := by decide) :
    wpAny (model X.prog X.w) X.A.in1.in1 (call (.ref f) [.ref a]) (PySem.W.KeyPure (.tuple [.int ds.length, .tuple ds]) s) (fun _ _ => False) s := by
  obtain ⟨⟨oc, us, t, hoc, hdc, hvc⟩, _, _⟩ := I.hok c' _ hc
  obtain ⟨xs, hT, _, ra⟩ : ∃ xs, H a = some (.tup xs) ∧ ¬ N a ∧ RpAll X.w N H xs ds := by
    cases qd with
    | tup h n r => exact ⟨_, h, n, r⟩
  obtain ⟨its, rv, pl, hz⟩ := I.tuple (SqT.of hT)
  obtain ⟨as, rd⟩ := Dp.reads I _ _ (.ref a) (qd.dp (K := X.K) plain) rfl
  have rd0 : Reads s.heap (.ref a) (.tuple ds) [] := by
    cases rd with
    | tuple h1 h2 h3 h4 =>
      have z := reads_flat fl h4
      subst z
      exact .tuple h1 h2 h3 h4
  obtain ⟨mb, nb, hbb⟩ := I.mod.blt
  have l63 := line63
  have e1 : its.toArray.size = ds.length := by rw [List.size_toArray, ← rv.length, ra.length]
  have rc : codeAny (model X.prog X.w) X.A.in1.in1 (.call (.ref f) ⟨[.ref a], []⟩) (fun r s' => ∃ u, r = .ok (.ret u) ∧ PySem.W.KeyPure (.tuple [.int ds.length, .tuple ds]) s u s') s := by
    refine PySem.W.kla_callFunE (by have := hr.depth; exact this) hf rfl S.co S.gen rfl ⟨c', oc, us, t, rfl, hoc, hdc, hvc⟩ ?_
    rw [bind]
    refine wpAny_pure (wpAny_newFunctionEnv (fun y hy => (S.own y hy).1) (fun y hy => by rw [List.mem_singleton.mp hy]; exact S.x) (fun h₁ hns hsb => ⟨I.nolimit.fresh _ hsb, ?_⟩) S.kind)
    have kp : ∀ b o, s.heap.get? b = some o → h₁.get? b = some o := fun b o e => hsb.extBut b o (Nat.ne_of_lt (Heap.lt_size e)) (Heap.get?_push_of_some _ e)
    show codeAny _ _ (.expr _ (PySem.W.envX q scope s.heap.objs.size f (.ref c') cl)) _ _
    have l2 := rv.length
    refine PySem.W.kla_codeExpr (key_len (env := PySem.W.envX q scope s.heap.objs.size f (.ref c') cl) (m2 := fun y => [(x, Value.ref a)].reverse.lookup y) (mg := X.mg) (mb := mb) (a := a) (its := its.toArray) S.kind S.x S.len rfl rfl hns (by simp) ((I.mod.glob.keeps I.bk).keeps kp) hm ((nb.keeps I.bk).keeps kp) ((hbb "len" (by decide)).trans rfl) (pl.keeps kp) (by rw [List.size_toArray]; omega) ?_ hd)
    refine ⟨_, rfl, _, _, rfl, fun b o e => Heap.get?_push_of_some _ (kp b o e), ?_⟩
    have up : ∀ b o, s.heap.get? b = some o → (h₁.push { cls := .type "tuple", data := .seq #[.int its.toArray.size (s.toks + 1 + 1), .ref a] }).get? b = some o := fun b o e => Heap.get?_push_of_some _ (kp b o e)
    rw [e1]
    refine .tuple (as := [] ++ ([] ++ [])) (Heap.get?_push_size _ rfl) rfl rfl (.cons (.int _ _) (.cons (PyProof.Rows.Reads.keeps (fun b o e => Heap.get?_push_of_some _ (kp b o e)) rd0) .nil))
  refine wpAny_call (codeAny_mono rc fun r s' hq => ?_)
  obtain ⟨u, rfl, hq⟩ := hq
  exact hq

/-- the table at P is that of the lambdas of the name q -/
def tbOk (P : Addr) (q : Str) (tb : List (Addr × Str)) : Prop := (P, q) ∈ tb ∧ ∀ t ∈ tb, t.1 = P → t.2 = q
noncomputable def eSortBy (P : Addr) (q : Str) (f : DE) : DE := fun ρ z => (f ρ z).bind fun p => match p.2 with
  | some st => if tbOk P q st.tb then (sortedByD p.1).map fun d => (d, some st) else none
  | none => none
theorem vf_sortedBy {m : List Nat} {sl : Option Nat} {e : Expr} {f : DE} {params : Arguments} {scope : Scope} {c P : Addr} {q : Str} {p pos lpos kp : Pos} (hr : Room k X.A) (hg : Gl X "sorted") (hm : X.mg "sorted" = none) (hml : X.mg "len" = none) (TB : TabB X.base X.mg c P) (code : X.env.code = .ref c)
    (he : VR m sl X e f) (S : KeyS scope x) (hq : X.env.qual ++ "<lambda>" = q := by rfl) (hdef : defaultsOf params X.env = ([], []) := by rfl)
    (bind : ∀ (cl : List (Str × Addr)) (pm cdv ctv v : Value), bindArgs (PySem.W.kla_fn "<lambda>" q params (.Tuple [.Call (.Name "len" p1) [.Name x p2] [] p3, .Name x p4] j bpos) scope cl pm cdv ctv) ⟨[v], []⟩ = pure [(x, v)] := by intros; rfl) (hd : (x == ("__debug__" : Str)) = false := by decide)
    (hst : backTo pos (starEach [e] X.env) = (false, eval e X.env) :: backTo pos (starEach [] X.env) := by rfl) (hpl : (backTo pos (starEach [e] X.env)).any (·.1) = false := by rfl)
    (hall : (backToKw pos (keywordEach [⟨some "key", .Lambda params (.Tuple [.Call (.Name "len" p1) [.Name x p2] [] p3, .Name x p4] j bpos) scope lpos, kp⟩] X.env)).all (·.1.isSome) = true := by rfl)
    (hnone : (backToKw pos (keywordEach [⟨some "key", .Lambda params (.Tuple [.Call (.Name "len" p1) [.Name x p2] [] p3, .Name x p4] j bpos) scope lpos, kp⟩] X.env)).any (·.1.isNone) = false := by rfl)
    (hks : (backToKw pos (keywordEach [⟨some "key", .Lambda params (.Tuple [.Call (.Name "len" p1) [.Name x p2] [] p3, .Name x p4] j bpos) scope lpos, kp⟩] X.env)).filterMap (·.1) = [Str.ofString "key"] := by rfl) :
    VF m sl X (.Call (.Name "sorted" p) [e] [⟨some "key", .Lambda params (.Tuple [.Call (.Name "len" p1) [.Name x p2] [] p3, .Name x p4] j bpos) scope lpos, kp⟩] pos) (eSortBy P q f) := ⟨fun pins s σ H g own ρ z d z' I J S0 hf => by
  obtain ⟨⟨dx, z1⟩, h1, h2⟩ := Option.bind_eq_some_iff.mp hf
  have hu := hr.units
  refine wpAny_Call_Name_kw (ld_blt I hg hm (by rfl) ?_ (by decide) (by decide))
  refine PyProof.Rows.callWith_kw ?_ hst hpl hall hnone
  rw [hst]
  show wpAny _ _ (spliced ((false, eval e X.env) :: [])) _ _ s
  refine Calls.spliced_cons (thn (he.run pins s σ H g own ρ z dx z1 I J S0 h1) fun u s1 ⟨v, H1, I1, r1, k1, S1, q1⟩ => Calls.spliced_nil ?_)
  cases z1 with
  | none => cases h2
  | some st =>
    have h2 : (if tbOk P q st.tb then (sortedByD dx).map fun d => (d, some st) else none) = some (d, z') := h2
    split at h2
    · rename_i ok
      obtain ⟨d2, h3, h4⟩ := Option.map_eq_some_iff.mp h2
      cases h4
      have etb := S1.2.2 st rfl
      rw [etb] at ok
      refine kwAll_cons (lam_mk I1 TB code hq ok.1 ok.2 S1.t hdef (fun y hy h => absurd h (S.own y hy).2) fun f c' pm ctv H2 s2 I2 made tabs hfo hfn hco => kwAll_nil ?_)
      have hP : g.src P := .inr ⟨_, ok.1, rfl⟩
      have k2 : Kp g.src H1 H2 := made.kp hP
      have J1 := J.keep k1 S1
      have S2 : SrcOk g H2 (some st) := by
        refine ⟨?_, tabs, S1.2.2⟩
        have sm := S1.m
        cases e : g.sa with
        | none => rw [e] at sm; exact sm
        | some p =>
          obtain ⟨aS, aC⟩ := p
          rw [e] at sm
          obtain ⟨ne, h5, h6⟩ := sm
          obtain ⟨ps, tP, _⟩ := S1.t _ ok.1
          have nP : ∀ b o, H1 b = some o → (∀ ps, o ≠ .tbl ps) → H2 b = some o := fun b o e n => by
            rcases made with rfl | ⟨ps2, hc, rfl⟩
            · exact e
            · rw [upd_ne (ne_of_none e hc), upd_ne fun z => by subst z; rw [tP] at e; exact n ps (Option.some.inj e).symm]
              exact e
          exact ⟨ne, nP _ _ h5 (fun _ z => nomatch z), nP _ _ h6 (fun _ z => nomatch z)⟩
      have J2 := J1.keep k2 S2
      have q2 := q1.keep J1 k2
      rw [hks]
      cases dx with
      | tuple xs =>
        have h3 : (if sortedByOk xs then some (PyData.list (xs.mergeSort (PySem.W.dataLe false keyLenT))) else none) = some d := h3
        split at h3
        · rename_i hz
          cases h3
          unfold sortedByOk at hz
          simp only [Bool.and_eq_true, decide_eq_true_eq, List.all_eq_true] at hz
          obtain ⟨⟨z1, z2⟩, z3⟩ := hz
          obtain ⟨A, ws, rfl, ha, _, ra⟩ := q2.tuple
          cases r1
          obtain ⟨its, rvs, hl, _⟩ := I2.tuple (SqT.of ha)
          have hlen := ra.length
          have e3 := zip_snd hlen
          have mem2 : ∀ p, p ∈ ws.zip xs → p.2 ∈ xs := fun p hp => by
            have := List.mem_map_of_mem (f := (·.2)) hp
            rw [e3] at this
            exact this
          have isT : ∀ d, d ∈ xs → ∃ ds, d = .tuple ds ∧ ds.all flatData = true := fun d hd => by
            have := (z1 d hd).1
            cases d with
            | tuple ds => exact ⟨ds, rfl, this⟩
            | _ => cases this
          refine sortedT_key (b := false) (R := fun u p => RelV p.1 u) (fun p : V × D => keyLenT p.2) hl (each_rel rvs hlen) (fun x hx y hy => ?_) (.inl fun d hd => ?_) (by rw [← List.length_map (f := (·.2)), e3]; exact z3) (fun p hp => ?_) (PyProof.Rows.ksk_s1 _ _) (fun _ => PyProof.Rows.ksk_l1 _ _) (fun x => PyProof.Rows.ksk_t1 _ _) (fun u p rp hp h tk hk => ?_) fun out c h' tk hk hD eo => ?_
          · obtain ⟨p, hp, rfl⟩ := List.mem_map.mp hx
            obtain ⟨p', hp', rfl⟩ := List.mem_map.mp hy
            exact z2 _ (mem2 p hp) _ (mem2 p' hp')
          · obtain ⟨p, hp, rfl⟩ := List.mem_map.mp hd
            obtain ⟨ds, e, _⟩ := isT _ (mem2 p hp)
            rw [e]
            exact ⟨_, _, rfl⟩
          · have := (z1 _ (mem2 p hp)).2
            omega
          · have qp := zip_all ra p hp
            obtain ⟨ds, e, fl⟩ := isT _ (mem2 p hp)
            obtain ⟨pv, pd⟩ := p
            have e : pd = .tuple ds := e
            subst e
            have I3 : Inv X pins σ H2 { s2 with heap := h, toks := tk } := I2.kept hk
            obtain ⟨T, rfl⟩ : ∃ T, pv = .ref T := by
              cases qp with
              | tup h n r => exact ⟨_, rfl⟩
            cases rp
            exact key_call hr I3 S (hk _ _ hfo) hco hml (bind _ _ _ _) qp fl (flat_plain fl) hd
          · have hl' : ((ws.zip xs).mergeSort (PySem.W.dataLe false fun p : V × D => keyLenT p.2)).length = xs.length := by
              rw [List.length_mergeSort, ← List.length_map (f := (·.2)), e3]
            have key := all_zip (ps := (ws.zip xs).mergeSort (PySem.W.dataLe false fun p : V × D => keyLenT p.2)) fun p hp => zip_all ra p (List.mem_mergeSort.mp hp)
            have em : ((ws.zip xs).mergeSort (PySem.W.dataLe false fun p : V × D => keyLenT p.2)).map (·.2) = xs.mergeSort (PySem.W.dataLe false keyLenT) := by
              rw [List.map_mergeSort (r := PySem.W.dataLe false fun p : V × D => keyLenT p.2) (f := fun p : V × D => p.2) (s := PySem.W.dataLe false keyLenT) (fun _ _ _ _ => rfl), e3]
            rw [em] at key
            have kk := k1.trans k2
            have fr : H2 (s2.heap.objs.size + 1) = none := I2.hok.fresh (Nat.le_succ _)
            refine ⟨s2.heap.objs.size + 1, upd H2 (s2.heap.objs.size + 1) (.lst (((ws.zip xs).mergeSort (PySem.W.dataLe false fun p : V × D => keyLenT p.2)).map (·.1))), I2.laid (t' := tk) hk (Nat.le_succ _) ?_, rfl, kk.trans (Kp.upd fr), S2.same (VL.same_upd fr), kk.none S2 fr, by rw [upd_same]; trivial, .lst upd_same (key.fresh fr)⟩
            exact ⟨by rw [List.length_map, hl']; exact z3, out, c, vals_each eo, hD⟩
        · cases h3
      | _ => cases h3
    · cases h2⟩
end
end VL
set_option Elab.async false
set_option linter.all false
set_option maxRecDepth 100000
set_option maxHeartbeats 4000000
/-! The value layer, part 30: defs as they stand at the law's call. -/
namespace VL
open PySem PySem.Spec PyProof.Rows L2
section
variable {K : PySem.W.Frag} {h : Heap} {mg : Str → Option Value} {x : Str} {st : Stmt} {f c : Addr} {oc kV doc pm cdv ct : Value} {od an : Option Addr} {osl : Array (Option Value)} {ps : List Str}
theorem def_mk (X : K.In h) (G : h.Ns mainGlobals mg) (a : PySem.W.nsIn K mainGlobals x = some (some (.ref f))) (l : K.lookup f = some ⟨oc, od, .func (PySem.W.fnOf x x (defArgs st) (defBody st) (defScope st) .none kV doc pm an cdv ct), osl⟩)
    (hc : PySem.W.codeIn K cdv x = true) (hk : PySem.W.keepIn K (.ref f) = true)
    (b : ∀ (kV doc pm : Value) (an : Option Addr) (cdv ct : Value) (us : List Value), us.length = ps.length → bindArgs (PySem.W.fnOf x x (defArgs st) (defBody st) (defScope st) .none kV doc pm an cdv ct) ⟨us, []⟩ = pure (ps.zip us)) :
    Def K mg x st f (PySem.W.fnOf x x (defArgs st) (defBody st) (defScope st) .none kV doc pm an cdv ct) ps :=
  ⟨fun_mk l hc hk, PySem.W.mg_of X G a, (fun_mk l hc hk).binds b⟩
theorem defC_mk (D : Def K mg x st f (PySem.W.fnOf x x (defArgs st) (defBody st) (defScope st) .none kV doc pm an (.ref c) ct) ps) (l : K.lookup f = some ⟨oc, od, .func (PySem.W.fnOf x x (defArgs st) (defBody st) (defScope st) .none kV doc pm an (.ref c) ct), osl⟩) :
    DefC K mg x st f (PySem.W.fnOf x x (defArgs st) (defBody st) (defScope st) .none kV doc pm an (.ref c) ct) ps c :=
  ⟨D, fun oc' od' kV' doc' pm' an' cdv' ct' osl' l' => by
    rw [l] at l'
    have e := congrArg (fun o : Option Obj => match o with | some ⟨_, _, .func fd, _⟩ => fd.code | _ => .none) l'
    exact e.symm⟩
/-- a def that makes lambdas of one name, its code object and its table -/
structure LamF (K : PySem.W.Frag) (h : Heap) (mg : Str → Option Value) (x : Str) (st : Stmt) (f : Addr) (fd : FuncData) (ps : List Str) (c P : Addr) : Prop where
  d : DefC K mg x st f fd ps c
  hd : PySem.W.CodeHd h c P
  tb : h.get? P = some (PySem.W.tabObj #[])
  nt : K.lookup P = none
/-- the law's own def -/
structure LawD (K : PySem.W.Frag) (mg : Str → Option Value) (x : Str) (st : Stmt) (f : Addr) (fd : FuncData) (y : Str) : Prop where
  d : Def K mg x st f fd [y]
  b : ∀ (s : Shared) (v : Value), BindsTo s fd ⟨[v], []⟩ [(y, v)]
theorem tabs_one {H : Hp} {P : Addr} {q : Str} (h : H P = some (.tbl #[])) : LamX.Tabs [(P, q)] H := fun p hp => by
  rw [List.mem_singleton.mp hp]
  exact LamX.TabS.nil h
theorem lawG_one {l : PySem.W.OpenLaw} {w : World} {k n nn : Nat} {fa c P : Addr} {fd : FuncData} {q : Str} {fb : DS} (LD : LawD K mg "law" st fa fd "script") (tb : h.get? P = some (PySem.W.tabObj #[])) (nt : K.lookup P = none) (hd : PySem.W.CodeHd h c P) (hn : n ≤ 1000)
    (plain : ∀ ns : List Int, ns.length ≤ n → ∃ z', (fb (List.replicate nn none) (some { openSt ns with tb := [(P, q)] })).bind endF = some (.bool true, z'))
    (F : ∀ base : Heap, K.In base → base.Ns mainGlobals mg → LamX.TabB base mg c P → FnG l.prog w K mg base k fa fd ["script"] (spL K nn fb)) : LawG l w K k n "script" mg fa h := by
  refine ⟨fd, [(c, P)], spL K nn fb, fun p hp => by rw [List.mem_singleton.mp hp]; exact tb, fun p hp => by rw [List.mem_singleton.mp hp]; exact nt, fun p hp => by rw [List.mem_singleton.mp hp]; exact hd, LD.b, fun H Q a ns hl _ hT hS hQ => ?_, fun base kin bns tb => F base kin bns (tb _ List.mem_cons_self)⟩
  obtain ⟨z', hp⟩ := plain ns hl
  exact ⟨rfl, a, ns, [(P, q)], z', rfl, hS, Nat.le_trans hl hn, tabs_one (hT _ List.mem_cons_self), hp, hQ⟩
theorem lawG_none {l : PySem.W.OpenLaw} {w : World} {k n nn : Nat} {fa : Addr} {fd : FuncData} {fb : DS} (LD : LawD K mg "law" st fa fd "script") (hn : n ≤ 1000)
    (plain : ∀ ns : List Int, ns.length ≤ n → ∃ z', (fb (List.replicate nn none) (some (openSt ns))).bind endF = some (.bool true, z'))
    (F : ∀ base : Heap, K.In base → base.Ns mainGlobals mg → FnG l.prog w K mg base k fa fd ["script"] (spL K nn fb)) : LawG l w K k n "script" mg fa h := by
  refine ⟨fd, [], spL K nn fb, fun p hp => (List.not_mem_nil hp).elim, fun p hp => (List.not_mem_nil hp).elim, fun p hp => (List.not_mem_nil hp).elim, LD.b, fun H Q a ns hl _ hT hS hQ => ?_, fun base kin bns tb => F base kin bns⟩
  obtain ⟨z', hp⟩ := plain ns hl
  exact ⟨rfl, a, ns, [], z', rfl, hS, Nat.le_trans hl hn, fun p hp => (List.not_mem_nil hp).elim, hp, hQ⟩
theorem CalV.of {P : Program} {w : World} {base : Heap} {j k n : Nat} {F : DFn} (h : CalV P w K mg base j x n F) (hk : j ≤ k := by omega) : CalV P w K mg base k x n F := h.up hk
end
end VL
set_option Elab.async false
set_option linter.all false
set_option maxRecDepth 100000
set_option maxHeartbeats 4000000
/-! The value layer, part 31: sorted by length, of a tuple too. -/
namespace VL
open PySem PySem.Spec PyProof.Rows L2
section
variable {m ml m' : List Nat} {sl : Option Nat} {X : Cx} {e a b : Expr} {f fa fb : DE} {x : Str} {p p2 px apos pos cpos kp : Pos} {i j : Nat}
def sortedLenT : D → Option D
  | .tuple xs => if xs.all isSeq && decide (xs.length ≤ sizeLine) then some (.list (xs.mergeSort (PySem.W.dataLe false lenK))) else none
  | _ => none
theorem vf_sortedLenT (hu : X.A.units + 64 < cLine) (hg : Gl X "sorted") (hm : X.mg "sorted" = none) (hgl : Gl X "len") (hml : X.mg "len" = none) (he : VR m sl X e f)
    (hst : backTo pos (starEach [e] X.env) = (false, eval e X.env) :: backTo pos (starEach [] X.env) := by rfl) (hpl : (backTo pos (starEach [e] X.env)).any (·.1) = false := by rfl)
    (hall : (backToKw pos (keywordEach [⟨some "key", .Name "len" p2, kp⟩] X.env)).all (·.1.isSome) = true := by rfl) (hnone : (backToKw pos (keywordEach [⟨some "key", .Name "len" p2, kp⟩] X.env)).any (·.1.isNone) = false := by rfl) (hks : (backToKw pos (keywordEach [⟨some "key", .Name "len" p2, kp⟩] X.env)).filterMap (·.1) = [Str.ofString "key"] := by rfl) :
    VF m sl X (.Call (.Name "sorted" p) [e] [⟨some "key", .Name "len" p2, kp⟩] pos) (e1 sortedLenT f) := ⟨fun pins s σ H g own ρ z d z' I J S hf => by
  obtain ⟨dx, h1, h2⟩ := e1_some hf
  refine wpAny_Call_Name_kw (ld_blt I hg hm (by rfl) ?_ (by decide) (by decide))
  refine PyProof.Rows.callWith_kw ?_ hst hpl hall hnone
  rw [hst]
  show wpAny _ _ (spliced ((false, eval e X.env) :: [])) _ _ s
  refine Calls.spliced_cons (thn (he.run pins s σ H g own ρ z dx z' I J S h1) fun u s1 ⟨v, H1, I1, r1, k1, S1, q1⟩ => Calls.spliced_nil ?_)
  refine kwAll_cons (ld_blt I1 hgl hml (by rfl) (kwAll_nil ?_) (by decide) (by decide))
  rw [hks]
  cases dx with
  | tuple xs =>
    have h2 : (if xs.all isSeq && decide (xs.length ≤ sizeLine) then some (PyData.list (xs.mergeSort (PySem.W.dataLe false lenK))) else none) = some d := h2
    split at h2
    · rename_i hz
      simp only [Bool.and_eq_true, decide_eq_true_eq, List.all_eq_true] at hz
      cases h2
      obtain ⟨A, ws, rfl, ha, _, ra⟩ := q1.tuple
      cases r1
      obtain ⟨its, rvs, hl, _⟩ := I1.tuple (SqT.of ha)
      have hlen := ra.length
      have e3 := zip_snd hlen
      have keyInt : ∀ d, d ∈ xs → ∃ n : Nat, lenK d = .int n := fun d hd => by
        have := hz.1 d hd
        cases d with
        | list ys => exact ⟨_, rfl⟩
        | tuple ys => exact ⟨_, rfl⟩
        | _ => cases this
      have mem2 : ∀ p, p ∈ ws.zip xs → p.2 ∈ xs := fun p hp => by
        have := List.mem_map_of_mem (f := (·.2)) hp
        rw [e3] at this
        exact this
      have keys : ∀ d, d ∈ (ws.zip xs).map (fun p : V × D => lenK p.2) → ∃ n : Nat, d = .int n := fun d hd => by
        obtain ⟨p, hp, e⟩ := List.mem_map.mp hd
        obtain ⟨n, hn⟩ := keyInt p.2 (mem2 p hp)
        exact ⟨n, by rw [← e, hn]⟩
      refine sortedT_key (b := false) (R := fun u p => RelV p.1 u) (fun p : V × D => lenK p.2) hl (each_rel rvs hlen) (fun x hx y hy => ?_) (.inr fun d hd => ?_) (by rw [← List.length_map (f := (·.2)), e3]; exact hz.2) (fun p hp => ?_) (PyProof.Rows.ksk_s1 _ _) (fun _ => PyProof.Rows.ksk_l1 _ _) (fun x => PyProof.Rows.ksk_t4 "len" x) (fun u p rp hp h tk hk => ?_) fun out c h' tk hk hD eo => ?_
      · obtain ⟨n, rfl⟩ := keys x hx
        obtain ⟨k, rfl⟩ := keys y hy
        simp [PySem.W.alike]
      · obtain ⟨n, rfl⟩ := keys d hd
        exact ⟨fun c => (nomatch c), fun xs c => (nomatch c)⟩
      · obtain ⟨n, hn⟩ := keyInt p.2 (mem2 p hp)
        rw [hn]
        show X.A.units + 2 + 0 < cLine
        omega
      · have qp := zip_all ra p hp
        have hs := hz.1 p.2 (mem2 p hp)
        have I2 : Inv X pins σ H1 { s1 with heap := h, toks := tk } := I1.kept hk
        obtain ⟨pv, pd⟩ := p
        have hl63 := line63
        cases qp with
        | @tup T zs dz hT _ rz =>
          cases rp
          obtain ⟨its2, rv2, pl2, hz2⟩ := I2.tuple (SqT.of hT)
          have l2 := rv2.length
          have l3 := rz.length
          refine len_tuple pl2 (by simp only [List.size_toArray]; omega) ⟨h, _, rfl, fun b o e => e, ?_⟩
          have e4 : its2.toArray.size = dz.length := by rw [List.size_toArray, ← l2, l3]
          rw [e4]
          exact .int _ _
        | @lst T zs dz hT _ rz =>
          cases rp
          obtain ⟨its2, rv2, pl2, hz2⟩ := I2.list (SqL.of hT)
          have l2 := rv2.length
          have l3 := rz.length
          refine Calls.call_len_list pl2.isList (by simp only [List.size_toArray]; omega) ⟨h, _, rfl, fun b o e => e, ?_⟩
          have e4 : its2.toArray.size = dz.length := by rw [List.size_toArray, ← l2, l3]
          rw [e4]
          exact .int _ _
        | _ => cases hs
      · have hl' : ((ws.zip xs).mergeSort (PySem.W.dataLe false fun p : V × D => lenK p.2)).length = xs.length := by
          rw [List.length_mergeSort, ← List.length_map (f := (·.2)), e3]
        have key := all_zip (ps := (ws.zip xs).mergeSort (PySem.W.dataLe false fun p : V × D => lenK p.2)) fun p hp => zip_all ra p (List.mem_mergeSort.mp hp)
        have em : ((ws.zip xs).mergeSort (PySem.W.dataLe false fun p : V × D => lenK p.2)).map (·.2) = xs.mergeSort (PySem.W.dataLe false lenK) := by
          rw [List.map_mergeSort (r := PySem.W.dataLe false fun p : V × D => lenK p.2) (f := fun p : V × D => p.2) (s := PySem.W.dataLe false lenK) (fun _ _ _ _ => rfl), e3]
        rw [em] at key
        have hf : H1 (s1.heap.objs.size + 1) = none := I1.hok.fresh (Nat.le_succ _)
        refine ⟨s1.heap.objs.size + 1, upd H1 (s1.heap.objs.size + 1) (.lst (((ws.zip xs).mergeSort (PySem.W.dataLe false fun p : V × D => lenK p.2)).map (·.1))), I1.laid (t' := tk) hk (Nat.le_succ _) ?_, rfl, k1.trans (Kp.upd hf), S1.same (VL.same_upd hf), k1.none S1 hf, by rw [upd_same]; trivial, .lst upd_same (key.fresh hf)⟩
        exact ⟨by rw [List.length_map, hl']; exact hz.2, out, c, vals_each eo, hD⟩
    · cases h2
  | _ => cases h2⟩
/-- of a list or a tuple -/
def sortedLenA : D → Option D
  | .list xs => sortedLenD (.list xs)
  | d => sortedLenT d
theorem vf_sortedLenA (hu : X.A.units + 64 < cLine) (hg : Gl X "sorted") (hm : X.mg "sorted" = none) (hgl : Gl X "len") (hml : X.mg "len" = none) (he : VR m sl X e f)
    (hst : backTo pos (starEach [e] X.env) = (false, eval e X.env) :: backTo pos (starEach [] X.env) := by rfl) (hpl : (backTo pos (starEach [e] X.env)).any (·.1) = false := by rfl)
    (hall : (backToKw pos (keywordEach [⟨some "key", .Name "len" p2, kp⟩] X.env)).all (·.1.isSome) = true := by rfl) (hnone : (backToKw pos (keywordEach [⟨some "key", .Name "len" p2, kp⟩] X.env)).any (·.1.isNone) = false := by rfl) (hks : (backToKw pos (keywordEach [⟨some "key", .Name "len" p2, kp⟩] X.env)).filterMap (·.1) = [Str.ofString "key"] := by rfl) :
    VF m sl X (.Call (.Name "sorted" p) [e] [⟨some "key", .Name "len" p2, kp⟩] pos) (e1 sortedLenA f) := ⟨fun pins s σ H g own ρ z d z' I J S hf => by
  obtain ⟨dx, h1, h2⟩ := e1_some hf
  have go : ∀ op : D → Option D, op dx = sortedLenA dx → e1 op f ρ z = some (d, z') := fun op e => by
    unfold e1 at hf ⊢
    rw [h1] at hf ⊢
    rw [← hf]
    simp only [Option.bind_some, e]
  cases dx with
  | list xs => exact (vf_sortedLen hu hg hm hgl hml he hst hpl hall hnone hks).run pins s σ H g own ρ z d z' I J S (go _ rfl)
  | tuple xs => exact (vf_sortedLenT hu hg hm hgl hml he hst hpl hall hnone hks).run pins s σ H g own ρ z d z' I J S (go _ rfl)
  | _ => cases h2⟩
end
end VL
set_option Elab.async false
set_option linter.all false
set_option maxRecDepth 100000
set_option maxHeartbeats 4000000
namespace G47
open PySem PySem.Spec PyProof.Rows L2 VL
def topS (i : Nat) : Stmt := PySem.Challenge.pw_foxborders_k47_whole_lots_that_do_not_cr.main.body.getD i (.Pass ⟨0, 0, 0, 0⟩)
section
variable {P : Program} {w : World} {K : PySem.W.Frag} {mg : Str → Option Value} {base : Heap} {k : Nat} {Pt : Addr}

abbrev s_is_integer : Stmt := topS 1
theorem sc_is_integer : FnScope ["value"] ["value"] (defScope s_is_integer) := ⟨rfl, rfl, rfl, by decide +kernel, rfl, by decide +kernel, by decide +kernel⟩
noncomputable def b_is_integer : DS := (sRet (eAnd (e1 (isaD "int") (eVar 0)) (e1 notD (e1 (isaD "bool") (eVar 0)))))
noncomputable def d_is_integer : DFn := runF 1 1 (b_is_integer)
theorem ok_is_integer {f : Addr} {fd : FuncData} (D : Def K mg "is_integer" s_is_integer f fd ["value"]) (b_isinstance : mg "isinstance" = none) (b_bool : mg "bool" = none) (b_int : mg "int" = none) : CalV P w K mg base (k + 1) "is_integer" 1 (d_is_integer) :=
  D.v (m := []) sc_is_integer rfl (by decide) fun cdv A outer s H hgd hr => by
  have hu := huV hr
  have hN := sc_is_integer.nd
  exact vss_one (vs_ret (m' := []) ((ve_and ((ve_isa (by rfl) b_isinstance (by rfl) b_int (by rfl) ((ve_var 0).r)).r) (ve_one (ve_not ((ve_isa (by rfl) b_isinstance (by rfl) b_bool (by rfl) ((ve_var 0).r)).r)))).r))
abbrev s_is_lot : Stmt := topS 3
theorem sc_is_lot : FnScope ["n", "value", "s", "one", "other"] ["n", "value"] (defScope s_is_lot) := ⟨rfl, rfl, rfl, by decide +kernel, rfl, by decide +kernel, by decide +kernel⟩
noncomputable def b_is_lot : DS := (sSeq (sIf (tOr (tNot (tB (e1 (isaD "tuple") (eVar 1)))) (tOr (tB (e2 eqD (eVar 1) (eTup aNil))) (tNot (tB (eC1 allD (aCons (eLc (iV (eVar 1)) (gV 2) tTrue (eCall d_is_integer (aCons (eVar 2) aNil)) [2]) aNil)))))) (sRet (eC (.bool false))) sNext) (sRet (eAnd (e2 geD (e2 ixA (eVar 1) (eC (.int 0))) (eC (.int 0))) (eAnd (e2 ltD (e2 ixA (eVar 1) (e1 negD (eC (.int 1)))) (eVar 0)) (eC1 allD (aCons (eLc (iRange iZ (aCons (eVar 1) (aCons (eSl (eVar 1) (pSome (eC (.int 1))) pNone) aNil))) (gT (gsCons (gV 3) (gsCons (gV 4) gsNil))) tTrue (e2 ltD (eVar 3) (eVar 4)) [3, 4]) aNil))))))
noncomputable def d_is_lot : DFn := runF 5 2 (b_is_lot)
theorem ok_is_lot {f : Addr} {fd : FuncData} (D : Def K mg "is_lot" s_is_lot f fd ["n", "value"]) (c_is_integer : CalV P w K mg base k "is_integer" 1 d_is_integer) (b_all : mg "all" = none) (b_isinstance : mg "isinstance" = none) (b_tuple : mg "tuple" = none) (b_zip : mg "zip" = none) : CalV P w K mg base (k + 1) "is_lot" 2 (d_is_lot) :=
  D.v (m := []) sc_is_lot rfl (by decide) fun cdv A outer s H hgd hr => by
  have hu := huV hr
  have hN := sc_is_lot.nd
  exact vss_cons (vs_if ((vw_or (vt_not (vt_val ((ve_isa (by rfl) b_isinstance (by rfl) b_tuple (by rfl) ((ve_var 1).r)).r))) (vw_or (vt_cmp (op2_eq hu) ((ve_var 1).r) ((ve_tup vc_nil (few len_nil)).r)) (vw_or1 (vt_not (vt_val ((ve_callB (opc_all rfl) (by rfl) b_all (by rfl) (va_cons ((vf_lc (lp := false) (cown := [("s", 2)]) ⟨rfl, hN, vi_val (ve_var 1), blkOk_by (by rfl), fun s H C cl fp => vg_name (i := 2) hN, fun s H C cl fp => vts_nil, fun s H C cl fp => ve_cal c_is_integer hgd hr (vc_cons (ve_var 2) vc_nil) (eq_cons eq_nil), by decide, by decide⟩).r) va_nil)).r)))))).t) (vss_one (vs_ret (m' := []) ((ve_bl).r)))
      (vss_nil))
      (vss_one (vs_ret (m' := []) ((ve_and ((ve_cmp (op2_ge hu) ((ve_ix (ixd_any hu) ((ve_var 1).r) ((ve_int).r)).r) ((ve_int).r)).r) (ve_and ((ve_cmp (op2_lt hu) ((ve_ix (ixd_any hu) ((ve_var 1).r) ((ve_un op1_neg ((ve_int).r)).r)).r) ((ve_var 0).r)).r) (ve_one (ve_callB (opc_all rfl) (by rfl) b_all (by rfl) (va_cons ((vf_lc (lp := false) (cown := [("one", 3), ("other", 4)]) ⟨rfl, hN, vi_zip (by rfl) b_zip (vc_cons (ve_var 1) (vc_cons (ve_sl ((ve_var 1).r) (vp_some ((ve_int).r)) vp_none) vc_nil)), blkOk_by (by rfl), fun s H C cl fp => vg_tup rfl (vgs_cons (vg_name (i := 3) hN) (vgs_cons (vg_name (i := 4) hN) vgs_nil)) (gsS (gsS gs0)), fun s H C cl fp => vts_nil, fun s H C cl fp => ve_cmp (op2_lt hu) ((ve_var 3).r) ((ve_var 4).r), by decide, by decide⟩).r) va_nil))))).r)))
abbrev s_is_pair : Stmt := topS 4
theorem sc_is_pair : FnScope ["value"] ["value"] (defScope s_is_pair) := ⟨rfl, rfl, rfl, by decide +kernel, rfl, by decide +kernel, by decide +kernel⟩
noncomputable def b_is_pair : DS := (sRet (eAnd (e1 (isaD "tuple") (eVar 0)) (e2 eqD (eC1 lenD (aCons (eVar 0) aNil)) (eC (.int 2)))))
noncomputable def d_is_pair : DFn := runF 1 1 (b_is_pair)
theorem ok_is_pair {f : Addr} {fd : FuncData} (D : Def K mg "is_pair" s_is_pair f fd ["value"]) (b_len : mg "len" = none) (b_isinstance : mg "isinstance" = none) (b_tuple : mg "tuple" = none) : CalV P w K mg base (k + 1) "is_pair" 1 (d_is_pair) :=
  D.v (m := []) sc_is_pair rfl (by decide) fun cdv A outer s H hgd hr => by
  have hu := huV hr
  have hN := sc_is_pair.nd
  exact vss_one (vs_ret (m' := []) ((ve_and ((ve_isa (by rfl) b_isinstance (by rfl) b_tuple (by rfl) ((ve_var 0).r)).r) (ve_one (ve_cmp (op2_eq hu) ((ve_callB opc_len (by rfl) b_len (by rfl) (va_cons ((ve_var 0).r) va_nil)).r) ((ve_int).r)))).r))
abbrev s_parts_in : Stmt := topS 5
theorem sc_parts_in : FnScope ["value", "found", "rest", "one"] ["value"] (defScope s_parts_in) := ⟨rfl, rfl, rfl, by decide +kernel, rfl, by decide +kernel, by decide +kernel⟩
noncomputable def b_parts_in : DS := (sSeq (sPar (pCons 1 (eLst aNil) (pCons 2 (eLst (aCons (eVar 0) aNil)) pNil))) (sSeq (sWhile (tB (e2 neD (eVar 2) (eLst aNil))) (sSeq (sAsgX 3 (xPop 2)) (sSeq (sDo (xAppend 1 (xV (eVar 3)))) (sIf (tB (eCall d_is_pair (aCons (eVar 3) aNil))) (sDo (xExtend 2 (eVar 3))) sNext)))) (sRet (eVar 1))))
noncomputable def d_parts_in : DFn := runF 4 1 (b_parts_in)
theorem ok_parts_in {f : Addr} {fd : FuncData} (D : Def K mg "parts_in" s_parts_in f fd ["value"]) (c_is_pair : CalV P w K mg base k "is_pair" 1 d_is_pair) : CalV P w K mg base (k + 1) "parts_in" 1 (d_parts_in) :=
  D.v (m := [1, 2]) sc_parts_in rfl (by decide) fun cdv A outer s H hgd hr => by
  have hu := huV hr
  have hN := sc_parts_in.nd
  exact vss_cons (vs_par2 rfl hN (vps_consF (vf_lst vc_nil (few len_nil)) (vps_consF (vf_lst (vc_cons (ve_var 0) vc_nil) (few (len_cons len_nil))) vps_nil)))
      (vss_cons (vs_while PassesOwn.never (vt_cmp (op2_ne hu) (vr_own 2) ((vf_lst vc_nil (few len_nil)).r))
      (vss_cons (vs_asgX (i := 3) (vx_pop 2) hN)
      (vss_cons (vs_do (vx_append 1 (vx_val (ve_var 3))))
      (vss_one (vs_if (vt_val ((ve_cal c_is_pair hgd hr (vc_cons (ve_var 3) vc_nil) (eq_cons eq_nil)).r)) (vss_one (vs_do (vx_extend 2 ((ve_var 3).r))))
      (vss_nil))))))
      (vss_one (vs_ret (m' := [1, 2]) (vr_own 1))))
abbrev s_leaves_in : Stmt := topS 6
theorem sc_leaves_in : FnScope ["value", "one"] ["value"] (defScope s_leaves_in) := ⟨rfl, rfl, rfl, by decide +kernel, rfl, by decide +kernel, by decide +kernel⟩
noncomputable def b_leaves_in : DS := (sRet (eLc (iV (eCall d_parts_in (aCons (eVar 0) aNil))) (gV 1) (tNot (tB (eCall d_is_pair (aCons (eVar 1) aNil)))) (eVar 1) [1]))
noncomputable def d_leaves_in : DFn := runF 2 1 (b_leaves_in)
theorem ok_leaves_in {f : Addr} {fd : FuncData} (D : Def K mg "leaves_in" s_leaves_in f fd ["value"]) (c_parts_in : CalV P w K mg base k "parts_in" 1 d_parts_in) (c_is_pair : CalV P w K mg base k "is_pair" 1 d_is_pair) : CalV P w K mg base (k + 1) "leaves_in" 1 (d_leaves_in) :=
  D.v (m := []) sc_leaves_in rfl (by decide) fun cdv A outer s H hgd hr => by
  have hu := huV hr
  have hN := sc_leaves_in.nd
  exact vss_one (vs_ret (m' := []) ((vf_lc (lp := false) (cown := [("one", 1)]) ⟨rfl, hN, vi_val (ve_cal c_parts_in hgd hr (vc_cons (ve_var 0) vc_nil) (eq_cons eq_nil)), blkOk_by (by rfl), fun s H C cl fp => vg_name (i := 1) hN, fun s H C cl fp => vts_one (vt_not (vt_val ((ve_cal c_is_pair hgd hr (vc_cons (ve_var 1) vc_nil) (eq_cons eq_nil)).r))), fun s H C cl fp => ve_var 1, by decide, by decide⟩).r))
abbrev s_shires_of : Stmt := topS 7
theorem sc_shires_of : FnScope ["plan"] ["plan"] (defScope s_shires_of) := ⟨rfl, rfl, rfl, by decide +kernel, rfl, by decide +kernel, by decide +kernel⟩
noncomputable def b_shires_of : DS := (sRet (eC1 tupleD (aCons (eC1 sortedD (aCons (eCall d_leaves_in (aCons (eVar 0) aNil)) aNil)) aNil)))
noncomputable def d_shires_of : DFn := runF 1 1 (b_shires_of)
theorem ok_shires_of {f : Addr} {fd : FuncData} (D : Def K mg "shires_of" s_shires_of f fd ["plan"]) (c_leaves_in : CalV P w K mg base k "leaves_in" 1 d_leaves_in) (b_tuple : mg "tuple" = none) (b_sorted : mg "sorted" = none) : CalV P w K mg base (k + 1) "shires_of" 1 (d_shires_of) :=
  D.v (m := []) sc_shires_of rfl (by decide) fun cdv A outer s H hgd hr => by
  have hu := huV hr
  have hN := sc_shires_of.nd
  exact vss_one (vs_ret (m' := []) ((ve_callTy opc_tuple (by rfl) b_tuple (by rfl) (va_cons ((vf_callB (opn_sorted hu) (by rfl) b_sorted (by rfl) (va_cons ((ve_cal c_leaves_in hgd hr (vc_cons (ve_var 0) vc_nil) (eq_cons eq_nil)).r) va_nil)).r) va_nil)).r))
abbrev s_paired : Stmt := topS 8
theorem sc_paired : FnScope ["one", "other"] ["one", "other"] (defScope s_paired) := ⟨rfl, rfl, rfl, by decide +kernel, rfl, by decide +kernel, by decide +kernel⟩
noncomputable def b_paired : DS := (sRet (eIf (tB (e2 ltD (eCall d_shires_of (aCons (eVar 0) aNil)) (eCall d_shires_of (aCons (eVar 1) aNil)))) (eTup (aCons (eVar 0) (aCons (eVar 1) aNil))) (eTup (aCons (eVar 1) (aCons (eVar 0) aNil)))))
noncomputable def d_paired : DFn := runF 2 2 (b_paired)
theorem ok_paired {f : Addr} {fd : FuncData} (D : Def K mg "paired" s_paired f fd ["one", "other"]) (c_shires_of : CalV P w K mg base k "shires_of" 1 d_shires_of) : CalV P w K mg base (k + 1) "paired" 2 (d_paired) :=
  D.v (m := []) sc_paired rfl (by decide) fun cdv A outer s H hgd hr => by
  have hu := huV hr
  have hN := sc_paired.nd
  exact vss_one (vs_ret (m' := []) (vr_if (vt_cmp (op2_lt hu) ((ve_cal c_shires_of hgd hr (vc_cons (ve_var 0) vc_nil) (eq_cons eq_nil)).r) ((ve_cal c_shires_of hgd hr (vc_cons (ve_var 1) vc_nil) (eq_cons eq_nil)).r)) ((ve_tup (vc_cons (ve_var 0) (vc_cons (ve_var 1) vc_nil)) (few (len_cons (len_cons len_nil)))).r) ((ve_tup (vc_cons (ve_var 1) (vc_cons (ve_var 0) vc_nil)) (few (len_cons (len_cons len_nil)))).r)))
abbrev s_formed : Stmt := topS 9
theorem sc_formed : FnScope ["plan"] ["plan"] (defScope s_formed) := ⟨rfl, rfl, rfl, by decide +kernel, rfl, by decide +kernel, by decide +kernel⟩
noncomputable def b_formed (self_formed : DFn) : DS := (sSeq (sIf (tNot (tB (eCall d_is_pair (aCons (eVar 0) aNil)))) (sRet (eVar 0)) sNext) (sRet (eCall d_paired (aCons (eCall self_formed (aCons (e2 ixA (eVar 0) (eC (.int 0))) aNil)) (aCons (eCall self_formed (aCons (e2 ixA (eVar 0) (eC (.int 1))) aNil)) aNil)))))
noncomputable def step_formed (self_formed : DFn) : DFn := runF 1 1 (b_formed self_formed)
theorem ok_formed {self_formed : DFn} {f : Addr} {fd : FuncData} (D : Def K mg "formed" s_formed f fd ["plan"]) (c_is_pair : CalV P w K mg base k "is_pair" 1 d_is_pair) (c_paired : CalV P w K mg base k "paired" 2 d_paired) (c_formed : CalV P w K mg base k "formed" 1 self_formed) : CalV P w K mg base (k + 1) "formed" 1 (step_formed self_formed) :=
  D.v (m := []) sc_formed rfl (by decide) fun cdv A outer s H hgd hr => by
  have hu := huV hr
  have hN := sc_formed.nd
  exact vss_cons (vs_if (vt_not (vt_val ((ve_cal c_is_pair hgd hr (vc_cons (ve_var 0) vc_nil) (eq_cons eq_nil)).r))) (vss_one (vs_ret (m' := []) ((ve_var 0).r)))
      (vss_nil))
      (vss_one (vs_ret (m' := []) ((ve_cal c_paired hgd hr (vc_cons (ve_cal c_formed hgd hr (vc_cons (ve_ix (ixd_any hu) ((ve_var 0).r) ((ve_int).r)) vc_nil) (eq_cons eq_nil)) (vc_cons (ve_cal c_formed hgd hr (vc_cons (ve_ix (ixd_any hu) ((ve_var 0).r) ((ve_int).r)) vc_nil) (eq_cons eq_nil)) vc_nil)) (eq_cons (eq_cons eq_nil))).r)))
noncomputable def d_formed_n : Nat → DFn
  | 0 => fun _ _ => none
  | j + 1 => step_formed (d_formed_n j)
noncomputable def d_formed : DFn := d_formed_n 40
theorem rec_formed {f : Addr} {fd : FuncData} (D : Def K mg "formed" s_formed f fd ["plan"]) (c_is_pair : CalV P w K mg base k "is_pair" 1 d_is_pair) (c_paired : CalV P w K mg base k "paired" 2 d_paired) : ∀ j, CalV P w K mg base (k + j) "formed" 1 (d_formed_n j)
  | 0 => CalV.zero D rfl
  | j + 1 => ok_formed D (c_is_pair.up (Nat.le_add_right _ _)) (c_paired.up (Nat.le_add_right _ _)) (rec_formed D c_is_pair c_paired  j) 
abbrev s_lots_of : Stmt := topS 10
theorem sc_lots_of : FnScope ["plan", "part"] ["plan"] (defScope s_lots_of) := ⟨rfl, rfl, rfl, by decide +kernel, rfl, by decide +kernel, by decide +kernel⟩
noncomputable def b_lots_of : DS := (sRet (eC1 tupleD (aCons (eC1 sortedD (aCons (eLc (iV (eCall d_parts_in (aCons (eVar 0) aNil))) (gV 1) tTrue (eCall d_shires_of (aCons (eVar 1) aNil)) [1]) aNil)) aNil)))
noncomputable def d_lots_of : DFn := runF 2 1 (b_lots_of)
theorem ok_lots_of {f : Addr} {fd : FuncData} (D : Def K mg "lots_of" s_lots_of f fd ["plan"]) (c_parts_in : CalV P w K mg base k "parts_in" 1 d_parts_in) (c_shires_of : CalV P w K mg base k "shires_of" 1 d_shires_of) (b_tuple : mg "tuple" = none) (b_sorted : mg "sorted" = none) : CalV P w K mg base (k + 1) "lots_of" 1 (d_lots_of) :=
  D.v (m := []) sc_lots_of rfl (by decide) fun cdv A outer s H hgd hr => by
  have hu := huV hr
  have hN := sc_lots_of.nd
  exact vss_one (vs_ret (m' := []) ((ve_callTy opc_tuple (by rfl) b_tuple (by rfl) (va_cons ((vf_callB (opn_sorted hu) (by rfl) b_sorted (by rfl) (va_cons ((vf_lc (lp := false) (cown := [("part", 1)]) ⟨rfl, hN, vi_val (ve_cal c_parts_in hgd hr (vc_cons (ve_var 0) vc_nil) (eq_cons eq_nil)), blkOk_by (by rfl), fun s H C cl fp => vg_name (i := 1) hN, fun s H C cl fp => vts_nil, fun s H C cl fp => ve_cal c_shires_of hgd hr (vc_cons (ve_var 1) vc_nil) (eq_cons eq_nil), by decide, by decide⟩).r) va_nil)).r) va_nil)).r))
abbrev s_do_cross : Stmt := topS 11
theorem sc_do_cross : FnScope ["one", "other", "shared", "s"] ["one", "other"] (defScope s_do_cross) := ⟨rfl, rfl, rfl, by decide +kernel, rfl, by decide +kernel, by decide +kernel⟩
noncomputable def b_do_cross : DS := (sSeq (sAsg 2 (eLc (iV (eVar 0)) (gV 3) (tB (e2 inA (eVar 3) (eVar 1))) (eVar 3) [3])) (sRet (eAnd (e2 neD (eVar 2) (eLst aNil)) (eAnd (e2 ltD (eC1 lenD (aCons (eVar 2) aNil)) (eC1 lenD (aCons (eVar 0) aNil))) (e2 ltD (eC1 lenD (aCons (eVar 2) aNil)) (eC1 lenD (aCons (eVar 1) aNil)))))))
noncomputable def d_do_cross : DFn := runF 4 2 (b_do_cross)
theorem ok_do_cross {f : Addr} {fd : FuncData} (D : Def K mg "do_cross" s_do_cross f fd ["one", "other"]) (b_len : mg "len" = none) : CalV P w K mg base (k + 1) "do_cross" 2 (d_do_cross) :=
  D.v (m := []) sc_do_cross rfl (by decide) fun cdv A outer s H hgd hr => by
  have hu := huV hr
  have hN := sc_do_cross.nd
  exact vss_cons (vs_setLc (lp := false) (i := 2) (cown := [("s", 3)]) ⟨rfl, hN, vi_val (ve_var 0), blkOk_by (by rfl), fun s H C cl fp => vg_name (i := 3) hN, fun s H C cl fp => vts_one (vt_cmp (op2_in hu) ((ve_var 3).r) ((ve_var 1).r)), fun s H C cl fp => ve_var 3, by decide, by decide⟩)
      (vss_one (vs_ret (m' := []) ((ve_and ((ve_cmp (op2_ne hu) ((ve_var 2).r) ((vf_lst vc_nil (few len_nil)).r)).r) (ve_and ((ve_cmp (op2_lt hu) ((ve_callB opc_len (by rfl) b_len (by rfl) (va_cons ((ve_var 2).r) va_nil)).r) ((ve_callB opc_len (by rfl) b_len (by rfl) (va_cons ((ve_var 0).r) va_nil)).r)).r) (ve_one (ve_cmp (op2_lt hu) ((ve_callB opc_len (by rfl) b_len (by rfl) (va_cons ((ve_var 2).r) va_nil)).r) ((ve_callB opc_len (by rfl) b_len (by rfl) (va_cons ((ve_var 1).r) va_nil)).r))))).r)))
abbrev s_judge_lots : Stmt := topS 12
theorem sc_judge_lots : FnScope ["n", "value", "i", "one", "j", "lot", "other"] ["n", "value"] (defScope s_judge_lots) := ⟨rfl, rfl, rfl, by decide +kernel, rfl, by decide +kernel, by decide +kernel⟩
noncomputable def b_judge_lots : DS := (sSeq (sIf (tOr (tNot (tB (e1 (isaD "tuple") (eVar 1)))) (tNot (tB (eC1 allD (aCons (eLc (iV (eVar 1)) (gV 5) tTrue (eCall d_is_lot (aCons (eVar 0) (aCons (eVar 5) aNil))) [5]) aNil))))) (sRet (eTup (aCons (eC (.str "form")) aNil))) sNext) (sSeq (sIf (tNot (tB (eC1 allD (aCons (eLc (iRange iZ (aCons (eVar 1) (aCons (eSl (eVar 1) (pSome (eC (.int 1))) pNone) aNil))) (gT (gsCons (gV 3) (gsCons (gV 6) gsNil))) tTrue (e2 ltD (eVar 3) (eVar 6)) [3, 6]) aNil)))) (sRet (eTup (aCons (eC (.str "form")) aNil))) sNext) (sSeq (sFor (iRange iE (aCons (eVar 1) aNil)) (gT (gsCons (gV 2) (gsCons (gV 3) gsNil))) (sFor (iRange iRg2 (aCons (e2 addD (eVar 2) (eC (.int 1))) (aCons (eC1 lenD (aCons (eVar 1) aNil)) aNil))) (gV 4) (sIf (tB (eCall d_do_cross (aCons (eVar 3) (aCons (e2 ixA (eVar 1) (eVar 4)) aNil)))) (sRet (eTup (aCons (eC (.str "cross")) (aCons (eVar 2) (aCons (eVar 4) aNil))))) sNext))) (sRet (eIf (tB (e2 eqD (eC1 lenD (aCons (eVar 1) aNil)) (e2 subD (e2 mulD (eC (.int 2)) (eVar 0)) (eC (.int 1))))) (eC .none) (eTup (aCons (eC (.str "many")) (aCons (eC1 lenD (aCons (eVar 1) aNil)) aNil))))))))
noncomputable def d_judge_lots : DFn := runF 7 2 (b_judge_lots)
theorem ok_judge_lots {f : Addr} {fd : FuncData} (D : Def K mg "judge_lots" s_judge_lots f fd ["n", "value"]) (c_is_lot : CalV P w K mg base k "is_lot" 2 d_is_lot) (c_do_cross : CalV P w K mg base k "do_cross" 2 d_do_cross) (b_all : mg "all" = none) (b_isinstance : mg "isinstance" = none) (b_tuple : mg "tuple" = none) (b_zip : mg "zip" = none) (b_enumerate : mg "enumerate" = none) (b_range : mg "range" = none) (b_len : mg "len" = none) : CalV P w K mg base (k + 1) "judge_lots" 2 (d_judge_lots) :=
  D.v (m := []) sc_judge_lots rfl (by decide) fun cdv A outer s H hgd hr => by
  have hu := huV hr
  have hN := sc_judge_lots.nd
  exact vss_cons (vs_if ((vw_or (vt_not (vt_val ((ve_isa (by rfl) b_isinstance (by rfl) b_tuple (by rfl) ((ve_var 1).r)).r))) (vw_or1 (vt_not (vt_val ((ve_callB (opc_all rfl) (by rfl) b_all (by rfl) (va_cons ((vf_lc (lp := false) (cown := [("lot", 5)]) ⟨rfl, hN, vi_val (ve_var 1), blkOk_by (by rfl), fun s H C cl fp => vg_name (i := 5) hN, fun s H C cl fp => vts_nil, fun s H C cl fp => ve_cal c_is_lot hgd hr (vc_cons (ve_var 0) (vc_cons (ve_var 5) vc_nil)) (eq_cons (eq_cons eq_nil)), by decide, by decide⟩).r) va_nil)).r))))).t) (vss_one (vs_ret (m' := []) ((ve_tup (vc_cons (ve_str) vc_nil) (few (len_cons len_nil))).r)))
      (vss_nil))
      (vss_cons (vs_if (vt_not (vt_val ((ve_callB (opc_all rfl) (by rfl) b_all (by rfl) (va_cons ((vf_lc (lp := false) (cown := [("one", 3), ("other", 6)]) ⟨rfl, hN, vi_zip (by rfl) b_zip (vc_cons (ve_var 1) (vc_cons (ve_sl ((ve_var 1).r) (vp_some ((ve_int).r)) vp_none) vc_nil)), blkOk_by (by rfl), fun s H C cl fp => vg_tup rfl (vgs_cons (vg_name (i := 3) hN) (vgs_cons (vg_name (i := 6) hN) vgs_nil)) (gsS (gsS gs0)), fun s H C cl fp => vts_nil, fun s H C cl fp => ve_cmp (op2_lt hu) ((ve_var 3).r) ((ve_var 6).r), by decide, by decide⟩).r) va_nil)).r))) (vss_one (vs_ret (m' := []) ((ve_tup (vc_cons (ve_str) vc_nil) (few (len_cons len_nil))).r)))
      (vss_nil))
      (vss_cons (vs_for rfl PassesOwn.never (vi_enum (by rfl) b_enumerate (vc_cons (ve_var 1) vc_nil)) (vg_tup rfl (vgs_cons (vg_name (i := 2) hN) (vgs_cons (vg_name (i := 3) hN) vgs_nil)) (gsS (gsS gs0)))
      (vss_one (vs_for rfl PassesOwn.never (vi_range2 (by rfl) b_range (va_cons ((ve_op op2_add ((ve_var 2).r) ((ve_int).r)).r) (va_cons ((ve_callB opc_len (by rfl) b_len (by rfl) (va_cons ((ve_var 1).r) va_nil)).r) va_nil))) (vg_name (i := 4) hN)
      (vss_one (vs_if (vt_val ((ve_cal c_do_cross hgd hr (vc_cons (ve_var 3) (vc_cons (ve_ix (ixd_any hu) ((ve_var 1).r) ((ve_var 4).r)) vc_nil)) (eq_cons (eq_cons eq_nil))).r)) (vss_one (vs_ret (m' := []) ((ve_tup (vc_cons (ve_str) (vc_cons (ve_var 2) (vc_cons (ve_var 4) vc_nil))) (few (len_cons (len_cons (len_cons len_nil))))).r)))
      (vss_nil))))))
      (vss_one (vs_ret (m' := []) (vr_if (vt_cmp (op2_eq hu) ((ve_callB opc_len (by rfl) b_len (by rfl) (va_cons ((ve_var 1).r) va_nil)).r) ((ve_op op2_sub ((ve_op op2_mul ((ve_int).r) ((ve_var 0).r)).r) ((ve_int).r)).r)) ((ve_non).r) ((ve_tup (vc_cons (ve_str) (vc_cons (ve_callB opc_len (by rfl) b_len (by rfl) (va_cons ((ve_var 1).r) va_nil)) vc_nil)) (few (len_cons (len_cons len_nil)))).r))))))
abbrev s_plan_of : Stmt := topS 13
theorem sc_plan_of : FnScope ["n", "lots", "found", "lot", "within", "one", "other", "plan", "late"] ["n", "lots"] (defScope s_plan_of) := ⟨rfl, rfl, rfl, by decide +kernel, rfl, by decide +kernel, by decide +kernel⟩
noncomputable def b_plan_of : DS := (sSeq (sAsg 2 (eC (.dict []))) (sSeq (sFor (iV (e1 sortedLenA (eVar 1))) (gV 3) (sIf (tB (e2 eqD (eC1 lenD (aCons (eVar 3) aNil)) (eC (.int 1)))) (sStore 2 (eVar 3) (e2 ixA (eVar 3) (eC (.int 0)))) (sSeq (sAsg 4 (eLc (iV (eVar 2)) (gV 8) (tB (e2 inA (e2 ixA (eVar 8) (eC (.int 0))) (eVar 3))) (eVar 8) [8])) (sSeq (sAsgG (eVar 4) (gT (gsCons (gV 5) (gsCons (gV 6) gsNil)))) (sSeq (sAsg 7 (eCall d_paired (aCons (e2 ixA (eVar 2) (eVar 5)) (aCons (e2 ixA (eVar 2) (eVar 6)) aNil)))) (sSeq (sAsg 2 (eC1 dictD (aCons (eLc (iV (eVar 2)) (gV 8) (tB (e2 notInA (eVar 8) (eVar 4))) (eTup (aCons (eVar 8) (aCons (e2 ixA (eVar 2) (eVar 8)) aNil))) [8]) aNil))) (sStore 2 (eVar 3) (eVar 7)))))))) (sRet (e2 ixA (eVar 2) (eTRg (eA1 (eVar 0)))))))
noncomputable def d_plan_of : DFn := runF 9 2 (b_plan_of)
theorem ok_plan_of {f : Addr} {fd : FuncData} (D : Def K mg "plan_of" s_plan_of f fd ["n", "lots"]) (c_paired : CalV P w K mg base k "paired" 2 d_paired) (b_sorted : mg "sorted" = none) (b_len : mg "len" = none) (b_dict : mg "dict" = none) (b_tuple : mg "tuple" = none) (b_range : mg "range" = none) : CalV P w K mg base (k + 1) "plan_of" 2 (d_plan_of) :=
  D.v (m := [2]) sc_plan_of rfl (by decide) fun cdv A outer s H hgd hr => by
  have hu := huV hr
  have hN := sc_plan_of.nd
  exact vss_cons (vs_asgF (i := 2) (vf_dict0) hN)
      (vss_cons (vs_for rfl PassesOwn.never (vi_val ((vf_sortedLenA hu (by rfl) b_sorted (by rfl) b_len ((ve_var 1).r)).ve)) (vg_name (i := 3) hN)
      (vss_one (vs_if (vt_cmp (op2_eq hu) ((ve_callB opc_len (by rfl) b_len (by rfl) (va_cons ((ve_var 3).r) va_nil)).r) ((ve_int).r)) (vss_one (vs_store 2 hu (ve_ix (ixd_any hu) ((ve_var 3).r) ((ve_int).r)) ((ve_var 3).r)))
      (VSs.cut (m' := []) (m := [2]) (vss_cons (vs_asg (i := 4) ((vf_lc (lp := false) (cown := [("late", 8)]) ⟨rfl, hN, vi_val (ve_var 2), blkOk_by (by rfl), fun s H C cl fp => vg_name (i := 8) hN, fun s H C cl fp => vts_one (vt_cmp (op2_in hu) ((ve_ix (ixd_any hu) ((ve_var 8).r) ((ve_int).r)).r) ((ve_var 3).r)), fun s H C cl fp => ve_var 8, by decide, by decide⟩).ve) hN)
      (vss_cons (vs_asgG (ve_var 4) (vg_tup rfl (vgs_cons (vg_name (i := 5) hN) (vgs_cons (vg_name (i := 6) hN) vgs_nil)) (gsS (gsS gs0))))
      (vss_cons (vs_asg (i := 7) (ve_cal c_paired hgd hr (vc_cons (ve_ix (ixd_any hu) ((ve_var 2).r) ((ve_var 5).r)) (vc_cons (ve_ix (ixd_any hu) ((ve_var 2).r) ((ve_var 6).r)) vc_nil)) (eq_cons (eq_cons eq_nil))) hN)
      (vss_cons ((vs_asgN (i := 2) (vf_callTy (opn_dict rfl hu) (by rfl) b_dict (by rfl) (va_cons ((vf_lc (lp := false) (cown := [("late", 8)]) ⟨rfl, hN, vi_val (ve_var 2), blkOk_by (by rfl), fun s H C cl fp => vg_name (i := 8) hN, fun s H C cl fp => vts_one (vt_cmp (op2_notIn hu) ((ve_var 8).r) ((ve_var 4).r)), fun s H C cl fp => ve_tup (vc_cons (ve_var 8) (vc_cons (ve_ix (ixd_any hu) ((ve_var 2).r) ((ve_var 8).r)) vc_nil)) (few (len_cons (len_cons len_nil))), by decide, by decide⟩).r) va_nil)) hN).less (m'' := [2]))
      (vss_one (vs_store 2 hu (ve_var 7) ((ve_var 3).r)))))))))))
      (vss_one (vs_ret (m' := [2]) ((ve_ix (ixd_any hu) (vr_own 2) ((ve_tupRg rfl (by rfl) b_range (by rfl) b_tuple (ve_var 0)).r)).r))))
abbrev s__law_open_cells : Stmt := topS 15
theorem sc__law_open_cells : FnScope ["script", "stirred", "cell", "cells"] ["script"] (defScope s__law_open_cells) := ⟨rfl, rfl, rfl, by decide +kernel, rfl, by decide +kernel, by decide +kernel⟩
theorem ok__law_open_cells {f : Addr} {fd : FuncData} (D : Def K mg "_law_open_cells" s__law_open_cells f fd ["script"]) (b_abs : mg "abs" = none) (b_int : mg "int" = none) : CalO P w K mg base (k + 1) "_law_open_cells" := by
  refine cal_open D sc__law_open_cells fun cdv A outer s H hr => ?_
  have nd := sc__law_open_cells.nd
  exact pss_cons (ps_set (i := 1) nd rfl (.inl rfl) pe_int)
    (pss_cons (ps_for PassesOwn.never rfl (pi_list (pv 0)) (pg_name (i := 2) nd rfl (.inl rfl)) (pss_one (ps_set (i := 1) nd rfl (.inl rfl) (pe_op op_modN (pe_callTy call_int1 (by rfl) b_int (by rfl) (pa_cons (pe_op op_add (pe_op op_add (pe_op op_mul (pv 1) pe_int) (pe_op op_mul (pv 2) pe_int)) pe_int) pa_nil)) pe_int))))
    (pss_cons (ps_setLc (i := 3) (own := [("cell", 2)]) rfl nd rfl rfl (sw_true rfl rfl rfl rfl) (pi_list (pv 0)) (blkOk_by (by rfl)) (fun _ _ _ _ _ => pg_name (i := 2) nd rfl (.inl rfl)) (fun _ _ _ _ _ => pts_nil) (fun _ _ _ _ _ => pe_callB call_abs (by rfl) b_abs (by rfl) (pa_cons (pv 2) pa_nil)))
    (pss_one (ps_ret (pe_disp (pps_cons pe_str (pe_revL (pv 3)) (pps_cons pe_str pe_int (pps_cons pe_str (pv 1) (pps_cons pe_str pe_int pps_nil)))) rfl rfl (by simp) (by decide))))))

abbrev s__law_pick : Stmt := topS 16
theorem sc__law_pick : FnScope ["source", "most", "cells", "others", "lap", "stirred"] ["source", "most"] (defScope s__law_pick) := ⟨rfl, rfl, rfl, by decide +kernel, rfl, by decide +kernel, by decide +kernel⟩
noncomputable def d__law_pick : DFn := pickD
theorem ok__law_pick {f : Addr} {fd : FuncData} (D : Def K mg "_law_pick" s__law_pick f fd ["source", "most"]) (b_len : mg "len" = none) (b_int : mg "int" = none) : CalS P w K mg base (k + 1) "_law_pick" 1 d__law_pick := by
  refine cal_pick D sc__law_pick fun cdv A outer s H hr => ?_
  have hu : (A.deeper (envOfC "_law_pick" (defScope s__law_pick) s.heap.objs.size f cdv)).units + 1 < cLine := by have := hr.un; omega
  have nd := sc__law_pick.nd
  exact pss_cons (ps_if (pt_cmpR op_lt (pv 1) pe_int (nomark _)) (pss_one (ps_ret pe_int)) pss_nil)
    (pss_cons (ps_set (i := 2) nd rfl (.inl rfl) (pe_dget hu (pv 0) pe_str fun _ _ => rfl))
    (pss_cons (ps_while PassesOwn.never (pw_and (pt_cmpR op_lt (pe_dget hu (pv 0) pe_str fun _ _ => rfl) pe_int (nomark _)) (pw_and1 (pt_cmpR op_gt (pe_callB call_len (by rfl) b_len (by rfl) (pa_cons (pv 2) pa_nil)) pe_int (nomark _)))).pt
       (pss_one (ps_dput hu (pv 0) pe_str (pe_bm0 PySem.F.plainAttrs_list PySem.F.slot_list_pop PySem.F.type_list_pop mt_pop (pv 2)) (by rfl))))
    (pss_cons (ps_set (i := 3) nd rfl (.inl rfl) (pe_dget hu (pv 0) pe_str fun _ _ => rfl))
    (pss_cons (ps_if (pt_cmpR op_gt (pv 3) pe_int (nomark _)) (pss_cons (ps_dput hu (pv 0) pe_str (pe_op op_fdivN (pv 3) (pv 1)) (by rfl)) (pss_one (ps_ret (pe_op op_modN (pe_callTy call_int1 (by rfl) b_int (by rfl) (pa_cons (pv 3) pa_nil)) (pv 1))))) pss_nil)
    (pss_cons (ps_dput hu (pv 0) pe_str (pe_op op_add (pe_dget hu (pv 0) pe_str fun _ _ => rfl) pe_int) (by rfl))
    (pss_cons (ps_set (i := 4) nd rfl (.inl rfl) (pe_dget hu (pv 0) pe_str fun _ _ => rfl))
    (pss_cons (ps_set (i := 5) nd rfl (.inl rfl) (pe_op op_modN (pe_callTy call_int1 (by rfl) b_int (by rfl) (pa_cons (pe_op op_add (pe_dget hu (pv 0) pe_str fun _ _ => rfl) (pe_op op_mul (pv 4) pe_int)) pa_nil)) pe_int))
    (pss_cons (ps_set (i := 5) nd rfl (.inl rfl) (pe_op op_modN (pe_callTy call_int1 (by rfl) b_int (by rfl) (pa_cons (pe_op op_add (pe_op op_mul (pv 5) (pv 5)) (pe_op op_mul (pv 4) pe_int)) pa_nil)) pe_int))
    (pss_one (ps_ret (pe_op op_modN (pe_callTy call_int1 (by rfl) b_int (by rfl) (pa_cons (pe_op op_fdivN (pv 5) pe_int) pa_nil)) (pv 1))))))))))))

abbrev s__law_any_order : Stmt := topS 17
theorem sc__law_any_order : FnScope ["source", "things", "others", "lap"] ["source", "things"] (defScope s__law_any_order) := ⟨rfl, rfl, rfl, by decide +kernel, rfl, by decide +kernel, by decide +kernel⟩
noncomputable def b__law_any_order : DS := (sSeq (sAsg 2 (eC1 listA (aCons (eVar 1) aNil))) (sRetLcX (iRange iRg1 (aCons (eC1 lenD (aCons (eVar 2) aNil)) aNil)) (gV 3) (xPopAt 2 (eCall d__law_pick (aCons (eC1 lenD (aCons (eVar 2) aNil)) aNil))) [3]))
noncomputable def d__law_any_order : DFn := runS 4 1 (b__law_any_order)
theorem ok__law_any_order {f : Addr} {fd : FuncData} (D : Def K mg "_law_any_order" s__law_any_order f fd ["source", "things"]) (c__law_pick : CalS P w K mg base k "_law_pick" 1 d__law_pick) (b_list : mg "list" = none) (b_range : mg "range" = none) (b_len : mg "len" = none) : CalS P w K mg base (k + 1) "_law_any_order" 1 (d__law_any_order) :=
  D.s (m := [2]) sc__law_any_order rfl (by decide) fun cdv A outer s H hgd hr => by
  have hu := huV hr
  have hN := sc__law_any_order.nd
  exact vss_cons (vs_asgF (i := 2) (vf_callTy (opn_listA rfl) (by rfl) b_list (by rfl) (va_cons ((ve_var 1).r) va_nil)) hN)
      (vss_one (vs_retLcX (m' := [2]) (cown := [("lap", 3)]) rfl hN (vi_range1 (by rfl) b_range (va_cons ((ve_callB opc_len (by rfl) b_len (by rfl) (va_cons (vr_own 2) va_nil)).r) va_nil)) (blkOk_by (by rfl)) (fun s H C cl fp => vg_name (i := 3) hN) (fun s H C cl fp => vx_popAt 2 (ve_calS c__law_pick hgd hr (vc_cons (ve_callB opc_len (by rfl) b_len (by rfl) (va_cons (vr_own 2) va_nil)) vc_nil) (eq_cons eq_nil) 0)) (by decide) (by decide)))
abbrev s__law_plan_lots : Stmt := topS 18
theorem sc__law_plan_lots : FnScope ["value", "one", "other"] ["value"] (defScope s__law_plan_lots) := ⟨rfl, rfl, rfl, by decide +kernel, rfl, by decide +kernel, by decide +kernel⟩
noncomputable def b__law_plan_lots (self__law_plan_lots : DFn) : DS := (sSeq (sIf (tAnd (tB (e1 (isaD "int") (eVar 0))) (tNot (tB (e1 (isaD "bool") (eVar 0))))) (sRet (eLst (aCons (eTup (aCons (eVar 0) aNil)) aNil))) sNext) (sSeq (sIf (tOr (tNot (tB (e1 (isaD "tuple") (eVar 0)))) (tB (e2 neD (eC1 lenD (aCons (eVar 0) aNil)) (eC (.int 2))))) (sRet (eC .none)) sNext) (sSeq (sPar (pCons 1 (eCall self__law_plan_lots (aCons (e2 ixA (eVar 0) (eC (.int 0))) aNil)) (pCons 2 (eCall self__law_plan_lots (aCons (e2 ixA (eVar 0) (eC (.int 1))) aNil)) pNil))) (sRet (eIf (tOr (tB (e2 isNoneD (eVar 1) (eC .none))) (tB (e2 isNoneD (eVar 2) (eC .none)))) (eC .none) (e2 addD (e2 addD (eVar 1) (eVar 2)) (eLst (aCons (eC1 tupleD (aCons (eC1 sortedD (aCons (e2 addD (e2 ixA (eVar 1) (e1 negD (eC (.int 1)))) (e2 ixA (eVar 2) (e1 negD (eC (.int 1))))) aNil)) aNil)) aNil))))))))
noncomputable def step__law_plan_lots (self__law_plan_lots : DFn) : DFn := runF 3 1 (b__law_plan_lots self__law_plan_lots)
theorem ok__law_plan_lots {self__law_plan_lots : DFn} {f : Addr} {fd : FuncData} (D : Def K mg "_law_plan_lots" s__law_plan_lots f fd ["value"]) (c__law_plan_lots : CalV P w K mg base k "_law_plan_lots" 1 self__law_plan_lots) (b_isinstance : mg "isinstance" = none) (b_bool : mg "bool" = none) (b_int : mg "int" = none) (b_len : mg "len" = none) (b_tuple : mg "tuple" = none) (b_sorted : mg "sorted" = none) : CalV P w K mg base (k + 1) "_law_plan_lots" 1 (step__law_plan_lots self__law_plan_lots) :=
  D.v (m := []) sc__law_plan_lots rfl (by decide) fun cdv A outer s H hgd hr => by
  have hu := huV hr
  have hN := sc__law_plan_lots.nd
  exact vss_cons (vs_if ((vw_and (vt_val ((ve_isa (by rfl) b_isinstance (by rfl) b_int (by rfl) ((ve_var 0).r)).r)) (vw_and1 (vt_not (vt_val ((ve_isa (by rfl) b_isinstance (by rfl) b_bool (by rfl) ((ve_var 0).r)).r))))).t) (vss_one (vs_ret (m' := []) ((vf_lst (vc_cons (ve_tup (vc_cons (ve_var 0) vc_nil) (few (len_cons len_nil))) vc_nil) (few (len_cons len_nil))).r)))
      (vss_nil))
      (vss_cons (vs_if ((vw_or (vt_not (vt_val ((ve_isa (by rfl) b_isinstance (by rfl) b_tuple (by rfl) ((ve_var 0).r)).r))) (vw_or1 (vt_cmp (op2_ne hu) ((ve_callB opc_len (by rfl) b_len (by rfl) (va_cons ((ve_var 0).r) va_nil)).r) ((ve_int).r)))).t) (vss_one (vs_ret (m' := []) ((ve_non).r)))
      (vss_nil))
      (vss_cons (vs_par2 rfl hN (vps_cons (ve_cal c__law_plan_lots hgd hr (vc_cons (ve_ix (ixd_any hu) ((ve_var 0).r) ((ve_int).r)) vc_nil) (eq_cons eq_nil)) (vps_cons (ve_cal c__law_plan_lots hgd hr (vc_cons (ve_ix (ixd_any hu) ((ve_var 0).r) ((ve_int).r)) vc_nil) (eq_cons eq_nil)) vps_nil)))
      (vss_one (vs_ret (m' := []) (vr_if ((vw_or (vt_cmp op2_isNone ((ve_var 1).r) ((ve_non).r)) (vw_or1 (vt_cmp op2_isNone ((ve_var 2).r) ((ve_non).r)))).t) ((ve_non).r) ((ve_op op2_add ((ve_op op2_add ((ve_var 1).r) ((ve_var 2).r)).r) ((vf_lst (vc_cons (ve_callTy opc_tuple (by rfl) b_tuple (by rfl) (va_cons ((vf_callB (opn_sorted hu) (by rfl) b_sorted (by rfl) (va_cons ((ve_op op2_add ((ve_ix (ixd_any hu) ((ve_var 1).r) ((ve_un op1_neg ((ve_int).r)).r)).r) ((ve_ix (ixd_any hu) ((ve_var 2).r) ((ve_un op1_neg ((ve_int).r)).r)).r)).r) va_nil)).r) va_nil)) vc_nil) (few (len_cons len_nil))).r)).r))))))
noncomputable def d__law_plan_lots_n : Nat → DFn
  | 0 => fun _ _ => none
  | j + 1 => step__law_plan_lots (d__law_plan_lots_n j)
noncomputable def d__law_plan_lots : DFn := d__law_plan_lots_n 40
theorem rec__law_plan_lots {f : Addr} {fd : FuncData} (D : Def K mg "_law_plan_lots" s__law_plan_lots f fd ["value"]) (b_isinstance : mg "isinstance" = none) (b_bool : mg "bool" = none) (b_int : mg "int" = none) (b_len : mg "len" = none) (b_tuple : mg "tuple" = none) (b_sorted : mg "sorted" = none) : ∀ j, CalV P w K mg base (k + j) "_law_plan_lots" 1 (d__law_plan_lots_n j)
  | 0 => CalV.zero D rfl
  | j + 1 => ok__law_plan_lots D  (rec__law_plan_lots D  b_isinstance b_bool b_int b_len b_tuple b_sorted j) b_isinstance b_bool b_int b_len b_tuple b_sorted
abbrev s__law_draw_plan : Stmt := topS 19
theorem sc__law_draw_plan : FnScope ["source", "shires", "rest", "lap", "one"] ["source", "shires"] (defScope s__law_draw_plan) := ⟨rfl, rfl, rfl, by decide +kernel, rfl, by decide +kernel, by decide +kernel⟩
noncomputable def b__law_draw_plan : DS := (sSeq (sAsg 2 (eC1 listA (aCons (eVar 1) aNil))) (sSeq (sFor (iRange iRg1 (aCons (e2 subD (eC1 lenD (aCons (eVar 1) aNil)) (eC (.int 1))) aNil)) (gV 3) (sSeq (sAsgX 4 (xPopAt 2 (eCall d__law_pick (aCons (eC1 lenD (aCons (eVar 2) aNil)) aNil)))) (sDo (xAppend 2 (xTup2 (xV (eVar 4)) (xPopAt 2 (eCall d__law_pick (aCons (eC1 lenD (aCons (eVar 2) aNil)) aNil)))))))) (sRet (e2 ixA (eVar 2) (eC (.int 0))))))
noncomputable def d__law_draw_plan : DFn := runS 5 1 (b__law_draw_plan)
theorem ok__law_draw_plan {f : Addr} {fd : FuncData} (D : Def K mg "_law_draw_plan" s__law_draw_plan f fd ["source", "shires"]) (c__law_pick : CalS P w K mg base k "_law_pick" 1 d__law_pick) (b_list : mg "list" = none) (b_range : mg "range" = none) (b_len : mg "len" = none) : CalS P w K mg base (k + 1) "_law_draw_plan" 1 (d__law_draw_plan) :=
  D.s (m := [2]) sc__law_draw_plan rfl (by decide) fun cdv A outer s H hgd hr => by
  have hu := huV hr
  have hN := sc__law_draw_plan.nd
  exact vss_cons (vs_asgF (i := 2) (vf_callTy (opn_listA rfl) (by rfl) b_list (by rfl) (va_cons ((ve_var 1).r) va_nil)) hN)
      (vss_cons (vs_for rfl PassesOwn.never (vi_range1 (by rfl) b_range (va_cons ((ve_op op2_sub ((ve_callB opc_len (by rfl) b_len (by rfl) (va_cons ((ve_var 1).r) va_nil)).r) ((ve_int).r)).r) va_nil)) (vg_name (i := 3) hN)
      (vss_cons (vs_asgX (i := 4) (vx_popAt 2 (ve_calS c__law_pick hgd hr (vc_cons (ve_callB opc_len (by rfl) b_len (by rfl) (va_cons (vr_own 2) va_nil)) vc_nil) (eq_cons eq_nil) 0)) hN)
      (vss_one (vs_do (vx_append 2 (vx_tup2 (vx_val (ve_var 4)) (vx_popAt 2 (ve_calS c__law_pick hgd hr (vc_cons (ve_callB opc_len (by rfl) b_len (by rfl) (va_cons (vr_own 2) va_nil)) vc_nil) (eq_cons eq_nil) 0))))))))
      (vss_one (vs_ret (m' := [2]) ((ve_ix (ixd_any hu) (vr_own 2) ((ve_int).r)).r))))
abbrev s__law_formed : Stmt := topS 20
theorem sc__law_formed : FnScope ["plan", "one", "other"] ["plan"] (defScope s__law_formed) := ⟨rfl, rfl, rfl, by decide +kernel, rfl, by decide +kernel, by decide +kernel⟩
noncomputable def b__law_formed (self__law_formed : DFn) : DS := (sSeq (sIf (tNot (tB (e1 (isaD "tuple") (eVar 0)))) (sRet (eVar 0)) sNext) (sSeq (sPar (pCons 1 (eCall self__law_formed (aCons (e2 ixA (eVar 0) (eC (.int 0))) aNil)) (pCons 2 (eCall self__law_formed (aCons (e2 ixA (eVar 0) (eC (.int 1))) aNil)) pNil))) (sRet (eIf (tB (e2 ltD (e2 ixA (eCall d__law_plan_lots (aCons (eVar 1) aNil)) (e1 negD (eC (.int 1)))) (e2 ixA (eCall d__law_plan_lots (aCons (eVar 2) aNil)) (e1 negD (eC (.int 1)))))) (eTup (aCons (eVar 1) (aCons (eVar 2) aNil))) (eTup (aCons (eVar 2) (aCons (eVar 1) aNil)))))))
noncomputable def step__law_formed (self__law_formed : DFn) : DFn := runF 3 1 (b__law_formed self__law_formed)
theorem ok__law_formed {self__law_formed : DFn} {f : Addr} {fd : FuncData} (D : Def K mg "_law_formed" s__law_formed f fd ["plan"]) (c__law_plan_lots : CalV P w K mg base k "_law_plan_lots" 1 d__law_plan_lots) (c__law_formed : CalV P w K mg base k "_law_formed" 1 self__law_formed) (b_isinstance : mg "isinstance" = none) (b_tuple : mg "tuple" = none) : CalV P w K mg base (k + 1) "_law_formed" 1 (step__law_formed self__law_formed) :=
  D.v (m := []) sc__law_formed rfl (by decide) fun cdv A outer s H hgd hr => by
  have hu := huV hr
  have hN := sc__law_formed.nd
  exact vss_cons (vs_if (vt_not (vt_val ((ve_isa (by rfl) b_isinstance (by rfl) b_tuple (by rfl) ((ve_var 0).r)).r))) (vss_one (vs_ret (m' := []) ((ve_var 0).r)))
      (vss_nil))
      (vss_cons (vs_par2 rfl hN (vps_cons (ve_cal c__law_formed hgd hr (vc_cons (ve_ix (ixd_any hu) ((ve_var 0).r) ((ve_int).r)) vc_nil) (eq_cons eq_nil)) (vps_cons (ve_cal c__law_formed hgd hr (vc_cons (ve_ix (ixd_any hu) ((ve_var 0).r) ((ve_int).r)) vc_nil) (eq_cons eq_nil)) vps_nil)))
      (vss_one (vs_ret (m' := []) (vr_if (vt_cmp (op2_lt hu) ((ve_ix (ixd_any hu) ((ve_cal c__law_plan_lots hgd hr (vc_cons (ve_var 1) vc_nil) (eq_cons eq_nil)).r) ((ve_un op1_neg ((ve_int).r)).r)).r) ((ve_ix (ixd_any hu) ((ve_cal c__law_plan_lots hgd hr (vc_cons (ve_var 2) vc_nil) (eq_cons eq_nil)).r) ((ve_un op1_neg ((ve_int).r)).r)).r)) ((ve_tup (vc_cons (ve_var 1) (vc_cons (ve_var 2) vc_nil)) (few (len_cons (len_cons len_nil)))).r) ((ve_tup (vc_cons (ve_var 2) (vc_cons (ve_var 1) vc_nil)) (few (len_cons (len_cons len_nil)))).r)))))
noncomputable def d__law_formed_n : Nat → DFn
  | 0 => fun _ _ => none
  | j + 1 => step__law_formed (d__law_formed_n j)
noncomputable def d__law_formed : DFn := d__law_formed_n 40
theorem rec__law_formed {f : Addr} {fd : FuncData} (D : Def K mg "_law_formed" s__law_formed f fd ["plan"]) (c__law_plan_lots : CalV P w K mg base k "_law_plan_lots" 1 d__law_plan_lots) (b_isinstance : mg "isinstance" = none) (b_tuple : mg "tuple" = none) : ∀ j, CalV P w K mg base (k + j) "_law_formed" 1 (d__law_formed_n j)
  | 0 => CalV.zero D rfl
  | j + 1 => ok__law_formed D (c__law_plan_lots.up (Nat.le_add_right _ _)) (rec__law_formed D c__law_plan_lots b_isinstance b_tuple j) b_isinstance b_tuple
abbrev s__law_is_lot : Stmt := topS 21
theorem sc__law_is_lot : FnScope ["n", "value", "one", "other"] ["n", "value"] (defScope s__law_is_lot) := ⟨rfl, rfl, rfl, by decide +kernel, rfl, by decide +kernel, by decide +kernel⟩
noncomputable def b__law_is_lot : DS := (sSeq (sIf (tOr (tNot (tB (e1 (isaD "tuple") (eVar 1)))) (tB (e2 eqD (eVar 1) (eTup aNil)))) (sRet (eC (.bool false))) sNext) (sSeq (sIf (tB (eC1 anyD (aCons (eLc (iV (eVar 1)) (gV 2) tTrue (eOr (e1 (isaD "bool") (eVar 2)) (e1 notD (e1 (isaD "int") (eVar 2)))) [2]) aNil))) (sRet (eC (.bool false))) sNext) (sRet (eAnd (e2 geD (e2 ixA (eVar 1) (eC (.int 0))) (eC (.int 0))) (eAnd (e2 ltD (e2 ixA (eVar 1) (e1 negD (eC (.int 1)))) (eVar 0)) (eC1 allD (aCons (eLc (iRange iZ (aCons (eVar 1) (aCons (eSl (eVar 1) (pSome (eC (.int 1))) pNone) aNil))) (gT (gsCons (gV 2) (gsCons (gV 3) gsNil))) tTrue (e2 ltD (eVar 2) (eVar 3)) [2, 3]) aNil)))))))
noncomputable def d__law_is_lot : DFn := runF 4 2 (b__law_is_lot)
theorem ok__law_is_lot {f : Addr} {fd : FuncData} (D : Def K mg "_law_is_lot" s__law_is_lot f fd ["n", "value"]) (b_isinstance : mg "isinstance" = none) (b_tuple : mg "tuple" = none) (b_any : mg "any" = none) (b_int : mg "int" = none) (b_bool : mg "bool" = none) (b_all : mg "all" = none) (b_zip : mg "zip" = none) : CalV P w K mg base (k + 1) "_law_is_lot" 2 (d__law_is_lot) :=
  D.v (m := []) sc__law_is_lot rfl (by decide) fun cdv A outer s H hgd hr => by
  have hu := huV hr
  have hN := sc__law_is_lot.nd
  exact vss_cons (vs_if ((vw_or (vt_not (vt_val ((ve_isa (by rfl) b_isinstance (by rfl) b_tuple (by rfl) ((ve_var 1).r)).r))) (vw_or1 (vt_cmp (op2_eq hu) ((ve_var 1).r) ((ve_tup vc_nil (few len_nil)).r)))).t) (vss_one (vs_ret (m' := []) ((ve_bl).r)))
      (vss_nil))
      (vss_cons (vs_if (vt_val ((ve_callB (opc_any rfl) (by rfl) b_any (by rfl) (va_cons ((vf_lc (lp := false) (cown := [("one", 2)]) ⟨rfl, hN, vi_val (ve_var 1), blkOk_by (by rfl), fun s H C cl fp => vg_name (i := 2) hN, fun s H C cl fp => vts_nil, fun s H C cl fp => ve_or ((ve_isa (by rfl) b_isinstance (by rfl) b_bool (by rfl) ((ve_var 2).r)).r) (ve_one (ve_not ((ve_isa (by rfl) b_isinstance (by rfl) b_int (by rfl) ((ve_var 2).r)).r))), by decide, by decide⟩).r) va_nil)).r)) (vss_one (vs_ret (m' := []) ((ve_bl).r)))
      (vss_nil))
      (vss_one (vs_ret (m' := []) ((ve_and ((ve_cmp (op2_ge hu) ((ve_ix (ixd_any hu) ((ve_var 1).r) ((ve_int).r)).r) ((ve_int).r)).r) (ve_and ((ve_cmp (op2_lt hu) ((ve_ix (ixd_any hu) ((ve_var 1).r) ((ve_un op1_neg ((ve_int).r)).r)).r) ((ve_var 0).r)).r) (ve_one (ve_callB (opc_all rfl) (by rfl) b_all (by rfl) (va_cons ((vf_lc (lp := false) (cown := [("one", 2), ("other", 3)]) ⟨rfl, hN, vi_zip (by rfl) b_zip (vc_cons (ve_var 1) (vc_cons (ve_sl ((ve_var 1).r) (vp_some ((ve_int).r)) vp_none) vc_nil)), blkOk_by (by rfl), fun s H C cl fp => vg_tup rfl (vgs_cons (vg_name (i := 2) hN) (vgs_cons (vg_name (i := 3) hN) vgs_nil)) (gsS (gsS gs0)), fun s H C cl fp => vts_nil, fun s H C cl fp => ve_cmp (op2_lt hu) ((ve_var 2).r) ((ve_var 3).r), by decide, by decide⟩).r) va_nil))))).r))))
abbrev s__law_cross : Stmt := topS 22
theorem sc__law_cross : FnScope ["one", "other", "shared", "shire"] ["one", "other"] (defScope s__law_cross) := ⟨rfl, rfl, rfl, by decide +kernel, rfl, by decide +kernel, by decide +kernel⟩
noncomputable def b__law_cross : DS := (sSeq (sAsg 2 (eC1 lenD (aCons (eLc (iV (eVar 0)) (gV 3) (tB (e2 inA (eVar 3) (eVar 1))) (eVar 3) [3]) aNil))) (sRet (eChain ltD ltD (eC (.int 0)) (eVar 2) (eC1 min2D (aCons (eC1 lenD (aCons (eVar 0) aNil)) (aCons (eC1 lenD (aCons (eVar 1) aNil)) aNil))))))
noncomputable def d__law_cross : DFn := runF 4 2 (b__law_cross)
theorem ok__law_cross {f : Addr} {fd : FuncData} (D : Def K mg "_law_cross" s__law_cross f fd ["one", "other"]) (b_len : mg "len" = none) (b_min : mg "min" = none) : CalV P w K mg base (k + 1) "_law_cross" 2 (d__law_cross) :=
  D.v (m := []) sc__law_cross rfl (by decide) fun cdv A outer s H hgd hr => by
  have hu := huV hr
  have hN := sc__law_cross.nd
  exact vss_cons (vs_asg (i := 2) (ve_callB opc_len (by rfl) b_len (by rfl) (va_cons ((vf_lc (lp := false) (cown := [("shire", 3)]) ⟨rfl, hN, vi_val (ve_var 0), blkOk_by (by rfl), fun s H C cl fp => vg_name (i := 3) hN, fun s H C cl fp => vts_one (vt_cmp (op2_in hu) ((ve_var 3).r) ((ve_var 1).r)), fun s H C cl fp => ve_var 3, by decide, by decide⟩).r) va_nil)) hN)
      (vss_one (vs_ret (m' := []) ((ve_chain (op2_lt hu) (op2_lt hu) ((ve_int).r) ((ve_var 2).r) ((ve_callB (opc_min2 rfl) (by rfl) b_min (by rfl) (va_cons ((ve_callB opc_len (by rfl) b_len (by rfl) (va_cons ((ve_var 0).r) va_nil)).r) (va_cons ((ve_callB opc_len (by rfl) b_len (by rfl) (va_cons ((ve_var 1).r) va_nil)).r) va_nil))).r)).r)))
abbrev s__law_lots_fault : Stmt := topS 23
theorem sc__law_lots_fault : FnScope ["n", "value", "i", "one", "crossing", "lot", "other", "j"] ["n", "value"] (defScope s__law_lots_fault) := ⟨rfl, rfl, rfl, by decide +kernel, rfl, by decide +kernel, by decide +kernel⟩
noncomputable def b__law_lots_fault : DS := (sSeq (sIf (tOr (tNot (tB (e1 (isaD "tuple") (eVar 1)))) (tNot (tB (eC1 allD (aCons (eLc (iV (eVar 1)) (gV 5) tTrue (eCall d__law_is_lot (aCons (eVar 0) (aCons (eVar 5) aNil))) [5]) aNil))))) (sRet (eTup (aCons (eC (.str "form")) aNil))) sNext) (sSeq (sIf (tNot (tB (eC1 allD (aCons (eLc (iRange iZ (aCons (eVar 1) (aCons (eSl (eVar 1) (pSome (eC (.int 1))) pNone) aNil))) (gT (gsCons (gV 3) (gsCons (gV 6) gsNil))) tTrue (e2 ltD (eVar 3) (eVar 6)) [3, 6]) aNil)))) (sRet (eTup (aCons (eC (.str "form")) aNil))) sNext) (sSeq (sFor (iRange iE (aCons (eVar 1) aNil)) (gT (gsCons (gV 2) (gsCons (gV 3) gsNil))) (sSeq (sAsg 4 (eLc (iRange iRg2 (aCons (e2 addD (eVar 2) (eC (.int 1))) (aCons (eC1 lenD (aCons (eVar 1) aNil)) aNil))) (gV 7) (tB (eCall d__law_cross (aCons (eVar 3) (aCons (e2 ixA (eVar 1) (eVar 7)) aNil)))) (eVar 7) [7])) (sIf (tB (e2 neD (eVar 4) (eLst aNil))) (sRet (eTup (aCons (eC (.str "cross")) (aCons (eVar 2) (aCons (e2 ixA (eVar 4) (eC (.int 0))) aNil))))) sNext))) (sRet (eIf (tB (e2 eqD (eC1 lenD (aCons (eVar 1) aNil)) (e2 subD (e2 mulD (eC (.int 2)) (eVar 0)) (eC (.int 1))))) (eC .none) (eTup (aCons (eC (.str "many")) (aCons (eC1 lenD (aCons (eVar 1) aNil)) aNil))))))))
noncomputable def d__law_lots_fault : DFn := runF 8 2 (b__law_lots_fault)
theorem ok__law_lots_fault {f : Addr} {fd : FuncData} (D : Def K mg "_law_lots_fault" s__law_lots_fault f fd ["n", "value"]) (c__law_is_lot : CalV P w K mg base k "_law_is_lot" 2 d__law_is_lot) (c__law_cross : CalV P w K mg base k "_law_cross" 2 d__law_cross) (b_all : mg "all" = none) (b_isinstance : mg "isinstance" = none) (b_tuple : mg "tuple" = none) (b_zip : mg "zip" = none) (b_enumerate : mg "enumerate" = none) (b_range : mg "range" = none) (b_len : mg "len" = none) : CalV P w K mg base (k + 1) "_law_lots_fault" 2 (d__law_lots_fault) :=
  D.v (m := []) sc__law_lots_fault rfl (by decide) fun cdv A outer s H hgd hr => by
  have hu := huV hr
  have hN := sc__law_lots_fault.nd
  exact vss_cons (vs_if ((vw_or (vt_not (vt_val ((ve_isa (by rfl) b_isinstance (by rfl) b_tuple (by rfl) ((ve_var 1).r)).r))) (vw_or1 (vt_not (vt_val ((ve_callB (opc_all rfl) (by rfl) b_all (by rfl) (va_cons ((vf_lc (lp := false) (cown := [("lot", 5)]) ⟨rfl, hN, vi_val (ve_var 1), blkOk_by (by rfl), fun s H C cl fp => vg_name (i := 5) hN, fun s H C cl fp => vts_nil, fun s H C cl fp => ve_cal c__law_is_lot hgd hr (vc_cons (ve_var 0) (vc_cons (ve_var 5) vc_nil)) (eq_cons (eq_cons eq_nil)), by decide, by decide⟩).r) va_nil)).r))))).t) (vss_one (vs_ret (m' := []) ((ve_tup (vc_cons (ve_str) vc_nil) (few (len_cons len_nil))).r)))
      (vss_nil))
      (vss_cons (vs_if (vt_not (vt_val ((ve_callB (opc_all rfl) (by rfl) b_all (by rfl) (va_cons ((vf_lc (lp := false) (cown := [("one", 3), ("other", 6)]) ⟨rfl, hN, vi_zip (by rfl) b_zip (vc_cons (ve_var 1) (vc_cons (ve_sl ((ve_var 1).r) (vp_some ((ve_int).r)) vp_none) vc_nil)), blkOk_by (by rfl), fun s H C cl fp => vg_tup rfl (vgs_cons (vg_name (i := 3) hN) (vgs_cons (vg_name (i := 6) hN) vgs_nil)) (gsS (gsS gs0)), fun s H C cl fp => vts_nil, fun s H C cl fp => ve_cmp (op2_lt hu) ((ve_var 3).r) ((ve_var 6).r), by decide, by decide⟩).r) va_nil)).r))) (vss_one (vs_ret (m' := []) ((ve_tup (vc_cons (ve_str) vc_nil) (few (len_cons len_nil))).r)))
      (vss_nil))
      (vss_cons (vs_for rfl PassesOwn.never (vi_enum (by rfl) b_enumerate (vc_cons (ve_var 1) vc_nil)) (vg_tup rfl (vgs_cons (vg_name (i := 2) hN) (vgs_cons (vg_name (i := 3) hN) vgs_nil)) (gsS (gsS gs0)))
      (vss_cons (vs_setLc (lp := false) (i := 4) (cown := [("j", 7)]) ⟨rfl, hN, vi_range2 (by rfl) b_range (va_cons ((ve_op op2_add ((ve_var 2).r) ((ve_int).r)).r) (va_cons ((ve_callB opc_len (by rfl) b_len (by rfl) (va_cons ((ve_var 1).r) va_nil)).r) va_nil)), blkOk_by (by rfl), fun s H C cl fp => vg_name (i := 7) hN, fun s H C cl fp => vts_one (vt_val ((ve_cal c__law_cross hgd hr (vc_cons (ve_var 3) (vc_cons (ve_ix (ixd_any hu) ((ve_var 1).r) ((ve_var 7).r)) vc_nil)) (eq_cons (eq_cons eq_nil))).r)), fun s H C cl fp => ve_var 7, by decide, by decide⟩)
      (vss_one (vs_if (vt_cmp (op2_ne hu) ((ve_var 4).r) ((vf_lst vc_nil (few len_nil)).r)) (vss_one (vs_ret (m' := []) ((ve_tup (vc_cons (ve_str) (vc_cons (ve_var 2) (vc_cons (ve_ix (ixd_any hu) ((ve_var 4).r) ((ve_int).r)) vc_nil))) (few (len_cons (len_cons (len_cons len_nil))))).r)))
      (vss_nil)))))
      (vss_one (vs_ret (m' := []) (vr_if (vt_cmp (op2_eq hu) ((ve_callB opc_len (by rfl) b_len (by rfl) (va_cons ((ve_var 1).r) va_nil)).r) ((ve_op op2_sub ((ve_op op2_mul ((ve_int).r) ((ve_var 0).r)).r) ((ve_int).r)).r)) ((ve_non).r) ((ve_tup (vc_cons (ve_str) (vc_cons (ve_callB opc_len (by rfl) b_len (by rfl) (va_cons ((ve_var 1).r) va_nil)) vc_nil)) (few (len_cons (len_cons len_nil)))).r))))))
abbrev s__law_plan_by : Stmt := topS 24
theorem sc__law_plan_by : FnScope ["lots", "found", "lot", "within", "plan", "late"] ["lots"] (defScope s__law_plan_by) := ⟨rfl, rfl, rfl, by decide +kernel, rfl, by decide +kernel, by decide +kernel⟩
noncomputable def b__law_plan_by (Pt : Addr) : DS := (sSeq (sAsg 1 (eC (.dict []))) (sSeq (sFor (iV (eSortBy Pt "_law_plan_by.<locals>.<lambda>" (eVar 0))) (gV 2) (sSeq (sAsg 3 (eLc (iV (eC1 sortedD (aCons (eC1 listA (aCons (eVar 1) aNil)) aNil))) (gV 5) (tB (e2 inA (e2 ixA (eVar 5) (eC (.int 0))) (eVar 2))) (eVar 5) [5])) (sSeq (sAsg 4 (eIf (tB (e2 eqD (eVar 3) (eLst aNil))) (e2 ixA (eVar 2) (eC (.int 0))) (eTup (aCons (e2 ixA (eVar 1) (e2 ixA (eVar 3) (eC (.int 0)))) (aCons (e2 ixA (eVar 1) (e2 ixA (eVar 3) (eC (.int 1)))) aNil))))) (sSeq (sFor (iV (eVar 3)) (gV 5) (sDo (xPopD 1 (eVar 5)))) (sStore 1 (eVar 2) (eVar 4)))))) (sRet (e2 ixA (e1 valsD (eVar 1)) (eC (.int 0))))))
noncomputable def d__law_plan_by (Pt : Addr) : DFn := runF 6 1 ((b__law_plan_by Pt))
theorem ok__law_plan_by {cP : Addr} {f : Addr} {fd : FuncData} (D : DefC K mg "_law_plan_by" s__law_plan_by f fd ["lots"] cP) (b_sorted : mg "sorted" = none) (b_len : mg "len" = none) (b_list : mg "list" = none) (TB : LamX.TabB base mg cP Pt) : CalV P w K mg base (k + 1) "_law_plan_by" 1 ((d__law_plan_by Pt)) :=
  D.v (m := [1]) sc__law_plan_by rfl (by decide) fun cdv hcd A outer s H hgd hr => by
  have hu := huV hr
  have hN := sc__law_plan_by.nd
  exact vss_cons (vs_asgF (i := 1) (vf_dict0) hN)
      (vss_cons (vs_for rfl PassesOwn.never (vi_val ((vf_sortedBy hr (by rfl) b_sorted b_len TB hcd ((ve_var 0).r) ⟨rfl, rfl, rfl, rfl, rfl, by decide⟩).ve)) (vg_name (i := 2) hN)
      (vss_cons (vs_setLc (lp := false) (i := 3) (cown := [("late", 5)]) ⟨rfl, hN, vi_val ((vf_callB (opn_sorted hu) (by rfl) b_sorted (by rfl) (va_cons ((vf_callTy (opn_listA rfl) (by rfl) b_list (by rfl) (va_cons (vr_own 1) va_nil)).r) va_nil)).ve), blkOk_by (by rfl), fun s H C cl fp => vg_name (i := 5) hN, fun s H C cl fp => vts_one (vt_cmp (op2_in hu) ((ve_ix (ixd_any hu) ((ve_var 5).r) ((ve_int).r)).r) ((ve_var 2).r)), fun s H C cl fp => ve_var 5, by decide, by decide⟩)
      (vss_cons (vs_asg (i := 4) (ve_if (vt_cmp (op2_eq hu) ((ve_var 3).r) ((vf_lst vc_nil (few len_nil)).r)) (ve_ix (ixd_any hu) ((ve_var 2).r) ((ve_int).r)) (ve_tup (vc_cons (ve_ix (ixd_any hu) (vr_own 1) ((ve_ix (ixd_any hu) ((ve_var 3).r) ((ve_int).r)).r)) (vc_cons (ve_ix (ixd_any hu) (vr_own 1) ((ve_ix (ixd_any hu) ((ve_var 3).r) ((ve_int).r)).r)) vc_nil)) (few (len_cons (len_cons len_nil))))) hN)
      (vss_cons (vs_for rfl PassesOwn.never (vi_val (ve_var 3)) (vg_name (i := 5) hN)
      (vss_one (vs_do (vx_popD 1 hu ((ve_var 5).r)))))
      (vss_one (vs_store 1 hu (ve_var 4) ((ve_var 2).r)))))))
      (vss_one (vs_ret (m' := [1]) ((ve_ix (ixd_any hu) ((vf_listVals rfl (by rfl) b_list (vr_own 1)).r) ((ve_int).r)).r))))
abbrev s__law_all_lots : Stmt := topS 25
theorem sc__law_all_lots : FnScope ["n", "found", "shire", "lot"] ["n"] (defScope s__law_all_lots) := ⟨rfl, rfl, rfl, by decide +kernel, rfl, by decide +kernel, by decide +kernel⟩
noncomputable def b__law_all_lots : DS := (sSeq (sAsg 1 (eLst (aCons (eTup aNil) aNil))) (sSeq (sFor (iRange iRg1 (aCons (eVar 0) aNil)) (gV 2) (sAsg 1 (e2 addD (eVar 1) (eLc (iV (eVar 1)) (gV 3) tTrue (e2 addD (eVar 3) (eTup (aCons (eVar 2) aNil))) [3])))) (sRet (eSl (eVar 1) (pSome (eC (.int 1))) pNone))))
noncomputable def d__law_all_lots : DFn := runF 4 1 (b__law_all_lots)
theorem ok__law_all_lots {f : Addr} {fd : FuncData} (D : Def K mg "_law_all_lots" s__law_all_lots f fd ["n"]) (b_range : mg "range" = none) : CalV P w K mg base (k + 1) "_law_all_lots" 1 (d__law_all_lots) :=
  D.v (m := []) sc__law_all_lots rfl (by decide) fun cdv A outer s H hgd hr => by
  have hu := huV hr
  have hN := sc__law_all_lots.nd
  exact vss_cons (vs_asg (i := 1) ((vf_lst (vc_cons (ve_tup vc_nil (few len_nil)) vc_nil) (few (len_cons len_nil))).ve) hN)
      (vss_cons (vs_for rfl PassesOwn.never (vi_range1 (by rfl) b_range (va_cons ((ve_var 0).r) va_nil)) (vg_name (i := 2) hN)
      (vss_one (vs_asg (i := 1) (ve_op op2_add ((ve_var 1).r) ((vf_lc (lp := false) (cown := [("lot", 3)]) ⟨rfl, hN, vi_val (ve_var 1), blkOk_by (by rfl), fun s H C cl fp => vg_name (i := 3) hN, fun s H C cl fp => vts_nil, fun s H C cl fp => ve_op op2_add ((ve_var 3).r) ((ve_tup (vc_cons (ve_var 2) vc_nil) (few (len_cons len_nil))).r), by decide, by decide⟩).r)) hN)))
      (vss_one (vs_ret (m' := []) ((ve_sl ((ve_var 1).r) (vp_some ((ve_int).r)) vp_none).r))))
abbrev s__law_grown_right : Stmt := topS 26
theorem sc__law_grown_right : FnScope ["source", "n", "found", "lot", "some", "due", "lots", "plan", "one"] ["source", "n"] (defScope s__law_grown_right) := ⟨rfl, rfl, rfl, by decide +kernel, rfl, by decide +kernel, by decide +kernel⟩
noncomputable def b__law_grown_right (Pt : Addr) : DS := (sSeq (sAsg 2 (eLst aNil)) (sSeq (sFor (iV (eCall d__law_any_order (aCons (eCall d__law_all_lots (aCons (eVar 1) aNil)) aNil))) (gV 3) (sIf (tNot (tB (eC1 anyD (aCons (eLc (iR (eVar 2)) (gV 8) tTrue (eCall d__law_cross (aCons (eVar 3) (aCons (eVar 8) aNil))) [8]) aNil)))) (sSeq (sDo (xAppend 2 (xV (eVar 3)))) (sSeq (sAsg 4 (eC1 tupleD (aCons (eC1 sortedD (aCons (eVar 2) aNil)) aNil))) (sSeq (sAsg 5 (eIf (tB (e2 eqD (eC1 lenD (aCons (eVar 2) aNil)) (e2 subD (e2 mulD (eC (.int 2)) (eVar 1)) (eC (.int 1))))) (eC .none) (eTup (aCons (eC (.str "many")) (aCons (eC1 lenD (aCons (eVar 2) aNil)) aNil))))) (sIf (tOr (tB (e2 gtD (eC1 lenD (aCons (eVar 2) aNil)) (e2 subD (e2 mulD (eC (.int 2)) (eVar 1)) (eC (.int 1))))) (tB (e2 neD (eCall d_judge_lots (aCons (eVar 1) (aCons (eVar 4) aNil))) (eVar 5)))) (sRet (eC (.bool false))) sNext)))) sNext)) (sSeq (sAsg 6 (eC1 tupleD (aCons (eC1 sortedD (aCons (eVar 2) aNil)) aNil))) (sSeq (sAsg 7 (eCall d_plan_of (aCons (eVar 1) (aCons (eVar 6) aNil)))) (sRet (eAnd (e2 eqD (eC1 lenD (aCons (eVar 6) aNil)) (e2 subD (e2 mulD (eC (.int 2)) (eVar 1)) (eC (.int 1)))) (eAnd (e2 eqD (eCall d_lots_of (aCons (eVar 7) aNil)) (eVar 6)) (eAnd (e2 eqD (eCall d_formed (aCons (eVar 7) aNil)) (eVar 7)) (e2 eqD (eVar 7) (eCall (d__law_plan_by Pt) (aCons (eVar 6) aNil)))))))))))
noncomputable def d__law_grown_right (Pt : Addr) : DFn := runS 9 1 ((b__law_grown_right Pt))
theorem ok__law_grown_right {f : Addr} {fd : FuncData} (D : Def K mg "_law_grown_right" s__law_grown_right f fd ["source", "n"]) (c__law_any_order : CalS P w K mg base k "_law_any_order" 1 d__law_any_order) (c__law_all_lots : CalV P w K mg base k "_law_all_lots" 1 d__law_all_lots) (c__law_cross : CalV P w K mg base k "_law_cross" 2 d__law_cross) (c_judge_lots : CalV P w K mg base k "judge_lots" 2 d_judge_lots) (c_plan_of : CalV P w K mg base k "plan_of" 2 d_plan_of) (c__law_plan_by : CalV P w K mg base k "_law_plan_by" 1 (d__law_plan_by Pt)) (c_formed : CalV P w K mg base k "formed" 1 d_formed) (c_lots_of : CalV P w K mg base k "lots_of" 1 d_lots_of) (b_any : mg "any" = none) (b_tuple : mg "tuple" = none) (b_sorted : mg "sorted" = none) (b_len : mg "len" = none) : CalS P w K mg base (k + 1) "_law_grown_right" 1 ((d__law_grown_right Pt)) :=
  D.s (m := [2]) sc__law_grown_right rfl (by decide) fun cdv A outer s H hgd hr => by
  have hu := huV hr
  have hN := sc__law_grown_right.nd
  exact vss_cons (vs_asgF (i := 2) (vf_lst vc_nil (few len_nil)) hN)
      (vss_cons (vs_for rfl PassesOwn.never (vi_val (ve_calS c__law_any_order hgd hr (vc_cons (ve_cal c__law_all_lots hgd hr (vc_cons (ve_var 1) vc_nil) (eq_cons eq_nil)) vc_nil) (eq_cons eq_nil) 0)) (vg_name (i := 3) hN)
      (vss_one (vs_if (vt_not (vt_val ((ve_callB (opc_any rfl) (by rfl) b_any (by rfl) (va_cons ((vf_lc (lp := false) (cown := [("one", 8)]) ⟨rfl, hN, vi_own (vr_own 2), blkOk_by (by rfl), fun s H C cl fp => vg_name (i := 8) hN, fun s H C cl fp => vts_nil, fun s H C cl fp => ve_cal c__law_cross hgd hr (vc_cons (ve_var 3) (vc_cons (ve_var 8) vc_nil)) (eq_cons (eq_cons eq_nil)), by decide, by decide⟩).r) va_nil)).r))) (vss_cons (vs_do (vx_append 2 (vx_val (ve_var 3))))
      (vss_cons (vs_asg (i := 4) (ve_callTy opc_tuple (by rfl) b_tuple (by rfl) (va_cons ((vf_callB (opn_sorted hu) (by rfl) b_sorted (by rfl) (va_cons (vr_own 2) va_nil)).r) va_nil)) hN)
      (vss_cons (vs_asg (i := 5) (ve_if (vt_cmp (op2_eq hu) ((ve_callB opc_len (by rfl) b_len (by rfl) (va_cons (vr_own 2) va_nil)).r) ((ve_op op2_sub ((ve_op op2_mul ((ve_int).r) ((ve_var 1).r)).r) ((ve_int).r)).r)) (ve_non) (ve_tup (vc_cons (ve_str) (vc_cons (ve_callB opc_len (by rfl) b_len (by rfl) (va_cons (vr_own 2) va_nil)) vc_nil)) (few (len_cons (len_cons len_nil))))) hN)
      (vss_one (vs_if ((vw_or (vt_cmp (op2_gt hu) ((ve_callB opc_len (by rfl) b_len (by rfl) (va_cons (vr_own 2) va_nil)).r) ((ve_op op2_sub ((ve_op op2_mul ((ve_int).r) ((ve_var 1).r)).r) ((ve_int).r)).r)) (vw_or1 (vt_cmp (op2_ne hu) ((ve_cal c_judge_lots hgd hr (vc_cons (ve_var 1) (vc_cons (ve_var 4) vc_nil)) (eq_cons (eq_cons eq_nil))).r) ((ve_var 5).r)))).t) (vss_one (vs_ret (m' := [2]) ((ve_bl).r)))
      (vss_nil))))))
      (vss_nil))))
      (vss_cons (vs_asg (i := 6) (ve_callTy opc_tuple (by rfl) b_tuple (by rfl) (va_cons ((vf_callB (opn_sorted hu) (by rfl) b_sorted (by rfl) (va_cons (vr_own 2) va_nil)).r) va_nil)) hN)
      (vss_cons (vs_asg (i := 7) (ve_cal c_plan_of hgd hr (vc_cons (ve_var 1) (vc_cons (ve_var 6) vc_nil)) (eq_cons (eq_cons eq_nil))) hN)
      (vss_one (vs_ret (m' := [2]) ((ve_and ((ve_cmp (op2_eq hu) ((ve_callB opc_len (by rfl) b_len (by rfl) (va_cons ((ve_var 6).r) va_nil)).r) ((ve_op op2_sub ((ve_op op2_mul ((ve_int).r) ((ve_var 1).r)).r) ((ve_int).r)).r)).r) (ve_and ((ve_cmp (op2_eq hu) ((ve_cal c_lots_of hgd hr (vc_cons (ve_var 7) vc_nil) (eq_cons eq_nil)).r) ((ve_var 6).r)).r) (ve_and ((ve_cmp (op2_eq hu) ((ve_cal c_formed hgd hr (vc_cons (ve_var 7) vc_nil) (eq_cons eq_nil)).r) ((ve_var 7).r)).r) (ve_one (ve_cmp (op2_eq hu) ((ve_var 7).r) ((ve_cal c__law_plan_by hgd hr (vc_cons (ve_var 6) vc_nil) (eq_cons eq_nil)).r)))))).r))))))
abbrev s__law_turned : Stmt := topS 28
theorem sc__law_turned : FnScope ["source", "plan", "one", "other"] ["source", "plan"] (defScope s__law_turned) := ⟨rfl, rfl, rfl, by decide +kernel, rfl, by decide +kernel, by decide +kernel⟩
noncomputable def b__law_turned (self__law_turned : DFn) : DS := (sSeq (sIf (tNot (tB (e1 (isaD "tuple") (eVar 1)))) (sRet (eVar 1)) sNext) (sSeq (sPar (pCons 2 (eCall self__law_turned (aCons (e2 ixA (eVar 1) (eC (.int 0))) aNil)) (pCons 3 (eCall self__law_turned (aCons (e2 ixA (eVar 1) (eC (.int 1))) aNil)) pNil))) (sRet (eIf (tB (e2 eqD (eCall d__law_pick (aCons (eC (.int 2)) aNil)) (eC (.int 0)))) (eTup (aCons (eVar 2) (aCons (eVar 3) aNil))) (eTup (aCons (eVar 3) (aCons (eVar 2) aNil)))))))
noncomputable def step__law_turned (self__law_turned : DFn) : DFn := runS 4 1 (b__law_turned self__law_turned)
theorem ok__law_turned {self__law_turned : DFn} {f : Addr} {fd : FuncData} (D : Def K mg "_law_turned" s__law_turned f fd ["source", "plan"]) (c__law_pick : CalS P w K mg base k "_law_pick" 1 d__law_pick) (c__law_turned : CalS P w K mg base k "_law_turned" 1 self__law_turned) (b_isinstance : mg "isinstance" = none) (b_tuple : mg "tuple" = none) : CalS P w K mg base (k + 1) "_law_turned" 1 (step__law_turned self__law_turned) :=
  D.s (m := []) sc__law_turned rfl (by decide) fun cdv A outer s H hgd hr => by
  have hu := huV hr
  have hN := sc__law_turned.nd
  exact vss_cons (vs_if (vt_not (vt_val ((ve_isa (by rfl) b_isinstance (by rfl) b_tuple (by rfl) ((ve_var 1).r)).r))) (vss_one (vs_ret (m' := []) ((ve_var 1).r)))
      (vss_nil))
      (vss_cons (vs_par2 rfl hN (vps_cons (ve_calS c__law_turned hgd hr (vc_cons (ve_ix (ixd_any hu) ((ve_var 1).r) ((ve_int).r)) vc_nil) (eq_cons eq_nil) 0) (vps_cons (ve_calS c__law_turned hgd hr (vc_cons (ve_ix (ixd_any hu) ((ve_var 1).r) ((ve_int).r)) vc_nil) (eq_cons eq_nil) 0) vps_nil)))
      (vss_one (vs_ret (m' := []) (vr_if (vt_cmp (op2_eq hu) ((ve_calS c__law_pick hgd hr (vc_cons (ve_int) vc_nil) (eq_cons eq_nil) 0).r) ((ve_int).r)) ((ve_tup (vc_cons (ve_var 2) (vc_cons (ve_var 3) vc_nil)) (few (len_cons (len_cons len_nil)))).r) ((ve_tup (vc_cons (ve_var 3) (vc_cons (ve_var 2) vc_nil)) (few (len_cons (len_cons len_nil)))).r)))))
noncomputable def d__law_turned_n : Nat → DFn
  | 0 => fun _ _ => none
  | j + 1 => step__law_turned (d__law_turned_n j)
noncomputable def d__law_turned : DFn := d__law_turned_n 40
theorem rec__law_turned {f : Addr} {fd : FuncData} (D : Def K mg "_law_turned" s__law_turned f fd ["source", "plan"]) (c__law_pick : CalS P w K mg base k "_law_pick" 1 d__law_pick) (b_isinstance : mg "isinstance" = none) (b_tuple : mg "tuple" = none) : ∀ j, CalS P w K mg base (k + j) "_law_turned" 1 (d__law_turned_n j)
  | 0 => CalS.zero D rfl
  | j + 1 => ok__law_turned D (c__law_pick.up (Nat.le_add_right _ _)) (rec__law_turned D c__law_pick b_isinstance b_tuple j) b_isinstance b_tuple
abbrev s__law_two_right : Stmt := topS 27
theorem sc__law_two_right : FnScope ["source", "n", "one", "other", "told", "mixed", "some", "value", "lots", "plan", "lot"] ["source", "n"] (defScope s__law_two_right) := ⟨rfl, rfl, rfl, by decide +kernel, rfl, by decide +kernel, by decide +kernel⟩
noncomputable def b__law_two_right : DS := (sSeq (sAsg 2 (eCall d__law_draw_plan (aCons (eLRg (eA1 (eVar 1))) aNil))) (sSeq (sAsg 3 (eIf (tB (e2 eqD (eCall d__law_pick (aCons (eC (.int 2)) aNil)) (eC (.int 0)))) (eCall d__law_draw_plan (aCons (eLRg (eA1 (eVar 1))) aNil)) (eCall d__law_turned (aCons (eVar 2) aNil)))) (sSeq (sAsg 4 (eLst (aCons (eCall d_lots_of (aCons (eVar 2) aNil)) (aCons (eCall d_lots_of (aCons (eVar 3) aNil)) aNil)))) (sSeq (sIf (tB (e2 neD (eLc (iV (eVar 4)) (gV 8) tTrue (eC1 listA (aCons (eVar 8) aNil)) [8]) (eLc (iV (eTup (aCons (eVar 2) (aCons (eVar 3) aNil)))) (gV 9) tTrue (eC1 sortedD (aCons (eCall d__law_plan_lots (aCons (eVar 9) aNil)) aNil)) [9]))) (sRet (eC (.bool false))) sNext) (sSeq (sIf (tOr (tB (e2 neD (e2 eqD (eCall d_formed (aCons (eVar 2) aNil)) (eCall d_formed (aCons (eVar 3) aNil))) (e2 eqD (e2 ixA (eVar 4) (eC (.int 0))) (e2 ixA (eVar 4) (eC (.int 1)))))) (tB (e2 neD (eCall d_formed (aCons (eVar 2) aNil)) (eCall d__law_formed (aCons (eVar 2) aNil))))) (sRet (eC (.bool false))) sNext) (sSeq (sAsg 5 (eC1 dictD (aCons (eLc (iV (e2 addD (e2 ixA (eVar 4) (eC (.int 0))) (e2 ixA (eVar 4) (eC (.int 1))))) (gV 10) tTrue (eTup (aCons (eVar 10) (aCons (eC (.int 0)) aNil))) [10]) aNil))) (sSeq (sAsg 6 (eC1 tupleD (aCons (eC1 sortedD (aCons (eLc (iV (eVar 5)) (gV 10) (tB (e2 gtD (eCall d__law_pick (aCons (eC (.int 5)) aNil)) (eC (.int 0)))) (eVar 10) [10]) aNil)) aNil))) (sSeq (sFor (iV (eTup (aCons (eC1 tupleD (aCons (eC1 sortedD (aCons (eC1 listA (aCons (eVar 5) aNil)) aNil)) aNil)) (aCons (eVar 6) (aCons (e2 addD (eSl (e2 ixA (eVar 4) (eC (.int 0))) pNone (pSome (eC (.int 1)))) (eSl (e2 ixA (eVar 4) (eC (.int 1))) (pSome (eC (.int 1))) pNone)) aNil))))) (gV 7) (sIf (tB (e2 neD (eCall d_judge_lots (aCons (eVar 1) (aCons (eVar 7) aNil))) (eCall d__law_lots_fault (aCons (eVar 1) (aCons (eVar 7) aNil))))) (sRet (eC (.bool false))) sNext)) (sRet (e2 eqD (eLc (iV (eVar 4)) (gV 8) tTrue (eCall d_plan_of (aCons (eVar 1) (aCons (eVar 8) aNil))) [8]) (eLst (aCons (eCall d_formed (aCons (eVar 2) aNil)) (aCons (eCall d_formed (aCons (eVar 3) aNil)) aNil)))))))))))))
noncomputable def d__law_two_right : DFn := runS 11 1 (b__law_two_right)
theorem ok__law_two_right {f : Addr} {fd : FuncData} (D : Def K mg "_law_two_right" s__law_two_right f fd ["source", "n"]) (c__law_draw_plan : CalS P w K mg base k "_law_draw_plan" 1 d__law_draw_plan) (c__law_pick : CalS P w K mg base k "_law_pick" 1 d__law_pick) (c__law_turned : CalS P w K mg base k "_law_turned" 1 d__law_turned) (c_lots_of : CalV P w K mg base k "lots_of" 1 d_lots_of) (c__law_plan_lots : CalV P w K mg base k "_law_plan_lots" 1 d__law_plan_lots) (c_formed : CalV P w K mg base k "formed" 1 d_formed) (c__law_formed : CalV P w K mg base k "_law_formed" 1 d__law_formed) (c_judge_lots : CalV P w K mg base k "judge_lots" 2 d_judge_lots) (c__law_lots_fault : CalV P w K mg base k "_law_lots_fault" 2 d__law_lots_fault) (c_plan_of : CalV P w K mg base k "plan_of" 2 d_plan_of) (b_list : mg "list" = none) (b_range : mg "range" = none) (b_sorted : mg "sorted" = none) (b_dict : mg "dict" = none) (b_tuple : mg "tuple" = none) : CalS P w K mg base (k + 1) "_law_two_right" 1 (d__law_two_right) :=
  D.s (m := []) sc__law_two_right rfl (by decide) fun cdv A outer s H hgd hr => by
  have hu := huV hr
  have hN := sc__law_two_right.nd
  exact vss_cons (vs_asg (i := 2) (ve_calS c__law_draw_plan hgd hr (vc_cons ((vf_listRg rfl (by rfl) b_range (by rfl) b_list (ve_var 1)).ve) vc_nil) (eq_cons eq_nil) 0) hN)
      (vss_cons (vs_asg (i := 3) (ve_if (vt_cmp (op2_eq hu) ((ve_calS c__law_pick hgd hr (vc_cons (ve_int) vc_nil) (eq_cons eq_nil) 0).r) ((ve_int).r)) (ve_calS c__law_draw_plan hgd hr (vc_cons ((vf_listRg rfl (by rfl) b_range (by rfl) b_list (ve_var 1)).ve) vc_nil) (eq_cons eq_nil) 0) (ve_calS c__law_turned hgd hr (vc_cons (ve_var 2) vc_nil) (eq_cons eq_nil) 0)) hN)
      (vss_cons (vs_asg (i := 4) ((vf_lst (vc_cons (ve_cal c_lots_of hgd hr (vc_cons (ve_var 2) vc_nil) (eq_cons eq_nil)) (vc_cons (ve_cal c_lots_of hgd hr (vc_cons (ve_var 3) vc_nil) (eq_cons eq_nil)) vc_nil)) (few (len_cons (len_cons len_nil)))).ve) hN)
      (vss_cons (vs_if (vt_cmp (op2_ne hu) ((vf_lc (lp := false) (cown := [("lots", 8)]) ⟨rfl, hN, vi_val (ve_var 4), blkOk_by (by rfl), fun s H C cl fp => vg_name (i := 8) hN, fun s H C cl fp => vts_nil, fun s H C cl fp => (vf_callTy (opn_listA rfl) (by rfl) b_list (by rfl) (va_cons ((ve_var 8).r) va_nil)).ve, by decide, by decide⟩).r) ((vf_lc (lp := false) (cown := [("plan", 9)]) ⟨rfl, hN, vi_val (ve_tup (vc_cons (ve_var 2) (vc_cons (ve_var 3) vc_nil)) (few (len_cons (len_cons len_nil)))), blkOk_by (by rfl), fun s H C cl fp => vg_name (i := 9) hN, fun s H C cl fp => vts_nil, fun s H C cl fp => (vf_callB (opn_sorted hu) (by rfl) b_sorted (by rfl) (va_cons ((ve_cal c__law_plan_lots hgd hr (vc_cons (ve_var 9) vc_nil) (eq_cons eq_nil)).r) va_nil)).ve, by decide, by decide⟩).r)) (vss_one (vs_ret (m' := []) ((ve_bl).r)))
      (vss_nil))
      (vss_cons (vs_if ((vw_or (vt_cmp (op2_ne hu) ((ve_cmp (op2_eq hu) ((ve_cal c_formed hgd hr (vc_cons (ve_var 2) vc_nil) (eq_cons eq_nil)).r) ((ve_cal c_formed hgd hr (vc_cons (ve_var 3) vc_nil) (eq_cons eq_nil)).r)).r) ((ve_cmp (op2_eq hu) ((ve_ix (ixd_any hu) ((ve_var 4).r) ((ve_int).r)).r) ((ve_ix (ixd_any hu) ((ve_var 4).r) ((ve_int).r)).r)).r)) (vw_or1 (vt_cmp (op2_ne hu) ((ve_cal c_formed hgd hr (vc_cons (ve_var 2) vc_nil) (eq_cons eq_nil)).r) ((ve_cal c__law_formed hgd hr (vc_cons (ve_var 2) vc_nil) (eq_cons eq_nil)).r)))).t) (vss_one (vs_ret (m' := []) ((ve_bl).r)))
      (vss_nil))
      (vss_cons (vs_asg (i := 5) ((vf_callTy (opn_dict rfl hu) (by rfl) b_dict (by rfl) (va_cons ((vf_lc (lp := false) (cown := [("lot", 10)]) ⟨rfl, hN, vi_val (ve_op op2_add ((ve_ix (ixd_any hu) ((ve_var 4).r) ((ve_int).r)).r) ((ve_ix (ixd_any hu) ((ve_var 4).r) ((ve_int).r)).r)), blkOk_by (by rfl), fun s H C cl fp => vg_name (i := 10) hN, fun s H C cl fp => vts_nil, fun s H C cl fp => ve_tup (vc_cons (ve_var 10) (vc_cons (ve_int) vc_nil)) (few (len_cons (len_cons len_nil))), by decide, by decide⟩).r) va_nil)).ve) hN)
      (vss_cons (vs_asg (i := 6) (ve_callTy opc_tuple (by rfl) b_tuple (by rfl) (va_cons ((vf_callB (opn_sorted hu) (by rfl) b_sorted (by rfl) (va_cons ((vf_lc (lp := false) (cown := [("lot", 10)]) ⟨rfl, hN, vi_val (ve_var 5), blkOk_by (by rfl), fun s H C cl fp => vg_name (i := 10) hN, fun s H C cl fp => vts_one (vt_cmp (op2_gt hu) ((ve_calS c__law_pick hgd hr (vc_cons (ve_int) vc_nil) (eq_cons eq_nil) 0).r) ((ve_int).r)), fun s H C cl fp => ve_var 10, by decide, by decide⟩).r) va_nil)).r) va_nil)) hN)
      (vss_cons (vs_for rfl PassesOwn.never (vi_val (ve_tup (vc_cons (ve_callTy opc_tuple (by rfl) b_tuple (by rfl) (va_cons ((vf_callB (opn_sorted hu) (by rfl) b_sorted (by rfl) (va_cons ((vf_callTy (opn_listA rfl) (by rfl) b_list (by rfl) (va_cons ((ve_var 5).r) va_nil)).r) va_nil)).r) va_nil)) (vc_cons (ve_var 6) (vc_cons (ve_op op2_add ((ve_sl ((ve_ix (ixd_any hu) ((ve_var 4).r) ((ve_int).r)).r) vp_none (vp_some ((ve_int).r))).r) ((ve_sl ((ve_ix (ixd_any hu) ((ve_var 4).r) ((ve_int).r)).r) (vp_some ((ve_int).r)) vp_none).r)) vc_nil))) (few (len_cons (len_cons (len_cons len_nil)))))) (vg_name (i := 7) hN)
      (vss_one (vs_if (vt_cmp (op2_ne hu) ((ve_cal c_judge_lots hgd hr (vc_cons (ve_var 1) (vc_cons (ve_var 7) vc_nil)) (eq_cons (eq_cons eq_nil))).r) ((ve_cal c__law_lots_fault hgd hr (vc_cons (ve_var 1) (vc_cons (ve_var 7) vc_nil)) (eq_cons (eq_cons eq_nil))).r)) (vss_one (vs_ret (m' := []) ((ve_bl).r)))
      (vss_nil))))
      (vss_one (vs_ret (m' := []) ((ve_cmp (op2_eq hu) ((vf_lc (lp := false) (cown := [("lots", 8)]) ⟨rfl, hN, vi_val (ve_var 4), blkOk_by (by rfl), fun s H C cl fp => vg_name (i := 8) hN, fun s H C cl fp => vts_nil, fun s H C cl fp => ve_cal c_plan_of hgd hr (vc_cons (ve_var 1) (vc_cons (ve_var 8) vc_nil)) (eq_cons (eq_cons eq_nil)), by decide, by decide⟩).r) ((vf_lst (vc_cons (ve_cal c_formed hgd hr (vc_cons (ve_var 2) vc_nil) (eq_cons eq_nil)) (vc_cons (ve_cal c_formed hgd hr (vc_cons (ve_var 3) vc_nil) (eq_cons eq_nil)) vc_nil)) (few (len_cons (len_cons len_nil)))).r)).r))))))))))
abbrev s_law : Stmt := topS 29
theorem sc_law : FnScope ["script", "source", "lap"] ["script"] (defScope s_law) := ⟨rfl, rfl, rfl, by decide +kernel, rfl, by decide +kernel, by decide +kernel⟩
noncomputable def b_law (Pt : Addr) : DS := (sSeq (sFor (iRange iRg1 (aCons (eC (.int 2)) aNil)) (gV 2) (sIf (tNot (tB (eCall (d__law_grown_right Pt) (aCons (e2 addD (eC (.int 2)) (eCall d__law_pick (aCons (eC (.int 4)) aNil))) aNil)))) (sRet (eC (.bool false))) sNext)) (sSeq (sFor (iRange iRg1 (aCons (eC (.int 3)) aNil)) (gV 2) (sIf (tNot (tB (eCall d__law_two_right (aCons (e2 addD (eC (.int 1)) (eCall d__law_pick (aCons (eC (.int 9)) aNil))) aNil)))) (sRet (eC (.bool false))) sNext)) (sRet (eC (.bool true)))))
theorem ok_law {f : Addr} {fd : FuncData} (D : Def K mg "law" s_law f fd ["script"]) (c__law_grown_right : CalS P w K mg base k "_law_grown_right" 1 (d__law_grown_right Pt)) (c__law_pick : CalS P w K mg base k "_law_pick" 1 d__law_pick) (c__law_two_right : CalS P w K mg base k "_law_two_right" 1 d__law_two_right) (c__law_open_cells : CalO P w K mg base k "_law_open_cells") (b_range : mg "range" = none) : FnG P w K mg base (k + 1) f fd ["script"] (spL K 3 (b_law Pt)) :=
  ok_lawV (m := []) (m' := []) D sc_law rfl c__law_open_cells rfl rfl rfl fun cdv A outer s H hgd hr => by
  have hu := huV hr
  have hN := sc_law.nd
  exact vss_cons (vs_for rfl PassesOwn.never (vi_range1 (by rfl) b_range (va_cons ((ve_int).r) va_nil)) (vg_name (i := 2) hN)
      (vss_one (vs_if (vt_not (vt_val ((ve_calS c__law_grown_right hgd hr (vc_cons (ve_op op2_add ((ve_int).r) ((ve_calS c__law_pick hgd hr (vc_cons (ve_int) vc_nil) (eq_cons eq_nil) 1).r)) vc_nil) (eq_cons eq_nil) 1).r))) (vss_one (vs_ret (m' := []) ((ve_bl).r)))
      (vss_nil))))
      (vss_cons (vs_for rfl PassesOwn.never (vi_range1 (by rfl) b_range (va_cons ((ve_int).r) va_nil)) (vg_name (i := 2) hN)
      (vss_one (vs_if (vt_not (vt_val ((ve_calS c__law_two_right hgd hr (vc_cons (ve_op op2_add ((ve_int).r) ((ve_calS c__law_pick hgd hr (vc_cons (ve_int) vc_nil) (eq_cons eq_nil) 1).r)) vc_nil) (eq_cons eq_nil) 1).r))) (vss_one (vs_ret (m' := []) ((ve_bl).r)))
      (vss_nil))))
      (vss_one (vs_ret (m' := []) ((ve_bl).r))))
theorem law_ok {f__law_pick : Addr} {fd__law_pick : FuncData} {f__law_any_order : Addr} {fd__law_any_order : FuncData} {f__law_all_lots : Addr} {fd__law_all_lots : FuncData} {f__law_cross : Addr} {fd__law_cross : FuncData} {f_is_integer : Addr} {fd_is_integer : FuncData} {f_is_lot : Addr} {fd_is_lot : FuncData} {f_do_cross : Addr} {fd_do_cross : FuncData} {f_judge_lots : Addr} {fd_judge_lots : FuncData} {f_is_pair : Addr} {fd_is_pair : FuncData} {f_parts_in : Addr} {fd_parts_in : FuncData} {f_leaves_in : Addr} {fd_leaves_in : FuncData} {f_shires_of : Addr} {fd_shires_of : FuncData} {f_paired : Addr} {fd_paired : FuncData} {f_plan_of : Addr} {fd_plan_of : FuncData} {f__law_plan_by : Addr} {fd__law_plan_by : FuncData} {f_formed : Addr} {fd_formed : FuncData} {f_lots_of : Addr} {fd_lots_of : FuncData} {f__law_grown_right : Addr} {fd__law_grown_right : FuncData} {f__law_draw_plan : Addr} {fd__law_draw_plan : FuncData} {f__law_turned : Addr} {fd__law_turned : FuncData} {f__law_plan_lots : Addr} {fd__law_plan_lots : FuncData} {f__law_formed : Addr} {fd__law_formed : FuncData} {f__law_is_lot : Addr} {fd__law_is_lot : FuncData} {f__law_lots_fault : Addr} {fd__law_lots_fault : FuncData} {f__law_two_right : Addr} {fd__law_two_right : FuncData} {f__law_open_cells : Addr} {fd__law_open_cells : FuncData} {f_law : Addr} {fd_law : FuncData} {cP : Addr}
  (D__law_pick : Def K mg "_law_pick" s__law_pick f__law_pick fd__law_pick ["source", "most"])
  (D__law_any_order : Def K mg "_law_any_order" s__law_any_order f__law_any_order fd__law_any_order ["source", "things"])
  (D__law_all_lots : Def K mg "_law_all_lots" s__law_all_lots f__law_all_lots fd__law_all_lots ["n"])
  (D__law_cross : Def K mg "_law_cross" s__law_cross f__law_cross fd__law_cross ["one", "other"])
  (D_is_integer : Def K mg "is_integer" s_is_integer f_is_integer fd_is_integer ["value"])
  (D_is_lot : Def K mg "is_lot" s_is_lot f_is_lot fd_is_lot ["n", "value"])
  (D_do_cross : Def K mg "do_cross" s_do_cross f_do_cross fd_do_cross ["one", "other"])
  (D_judge_lots : Def K mg "judge_lots" s_judge_lots f_judge_lots fd_judge_lots ["n", "value"])
  (D_is_pair : Def K mg "is_pair" s_is_pair f_is_pair fd_is_pair ["value"])
  (D_parts_in : Def K mg "parts_in" s_parts_in f_parts_in fd_parts_in ["value"])
  (D_leaves_in : Def K mg "leaves_in" s_leaves_in f_leaves_in fd_leaves_in ["value"])
  (D_shires_of : Def K mg "shires_of" s_shires_of f_shires_of fd_shires_of ["plan"])
  (D_paired : Def K mg "paired" s_paired f_paired fd_paired ["one", "other"])
  (D_plan_of : Def K mg "plan_of" s_plan_of f_plan_of fd_plan_of ["n", "lots"])
  (D__law_plan_by : DefC K mg "_law_plan_by" s__law_plan_by f__law_plan_by fd__law_plan_by ["lots"] cP)
  (D_formed : Def K mg "formed" s_formed f_formed fd_formed ["plan"])
  (D_lots_of : Def K mg "lots_of" s_lots_of f_lots_of fd_lots_of ["plan"])
  (D__law_grown_right : Def K mg "_law_grown_right" s__law_grown_right f__law_grown_right fd__law_grown_right ["source", "n"])
  (D__law_draw_plan : Def K mg "_law_draw_plan" s__law_draw_plan f__law_draw_plan fd__law_draw_plan ["source", "shires"])
  (D__law_turned : Def K mg "_law_turned" s__law_turned f__law_turned fd__law_turned ["source", "plan"])
  (D__law_plan_lots : Def K mg "_law_plan_lots" s__law_plan_lots f__law_plan_lots fd__law_plan_lots ["value"])
  (D__law_formed : Def K mg "_law_formed" s__law_formed f__law_formed fd__law_formed ["plan"])
  (D__law_is_lot : Def K mg "_law_is_lot" s__law_is_lot f__law_is_lot fd__law_is_lot ["n", "value"])
  (D__law_lots_fault : Def K mg "_law_lots_fault" s__law_lots_fault f__law_lots_fault fd__law_lots_fault ["n", "value"])
  (D__law_two_right : Def K mg "_law_two_right" s__law_two_right f__law_two_right fd__law_two_right ["source", "n"])
  (D__law_open_cells : Def K mg "_law_open_cells" s__law_open_cells f__law_open_cells fd__law_open_cells ["script"])
  (D_law : Def K mg "law" s_law f_law fd_law ["script"]) (b_len : mg "len" = none) (b_int : mg "int" = none) (b_list : mg "list" = none) (b_range : mg "range" = none) (b_min : mg "min" = none) (b_isinstance : mg "isinstance" = none) (b_bool : mg "bool" = none) (b_all : mg "all" = none) (b_tuple : mg "tuple" = none) (b_zip : mg "zip" = none) (b_enumerate : mg "enumerate" = none) (b_sorted : mg "sorted" = none) (b_dict : mg "dict" = none) (b_any : mg "any" = none) (b_abs : mg "abs" = none) (TB : LamX.TabB base mg cP Pt) :
  FnG P w K mg base 82 f_law fd_law ["script"] (spL K 3 (b_law Pt)) := by
  have c__law_pick : CalS P w K mg base 1 "_law_pick" 1 d__law_pick := ok__law_pick (k := 0) D__law_pick  b_len b_int
  have c__law_any_order : CalS P w K mg base 2 "_law_any_order" 1 d__law_any_order := ok__law_any_order (k := 1) D__law_any_order (c__law_pick.up (by decide)) b_list b_range b_len
  have c__law_all_lots : CalV P w K mg base 1 "_law_all_lots" 1 d__law_all_lots := ok__law_all_lots (k := 0) D__law_all_lots  b_range
  have c__law_cross : CalV P w K mg base 1 "_law_cross" 2 d__law_cross := ok__law_cross (k := 0) D__law_cross  b_len b_min
  have c_is_integer : CalV P w K mg base 1 "is_integer" 1 d_is_integer := ok_is_integer (k := 0) D_is_integer  b_isinstance b_bool b_int
  have c_is_lot : CalV P w K mg base 2 "is_lot" 2 d_is_lot := ok_is_lot (k := 1) D_is_lot (c_is_integer.up (by decide)) b_all b_isinstance b_tuple b_zip
  have c_do_cross : CalV P w K mg base 1 "do_cross" 2 d_do_cross := ok_do_cross (k := 0) D_do_cross  b_len
  have c_judge_lots : CalV P w K mg base 3 "judge_lots" 2 d_judge_lots := ok_judge_lots (k := 2) D_judge_lots (c_is_lot.up (by decide)) (c_do_cross.up (by decide)) b_all b_isinstance b_tuple b_zip b_enumerate b_range b_len
  have c_is_pair : CalV P w K mg base 1 "is_pair" 1 d_is_pair := ok_is_pair (k := 0) D_is_pair  b_len b_isinstance b_tuple
  have c_parts_in : CalV P w K mg base 2 "parts_in" 1 d_parts_in := ok_parts_in (k := 1) D_parts_in (c_is_pair.up (by decide)) 
  have c_leaves_in : CalV P w K mg base 3 "leaves_in" 1 d_leaves_in := ok_leaves_in (k := 2) D_leaves_in (c_parts_in.up (by decide)) (c_is_pair.up (by decide)) 
  have c_shires_of : CalV P w K mg base 4 "shires_of" 1 d_shires_of := ok_shires_of (k := 3) D_shires_of (c_leaves_in.up (by decide)) b_tuple b_sorted
  have c_paired : CalV P w K mg base 5 "paired" 2 d_paired := ok_paired (k := 4) D_paired (c_shires_of.up (by decide)) 
  have c_plan_of : CalV P w K mg base 6 "plan_of" 2 d_plan_of := ok_plan_of (k := 5) D_plan_of (c_paired.up (by decide)) b_sorted b_len b_dict b_tuple b_range
  have c__law_plan_by : CalV P w K mg base 1 "_law_plan_by" 1 (d__law_plan_by Pt) := ok__law_plan_by (k := 0) D__law_plan_by  b_sorted b_len b_list TB
  have c_formed : CalV P w K mg base 45 "formed" 1 d_formed := rec_formed (k := 5) D_formed (c_is_pair.up (by decide)) (c_paired.up (by decide))  40
  have c_lots_of : CalV P w K mg base 5 "lots_of" 1 d_lots_of := ok_lots_of (k := 4) D_lots_of (c_parts_in.up (by decide)) (c_shires_of.up (by decide)) b_tuple b_sorted
  have c__law_grown_right : CalS P w K mg base 46 "_law_grown_right" 1 (d__law_grown_right Pt) := ok__law_grown_right (k := 45) D__law_grown_right (c__law_any_order.up (by decide)) (c__law_all_lots.up (by decide)) (c__law_cross.up (by decide)) (c_judge_lots.up (by decide)) (c_plan_of.up (by decide)) (c__law_plan_by.up (by decide)) (c_formed.up (by decide)) (c_lots_of.up (by decide)) b_any b_tuple b_sorted b_len
  have c__law_draw_plan : CalS P w K mg base 2 "_law_draw_plan" 1 d__law_draw_plan := ok__law_draw_plan (k := 1) D__law_draw_plan (c__law_pick.up (by decide)) b_list b_range b_len
  have c__law_turned : CalS P w K mg base 41 "_law_turned" 1 d__law_turned := rec__law_turned (k := 1) D__law_turned (c__law_pick.up (by decide)) b_isinstance b_tuple 40
  have c__law_plan_lots : CalV P w K mg base 40 "_law_plan_lots" 1 d__law_plan_lots := rec__law_plan_lots (k := 0) D__law_plan_lots  b_isinstance b_bool b_int b_len b_tuple b_sorted 40
  have c__law_formed : CalV P w K mg base 80 "_law_formed" 1 d__law_formed := rec__law_formed (k := 40) D__law_formed (c__law_plan_lots.up (by decide)) b_isinstance b_tuple 40
  have c__law_is_lot : CalV P w K mg base 1 "_law_is_lot" 2 d__law_is_lot := ok__law_is_lot (k := 0) D__law_is_lot  b_isinstance b_tuple b_any b_int b_bool b_all b_zip
  have c__law_lots_fault : CalV P w K mg base 2 "_law_lots_fault" 2 d__law_lots_fault := ok__law_lots_fault (k := 1) D__law_lots_fault (c__law_is_lot.up (by decide)) (c__law_cross.up (by decide)) b_all b_isinstance b_tuple b_zip b_enumerate b_range b_len
  have c__law_two_right : CalS P w K mg base 81 "_law_two_right" 1 d__law_two_right := ok__law_two_right (k := 80) D__law_two_right (c__law_draw_plan.up (by decide)) (c__law_pick.up (by decide)) (c__law_turned.up (by decide)) (c_lots_of.up (by decide)) (c__law_plan_lots.up (by decide)) (c_formed.up (by decide)) (c__law_formed.up (by decide)) (c_judge_lots.up (by decide)) (c__law_lots_fault.up (by decide)) (c_plan_of.up (by decide)) b_list b_range b_sorted b_dict b_tuple
  have c__law_open_cells : CalO P w K mg base 1 "_law_open_cells" := ok__law_open_cells (k := 0) D__law_open_cells  b_abs b_int
  exact ok_law (k := 81) D_law (c__law_grown_right.up (by decide)) (c__law_pick.up (by decide)) (c__law_two_right.up (by decide)) (c__law_open_cells.up (by decide)) b_range
end
end G47
set_option Elab.async false
set_option linter.all false
set_option maxRecDepth 100000
set_option maxHeartbeats 4000000
/-! The plain law of k47, part 1: plans, their parts. -/
namespace PL
open PySem VL G47
theorem is_integer_int (i : Int) (z : Src) : d_is_integer [.int i] z = some (.bool true, z) := by rfl
theorem okD_int (i : Int) : okD (.int i) = true := by rfl
theorem eqv_int (i j : Int) : PyData.eqv (.int i) (.int j) = decide (i = j) := by
  first | rfl | simp [PyData.eqv]
theorem is_pair_int (i : Int) (z : Src) : d_is_pair [.int i] z = some (.bool false, z) := by rfl
theorem is_pair_two (a b : D) (h : (PyData.tuple [a, b]).plain = true) (z : Src) : d_is_pair [.tuple [a, b]] z = some (.bool true, z) := by
  simp [d_is_pair, b_is_pair, runF, sRet, eAnd, e1, e2, eVar, eC1, aCons, aNil, eC, isaD, h, asB, lenD, eqD, okD_int, eqv_int, PyData.isTuple, endF]
/-- plans -/
inductive Tr where
  | lf (i : Int)
  | nd (a b : Tr)
def enc : Tr → D
  | .lf i => .int i
  | .nd a b => .tuple [enc a, enc b]
def sz : Tr → Nat
  | .lf _ => 1
  | .nd a b => sz a + sz b + 1
def dep : Tr → Nat
  | .lf _ => 0
  | .nd a b => max (dep a) (dep b) + 1
def parts : Tr → List Tr
  | .lf i => [.lf i]
  | .nd a b => .nd a b :: (parts b ++ parts a)
theorem enc_plain : ∀ t : Tr, (enc t).plain = true
  | .lf _ => rfl
  | .nd a b => by
    show PyData.plainAll [enc a, enc b] = true
    simp [PyData.plainAll, enc_plain a, enc_plain b]
theorem encs_plain : ∀ ts : List Tr, PyData.plainAll (ts.map enc) = true
  | [] => rfl
  | t :: ts => by simp [PyData.plainAll, enc_plain t, encs_plain ts]
theorem enc_depth : ∀ t : Tr, (enc t).depth = dep t
  | .lf _ => rfl
  | .nd a b => by
    simp [enc, PyData.depth, PyData.depthAll, enc_depth a, enc_depth b, dep]
theorem is_pair_enc (t : Tr) (z : Src) : d_is_pair [enc t] z = some (.bool (match t with | .nd _ _ => true | _ => false), z) := by
  cases t with
  | lf i => exact is_pair_int i z
  | nd a b => exact is_pair_two _ _ (enc_plain (.nd a b)) z
def szs (ts : List Tr) : Nat := (ts.map sz).sum
theorem sz_pos : ∀ t : Tr, 0 < sz t
  | .lf _ => Nat.one_pos
  | .nd _ _ => Nat.succ_pos _
theorem len_le_szs : ∀ ts : List Tr, ts.length ≤ szs ts
  | [] => Nat.zero_le _
  | t :: ts => by
    have h1 := len_le_szs ts
    have h2 := sz_pos t
    simp only [szs, List.map_cons, List.sum_cons, List.length_cons] at *
    omega
theorem szs_append (a b : List Tr) : szs (a ++ b) = szs a + szs b := by simp [szs]
theorem okD_encs (ts : List Tr) (h : ∀ t ∈ ts, dep t ≤ 40) : okD (.list (ts.map enc)) = true := by
  have hd : PyData.depthAll (ts.map enc) ≤ 40 := by
    induction ts with
    | nil => simp [PyData.depthAll]
    | cons t ts ih =>
      have h1 := ih fun x hx => h x (List.mem_cons_of_mem _ hx)
      have h2 := h t List.mem_cons_self
      simp only [List.map_cons, PyData.depthAll, enc_depth]
      omega
  simp [okD, PyData.plain, encs_plain, PyData.depth]
  omega
theorem eqv_nil (d : D) (ds : List D) : PyData.eqv (.list (d :: ds)) (.list []) = false := by
  first | rfl | simp [PyData.eqv, PyData.eqvAll]
theorem eqv_nil0 : PyData.eqv (.list []) (.list []) = true := by
  first | rfl | simp [PyData.eqv, PyData.eqvAll]
theorem eqv_snoc (xs : List D) (d : D) : PyData.eqv (.list (xs ++ [d])) (.list []) = false := by
  cases xs with
  | nil => exact eqv_nil _ _
  | cons x xs => exact eqv_nil _ _
theorem okD_nil : okD (.list []) = true := by rfl
theorem line_big : 1000 < sizeLine := by decide
def pT : DT := tB (e2 neD (eVar 2) (eLst aNil))
noncomputable def pB : DS := sSeq (sAsgX 3 (xPop 2)) (sSeq (sDo (xAppend 1 (xV (eVar 3)))) (sIf (tB (eCall d_is_pair (aCons (eVar 3) aNil))) (sDo (xExtend 2 (eVar 3))) sNext))
theorem parts_loop (v : Option D) (z : Src) : ∀ (n : Nat) (ts found : List Tr) (x : Option D), szs ts ≤ n → found.length + szs ts ≤ 1000 → (∀ t ∈ ts, dep t ≤ 40) →
    ∃ x', sWhile pT pB [v, some (.list (found.map enc)), some (.list (ts.map enc)), x] z = some (.nx [v, some (.list ((found ++ ts.reverse.flatMap parts).map enc)), some (.list []), x'], z) := by
  intro n
  induction n with
  | zero =>
    intro ts found x h1 h2 h3
    have : ts = [] := by
      have := len_le_szs ts
      exact List.length_eq_zero_iff.mp (by omega)
    subst this
    refine ⟨x, ?_⟩
    rw [sWhile_eq]
    simp [pT, tB, e2, eVar, eLst, aNil, neD, okD_nil, eqv_nil0, asB]
  | succ n ih =>
    intro ts found x h1 h2 h3
    rcases List.eq_nil_or_concat ts with rfl | ⟨ts, t, rfl⟩
    · refine ⟨x, ?_⟩
      rw [sWhile_eq]
      simp [pT, tB, e2, eVar, eLst, aNil, neD, okD_nil, eqv_nil0, asB]
    · rw [List.concat_eq_append] at *
      have hok := okD_encs _ h3
      have hs : szs (ts ++ [t]) = szs ts + sz t := by simp [szs]
      have hp := sz_pos t
      have lb := line_big
      rw [sWhile_eq]
      have go : pB [v, some (.list (found.map enc)), some (.list ((ts ++ [t]).map enc)), x] z = some (.nx [v, some (.list ((found ++ [t]).map enc)), some (.list ((ts ++ (match t with | .nd a b => [a, b] | _ => [])).map enc)), some (enc t)], z) := by
        have l1 : found.length < sizeLine := by omega
        cases t with
        | lf i => simp [pB, sSeq, sAsgX, xPop, lstAt, sDo, xAppend, xV, eVar, l1, sIf, tB, eCall, aCons, aNil, enc, is_pair_int, asB, sNext]
        | nd a b =>
          have l2 : ts.length + 2 ≤ sizeLine := by
            have := len_le_szs ts
            simp only [sz] at hs hp
            have := sz_pos a
            have := sz_pos b
            omega
          have hpr := is_pair_enc (.nd a b) z
          simp only [enc] at hpr
          simp [pB, sSeq, sAsgX, xPop, lstAt, sDo, xAppend, xV, eVar, l1, sIf, tB, eCall, aCons, aNil, enc, hpr, asB, xExtend, seqD, l2]
      have tst : pT [v, some (.list (found.map enc)), some (.list ((ts ++ [t]).map enc)), x] z = some (true, z) := by
        have e : (ts ++ [t]).map enc = ts.map enc ++ [enc t] := by simp
        rw [e] at hok ⊢
        simp [pT, tB, e2, eVar, eLst, aNil, neD, okD_nil, eqv_snoc, asB, hok]
      rw [tst]
      simp only [Option.bind_some, if_true, go]
      cases t with
      | lf i =>
        obtain ⟨x', hx⟩ := ih ts (found ++ [.lf i]) (some (enc (.lf i))) (by omega) (by simp [sz] at hs ⊢; omega) fun y hy => h3 y (List.mem_append_left _ hy)
        refine ⟨x', ?_⟩
        simp only [List.append_nil]
        rw [hx]
        simp [parts]
      | nd a b =>
        have e2 : szs (ts ++ [a, b]) = szs ts + sz a + sz b := by simp [szs]; omega
        have hd := h3 (.nd a b) (by simp)
        simp only [sz] at hs
        simp only [dep] at hd
        obtain ⟨x', hx⟩ := ih (ts ++ [a, b]) (found ++ [.nd a b]) (some (enc (.nd a b))) (by omega) (by simp; omega) fun y hy => by
          rcases List.mem_append.mp hy with hy | hy
          · exact h3 y (List.mem_append_left _ hy)
          · have : y = a ∨ y = b := by simpa using hy
            rcases this with rfl | rfl <;> omega
        refine ⟨x', ?_⟩
        rw [hx]
        simp [parts]
theorem parts_in_enc (t : Tr) (h1 : sz t ≤ 1000) (h2 : dep t ≤ 40) (z : Src) : d_parts_in [enc t] z = some (.list ((parts t).map enc), z) := by
  obtain ⟨x', hx⟩ := parts_loop (some (enc t)) z (sz t) [t] [] none (by simp [szs]) (by simp [szs]; exact h1) (by simpa using h2)
  have hx : sWhile pT pB [some (enc t), some (.list []), some (.list [enc t]), none] z = some (.nx [some (enc t), some (.list ((parts t).map enc)), some (.list []), x'], z) := by simpa using hx
  show (runF 4 1 b_parts_in) [enc t] z = _
  have hb : b_parts_in [some (enc t), none, none, none] z = some (.rt (.list ((parts t).map enc)), z) := by
    show (sSeq (sPar (pCons 1 (eLst aNil) (pCons 2 (eLst (aCons (eVar 0) aNil)) pNil))) (sSeq (sWhile pT pB) (sRet (eVar 1)))) _ z = _
    simp [sSeq, sPar, pCons, pNil, eLst, aNil, aCons, eVar, hx, sRet]
  simp [runF, hb, endF]
end PL
set_option Elab.async false
set_option linter.all false
set_option maxRecDepth 100000
set_option maxHeartbeats 4000000
/-! The plain law of k47, part 2: comprehensions, leaves, shires, lots. -/
namespace PL
open PySem VL G47
/-- a comprehension whose test and item leave the source as it is -/
theorem lc_pure {α : Type} {en : α → D} {p : α → Bool} {f : α → D} {g : DG} {t : DT} {e : DE} {ρ : VL.Env} {z : Src} : ∀ (xs : List α),
    (∀ x ∈ xs, ∃ ρ1, g (en x) ρ = some ρ1 ∧ t ρ1 z = some (p x, z) ∧ (p x = true → e ρ1 z = some (f x, z))) → lcF g t e ρ (xs.map en) z = some ((xs.filter p).map f, z)
  | [], _ => rfl
  | x :: xs, h => by
    obtain ⟨ρ1, h1, h2, h3⟩ := h x List.mem_cons_self
    have ih := lc_pure xs fun y hy => h y (List.mem_cons_of_mem _ hy)
    simp only [List.map_cons, lcF, h1, h2, Option.bind_some]
    cases hp : p x with
    | true => simp [hp, h3 hp, ih]
    | false => simp [hp, ih]
/-- iDs as data -/
def iDs (is : List Int) : List D := is.map .int
def tup (is : List Int) : D := .tuple (iDs is)
def leaves : Tr → List Int
  | .lf i => [i]
  | .nd a b => leaves b ++ leaves a
def isLf : Tr → Bool
  | .lf _ => true
  | _ => false
theorem parts_len : ∀ t : Tr, (parts t).length = sz t
  | .lf _ => rfl
  | .nd a b => by simp [parts, sz, parts_len a, parts_len b]; omega
theorem parts_leaves : ∀ t : Tr, ((parts t).filter isLf).map enc = iDs (leaves t)
  | .lf i => rfl
  | .nd a b => by
    have h1 := parts_leaves a
    have h2 := parts_leaves b
    simp only [iDs] at h1 h2 ⊢
    simp [parts, isLf, leaves, h1, h2]
theorem leaves_in_enc (t : Tr) (h1 : sz t ≤ 1000) (h2 : dep t ≤ 40) (z : Src) : d_leaves_in [enc t] z = some (.list (iDs (leaves t)), z) := by
  have hp := parts_in_enc t h1 h2 z
  have hl : (parts t).length ≤ sizeLine := by rw [parts_len]; have := line_big; omega
  have lc := lc_pure (en := enc) (p := isLf) (f := enc) (g := gV 1) (t := tNot (tB (eCall d_is_pair (aCons (eVar 1) aNil)))) (e := eVar 1) (ρ := [some (enc t), none]) (z := z) (parts t) fun x _ => by
    refine ⟨[some (enc t), some (enc x)], rfl, ?_, fun _ => rfl⟩
    have := is_pair_enc x z
    cases x <;> simp [tNot, tB, eCall, aCons, aNil, eVar, this, asB, isLf]
  rw [parts_leaves] at lc
  simp [d_leaves_in, b_leaves_in, runF, sRet, eLc, iV, eCall, aCons, aNil, eVar, hp, itD, hl, wipeE, lc, endF]
/-- sorted iDs -/
def srt (is : List Int) : List Int := is.mergeSort fun a b => decide (a ≤ b)
theorem plain_ints : ∀ is : List Int, PyData.plainAll (iDs is) = true
  | [] => rfl
  | i :: is => by
    have := plain_ints is
    simp only [iDs, List.map_cons, PyData.plainAll] at this ⊢
    simp [this, PyData.plain]
theorem depth_ints : ∀ is : List Int, PyData.depthAll (iDs is) = 0
  | [] => rfl
  | i :: is => by
    have := depth_ints is
    simp only [iDs, List.map_cons, PyData.depthAll] at this ⊢
    simp [this, PyData.depth]
theorem sortOk_ints (is : List Int) (h : is.length ≤ 1000) : sortOk (iDs is) = true := by
  have hl : (iDs is).length ≤ sizeLine := by have := line_big; simp [iDs]; omega
  have h1 : ∀ x ∈ iDs is, ∃ i : Int, x = .int i := fun x hx => by
    obtain ⟨i, _, e⟩ := List.mem_map.mp hx
    exact ⟨i, e.symm⟩
  unfold sortOk
  simp only [plain_ints, depth_ints, Bool.true_and, Bool.and_eq_true, decide_eq_true_eq, List.all_eq_true, Bool.or_eq_true]
  refine ⟨by omega, hl, fun x hx => ⟨fun y hy => ?_, ?_⟩, .inr fun x hx => ?_⟩
  · obtain ⟨i, rfl⟩ := h1 x hx
    obtain ⟨j, rfl⟩ := h1 y hy
    rfl
  · obtain ⟨i, rfl⟩ := h1 x hx
    rfl
  · obtain ⟨i, rfl⟩ := h1 x hx
    rfl
theorem sort_ints (is : List Int) : (iDs is).mergeSort (PySem.W.dataLe false fun d => d) = iDs (srt is) := by
  unfold iDs srt
  refine (List.map_mergeSort (f := PyData.int) fun a _ b _ => ?_).symm
  exact (congrFun (congrFun (PySem.W.dataLe_int (fun i : Int => i)) a) b).symm
theorem sorted_ints (is : List Int) (h : is.length ≤ 1000) : sortedD [.list (iDs is)] = some (.list (iDs (srt is))) := by
  show (if sortOk (iDs is) = true then some (PyData.list ((iDs is).mergeSort (PySem.W.dataLe false fun d => d))) else none) = _
  rw [if_pos (sortOk_ints is h), sort_ints]
def shires (t : Tr) : List Int := srt (leaves t)
theorem leaves_le : ∀ t : Tr, (leaves t).length ≤ sz t
  | .lf _ => Nat.le_refl _
  | .nd a b => by
    have h1 := leaves_le a
    have h2 := leaves_le b
    simp only [leaves, sz, List.length_append]; omega
theorem shires_of_enc (t : Tr) (h1 : sz t ≤ 1000) (h2 : dep t ≤ 40) (z : Src) : d_shires_of [enc t] z = some (tup (shires t), z) := by
  have hp := leaves_in_enc t h1 h2 z
  have hs := sorted_ints (leaves t) (Nat.le_trans (leaves_le t) h1)
  simp [d_shires_of, b_shires_of, runF, sRet, eC1, aCons, aNil, eCall, eVar, hp, hs, tupleD, endF, tup, shires]
end PL
set_option Elab.async false
set_option linter.all false
set_option maxRecDepth 100000
set_option maxHeartbeats 4000000
/-! The plain law of k47, part 3: the order of lots; paired, formed, lots_of. -/
namespace PL
open PySem VL G47
theorem alike_iDs : ∀ xs ys : List Int, PySem.W.alikeAll (iDs xs) (iDs ys) = true
  | [], _ => by simp [iDs, PySem.W.alikeAll]
  | _ :: _, [] => by simp [iDs, PySem.W.alikeAll]
  | x :: xs, y :: ys => by
    have := alike_iDs xs ys
    simp only [iDs, List.map_cons, PySem.W.alikeAll, PySem.W.alike, Bool.true_and] at this ⊢
    exact this
theorem alike_tup (xs ys : List Int) : PySem.W.alike (tup xs) (tup ys) = true := by
  show PySem.W.alikeAll (iDs xs) (iDs ys) = true
  exact alike_iDs xs ys
theorem dataLt_tup (xs ys : List Int) : PySem.W.dataLt (tup xs) (tup ys) = decide (xs < ys) := by
  show PySem.W.dataLt (.list (iDs xs)) (.list (iDs ys)) = _
  rw [PySem.W.dataLt_list]
  exact PySem.W.dataLt_ints xs ys
theorem plain_tup (xs : List Int) : (tup xs).plain = true := plain_ints xs
theorem depth_tup (xs : List Int) : (tup xs).depth = 1 := by
  show PyData.depthAll (iDs xs) + 1 = 1
  rw [depth_ints]
theorem okD_tup (xs : List Int) : okD (tup xs) = true := by
  simp [okD, plain_tup, depth_tup]
theorem alD_tup (xs ys : List Int) : alD (tup xs) (tup ys) = true := by
  unfold alD
  rw [alike_tup, depth_tup]
  rfl
theorem ltD_tup (xs ys : List Int) : ltD (tup xs) (tup ys) = some (.bool (decide (xs < ys))) := by
  simp [ltD, alD_tup, okD_tup, dataLt_tup]
/-- paired -/
def pair (a b : Tr) : Tr := if shires a < shires b then .nd a b else .nd b a
theorem paired_enc (a b : Tr) (h1 : sz a ≤ 1000) (h2 : dep a ≤ 40) (h3 : sz b ≤ 1000) (h4 : dep b ≤ 40) (z : Src) : d_paired [enc a, enc b] z = some (enc (pair a b), z) := by
  have e1 := shires_of_enc a h1 h2 z
  have e2 := shires_of_enc b h3 h4 z
  unfold pair
  by_cases h : shires a < shires b
  · simp [d_paired, b_paired, runF, sRet, eIf, tB, VL.e2, eCall, aCons, aNil, eVar, e1, e2, ltD_tup, h, asB, eTup, enc, endF]
  · simp [d_paired, b_paired, runF, sRet, eIf, tB, VL.e2, eCall, aCons, aNil, eVar, e1, e2, ltD_tup, h, asB, eTup, enc, endF]
def form : Tr → Tr
  | .lf i => .lf i
  | .nd a b => pair (form a) (form b)
theorem sz_pair (a b : Tr) : sz (pair a b) = sz a + sz b + 1 := by
  unfold pair
  split <;> simp [sz] <;> omega
theorem dep_pair (a b : Tr) : dep (pair a b) = max (dep a) (dep b) + 1 := by
  unfold pair
  split <;> simp [dep] <;> omega
theorem sz_form : ∀ t : Tr, sz (form t) = sz t
  | .lf _ => rfl
  | .nd a b => by simp [form, sz_pair, sz, sz_form a, sz_form b]
theorem dep_form : ∀ t : Tr, dep (form t) = dep t
  | .lf _ => rfl
  | .nd a b => by simp [form, dep_pair, dep, dep_form a, dep_form b]
theorem ix0 (a b : D) (z : Src) : ixA (.tuple [a, b]) (.int 0) = some a := by rfl
theorem ix1 (a b : D) (z : Src) : ixA (.tuple [a, b]) (.int 1) = some b := by rfl
theorem formed_enc : ∀ (t : Tr) (j : Nat) (z : Src), sz t ≤ 1000 → dep t ≤ 40 → dep t < j → d_formed_n j [enc t] z = some (enc (form t), z)
  | t, 0, z, _, _, h => absurd h (Nat.not_lt_zero _)
  | .lf i, j + 1, z, _, _, _ => by
    simp [d_formed_n, step_formed, b_formed, runF, sSeq, sIf, tNot, tB, eCall, aCons, aNil, eVar, enc, is_pair_int, asB, sRet, form, endF]
  | .nd a b, j + 1, z, h1, h2, h3 => by
    simp only [sz, dep] at h1 h2 h3
    have ia := formed_enc a j z (by omega) (by omega) (by omega)
    have ib := formed_enc b j z (by omega) (by omega) (by omega)
    have hp := is_pair_enc (.nd a b) z
    have hq := paired_enc (form a) (form b) (by rw [sz_form]; omega) (by rw [dep_form]; omega) (by rw [sz_form]; omega) (by rw [dep_form]; omega) z
    simp only [enc] at hp
    simp [d_formed_n, step_formed, b_formed, runF, sSeq, sIf, tNot, tB, eCall, aCons, aNil, eVar, enc, hp, asB, sNext, sRet, e2, eC, ix0 _ _ z, ix1 _ _ z, ia, ib, hq, form, endF]
end PL
set_option Elab.async false
set_option linter.all false
set_option maxRecDepth 100000
set_option maxHeartbeats 4000000
/-! The plain law of k47, part 4: sorted lots; lots_of. -/
namespace PL
open PySem VL G47 List
theorem srt_perm (l : List Int) : srt l ~ l := mergeSort_perm l _
theorem srt_pw (l : List Int) : (srt l).Pairwise (· ≤ ·) := by
  have h := pairwise_mergeSort (le := fun a b : Int => decide (a ≤ b)) (fun a b c h1 h2 => by simp at h1 h2 ⊢; omega) (fun a b => by simp; omega) l
  exact h.imp fun h => by simpa using h
theorem srt_eq {l m : List Int} (h : l ~ m) : srt l = srt m :=
  Perm.eq_of_pairwise (le := (· ≤ ·)) (fun a b _ _ h1 h2 => by omega) (srt_pw l) (srt_pw m) ((srt_perm l).trans (h.trans (srt_perm m).symm))
/-- lots sorted -/
def srtL (ls : List (List Int)) : List (List Int) := ls.mergeSort fun a b => decide (a ≤ b)
theorem srtL_perm (l : List (List Int)) : srtL l ~ l := mergeSort_perm l _
theorem srtL_pw (l : List (List Int)) : (srtL l).Pairwise (· ≤ ·) := by
  have h := pairwise_mergeSort (le := fun a b : List Int => decide (a ≤ b)) (fun a b c h1 h2 => by
    simp only [decide_eq_true_eq] at h1 h2 ⊢
    exact List.le_trans h1 h2) (fun a b => by
    simp only [Bool.or_eq_true, decide_eq_true_eq]
    exact List.le_total a b) l
  exact h.imp fun h => by simpa using h
theorem srtL_eq {l m : List (List Int)} (h : l ~ m) : srtL l = srtL m :=
  Perm.eq_of_pairwise (le := (· ≤ ·)) (fun a b _ _ h1 h2 => List.le_antisymm h1 h2) (srtL_pw l) (srtL_pw m) ((srtL_perm l).trans (h.trans (srtL_perm m).symm))
def tups (ls : List (List Int)) : List D := ls.map tup
theorem plain_tups : ∀ ls : List (List Int), PyData.plainAll (tups ls) = true
  | [] => rfl
  | l :: ls => by
    have h1 := plain_tups ls
    have h2 := plain_tup l
    simp only [tups, List.map_cons, PyData.plainAll] at h1 ⊢
    simp [h1, h2]
theorem depth_tups : ∀ ls : List (List Int), PyData.depthAll (tups ls) ≤ 1
  | [] => Nat.zero_le _
  | l :: ls => by
    have h1 := depth_tups ls
    have h2 := depth_tup l
    simp only [tups, List.map_cons, PyData.depthAll] at h1 ⊢
    omega
theorem sortOk_tups (ls : List (List Int)) (h : ls.length ≤ 1000) (hn : ∀ l ∈ ls, l ≠ []) : sortOk (tups ls) = true := by
  have hl : (tups ls).length ≤ sizeLine := by have := line_big; simp [tups]; omega
  have hd := depth_tups ls
  have h1 : ∀ x ∈ tups ls, ∃ l, l ≠ [] ∧ x = tup l := fun x hx => by
    obtain ⟨i, hi, e⟩ := List.mem_map.mp hx
    exact ⟨i, hn i hi, e.symm⟩
  unfold sortOk
  simp only [plain_tups, Bool.true_and, Bool.and_eq_true, decide_eq_true_eq, List.all_eq_true, Bool.or_eq_true]
  refine ⟨by omega, hl, fun x hx => ⟨fun y hy => ?_, ?_⟩, .inl fun x hx => ?_⟩
  · obtain ⟨i, _, rfl⟩ := h1 x hx
    obtain ⟨j, _, rfl⟩ := h1 y hy
    exact alike_tup i j
  · obtain ⟨i, _, rfl⟩ := h1 x hx
    rfl
  · obtain ⟨i, n, rfl⟩ := h1 x hx
    cases i with
    | nil => exact absurd rfl n
    | cons a r => rfl
theorem dataLe_tup (a b : List Int) : PySem.W.dataLe false (fun d => d) (tup a) (tup b) = decide (a ≤ b) := by
  show (!PySem.W.dataLt (tup b) (tup a)) = _
  rw [dataLt_tup]
  by_cases h : b < a
  · have h' : ¬ a ≤ b := fun r => List.not_lt.mpr r h
    simp [h, h']
  · have h' : a ≤ b := List.not_lt.mp h
    simp [h, h']
theorem sort_tups (ls : List (List Int)) : (tups ls).mergeSort (PySem.W.dataLe false fun d => d) = tups (srtL ls) := by
  unfold tups srtL
  exact (List.map_mergeSort (f := tup) fun a _ b _ => (dataLe_tup a b).symm).symm
theorem sorted_tups (ls : List (List Int)) (h : ls.length ≤ 1000) (hn : ∀ l ∈ ls, l ≠ []) : sortedD [.list (tups ls)] = some (.list (tups (srtL ls))) := by
  show (if sortOk (tups ls) = true then some (PyData.list ((tups ls).mergeSort (PySem.W.dataLe false fun d => d))) else none) = _
  rw [if_pos (sortOk_tups ls h hn), sort_tups]
theorem shires_ne (t : Tr) : shires t ≠ [] := fun h => by
  have h1 := (srt_perm (leaves t)).length_eq
  have h2 : (srt (leaves t)).length = 0 := by
    show (shires t).length = 0
    rw [h]; rfl
  have h3 : ∀ t : Tr, 0 < (leaves t).length := fun t => by
    induction t with
    | lf i => exact Nat.one_pos
    | nd a b iha ihb => simp only [leaves, List.length_append]; omega
  have := h3 t
  omega
def lots (t : Tr) : List (List Int) := srtL ((parts t).map shires)
theorem parts_le : ∀ {t p : Tr}, p ∈ parts t → sz p ≤ sz t ∧ dep p ≤ dep t
  | .lf i, p, h => by
    have : p = .lf i := by simpa [parts] using h
    subst this
    exact ⟨Nat.le_refl _, Nat.le_refl _⟩
  | .nd a b, p, h => by
    simp only [parts, List.mem_cons, List.mem_append] at h
    simp only [sz, dep]
    rcases h with rfl | h | h
    · simp only [sz, dep]; omega
    · have := parts_le h; omega
    · have := parts_le h; omega
theorem lots_of_enc (t : Tr) (h1 : sz t ≤ 1000) (h2 : dep t ≤ 40) (z : Src) : d_lots_of [enc t] z = some (.tuple (tups (lots t)), z) := by
  have hp := parts_in_enc t h1 h2 z
  have hl : (parts t).length ≤ sizeLine := by rw [parts_len]; have := line_big; omega
  have lc := lc_pure (en := enc) (p := fun _ => true) (f := fun p => tup (shires p)) (g := gV 1) (t := tTrue) (e := eCall d_shires_of (aCons (eVar 1) aNil)) (ρ := [some (enc t), none]) (z := z) (parts t) fun x hx => by
    have hx := parts_le hx
    refine ⟨[some (enc t), some (enc x)], rfl, rfl, fun _ => ?_⟩
    have := shires_of_enc x (by omega) (by omega) z
    simp [eCall, aCons, aNil, eVar, this]
  have e : (((parts t).filter fun _ => true).map fun p => tup (shires p)) = tups ((parts t).map shires) := by
    rw [List.filter_eq_self.mpr (fun _ _ => rfl)]
    simp [tups]
  rw [e] at lc
  have hs := sorted_tups ((parts t).map shires) (by rw [List.length_map, parts_len]; exact h1) fun l hl => by
    obtain ⟨p, _, rfl⟩ := List.mem_map.mp hl
    exact shires_ne p
  simp [d_lots_of, b_lots_of, runF, sRet, eC1, eLc, iV, eCall, aCons, aNil, eVar, hp, itD, hl, wipeE, lc, hs, tupleD, endF, lots]
end PL
set_option Elab.async false
set_option linter.all false
set_option maxRecDepth 100000
set_option maxHeartbeats 4000000
/-! The plain law of k47, part 5: _law_plan_lots, _law_formed. -/
namespace PL
open PySem VL G47 List
def plots : Tr → List (List Int)
  | .lf i => [[i]]
  | .nd a b => plots a ++ plots b ++ [srt (shires a ++ shires b)]
theorem srt_one (i : Int) : srt [i] = [i] := by simp [srt]
theorem shires_nd (a b : Tr) : srt (shires a ++ shires b) = shires (.nd a b) := by
  refine srt_eq ?_
  refine ((srt_perm (leaves a)).append (srt_perm (leaves b))).trans ?_
  exact perm_append_comm
theorem plots_last : ∀ t : Tr, ∃ l, plots t = l ++ [shires t]
  | .lf i => ⟨[], by simp [plots, shires, leaves, srt_one]⟩
  | .nd a b => ⟨plots a ++ plots b, by simp [plots, shires_nd]⟩
theorem plots_perm : ∀ t : Tr, plots t ~ (parts t).map shires
  | .lf i => by simp [plots, parts, shires, leaves, srt_one]
  | .nd a b => by
    have h1 := plots_perm a
    have h2 := plots_perm b
    simp only [plots, parts, List.map_cons, List.map_append, shires_nd]
    refine (perm_append_singleton _ _).trans (.cons _ ?_)
    exact (h1.append h2).trans perm_append_comm
theorem plots_len (t : Tr) : (plots t).length = sz t := by rw [(plots_perm t).length_eq, List.length_map, parts_len]
theorem sorted_intsT (is : List Int) (h : is.length ≤ 1000) : sortedD [tup is] = some (.list (iDs (srt is))) := by
  show (if sortOk (iDs is) = true then some (PyData.list ((iDs is).mergeSort (PySem.W.dataLe false fun d => d))) else none) = _
  rw [if_pos (sortOk_ints is h), sort_ints]
theorem ixA_last (xs : List D) (x : D) (h : xs.length ≤ 1000) : ixA (.list (xs ++ [x])) (.int (-1)) = some x := by
  show atD (xs ++ [x]) (-1) = some x
  have e : ((-1 : Int) + ((xs ++ [x]).length : Int)).toNat = xs.length := by simp; omega
  unfold atD
  rw [if_neg (by omega), if_pos (by simp; omega), e]
  simp
theorem shires_len (t : Tr) : (shires t).length ≤ sz t := by
  rw [show (shires t).length = _ from (srt_perm (leaves t)).length_eq]
  exact leaves_le t
theorem isa_int_tup (a b : D) (h : (PyData.tuple [a, b]).plain = true) : isaD "int" (.tuple [a, b]) = some (.bool false) := by simp [isaD, h, PyData.isInt]
theorem isa_tup_tup (a b : D) (h : (PyData.tuple [a, b]).plain = true) : isaD "tuple" (.tuple [a, b]) = some (.bool true) := by simp [isaD, h, PyData.isTuple]
theorem ne_two : neD (.int 2) (.int 2) = some (.bool false) := by rfl
theorem plan_lots_enc : ∀ (t : Tr) (j : Nat) (z : Src), sz t ≤ 400 → dep t ≤ 40 → dep t < j → d__law_plan_lots_n j [enc t] z = some (.list (tups (plots t)), z)
  | t, 0, z, _, _, h => absurd h (Nat.not_lt_zero _)
  | .lf i, j + 1, z, _, _, _ => by rfl
  | .nd a b, j + 1, z, h1, h2, h3 => by
    simp only [sz, dep] at h1 h2 h3
    have ia := plan_lots_enc a j z (by omega) (by omega) (by omega)
    have ib := plan_lots_enc b j z (by omega) (by omega) (by omega)
    have hp := enc_plain (.nd a b)
    simp only [enc] at hp
    obtain ⟨la, ea⟩ := plots_last a
    obtain ⟨lb, eb⟩ := plots_last b
    have na := plots_len a
    have nb := plots_len b
    have ma := shires_len a
    have mb := shires_len b
    have lb1 := line_big
    have xa : ixA (.list (tups (plots a))) (.int (-1)) = some (tup (shires a)) := by
      rw [ea]
      have : (tups la).length ≤ 1000 := by simp only [tups, List.length_map]; rw [ea, List.length_append] at na; omega
      simpa [tups] using ixA_last (tups la) (tup (shires a)) this
    have xb : ixA (.list (tups (plots b))) (.int (-1)) = some (tup (shires b)) := by
      rw [eb]
      have : (tups lb).length ≤ 1000 := by simp only [tups, List.length_map]; rw [eb, List.length_append] at nb; omega
      simpa [tups] using ixA_last (tups lb) (tup (shires b)) this
    have ad : addD (tup (shires a)) (tup (shires b)) = some (tup (shires a ++ shires b)) := by
      show (if (iDs (shires a)).length + (iDs (shires b)).length ≤ sizeLine then some (PyData.tuple (iDs (shires a) ++ iDs (shires b))) else none) = _
      rw [if_pos (by simp only [iDs, List.length_map]; omega)]
      simp [tup, iDs]
    have so : sortedD [tup (shires a ++ shires b)] = some (.list (iDs (shires (.nd a b)))) := by
      rw [sorted_intsT _ (by rw [List.length_append]; omega), shires_nd]
    have a1 : addD (.list (tups (plots a))) (.list (tups (plots b))) = some (.list (tups (plots a ++ plots b))) := by
      show (if (tups (plots a)).length + (tups (plots b)).length ≤ sizeLine then some (PyData.list (tups (plots a) ++ tups (plots b))) else none) = _
      rw [if_pos (by simp only [tups, List.length_map]; omega)]
      simp [tups]
    have a2 : addD (.list (tups (plots a ++ plots b))) (.list [tup (shires (.nd a b))]) = some (.list (tups (plots (.nd a b)))) := by
      show (if (tups (plots a ++ plots b)).length + 1 ≤ sizeLine then some (PyData.list (tups (plots a ++ plots b) ++ [tup (shires (.nd a b))])) else none) = _
      rw [if_pos (by simp only [tups, List.length_map, List.length_append]; omega)]
      simp [tups, plots, shires_nd]
    have tu : tupleD [PyData.list (iDs (shires (.nd a b)))] = some (tup (shires (.nd a b))) := by rfl
    have e1' : negD (.int 1) = some (.int (-1)) := by rfl
    have n1 : isNoneD (.list (tups (plots a))) .none = some (.bool false) := by rfl
    have n2 : isNoneD (.list (tups (plots b))) .none = some (.bool false) := by rfl
    simp [d__law_plan_lots_n, step__law_plan_lots, b__law_plan_lots, runF, sSeq, sIf, tAnd, tOr, tNot, tB, eCall, aCons, aNil, eVar, enc, e1, isa_int_tup _ _ hp, isa_tup_tup _ _ hp, asB, sNext, sRet, e2, eC1, lenD, eC, ne_two, sPar, pCons, pNil, ix0 _ _ z, ix1 _ _ z, ia, ib, eIf, n1, n2, e1', xa, xb, ad, so, tu, eLst, a1, a2, endF]
end PL
set_option Elab.async false
set_option linter.all false
set_option maxRecDepth 100000
set_option maxHeartbeats 4000000
/-! The plain law of k47, part 6: _law_formed; the source. -/
namespace PL
open PySem VL G47 List
theorem plots_ix (t : Tr) (h : sz t ≤ 400) : ixA (.list (tups (plots t))) (.int (-1)) = some (tup (shires t)) := by
  obtain ⟨l, e⟩ := plots_last t
  have n := plots_len t
  rw [e]
  have : (tups l).length ≤ 1000 := by simp only [tups, List.length_map]; rw [e, List.length_append] at n; omega
  simpa [tups] using ixA_last (tups l) (tup (shires t)) this
theorem isa_tup_int (i : Int) : isaD "tuple" (.int i) = some (.bool false) := by rfl
theorem law_formed_enc : ∀ (t : Tr) (j : Nat) (z : Src), sz t ≤ 400 → dep t < 40 → dep t < j → d__law_formed_n j [enc t] z = some (enc (form t), z)
  | t, 0, z, _, _, h => absurd h (Nat.not_lt_zero _)
  | .lf i, j + 1, z, _, _, _ => by rfl
  | .nd a b, j + 1, z, h1, h2, h3 => by
    simp only [sz, dep] at h1 h2 h3
    have ia := law_formed_enc a j z (by omega) (by omega) (by omega)
    have ib := law_formed_enc b j z (by omega) (by omega) (by omega)
    have hp := enc_plain (.nd a b)
    simp only [enc] at hp
    have pa : d__law_plan_lots [enc (form a)] z = some (.list (tups (plots (form a))), z) := plan_lots_enc (form a) 40 z (by rw [sz_form]; omega) (by rw [dep_form]; omega) (by rw [dep_form]; omega)
    have pb : d__law_plan_lots [enc (form b)] z = some (.list (tups (plots (form b))), z) := plan_lots_enc (form b) 40 z (by rw [sz_form]; omega) (by rw [dep_form]; omega) (by rw [dep_form]; omega)
    have xa := plots_ix (form a) (by rw [sz_form]; omega)
    have xb := plots_ix (form b) (by rw [sz_form]; omega)
    have e1' : negD (.int 1) = some (.int (-1)) := by rfl
    by_cases h : shires (form a) < shires (form b)
    · simp [d__law_formed_n, step__law_formed, b__law_formed, runF, sSeq, sIf, tNot, tB, eCall, aCons, aNil, eVar, enc, e1, isa_tup_tup _ _ hp, asB, sNext, sRet, e2, eC, sPar, pCons, pNil, ix0 _ _ z, ix1 _ _ z, ia, ib, eIf, pa, pb, e1', xa, xb, ltD_tup, h, eTup, form, pair, endF]
    · simp [d__law_formed_n, step__law_formed, b__law_formed, runF, sSeq, sIf, tNot, tB, eCall, aCons, aNil, eVar, enc, e1, isa_tup_tup _ _ hp, asB, sNext, sRet, e2, eC, sPar, pCons, pNil, ix0 _ _ z, ix1 _ _ z, ia, ib, eIf, pa, pb, e1', xa, xb, ltD_tup, h, eTup, form, pair, endF]
/-- the source: at most B draws have been made -/
structure G (B : Nat) (tb : List (Addr × Str)) (st : SrcSt) : Prop where
  lo : 0 ≤ st.turn
  hi : st.turn ≤ B
  len : st.cells.length ≤ 1000
  tb : st.tb = tb
theorem popW_len : ∀ (cs : List Int) (l : Int), (popW cs l).1.length ≤ cs.length
  | [], l => Nat.le_refl _
  | c :: cs, l => by
    unfold popW
    split
    · exact Nat.le_trans (popW_len cs c) (Nat.le_succ _)
    · exact Nat.le_refl _
theorem pick_G {B : Nat} {tb : List (Addr × Str)} {st : SrcSt} (h : G B tb st) (most : Int) : G (B + 1) tb (pickI most st).2 ∧ 0 ≤ (pickI most st).1 ∧ (2 ≤ most → (pickI most st).1 < most) ∧ (most < 2 → (pickI most st).1 = 0) := by
  have hl := popW_len st.cells.reverse st.left
  have lo := h.lo
  have hi := h.hi
  have le := h.len
  rw [List.length_reverse] at hl
  unfold pickI
  by_cases h2 : most < 2
  · rw [if_pos h2]
    exact ⟨⟨lo, by push_cast; omega, le, h.tb⟩, Int.le_refl _, fun c => by omega, fun _ => rfl⟩
  · rw [if_neg h2]
    have m2 : 0 < most := by omega
    dsimp only
    split
    · refine ⟨⟨lo, by push_cast; omega, ?_, h.tb⟩, Int.fmod_nonneg_of_pos _ m2, fun _ => Int.fmod_lt_of_pos _ m2, fun c => absurd c h2⟩
      show (popW st.cells.reverse st.left).1.reverse.length ≤ 1000
      rw [List.length_reverse]; omega
    · refine ⟨⟨?_, ?_, ?_, h.tb⟩, Int.fmod_nonneg_of_pos _ m2, fun _ => Int.fmod_lt_of_pos _ m2, fun c => absurd c h2⟩
      · show 0 ≤ st.turn + 1
        omega
      · show st.turn + 1 ≤ ((B + 1 : Nat) : Int)
        push_cast; omega
      · show (popW st.cells.reverse st.left).1.reverse.length ≤ 1000
        rw [List.length_reverse]; omega
/-- a draw below most -/
theorem pick_run {B : Nat} {tb : List (Addr × Str)} {st : SrcSt} (h : G B tb st) (hB : B ≤ 1000000) (most : Nat) (hm : most ≤ 1000000) : ∃ (r : Nat) (st' : SrcSt), d__law_pick [.int most] (some st) = some (.int r, some st') ∧ G (B + 1) tb st' ∧ (0 < most → r < most) := by
  obtain ⟨h1, h2, h3, h4⟩ := pick_G h most
  refine ⟨(pickI most st).1.toNat, (pickI most st).2, ?_, h1, fun hp => ?_⟩
  · show pickD [.int most] (some st) = _
    have lo := h.lo
    have hi := h.hi
    have le := h.len
    have lb := line_big
    show (if (most : Int).natAbs < 1073741824 ∧ (-(2 ^ 40) < st.turn ∧ st.turn < 2 ^ 40) ∧ st.cells.length ≤ sizeLine then some (PyData.int (pickI most st).1, some (pickI most st).2) else none) = _
    rw [if_pos ⟨by omega, ⟨by omega, by omega⟩, by omega⟩, Int.toNat_of_nonneg h2]
  · by_cases c : most < 2
    · have := h4 (by omega)
      omega
    · have := h3 (by omega)
      omega
end PL
set_option Elab.async false
set_option linter.all false
set_option maxRecDepth 100000
set_option maxHeartbeats 4000000
/-! How denotations run, step by step. -/
namespace PL
open PySem VL List
section
variable {ρ ρ1 ρ2 ρ' : VL.Env} {z z' z'' : Src} {d d1 d2 x : D} {ds es : List D} {f fa fb fc : DE} {g : DG} {t u : DT} {s s1 s2 : DS} {i : Nat} {b : Bool} {fs : DA} {fi : DI} {r : Fl × Src}
theorem runS_run {nn n : Nat} (h : ds.length = n) (hρ : none :: (ds.map some ++ List.replicate (nn - (n + 1)) none) = ρ) (h1 : s ρ z = some r) : runS nn n s ds z = endF r := by
  subst hρ
  unfold runS
  rw [if_pos h, h1]
  rfl
theorem runF_run {nn n : Nat} (h : ds.length = n) (hρ : ds.map some ++ List.replicate (nn - n) none = ρ) (h1 : s ρ z = some r) : runF nn n s ds z = endF r := by
  subst hρ
  unfold runF
  rw [if_pos h, h1]
  rfl
theorem seq_nx (e : s1 ρ z = some (.nx ρ', z')) : sSeq s1 s2 ρ z = s2 ρ' z' := by
  unfold sSeq; rw [e]; rfl
theorem seq_rt (e : s1 ρ z = some (.rt d, z')) : sSeq s1 s2 ρ z = some (.rt d, z') := by
  unfold sSeq; rw [e]; rfl
theorem if_t (e : t ρ z = some (true, z')) : sIf t s1 s2 ρ z = s1 ρ z' := by
  unfold sIf; rw [e]; rfl
theorem if_f (e : t ρ z = some (false, z')) : sIf t s1 s2 ρ z = s2 ρ z' := by
  unfold sIf; rw [e]; rfl
theorem asg_run (e : f ρ z = some (d, z')) : sAsg i f ρ z = some (.nx (ρ.set i (some d)), z') := by
  unfold sAsg; rw [e]; rfl
theorem ret_run (e : f ρ z = some (d, z')) : sRet f ρ z = some (.rt d, z') := by
  unfold sRet; rw [e]; rfl
theorem for_run (e : fi ρ z = some (ds, z')) : sFor fi g s ρ z = loopF g s ds ρ z' := by
  unfold sFor; rw [e]; rfl
theorem loop_nil : loopF g s [] ρ z = some (.nx ρ, z) := rfl
theorem loop_nx (e1 : g d ρ = some ρ1) (e2 : s ρ1 z = some (.nx ρ2, z')) : loopF g s (d :: ds) ρ z = loopF g s ds ρ2 z' := by
  simp only [loopF, e1, e2, Option.bind_some]
theorem loop_rt (e1 : g d ρ = some ρ1) (e2 : s ρ1 z = some (.rt x, z')) : loopF g s (d :: ds) ρ z = some (.rt x, z') := by
  simp only [loopF, e1, e2, Option.bind_some]
theorem call_run {F : DFn} (e1 : fs ρ z = some (ds, z')) (e2 : F ds z' = some (d, z'')) : eCall F fs ρ z = some (d, z'') := by
  unfold eCall; rw [e1]; exact e2
theorem cons_run (e1 : f ρ z = some (d, z')) (e2 : fs ρ z' = some (ds, z'')) : aCons f fs ρ z = some (d :: ds, z'') := by
  unfold aCons; rw [e1]; simp only [Option.bind_some, e2, Option.map_some]
theorem nil_run : aNil ρ z = some ([], z) := rfl
theorem var_run (e : ρ[i]? = some (some d)) : eVar i ρ z = some (d, z) := by
  unfold eVar; rw [e]
theorem e1_run {op : D → Option D} (e1 : fa ρ z = some (d1, z')) (e2 : op d1 = some d) : VL.e1 op fa ρ z = some (d, z') := by
  unfold VL.e1; rw [e1]; simp only [Option.bind_some, e2, Option.map_some]
theorem e2_run {op : D → D → Option D} (e1 : fa ρ z = some (d1, z')) (e2 : fb ρ z' = some (d2, z'')) (e3 : op d1 d2 = some d) : VL.e2 op fa fb ρ z = some (d, z'') := by
  unfold VL.e2; rw [e1]; simp only [Option.bind_some, e2, e3, Option.map_some]
theorem eC1_run {op : List D → Option D} (e1 : fs ρ z = some (ds, z')) (e2 : op ds = some d) : eC1 op fs ρ z = some (d, z') := by
  unfold eC1; rw [e1]; simp only [Option.bind_some, e2, Option.map_some]
theorem tB_run (e : f ρ z = some (.bool b, z')) : tB f ρ z = some (b, z') := by
  unfold tB; rw [e]; rfl
theorem tNot_run (e : t ρ z = some (b, z')) : tNot t ρ z = some (!b, z') := by
  unfold tNot; rw [e]; rfl
theorem tOr_t (e : t ρ z = some (true, z')) : tOr t u ρ z = some (true, z') := by
  unfold tOr; rw [e]; rfl
theorem tOr_f (e : t ρ z = some (false, z')) : tOr t u ρ z = u ρ z' := by
  unfold tOr; rw [e]; rfl
theorem eAnd_t (e : f ρ z = some (.bool true, z')) : eAnd f fa ρ z = fa ρ z' := by
  unfold eAnd; rw [e]; rfl
theorem eAnd_f (e : f ρ z = some (.bool false, z')) : eAnd f fa ρ z = some (.bool false, z') := by
  unfold eAnd; rw [e]; rfl
theorem eIf_t (e : t ρ z = some (true, z')) : eIf t fa fb ρ z = fa ρ z' := by
  unfold eIf; rw [e]; rfl
theorem eIf_f (e : t ρ z = some (false, z')) : eIf t fa fb ρ z = fb ρ z' := by
  unfold eIf; rw [e]; rfl
theorem eTup_run (e : fs ρ z = some (ds, z')) : eTup fs ρ z = some (.tuple ds, z') := by
  unfold eTup; rw [e]; rfl
theorem eLst_run (e : fs ρ z = some (ds, z')) : eLst fs ρ z = some (.list ds, z') := by
  unfold eLst; rw [e]; rfl
theorem iV_run (e : f ρ z = some (d, z')) (e2 : itD d = some ds) : iV f ρ z = some (ds, z') := by
  unfold iV; rw [e]; simp only [Option.bind_some, e2, Option.map_some]
theorem iRange_run {rg : List D → Option (List D)} (e : fs ρ z = some (es, z')) (e2 : rg es = some ds) : iRange rg fs ρ z = some (ds, z') := by
  unfold iRange; rw [e]; simp only [Option.bind_some, e2, Option.map_some]
theorem eLc_run {e : DE} {vs : List Nat} (e1 : fi ρ z = some (ds, z')) (hl : ds.length ≤ sizeLine) (e2 : lcF g t e (wipeE ρ vs) ds z' = some (es, z'')) : eLc fi g t e vs ρ z = some (.list es, z'') := by
  unfold eLc; rw [e1]; simp only [Option.bind_some, if_pos hl, e2, Option.map_some]
theorem sDo_run {fx : DX} (e : fx ρ z = some (d, ρ', z')) : sDo fx ρ z = some (.nx ρ', z') := by
  unfold sDo; rw [e]; rfl
theorem asgX_run {fx : DX} (e : fx ρ z = some (d, ρ', z')) : sAsgX i fx ρ z = some (.nx (ρ'.set i (some d)), z') := by
  unfold sAsgX; rw [e]; rfl
theorem store_run {fk fv : DE} {dk dv dc : D} (e1 : fv ρ z = some (dv, z')) (e2 : fk ρ z' = some (dk, z'')) (e3 : ρ[i]? = some (some dc)) (e4 : storeD dc dk dv = some d) : sStore i fk fv ρ z = some (.nx (ρ.set i (some d)), z'') := by
  unfold sStore
  rw [e1]
  simp only [Option.bind_some, e2, var_run e3, e4, Option.map_some]
theorem xV_run (e : f ρ z = some (d, z')) : xV f ρ z = some (d, ρ, z') := by
  unfold xV; rw [e]; rfl
theorem xAppend_run {fx : DX} (h0 : lstAt i ρ = some es) (e : fx ρ z = some (d, ρ', z')) (h1 : lstAt i ρ' = some ds) (hl : ds.length < sizeLine) : xAppend i fx ρ z = some (.none, ρ'.set i (some (.list (ds ++ [d]))), z') := by
  unfold xAppend
  simp only [h0, e, h1, Option.bind_some, if_pos hl]
theorem xPopD_run {ps : List (D × D)} {k : NestedKey} {dk : D} (h0 : dictAt i ρ = some ps) (e : f ρ z = some (dk, z')) (h1 : keyOf dk = some k) (h2 : dGet ps k = some d) : xPopD i f ρ z = some (d, ρ.set i (some (.dict (dDel ps k))), z') := by
  unfold xPopD
  simp only [h0, e, h1, h2, Option.bind_some, Option.map_some]
theorem asgG_run (e : f ρ z = some (d, z')) (e2 : g d ρ = some ρ') : sAsgG f g ρ z = some (.nx ρ', z') := by
  unfold sAsgG; rw [e]; simp only [Option.bind_some, e2, Option.map_some]
theorem chain_t {op op' : D → D → Option D} {d3 : D} {z3 : Src} (e1 : fa ρ z = some (d1, z')) (e2 : fb ρ z' = some (d2, z'')) (e3 : op d1 d2 = some (.bool true)) (e4 : fc ρ z'' = some (d3, z3)) (e5 : op' d2 d3 = some d) : eChain op op' fa fb fc ρ z = some (d, z3) := by
  unfold eChain
  rw [e1]
  simp only [Option.bind_some, e2, e3, asB, if_true, e4, e5, Option.map_some]
theorem chain_f {op op' : D → D → Option D} (e1 : fa ρ z = some (d1, z')) (e2 : fb ρ z' = some (d2, z'')) (e3 : op d1 d2 = some (.bool false)) : eChain op op' fa fb fc ρ z = some (.bool false, z'') := by
  unfold eChain
  rw [e1]
  simp only [Option.bind_some, e2, e3, asB]
  rfl
end
end PL
set_option Elab.async false
set_option linter.all false
set_option maxRecDepth 100000
set_option maxHeartbeats 4000000
/-! The plain law of k47, part 7: any order. -/
namespace PL
open PySem VL G47 List
theorem ixP_nat {r n : Nat} (h : r < n) (hn : n ≤ 1000) : ixP (r : Int) n = some r := by
  have hb : big62 (r : Int) = true := by
    simp only [big62, Bool.and_eq_true, decide_eq_true_eq]
    omega
  unfold ixP
  rw [if_pos hb]
  unfold seqIndex?
  have h0 : ¬ (r : Int) < 0 := by omega
  have h1 : (0 : Int) ≤ (r : Int) := by omega
  have h2 : (r : Int) < (n : Int) := by omega
  simp only [if_neg h0, decide_eq_true h1, decide_eq_true h2, Bool.and_self, if_true, Int.toNat_natCast]
theorem erase_map {α β : Type} (f : α → β) : ∀ (xs : List α) (r : Nat), (xs.map f).eraseIdx r = (xs.eraseIdx r).map f
  | [], _ => rfl
  | _ :: _, 0 => rfl
  | x :: xs, r + 1 => by
    have := erase_map f xs r
    simp only [List.map_cons, List.eraseIdx_cons_succ, this]
theorem erase_perm {α : Type} : ∀ (xs : List α) (r : Nat) (h : r < xs.length), xs[r] :: xs.eraseIdx r ~ xs
  | x :: xs, 0, _ => by simp
  | x :: xs, r + 1, h => by
    have := erase_perm xs r (by simpa using h)
    simp only [List.getElem_cons_succ, List.eraseIdx_cons_succ]
    exact (Perm.swap _ _ _).trans (this.cons _)
theorem popAt_run {i : Nat} {f : DE} {ρ : VL.Env} {z z' : Src} {ds : List D} {k : Int} {j : Nat} {d : D} (h0 : lstAt i ρ = some ds) (h1 : f ρ z = some (.int k, z')) (h2 : ixP k ds.length = some j) (h3 : ds[j]? = some d) :
    xPopAt i f ρ z = some (d, ρ.set i (some (.list (ds.eraseIdx j))), z') := by
  unfold xPopAt
  simp only [h0, h1, h2, h3, Option.bind_some, Option.map_some]
def popF (i : Nat) (F : DFn) : DX := xPopAt i (eCall F (aCons (eC1 lenD (aCons (eVar i) aNil)) aNil))
theorem lstAt_of {i : Nat} {ρ : VL.Env} {ds : List D} (h : ρ[i]? = some (some (.list ds))) : lstAt i ρ = some ds := by
  unfold lstAt
  rw [h]
theorem eVar_of {i : Nat} {ρ : VL.Env} {d : D} (h : ρ[i]? = some (some d)) (z : Src) : eVar i ρ z = some (d, z) := by
  unfold eVar
  rw [h]
theorem popF_run {α : Type} (F : DFn) (en : α → D) (i : Nat) (ρ : VL.Env) (z z' : Src) (xs : List α) (r : Nat) (hρ : ρ[i]? = some (some (.list (xs.map en)))) (hr : r < xs.length) (hl : xs.length ≤ 1000) (h1 : F [.int xs.length] z = some (.int r, z')) :
    popF i F ρ z = some (en xs[r], ρ.set i (some (.list ((xs.eraseIdx r).map en))), z') := by
  have e1 : (xs.map en)[r]? = some (en xs[r]) := by rw [List.getElem?_map, List.getElem?_eq_getElem hr]; rfl
  have e4 : eCall F (aCons (eC1 lenD (aCons (eVar i) aNil)) aNil) ρ z = some (.int r, z') := by
    have ev := eVar_of hρ z
    refine call_run (cons_run (eC1_run (cons_run ev nil_run) ?_) nil_run) h1
    show some (PyData.int (xs.map en).length) = _
    rw [List.length_map]
  rw [← erase_map]
  exact popAt_run (lstAt_of hρ) e4 (by rw [List.length_map]; exact ixP_nat hr hl) e1
theorem popE_run {α : Type} (en : α → D) (i : Nat) (ρ : VL.Env) {B : Nat} {tb : List (Addr × Str)} {st : SrcSt} (xs : List α) (hρ : ρ[i]? = some (some (.list (xs.map en)))) (hx : 0 < xs.length) (hl : xs.length ≤ 1000) (h : G B tb st) (hB : B ≤ 1000000) :
    ∃ (r : Nat) (hr : r < xs.length) (st' : SrcSt), popF i d__law_pick ρ (some st) = some (en xs[r], ρ.set i (some (.list ((xs.eraseIdx r).map en))), some st') ∧ G (B + 1) tb st' := by
  have hm : xs.length ≤ 1000000 := Nat.le_trans hl (by omega)
  obtain ⟨r, st', h1, h2, h3⟩ := pick_run h hB xs.length hm
  exact ⟨r, h3 hx, st', popF_run d__law_pick en i ρ _ _ xs r hρ (h3 hx) hl h1, h2⟩
theorem lcXF_cons {g : DG} {e : DX} {vs : List Nat} {ρ ρ1 ρ2 : VL.Env} {d x : D} {ds : List D} {z z' : Src} (h1 : g d ρ = some ρ1) (h2 : e ρ1 z = some (x, ρ2, z')) : lcXF g e vs ρ (d :: ds) z = (lcXF g e vs (wipeE ρ2 vs) ds z').map fun q => (x :: q.1, q.2) := by
  simp only [lcXF, h1, h2, Option.bind_some]
theorem order_loop {α : Type} (en : α → D) (d1 : Option D) {tb : List (Addr × Str)} : ∀ (ks : List D) (xs : List α) (B : Nat) (st : SrcSt), ks.length = xs.length → xs.length ≤ 1000 → G B tb st → B + xs.length ≤ 1000000 →
    ∃ (ys : List α) (st' : SrcSt), lcXF (gV 3) (popF 2 d__law_pick) [3] [none, d1, some (.list (xs.map en)), none] ks (some st) = some (ys.map en, some st') ∧ ys ~ xs ∧ G (B + xs.length) tb st'
  | [], xs, B, st, h1, _, h3, _ => by
    have : xs = [] := List.length_eq_zero_iff.mp h1.symm
    subst this
    exact ⟨[], st, rfl, .nil, h3⟩
  | k :: ks, xs, B, st, h1, h2, h3, h4 => by
    have h1 : ks.length + 1 = xs.length := h1
    obtain ⟨r, hr, st1, e1, g1⟩ := popE_run en 2 [none, d1, some (.list (xs.map en)), some k] xs rfl (by omega) h2 h3 (by omega)
    have le : (xs.eraseIdx r).length = xs.length - 1 := List.length_eraseIdx_of_lt hr
    obtain ⟨ys, st2, e2, p2, g2⟩ := order_loop en d1 ks (xs.eraseIdx r) (B + 1) st1 (by omega) (by omega) g1 (by omega)
    refine ⟨xs[r] :: ys, st2, ?_, (p2.cons _).trans (erase_perm xs r hr), ?_⟩
    · rw [lcXF_cons (ρ1 := [none, d1, some (.list (xs.map en)), some k]) rfl e1]
      have ew : wipeE (List.set [none, d1, some (.list (xs.map en)), some k] 2 (some (.list ((xs.eraseIdx r).map en)))) [3] = [none, d1, some (.list ((xs.eraseIdx r).map en)), none] := rfl
      rw [ew, e2]
      rfl
    · rw [le] at g2
      have : B + 1 + (xs.length - 1) = B + xs.length := by omega
      rw [this] at g2
      exact g2
theorem big62_small {n : Nat} (h : n ≤ 1000000) : big62 (n : Int) = true := by
  simp only [big62, Bool.and_eq_true, decide_eq_true_eq]
  omega
/-- _law_any_order -/
theorem order_run {α : Type} (en : α → D) (xs : List α) {B : Nat} {tb : List (Addr × Str)} {st : SrcSt} (hl : xs.length ≤ 1000) (h : G B tb st) (hB : B ≤ 900000) :
    ∃ (ys : List α) (st' : SrcSt), d__law_any_order [.list (xs.map en)] (some st) = some (.list (ys.map en), some st') ∧ ys ~ xs ∧ G (B + xs.length) tb st' := by
  obtain ⟨ys, st', h1, h2, h3⟩ := order_loop en (some (.list (xs.map en))) (rangeD 0 1 xs.length) xs B st (by simp [rangeD]) hl h (by omega)
  refine ⟨ys, st', ?_, h2, h3⟩
  have lb := line_big
  have ei : iRange iRg1 (aCons (eC1 lenD (aCons (eVar 2) aNil)) aNil) [none, some (.list (xs.map en)), some (.list (xs.map en)), none] (some st) = some (rangeD 0 1 xs.length, some st) := by
    have hb := big62_small (n := xs.length) (by omega)
    refine iRange_run (cons_run (eC1_run (cons_run (var_run rfl) nil_run) rfl) nil_run) ?_
    unfold iRg1
    simp only [List.length_map, hb, if_true, Int.toNat_natCast]
  have lr : (rangeD 0 1 xs.length).length ≤ sizeLine := by simp [rangeD]; omega
  have eb : b__law_any_order [none, some (.list (xs.map en)), none, none] (some st) = some (.rt (.list (ys.map en)), some st') := by
    unfold b__law_any_order
    rw [seq_nx (asg_run (eC1_run (cons_run (var_run rfl) nil_run) rfl))]
    unfold sRetLcX
    have ei' := ei
    rw [show (List.set [none, some (PyData.list (xs.map en)), none, none] 2 (some (PyData.list (xs.map en)))) = [none, some (.list (xs.map en)), some (.list (xs.map en)), none] from rfl, ei]
    simp only [Option.bind_some, if_pos lr]
    have ew : wipeE [none, some (.list (xs.map en)), some (.list (xs.map en)), none] [3] = [none, some (.list (xs.map en)), some (.list (xs.map en)), none] := rfl
    rw [ew]
    have h1' := h1
    unfold popF at h1'
    rw [h1']
    rfl
  show runS 4 1 b__law_any_order [.list (xs.map en)] (some st) = endF (.rt (.list (ys.map en)), some st')
  exact runS_run rfl (by rfl) eb
end PL
set_option Elab.async false
set_option linter.all false
namespace PL
open List
theorem leaves_pos : ∀ t : Tr, 0 < (leaves t).length
  | .lf _ => Nat.one_pos
  | .nd a b => by have := leaves_pos a; simp only [leaves, List.length_append]; omega
theorem leaves_ex (t : Tr) : ∃ x, x ∈ leaves t := by
  have := leaves_pos t
  cases h : leaves t with
  | nil => rw [h] at this; exact absurd this (Nat.lt_irrefl _)
  | cons x r => exact ⟨x, List.mem_cons_self⟩
theorem mem_shires {x : Int} {t : Tr} : x ∈ shires t ↔ x ∈ leaves t := (srt_perm _).mem_iff
theorem self_mem : ∀ t : Tr, t ∈ parts t
  | .lf _ => by simp [parts]
  | .nd a b => by simp [parts]
theorem parts_nd {p a b : Tr} : p ∈ parts (.nd a b) ↔ p = .nd a b ∨ p ∈ parts a ∨ p ∈ parts b := by
  simp only [parts, List.mem_cons, List.mem_append]
  constructor
  · rintro (h | h | h)
    · exact .inl h
    · exact .inr (.inr h)
    · exact .inr (.inl h)
  · rintro (h | h | h)
    · exact .inl h
    · exact .inr (.inr h)
    · exact .inr (.inl h)
theorem leaves_nd {x : Int} {a b : Tr} : x ∈ leaves (.nd a b) ↔ x ∈ leaves a ∨ x ∈ leaves b := by
  simp only [leaves, List.mem_append]
  exact Or.comm
theorem parts_sub : ∀ {t p : Tr}, p ∈ parts t → ∀ x ∈ leaves p, x ∈ leaves t
  | .lf i, p, h, x, hx => by
    have : p = .lf i := by simpa [parts] using h
    subst this; exact hx
  | .nd a b, p, h, x, hx => by
    rcases parts_nd.mp h with rfl | h | h
    · exact hx
    · exact leaves_nd.mpr (.inl (parts_sub h x hx))
    · exact leaves_nd.mpr (.inr (parts_sub h x hx))
def ND (t : Tr) : Prop := (leaves t).Nodup
theorem ND_nd {a b : Tr} : ND (.nd a b) ↔ ND a ∧ ND b ∧ ∀ x ∈ leaves a, x ∉ leaves b := by
  unfold ND
  simp only [leaves, List.nodup_append]
  constructor
  · rintro ⟨h1, h2, h3⟩
    exact ⟨h2, h1, fun x ha hb => h3 x hb x ha rfl⟩
  · rintro ⟨h1, h2, h3⟩
    exact ⟨h2, h1, fun x hb y ha e => h3 x (e ▸ ha) hb⟩
theorem parts_ND : ∀ {t p : Tr}, p ∈ parts t → ND t → ND p
  | .lf i, p, h, n => by
    have : p = .lf i := by simpa [parts] using h
    subst this; exact n
  | .nd a b, p, h, n => by
    have m := ND_nd.mp n
    rcases parts_nd.mp h with rfl | h | h
    · exact n
    · exact parts_ND h m.1
    · exact parts_ND h m.2.1
theorem parts_trans : ∀ {t p q : Tr}, p ∈ parts t → q ∈ parts p → q ∈ parts t
  | .lf i, p, q, h, g => by
    have : p = .lf i := by simpa [parts] using h
    subst this; exact g
  | .nd a b, p, q, h, g => by
    rcases parts_nd.mp h with rfl | h | h
    · exact g
    · exact parts_nd.mpr (.inr (.inl (parts_trans h g)))
    · exact parts_nd.mpr (.inr (.inr (parts_trans h g)))
abbrev lc (t : Tr) : Nat := (leaves t).length
theorem lc_nd (a b : Tr) : lc (.nd a b) = lc a + lc b := by
  simp only [lc, leaves, List.length_append]; omega
theorem parts_le' : ∀ {t p : Tr}, p ∈ parts t → p = t ∨ lc p < lc t
  | .lf i, p, h => by
    left
    simpa [parts] using h
  | .nd a b, p, h => by
    rcases parts_nd.mp h with rfl | h | h
    · exact .inl rfl
    · right
      have := leaves_pos b
      have := lc_nd a b
      rcases parts_le' h with rfl | h <;> simp only [lc] at * <;> omega
    · right
      have := leaves_pos a
      have := lc_nd a b
      rcases parts_le' h with rfl | h <;> simp only [lc] at * <;> omega
theorem lam : ∀ {t p q : Tr}, ND t → p ∈ parts t → q ∈ parts t → q ∈ parts p ∨ p ∈ parts q ∨ ∀ x ∈ leaves p, x ∉ leaves q
  | .lf i, p, q, n, h, g => by
    have e1 : p = .lf i := by simpa [parts] using h
    have e2 : q = .lf i := by simpa [parts] using g
    subst e1; subst e2
    exact .inl (self_mem _)
  | .nd a b, p, q, n, h, g => by
    have m := ND_nd.mp n
    rcases parts_nd.mp h with rfl | h'
    · exact .inl g
    · rcases parts_nd.mp g with rfl | g'
      · exact .inr (.inl h)
      · rcases h' with h' | h' <;> rcases g' with g' | g'
        · exact lam m.1 h' g'
        · exact .inr (.inr fun x hp hq => m.2.2 x (parts_sub h' x hp) (parts_sub g' x hq))
        · exact .inr (.inr fun x hp hq => m.2.2 x (parts_sub g' x hq) (parts_sub h' x hp))
        · exact lam m.2.1 h' g'
theorem parts_nodup : ∀ {t : Tr}, ND t → (parts t).Nodup
  | .lf i, _ => by simp [parts]
  | .nd a b, n => by
    have m := ND_nd.mp n
    have na := parts_nodup m.1
    have nb := parts_nodup m.2.1
    have ha := leaves_pos a
    have hb := leaves_pos b
    have hl := lc_nd a b
    simp only [parts, List.nodup_cons, List.nodup_append, List.mem_append]
    refine ⟨?_, nb, na, ?_⟩
    · rintro (h | h)
      · rcases parts_le' h with e | e
        · have := congrArg lc e; simp only [lc] at *; omega
        · simp only [lc] at *; omega
      · rcases parts_le' h with e | e
        · have := congrArg lc e; simp only [lc] at *; omega
        · simp only [lc] at *; omega
    · rintro p hp q hq rfl
      obtain ⟨x, hx⟩ := leaves_ex p
      exact m.2.2 x (parts_sub hq x hx) (parts_sub hp x hx)
theorem shires_inj {t p q : Tr} (n : ND t) (h : p ∈ parts t) (g : q ∈ parts t) (e : shires p = shires q) : p = q := by
  have el : lc p = lc q := by
    have := congrArg List.length e
    unfold shires at this
    rwa [(srt_perm (leaves p)).length_eq, (srt_perm (leaves q)).length_eq] at this
  rcases lam n h g with k | k | k
  · rcases parts_le' k with k | k
    · exact k.symm
    · omega
  · rcases parts_le' k with k | k
    · exact k
    · omega
  · obtain ⟨x, hx⟩ := leaves_ex p
    have : x ∈ leaves q := mem_shires.mp (e ▸ mem_shires.mpr hx)
    exact absurd this (k x hx)
/-- forms -/
theorem leaves_pair (a b : Tr) : leaves (pair a b) ~ leaves b ++ leaves a := by
  unfold pair
  split
  · exact .refl _
  · exact perm_append_comm
theorem leaves_form : ∀ t : Tr, leaves (form t) ~ leaves t
  | .lf _ => .refl _
  | .nd a b => (leaves_pair _ _).trans ((leaves_form b).append (leaves_form a))
theorem shires_form (t : Tr) : shires (form t) = shires t := srt_eq (leaves_form t)
theorem ND_form {t : Tr} : ND (form t) ↔ ND t := (leaves_form t).nodup_iff
theorem pair_comm {a b : Tr} (h : shires a ≠ shires b) : pair a b = pair b a := by
  unfold pair
  by_cases h1 : shires a < shires b
  · rw [if_pos h1, if_neg (List.lt_asymm h1)]
  · have h2 : shires b < shires a := by
      rcases List.le_total (shires a) (shires b) with k | k
      · exact absurd (List.le_antisymm k (List.not_lt.mp h1)) h
      · refine Decidable.byContradiction fun c => h (List.le_antisymm (List.not_lt.mp c) k)
    rw [if_neg h1, if_pos h2]
theorem parts_pair (a b : Tr) : (parts (pair a b)).map shires ~ (parts (.nd a b)).map shires := by
  unfold pair
  split
  · exact .refl _
  · simp only [parts, List.map_cons, List.map_append]
    have e : shires (.nd b a) = shires (.nd a b) := srt_eq (by simp only [leaves]; exact perm_append_comm)
    rw [e]
    exact .cons _ perm_append_comm
theorem parts_form : ∀ t : Tr, (parts (form t)).map shires ~ (parts t).map shires
  | .lf _ => .refl _
  | .nd a b => by
    refine (parts_pair _ _).trans ?_
    have e : shires (.nd (form a) (form b)) = shires (.nd a b) := srt_eq (by simp only [leaves]; exact (leaves_form b).append (leaves_form a))
    simp only [parts, List.map_cons, List.map_append, e]
    exact .cons _ ((parts_form b).append (parts_form a))
theorem lots_form (t : Tr) : lots (form t) = lots t := srtL_eq (parts_form t)
theorem shires_kids {a b : Tr} (n : ND (.nd a b)) : shires a ≠ shires b := fun e => by
  obtain ⟨x, hx⟩ := leaves_ex a
  exact (ND_nd.mp n).2.2 x hx (mem_shires.mp (e ▸ mem_shires.mpr hx))
theorem form_pair {a b : Tr} (ha : form a = a) (hb : form b = b) (h : shires a ≠ shires b) : form (pair a b) = pair a b := by
  have c := pair_comm h
  by_cases h1 : shires a < shires b
  · have e : pair a b = .nd a b := if_pos h1
    rw [e]
    show pair (form a) (form b) = _
    rw [ha, hb, e]
  · have e : pair a b = .nd b a := if_neg h1
    rw [e]
    show pair (form b) (form a) = _
    rw [ha, hb, ← c, e]
theorem form_form : ∀ {t : Tr}, ND t → form (form t) = form t
  | .lf _, _ => rfl
  | .nd a b, n => by
    have m := ND_nd.mp n
    exact form_pair (form_form m.1) (form_form m.2.1) (by rw [shires_form, shires_form]; exact shires_kids n)
end PL
set_option Elab.async false
set_option linter.all false
namespace PL
open List
/-- the heads of found plans: the parts that stand in no other one seen so far -/
structure Top (Q qs : List Tr) : Prop where
  nd : qs.Nodup
  mem : ∀ q, q ∈ qs ↔ q ∈ Q ∧ ∀ r ∈ Q, q ∈ parts r → r = q
def hd (l : List Int) : Int := l.headD 0
theorem hd_mem (t : Tr) : hd (shires t) ∈ leaves t := by
  have h := shires_ne t
  have : hd (shires t) ∈ shires t := by
    cases e : shires t with
    | nil => exact absurd e h
    | cons x r => exact List.mem_cons_self
  exact mem_shires.mp this
def kids : Tr → List Tr
  | .lf _ => []
  | .nd a b => [a, b]
/-- a sequence of all parts, the smaller ones first -/
structure Seq (t : Tr) (Q : List Tr) : Prop where
  nd : ND t
  perm : Q ~ parts t
  pw : Q.Pairwise fun p q => lc p ≤ lc q
theorem kid_part {p c : Tr} (h : c ∈ kids p) : c ∈ parts p ∧ lc c < lc p := by
  cases p with
  | lf i => cases h
  | nd a b =>
    have hl := lc_nd a b
    have ha := leaves_pos a
    have hb := leaves_pos b
    rcases (by simpa [kids] using h : c = a ∨ c = b) with rfl | rfl
    · exact ⟨parts_nd.mpr (.inr (.inl (self_mem _))), by simp only [lc] at *; omega⟩
    · exact ⟨parts_nd.mpr (.inr (.inr (self_mem _))), by simp only [lc] at *; omega⟩
theorem part_kid {p q : Tr} (h : q ∈ parts p) (n : q ≠ p) : ∃ c ∈ kids p, q ∈ parts c := by
  cases p with
  | lf i => exact absurd (by simpa [parts] using h) n
  | nd a b =>
    rcases parts_nd.mp h with h | h | h
    · exact absurd h n
    · exact ⟨a, by simp [kids], h⟩
    · exact ⟨b, by simp [kids], h⟩
theorem kids_nodup {p : Tr} (n : ND p) : (kids p).Nodup := by
  cases p with
  | lf i => exact List.nodup_nil
  | nd a b =>
    have : a ≠ b := fun e => shires_kids n (e ▸ rfl)
    simp [kids, this]
theorem kids_dis {p c d : Tr} (n : ND p) (hc : c ∈ kids p) (hd : d ∈ kids p) (h : ∃ x, x ∈ leaves c ∧ x ∈ leaves d) : c = d := by
  cases p with
  | lf i => cases hc
  | nd a b =>
    have m := ND_nd.mp n
    obtain ⟨x, h1, h2⟩ := h
    have e1 : c = a ∨ c = b := by simpa [kids] using hc
    have e2 : d = a ∨ d = b := by simpa [kids] using hd
    rcases e1 with e1 | e1 <;> rcases e2 with e2 | e2 <;> rw [e1] at h1 ⊢ <;> rw [e2] at h2 ⊢
    · exact absurd h2 (m.2.2 x h1)
    · exact absurd h1 (m.2.2 x h2)
section
variable {t p : Tr} {Q1 Q2 qs : List Tr}
theorem Seq.memQ (S : Seq t (Q1 ++ p :: Q2)) {q : Tr} : q ∈ parts t ↔ q ∈ Q1 ∨ q = p ∨ q ∈ Q2 := by
  rw [← S.perm.mem_iff]
  simp
theorem Seq.pmem (S : Seq t (Q1 ++ p :: Q2)) : p ∈ parts t := S.memQ.mpr (.inr (.inl rfl))
theorem Seq.nodup (S : Seq t (Q1 ++ p :: Q2)) : (Q1 ++ p :: Q2).Nodup := S.perm.nodup_iff.mpr (parts_nodup S.nd)
theorem Seq.pnot (S : Seq t (Q1 ++ p :: Q2)) : p ∉ Q1 := fun h => by
  have := S.nodup
  rw [List.nodup_append] at this
  exact this.2.2 p h p List.mem_cons_self rfl
theorem Seq.le (S : Seq t (Q1 ++ p :: Q2)) {q : Tr} (h : q ∈ Q1) : lc q ≤ lc p := by
  have := S.pw
  rw [List.pairwise_append] at this
  exact this.2.2 q h p List.mem_cons_self
theorem Seq.small (S : Seq t (Q1 ++ p :: Q2)) {q : Tr} (h : q ∈ parts t) (hs : lc q < lc p) : q ∈ Q1 := by
  rcases S.memQ.mp h with h | rfl | h
  · exact h
  · omega
  · have := S.pw
    rw [List.pairwise_append, List.pairwise_cons] at this
    have := this.2.1.1 q h
    omega
/-- p stands in no part seen so far -/
theorem Seq.pout (S : Seq t (Q1 ++ p :: Q2)) {r : Tr} (h : r ∈ Q1) : p ∉ parts r := fun k => by
  have := S.le h
  rcases parts_le' k with e | e
  · exact S.pnot (e ▸ h)
  · omega
theorem Seq.kidQ (S : Seq t (Q1 ++ p :: Q2)) {c : Tr} (h : c ∈ kids p) : c ∈ Q1 :=
  S.small (parts_trans S.pmem (kid_part h).1) (kid_part h).2
theorem Seq.inQ (S : Seq t (Q1 ++ p :: Q2)) {q : Tr} (h : q ∈ Q1) : q ∈ parts t := S.memQ.mpr (.inl h)
/-- a part seen so far begins in p just if it is a part of p -/
theorem Seq.begins (S : Seq t (Q1 ++ p :: Q2)) {q : Tr} (h : q ∈ Q1) : hd (shires q) ∈ leaves p ↔ q ∈ parts p := by
  constructor
  · intro k
    rcases lam S.nd S.pmem (S.inQ h) with g | g | g
    · exact g
    · exact absurd g (S.pout h)
    · exact absurd (hd_mem q) (g _ k)
  · intro k
    exact parts_sub k _ (hd_mem q)
theorem Seq.kidTop (S : Seq t (Q1 ++ p :: Q2)) (T : Top Q1 qs) {c : Tr} (h : c ∈ kids p) : c ∈ qs := by
  refine (T.mem c).mpr ⟨S.kidQ h, fun r hr k => ?_⟩
  have np := parts_ND S.pmem S.nd
  have cp := kid_part h
  obtain ⟨x, hx⟩ := leaves_ex c
  rcases lam S.nd S.pmem (S.inQ hr) with g | g | g
  · have hne : r ≠ p := fun e => S.pnot (e ▸ hr)
    obtain ⟨d, hd1, hd2⟩ := part_kid g hne
    have e : c = d := kids_dis np h hd1 ⟨x, hx, parts_sub hd2 x (parts_sub k x hx)⟩
    subst e
    rcases parts_le' hd2 with e | e
    · exact e
    · rcases parts_le' k with e' | e'
      · exact e'.symm
      · omega
  · exact absurd g (S.pout hr)
  · exact absurd (parts_sub k x hx) (g x (parts_sub cp.1 x hx))
theorem Seq.within (S : Seq t (Q1 ++ p :: Q2)) (T : Top Q1 qs) : qs.filter (fun q => decide (hd (shires q) ∈ leaves p)) ~ kids p := by
  refine (List.perm_ext_iff_of_nodup (T.nd.filter _) (kids_nodup (parts_ND S.pmem S.nd))).mpr fun q => ?_
  rw [List.mem_filter, decide_eq_true_eq]
  constructor
  · rintro ⟨h1, h2⟩
    have m := (T.mem q).mp h1
    have hp := (S.begins m.1).mp h2
    have hne : q ≠ p := fun e => S.pnot (e ▸ m.1)
    obtain ⟨c, c1, c2⟩ := part_kid hp hne
    exact (m.2 c (S.kidQ c1) c2) ▸ c1
  · intro h
    exact ⟨S.kidTop T h, (S.begins (S.kidQ h)).mpr (kid_part h).1⟩
theorem Seq.next (S : Seq t (Q1 ++ p :: Q2)) (T : Top Q1 qs) : Top (Q1 ++ [p]) (qs.filter (fun q => !decide (hd (shires q) ∈ leaves p)) ++ [p]) := by
  constructor
  · rw [List.nodup_append]
    refine ⟨T.nd.filter _, by simp, fun a ha b hb e => ?_⟩
    have hb : b = p := by simpa using hb
    have := ((T.mem a).mp (List.mem_filter.mp ha).1).1
    exact S.pnot (hb ▸ e ▸ this)
  · intro q
    simp only [List.mem_append, List.mem_singleton, List.mem_filter, Bool.not_eq_true', decide_eq_false_iff_not]
    constructor
    · rintro (⟨h1, h2⟩ | rfl)
      · have m := (T.mem q).mp h1
        refine ⟨.inl m.1, fun r hr k => ?_⟩
        rcases hr with hr | rfl
        · exact m.2 r hr k
        · exact absurd ((S.begins m.1).mpr k) h2
      · refine ⟨.inr rfl, fun r hr k => ?_⟩
        rcases hr with hr | rfl
        · exact absurd k (S.pout hr)
        · rfl
    · rintro ⟨h1 | rfl, h2⟩
      · left
        refine ⟨(T.mem q).mpr ⟨h1, fun r hr k => h2 r (.inl hr) k⟩, fun k => ?_⟩
        have := h2 p (.inr rfl) ((S.begins h1).mp k)
        exact S.pnot (this ▸ h1)
      · exact .inr rfl
end
theorem Top.nil : Top [] [] := ⟨List.nodup_nil, fun q => by simp⟩
theorem Seq.last {t : Tr} {Q qs : List Tr} (S : Seq t Q) (T : Top Q qs) : qs = [t] := by
  have h : ∀ q, q ∈ qs ↔ q = t := fun q => by
    rw [T.mem q]
    constructor
    · rintro ⟨h1, h2⟩
      exact (h2 t (S.perm.mem_iff.mpr (self_mem t)) (S.perm.mem_iff.mp h1)).symm
    · rintro rfl
      refine ⟨S.perm.mem_iff.mpr (self_mem q), fun r hr k => ?_⟩
      rcases parts_le' (S.perm.mem_iff.mp hr) with e | e
      · exact e
      · rcases parts_le' k with e' | e'
        · exact e'.symm
        · omega
  have : qs ~ [t] := (List.perm_ext_iff_of_nodup T.nd (by simp)).mpr fun q => by rw [h q]; simp
  exact List.perm_singleton.mp this
/-- a sequence of lots is one of parts -/
theorem perm_lift {α β : Type} (f : α → β) : ∀ {L : List β} {M : List β}, L ~ M → ∀ {xs : List α}, M = xs.map f → ∃ ys, ys ~ xs ∧ ys.map f = L := by
  intro L M h
  induction h with
  | nil => intro xs e; cases xs with
    | nil => exact ⟨[], .nil, rfl⟩
    | cons x xs => cases e
  | cons x h ih =>
    intro xs e
    cases xs with
    | nil => cases e
    | cons y ys =>
      simp only [List.map_cons, List.cons.injEq] at e
      obtain ⟨zs, z1, z2⟩ := ih e.2
      exact ⟨y :: zs, z1.cons _, by simp [z2, e.1]⟩
  | swap x y l =>
    intro xs e
    match xs, e with
    | a :: b :: r, e =>
      simp only [List.map_cons, List.cons.injEq] at e
      exact ⟨b :: a :: r, .swap _ _ _, by simp [e.1, e.2.1, e.2.2]⟩
  | trans _ _ ih1 ih2 =>
    intro xs e
    obtain ⟨ys, y1, y2⟩ := ih2 e
    obtain ⟨zs, z1, z2⟩ := ih1 y2.symm
    exact ⟨zs, z1.trans y1, z2⟩
theorem shires_len' (t : Tr) : (shires t).length = lc t := (srt_perm _).length_eq
theorem seq_of {t : Tr} (n : ND t) {L : List (List Int)} (h : L ~ lots t) (pw : L.Pairwise fun a b => a.length ≤ b.length) : ∃ Q, Seq t Q ∧ Q.map shires = L := by
  obtain ⟨Q, q1, q2⟩ := perm_lift shires (h.trans (srtL_perm _)) rfl
  refine ⟨Q, ⟨n, q1, ?_⟩, q2⟩
  rw [← q2, List.pairwise_map] at pw
  exact pw.imp fun h => by rwa [shires_len', shires_len'] at h
end PL
set_option Elab.async false
set_option linter.all false
namespace PL
open List
/-- lots of n shires -/
structure Lot (n : Nat) (l : List Int) : Prop where
  ne : l ≠ []
  pw : l.Pairwise (· < ·)
  rg : ∀ x ∈ l, 0 ≤ x ∧ x < n
theorem Lot.nodup {n : Nat} {l : List Int} (h : Lot n l) : l.Nodup := h.pw.imp fun h => Int.ne_of_lt h
theorem Lot.ex {n : Nat} {l : List Int} (h : Lot n l) : ∃ x, x ∈ l := List.exists_mem_of_ne_nil _ h.ne
theorem pw_ext {l m : List Int} (hl : l.Pairwise (· < ·)) (hm : m.Pairwise (· < ·)) (h : ∀ x, x ∈ l ↔ x ∈ m) : l = m := by
  have p : l ~ m := (List.perm_ext_iff_of_nodup (hl.imp fun h => Int.ne_of_lt h) (hm.imp fun h => Int.ne_of_lt h)).mpr h
  exact Perm.eq_of_pairwise (le := (· < ·)) (fun a b _ _ h1 h2 => by omega) hl hm p
theorem Lot.ext {n : Nat} {l m : List Int} (hl : Lot n l) (hm : Lot n m) (h : ∀ x, x ∈ l ↔ x ∈ m) : l = m := pw_ext hl.pw hm.pw h
/-- how many shires two lots share -/
def shared (l m : List Int) : Nat := (l.filter fun x => decide (x ∈ m)).length
def cross (l m : List Int) : Bool := decide (0 < shared l m) && (decide (shared l m < l.length) && decide (shared l m < m.length))
def Cross (l m : List Int) : Prop := (∃ x, x ∈ l ∧ x ∈ m) ∧ (∃ x, x ∈ l ∧ x ∉ m) ∧ (∃ x, x ∈ m ∧ x ∉ l)
theorem shared_pos {l m : List Int} : 0 < shared l m ↔ ∃ x, x ∈ l ∧ x ∈ m := by
  unfold shared
  rw [List.length_pos_iff_exists_mem]
  simp [List.mem_filter]
theorem shared_lt {l m : List Int} : shared l m < l.length ↔ ∃ x, x ∈ l ∧ x ∉ m := by
  unfold shared
  have h := List.length_filter_le (fun x => decide (x ∈ m)) l
  have e : (l.filter fun x => decide (x ∈ m)).length = l.length ↔ ∀ x ∈ l, x ∈ m := by
    rw [List.length_filter_eq_length_iff]
    simp
  constructor
  · intro k
    refine Classical.byContradiction fun c => ?_
    have : ∀ x ∈ l, x ∈ m := fun x hx => Classical.byContradiction fun d => c ⟨x, hx, d⟩
    have := e.mpr this
    omega
  · rintro ⟨x, h1, h2⟩
    refine Classical.byContradiction fun c => ?_
    exact h2 (e.mp (by omega) x h1)
theorem shared_comm {l m : List Int} (hl : l.Nodup) (hm : m.Nodup) : shared l m = shared m l := by
  refine Perm.length_eq ?_
  refine (List.perm_ext_iff_of_nodup (hl.filter _) (hm.filter _)).mpr fun x => ?_
  simp [List.mem_filter, and_comm]
theorem cross_iff {l m : List Int} (hl : l.Nodup) (hm : m.Nodup) : cross l m = true ↔ Cross l m := by
  unfold cross Cross
  rw [Bool.and_eq_true, Bool.and_eq_true, decide_eq_true_eq, decide_eq_true_eq, decide_eq_true_eq, shared_pos, shared_lt, shared_comm hl hm, shared_lt]
theorem Cross.symm {l m : List Int} (h : Cross l m) : Cross m l := by
  obtain ⟨⟨x, h1, h2⟩, h3, h4⟩ := h
  exact ⟨⟨x, h2, h1⟩, h4, h3⟩
theorem not_cross {l m : List Int} (h : ¬ Cross l m) : (∀ x ∈ l, x ∉ m) ∨ (∀ x ∈ l, x ∈ m) ∨ (∀ x ∈ m, x ∈ l) := by
  refine Classical.byContradiction fun c => h ?_
  have c1 : ¬ ∀ x ∈ l, x ∉ m := fun k => c (.inl k)
  have c2 : ¬ ∀ x ∈ l, x ∈ m := fun k => c (.inr (.inl k))
  have c3 : ¬ ∀ x ∈ m, x ∈ l := fun k => c (.inr (.inr k))
  simp only [Classical.not_forall, Classical.not_not] at c1 c2 c3
  obtain ⟨x1, a1, b1⟩ := c1
  obtain ⟨x2, a2, b2⟩ := c2
  obtain ⟨x3, a3, b3⟩ := c3
  exact ⟨⟨x1, a1, b1⟩, ⟨x2, a2, b2⟩, ⟨x3, a3, b3⟩⟩
theorem max_len {α : Type} (f : α → Nat) : ∀ (xs : List α), xs ≠ [] → ∃ x ∈ xs, ∀ y ∈ xs, f y ≤ f x
  | [x], _ => ⟨x, by simp, by simp⟩
  | x :: y :: r, _ => by
    obtain ⟨z, z1, z2⟩ := max_len f (y :: r) (by simp)
    by_cases c : f x ≤ f z
    · refine ⟨z, List.mem_cons_of_mem _ z1, fun w hw => ?_⟩
      rcases List.mem_cons.mp hw with rfl | hw
      · exact c
      · exact z2 w hw
    · refine ⟨x, by simp, fun w hw => ?_⟩
      rcases List.mem_cons.mp hw with rfl | hw
      · exact Nat.le_refl _
      · have := z2 w hw; omega
/-- lots that do not cross, and to which none can be put -/
structure Full (n : Nat) (F : List (List Int)) : Prop where
  lot : ∀ l ∈ F, Lot n l
  no : ∀ l ∈ F, ∀ m ∈ F, ¬ Cross l m
  all : ∀ l, Lot n l → l ∉ F → ∃ m ∈ F, Cross l m
section
variable {n : Nat} {F : List (List Int)}
theorem Full.one (h : Full n F) {x : Int} (h0 : 0 ≤ x) (h1 : x < n) : [x] ∈ F := by
  refine Classical.byContradiction fun c => ?_
  obtain ⟨m, _, ⟨y, a, b⟩, ⟨z, d, e⟩, _⟩ := h.all [x] ⟨by simp, by simp, by simp [h0, h1]⟩ c
  have a : y = x := by simpa using a
  have d : z = x := by simpa using d
  subst a; subst d
  exact e b
theorem sub_back : ∀ {l m : List Int}, l.Nodup → (∀ x ∈ l, x ∈ m) → m.length ≤ l.length → ∀ x ∈ m, x ∈ l
  | [], m, _, _, h => by
    rw [List.length_eq_zero_iff.mp (Nat.le_zero.mp h)]
    exact fun x hx => absurd hx (by simp)
  | x :: l, m, nd, h, hl => fun y hy => by
    have nd' := List.nodup_cons.mp nd
    have hx := h x List.mem_cons_self
    have e := List.length_erase_of_mem hx
    have p : 0 < m.length := List.length_pos_iff_exists_mem.mpr ⟨x, hx⟩
    by_cases c : y = x
    · exact c ▸ List.mem_cons_self
    · refine List.mem_cons_of_mem _ (sub_back nd'.2 (m := m.erase x) (fun z hz => ?_) (by simp only [List.length_cons] at hl; omega) y ((List.mem_erase_of_ne c).mpr hy))
      have hne : z ≠ x := fun e => nd'.1 (e ▸ hz)
      exact (List.mem_erase_of_ne hne).mpr (h z (List.mem_cons_of_mem _ hz))
theorem srt_of_lot {l m : List Int} (hm : m.Pairwise (· < ·)) (h : l ~ m) : srt l = m :=
  Perm.eq_of_pairwise (le := (· ≤ ·)) (fun a b _ _ h1 h2 => by omega) (srt_pw l) (hm.imp fun h => Int.le_of_lt h) ((srt_perm l).trans h)
theorem Full.tree (h : Full n F) : ∀ (k : Nat) (S : List Int), S ∈ F → S.length ≤ k → ∃ t, leaves t ~ S ∧ ∀ l, l ∈ (parts t).map shires ↔ l ∈ F ∧ ∀ x ∈ l, x ∈ S
  | 0, S, hS, hk => absurd (List.length_eq_zero_iff.mp (Nat.le_zero.mp hk)) (h.lot S hS).ne
  | k + 1, S, hS, hk => by
    have LS := h.lot S hS
    obtain ⟨x, hx⟩ := LS.ex
    have rx := LS.rg x hx
    have ox := h.one rx.1 rx.2
    by_cases c : S = [x]
    · refine ⟨.lf x, by rw [c]; exact .refl _, fun l => ?_⟩
      have e : (parts (.lf x)).map shires = [[x]] := by simp [parts, shires, leaves, srt]
      rw [e, List.mem_singleton]
      constructor
      · rintro rfl
        exact ⟨ox, fun y hy => by have : y = x := by simpa using hy
                                  exact this ▸ hx⟩
      · rintro ⟨h1, h2⟩
        have Ll := h.lot l h1
        refine Ll.ext (h.lot _ ox) fun y => ⟨fun hy => c ▸ h2 y hy, fun hy => ?_⟩
        have hy : y = x := by simpa using hy
        obtain ⟨w, hw⟩ := Ll.ex
        have : w ∈ S := h2 w hw
        rw [c] at this
        have hw' : w = x := by simpa using this
        rw [hy, ← hw']; exact hw
    · obtain ⟨A, hA, mA⟩ := max_len List.length (F.filter fun m => decide ((∀ y ∈ m, y ∈ S) ∧ m ≠ S)) (by
        refine List.ne_nil_of_mem (a := [x]) ?_
        rw [List.mem_filter, decide_eq_true_eq]
        exact ⟨ox, fun y hy => by have : y = x := by simpa using hy
                                  exact this ▸ hx, fun e => c e.symm⟩)
      rw [List.mem_filter, decide_eq_true_eq] at hA
      obtain ⟨A1, A2, A3⟩ := hA
      have mA' : ∀ m ∈ F, (∀ y ∈ m, y ∈ S) → m ≠ S → m.length ≤ A.length := fun m h1 h2 h3 => mA m (by rw [List.mem_filter, decide_eq_true_eq]; exact ⟨h1, h2, h3⟩)
      have LA := h.lot A A1
      have hB : ∀ y, y ∈ S.filter (fun y => decide (y ∉ A)) ↔ y ∈ S ∧ y ∉ A := fun y => by rw [List.mem_filter, decide_eq_true_eq]
      generalize eB : S.filter (fun y => decide (y ∉ A)) = B at hB
      have LB : Lot n B := by
        refine ⟨fun e => ?_, ?_, fun y hy => LS.rg y ((hB y).mp hy).1⟩
        · refine A3 (LA.ext LS fun y => ⟨A2 y, fun hy => Classical.byContradiction fun d => ?_⟩)
          have := (hB y).mpr ⟨hy, d⟩
          rw [e] at this
          cases this
        · rw [← eB]; exact LS.pw.filter _
      have B1 : B ∈ F := by
        refine Classical.byContradiction fun d => ?_
        obtain ⟨C, hC, ⟨y, y1, y2⟩, ⟨z, z1, z2⟩, ⟨u, u1, u2⟩⟩ := h.all B LB d
        have LC := h.lot C hC
        have yS := (hB y).mp y1
        have zS := (hB z).mp z1
        have CS : ∀ v ∈ C, v ∈ S := by
          rcases not_cross (h.no C hC S hS) with g | g | g
          · exact absurd yS.1 (g y y2)
          · exact g
          · exact absurd (g z zS.1) z2
        have uS := CS u u1
        have uA : u ∈ A := Classical.byContradiction fun e => u2 ((hB u).mpr ⟨uS, e⟩)
        have AC : ∀ v ∈ A, v ∈ C := by
          rcases not_cross (h.no A A1 C hC) with g | g | g
          · exact absurd u1 (g u uA)
          · exact g
          · exact absurd (g y y2) yS.2
        have CnS : C ≠ S := fun e => z2 (e ▸ zS.1)
        have l1 := mA' C hC CS CnS
        have : A = C := by
          exact LA.ext LC fun v => ⟨AC v, sub_back LA.nodup AC l1 v⟩
        exact yS.2 (this ▸ y2)
      have pAB : B ++ A ~ S := by
        refine (List.perm_ext_iff_of_nodup ?_ LS.nodup).mpr fun y => ?_
        · rw [List.nodup_append]
          exact ⟨LB.nodup, LA.nodup, fun a ha b hb e => ((hB a).mp ha).2 (e ▸ hb)⟩
        · rw [List.mem_append, hB]
          constructor
          · rintro (g | g)
            · exact g.1
            · exact A2 y g
          · intro g
            by_cases e : y ∈ A
            · exact .inr e
            · exact .inl ⟨g, e⟩
      have lAB := pAB.length_eq
      rw [List.length_append] at lAB
      have pA : 0 < A.length := List.length_pos_iff.mpr LA.ne
      have pB : 0 < B.length := List.length_pos_iff.mpr LB.ne
      obtain ⟨a, a1, a2⟩ := Full.tree h k A A1 (by omega)
      obtain ⟨b, b1, b2⟩ := Full.tree h k B B1 (by omega)
      have pt : leaves (.nd a b) ~ S := (b1.append a1).trans pAB
      have es : shires (.nd a b) = S := srt_of_lot LS.pw pt
      refine ⟨.nd a b, pt, fun l => ?_⟩
      have hm : l ∈ (parts (.nd a b)).map shires ↔ l = S ∨ l ∈ (parts b).map shires ∨ l ∈ (parts a).map shires := by
        simp only [parts, List.map_cons, List.map_append, List.mem_cons, List.mem_append, es]
      rw [hm, a2, b2]
      constructor
      · rintro (rfl | ⟨h1, h2⟩ | ⟨h1, h2⟩)
        · exact ⟨hS, fun y hy => hy⟩
        · exact ⟨h1, fun y hy => ((hB y).mp (h2 y hy)).1⟩
        · exact ⟨h1, fun y hy => A2 y (h2 y hy)⟩
      · rintro ⟨h1, h2⟩
        by_cases e : l = S
        · exact .inl e
        · right
          have Ll := h.lot l h1
          rcases not_cross (h.no A A1 l h1) with g | g | g
          · exact .inl ⟨h1, fun y hy => (hB y).mpr ⟨h2 y hy, fun k => g y k hy⟩⟩
          · have l1 := mA' l h1 h2 e
            exact .inr ⟨h1, sub_back LA.nodup g l1⟩
          · exact .inr ⟨h1, g⟩
end
def upto (n : Nat) : List Int := (List.range n).map fun (i : Nat) => (i : Int)
theorem mem_upto {n : Nat} {x : Int} : x ∈ upto n ↔ 0 ≤ x ∧ x < n := by
  unfold upto
  simp only [List.mem_map, List.mem_range]
  constructor
  · rintro ⟨i, h, rfl⟩; omega
  · rintro ⟨h1, h2⟩
    exact ⟨x.toNat, by omega, by omega⟩
theorem upto_pw (n : Nat) : (upto n).Pairwise (· < ·) := by
  unfold upto
  rw [List.pairwise_map]
  exact List.pairwise_lt_range.imp fun h => by omega
theorem upto_lot {n : Nat} (h : 0 < n) : Lot n (upto n) :=
  ⟨List.ne_nil_of_mem (mem_upto.mpr ⟨Int.le_refl 0, by omega⟩), upto_pw n, fun x hx => mem_upto.mp hx⟩
theorem upto_nodup (n : Nat) : (upto n).Nodup := (upto_pw n).imp fun h => Int.ne_of_lt h
theorem lots_nodup {t : Tr} (h : ND t) : ((parts t).map shires).Nodup := by
  rw [List.Nodup, List.pairwise_map]
  exact List.Pairwise.imp_of_mem (fun ha hb hne e => hne (shires_inj h ha hb e)) (parts_nodup h)
theorem Full.is {n : Nat} {F : List (List Int)} (h : Full n F) (hn : 0 < n) (nd : F.Nodup) : ∃ t, leaves t ~ upto n ∧ F ~ lots t := by
  have hu : upto n ∈ F := by
    refine Classical.byContradiction fun c => ?_
    obtain ⟨m, hm, _, _, ⟨z, d, e⟩⟩ := h.all _ (upto_lot hn) c
    exact e (mem_upto.mpr ((h.lot m hm).rg z d))
  obtain ⟨t, t1, t2⟩ := h.tree _ _ hu (Nat.le_refl _)
  refine ⟨t, t1, ?_⟩
  have nt : ND t := t1.nodup_iff.mpr (upto_nodup n)
  refine Perm.trans ?_ (srtL_perm _).symm
  refine (List.perm_ext_iff_of_nodup nd (lots_nodup nt)).mpr fun l => ?_
  rw [t2]
  exact ⟨fun hl => ⟨hl, fun y hy => mem_upto.mpr ((h.lot l hl).rg y hy)⟩, fun hl => hl.1⟩
theorem sz_lc : ∀ t : Tr, sz t + 1 = 2 * lc t
  | .lf _ => rfl
  | .nd a b => by
    have h1 := sz_lc a
    have h2 := sz_lc b
    have h3 := lc_nd a b
    simp only [sz] at *
    omega
/-- lots put together as long as none cross -/
def grow : List (List Int) → List (List Int) → List (List Int)
  | F, [] => F
  | F, k :: ks => if F.any (fun m => cross k m) then grow F ks else grow (F ++ [k]) ks
structure Part (n : Nat) (F : List (List Int)) : Prop where
  lot : ∀ l ∈ F, Lot n l
  no : ∀ l ∈ F, ∀ m ∈ F, ¬ Cross l m
  nd : F.Nodup
theorem Part.put {n : Nat} {F : List (List Int)} {k : List Int} (h : Part n F) (hk : Lot n k) (hn : k ∉ F) (c : F.any (fun m => cross k m) = false) : Part n (F ++ [k]) := by
  have nc : ∀ m ∈ F, ¬ Cross k m := fun m hm g => by
    have : F.any (fun m => cross k m) = true := List.any_eq_true.mpr ⟨m, hm, (cross_iff hk.nodup (h.lot m hm).nodup).mpr g⟩
    rw [c] at this
    cases this
  have nk : ¬ Cross k k := fun g => by
    obtain ⟨_, ⟨x, h1, h2⟩, _⟩ := g
    exact h2 h1
  refine ⟨fun l hl => ?_, fun l hl m hm => ?_, ?_⟩
  · rcases List.mem_append.mp hl with hl | hl
    · exact h.lot l hl
    · have : l = k := by simpa using hl
      exact this ▸ hk
  · rcases List.mem_append.mp hl with hl | hl <;> rcases List.mem_append.mp hm with hm | hm
    · exact h.no l hl m hm
    · have e : m = k := by simpa using hm
      exact fun g => nc l hl (e ▸ g.symm)
    · have e : l = k := by simpa using hl
      exact e ▸ nc m hm
    · have e1 : m = k := by simpa using hm
      have e2 : l = k := by simpa using hl
      subst e1; subst e2
      exact nk
  · rw [List.nodup_append]
    exact ⟨h.nd, by simp, fun a ha b hb e => by
      have : b = k := by simpa using hb
      exact hn (this ▸ e ▸ ha)⟩
theorem grow_spec {n : Nat} : ∀ (ks F : List (List Int)), Part n F → (∀ k ∈ ks, Lot n k) → ks.Nodup → (∀ k ∈ ks, k ∉ F) →
    Part n (grow F ks) ∧ (∃ r, grow F ks = F ++ r) ∧ ∀ k ∈ ks, k ∉ grow F ks → ∃ m ∈ grow F ks, Cross k m
  | [], F, h, _, _, _ => ⟨h, ⟨[], by simp [grow]⟩, fun k hk => absurd hk (by simp)⟩
  | k :: ks, F, h, hl, hd, hn => by
    have hk := hl k List.mem_cons_self
    have hl' := fun x hx => hl x (List.mem_cons_of_mem k hx)
    have hd' := List.nodup_cons.mp hd
    have hn' := fun x hx => hn x (List.mem_cons_of_mem k hx)
    by_cases c : F.any (fun m => cross k m) = true
    · have e : grow F (k :: ks) = grow F ks := by simp only [grow, if_pos c]
      rw [e]
      obtain ⟨i1, ⟨r, i2⟩, i3⟩ := grow_spec ks F h hl' hd'.2 hn'
      refine ⟨i1, ⟨r, i2⟩, fun x hx hxn => ?_⟩
      rcases List.mem_cons.mp hx with rfl | hx
      · obtain ⟨m, hm, g⟩ := List.any_eq_true.mp c
        refine ⟨m, by rw [i2]; exact List.mem_append_left _ hm, (cross_iff hk.nodup (h.lot m hm).nodup).mp g⟩
      · exact i3 x hx hxn
    · have c' : F.any (fun m => cross k m) = false := by simpa using c
      have e : grow F (k :: ks) = grow (F ++ [k]) ks := by simp only [grow, if_neg c]
      rw [e]
      obtain ⟨i1, ⟨r, i2⟩, i3⟩ := grow_spec ks (F ++ [k]) (h.put hk (hn k List.mem_cons_self) c') hl' hd'.2 fun x hx g => by
        rcases List.mem_append.mp g with g | g
        · exact hn' x hx g
        · have : x = k := by simpa using g
          exact hd'.1 (this ▸ hx)
      refine ⟨i1, ⟨k :: r, by rw [i2]; simp⟩, fun x hx hxn => ?_⟩
      rcases List.mem_cons.mp hx with rfl | hx
      · exact absurd (by rw [i2]; simp) hxn
      · exact i3 x hx hxn
theorem Part.nil (n : Nat) : Part n [] := ⟨fun _ h => absurd h (by simp), fun _ h => absurd h (by simp), List.nodup_nil⟩
theorem grow_full {n : Nat} {ks : List (List Int)} (hl : ∀ l, l ∈ ks ↔ Lot n l) (hd : ks.Nodup) : Full n (grow [] ks) ∧ (grow [] ks).Nodup := by
  obtain ⟨h1, _, h3⟩ := grow_spec ks [] (Part.nil n) (fun k hk => (hl k).mp hk) hd (fun k _ h => by cases h)
  exact ⟨⟨h1.lot, h1.no, fun l Ll hn => h3 l ((hl l).mpr Ll) hn⟩, h1.nd⟩
end PL
set_option Elab.async false
set_option linter.all false
namespace PL
open List
/-- all rows of shires, the empty one first -/
def subs : Nat → List (List Int)
  | 0 => [[]]
  | n + 1 => subs n ++ (subs n).map (· ++ [(n : Int)])
theorem subs_len : ∀ n, (subs n).length = 2 ^ n
  | 0 => rfl
  | n + 1 => by rw [subs, List.length_append, List.length_map, subs_len n, Nat.pow_succ]; omega
theorem mem_subs : ∀ {n : Nat} {l : List Int}, l ∈ subs n ↔ l.Pairwise (· < ·) ∧ ∀ x ∈ l, 0 ≤ x ∧ x < n
  | 0, l => by
    constructor
    · intro h
      have : l = [] := by simpa [subs] using h
      subst this
      exact ⟨.nil, fun x hx => by cases hx⟩
    · rintro ⟨_, h⟩
      have : l = [] := by
        cases l with
        | nil => rfl
        | cons x r => have := h x List.mem_cons_self; omega
      subst this
      simp [subs]
  | n + 1, l => by
    rw [subs, List.mem_append, List.mem_map, mem_subs]
    constructor
    · rintro (⟨h1, h2⟩ | ⟨m, hm, rfl⟩)
      · exact ⟨h1, fun x hx => by have := h2 x hx; omega⟩
      · have hm := mem_subs.mp hm
        refine ⟨?_, fun x hx => ?_⟩
        · rw [List.pairwise_append]
          refine ⟨hm.1, by simp, fun a ha b hb => ?_⟩
          have hb : b = n := by simpa using hb
          have := hm.2 a ha
          omega
        · rcases List.mem_append.mp hx with hx | hx
          · have := hm.2 x hx; omega
          · have : x = n := by simpa using hx
            omega
    · rintro ⟨h1, h2⟩
      rcases List.eq_nil_or_concat l with rfl | ⟨m, x, rfl⟩
      · exact .inl ⟨.nil, fun x hx => by cases hx⟩
      · rw [List.concat_eq_append] at h1 h2 ⊢
        rw [List.pairwise_append] at h1
        have hx := h2 x (by simp)
        by_cases e : x = n
        · refine .inr ⟨m, mem_subs.mpr ⟨h1.1, fun y hy => ?_⟩, by rw [e]⟩
          have := h1.2.2 y hy x (by simp)
          have := h2 y (List.mem_append_left _ hy)
          omega
        · refine .inl ⟨?_, fun y hy => ?_⟩
          · rw [List.pairwise_append]; exact h1
          · have := h2 y hy
            rcases List.mem_append.mp hy with hy | hy
            · have := h1.2.2 y hy x (by simp); omega
            · have : y = x := by simpa using hy
              omega
theorem subs_nodup : ∀ n, (subs n).Nodup
  | 0 => by simp [subs]
  | n + 1 => by
    rw [subs, List.nodup_append]
    refine ⟨subs_nodup n, ?_, fun a ha b hb e => ?_⟩
    · rw [List.Nodup, List.pairwise_map]
      exact (subs_nodup n).imp fun h e => h (List.append_cancel_right e)
    · obtain ⟨m, _, rfl⟩ := List.mem_map.mp hb
      subst e
      have := (mem_subs.mp ha).2 n (by simp)
      omega
def allLots (n : Nat) : List (List Int) := (subs n).tail
theorem subs_cons : ∀ n, subs n = [] :: allLots n
  | 0 => rfl
  | n + 1 => by
    have := subs_cons n
    unfold allLots
    rw [subs, this]
    rfl
theorem mem_allLots {n : Nat} {l : List Int} : l ∈ allLots n ↔ Lot n l := by
  have hn := subs_nodup n
  rw [subs_cons n, List.nodup_cons] at hn
  have h := mem_subs (n := n) (l := l)
  rw [subs_cons n, List.mem_cons] at h
  constructor
  · intro k
    have := h.mp (.inr k)
    exact ⟨fun e => hn.1 (e ▸ k), this.1, this.2⟩
  · rintro ⟨h1, h2, h3⟩
    rcases h.mpr ⟨h2, h3⟩ with k | k
    · exact absurd k h1
    · exact k
theorem allLots_nodup (n : Nat) : (allLots n).Nodup := by
  have hn := subs_nodup n
  rw [subs_cons n, List.nodup_cons] at hn
  exact hn.2
theorem allLots_len (n : Nat) : (allLots n).length ≤ 2 ^ n := by
  have := subs_len n
  rw [subs_cons n, List.length_cons] at this
  omega
/-- grown from any order of all lots: the lots of one plan -/
theorem grown {n : Nat} (hn : 0 < n) {ks : List (List Int)} (hk : ks ~ allLots n) : ∃ t, leaves t ~ upto n ∧ grow [] ks ~ lots t ∧ (grow [] ks).length = 2 * n - 1 := by
  obtain ⟨h1, h2⟩ := grow_full (n := n) (ks := ks) (fun l => hk.mem_iff.trans mem_allLots) (hk.nodup_iff.mpr (allLots_nodup n))
  obtain ⟨t, t1, t2⟩ := h1.is hn h2
  refine ⟨t, t1, t2, ?_⟩
  have e1 := t2.length_eq
  have e2 : (lots t).length = sz t := by
    unfold lots
    rw [(srtL_perm _).length_eq, List.length_map, parts_len]
  have e3 := sz_lc t
  have e4 : lc t = n := by
    have := t1.length_eq
    unfold upto at this
    simpa using this
  omega
end PL
set_option Elab.async false
set_option linter.all false
set_option maxRecDepth 100000
set_option maxHeartbeats 4000000
/-! The plain law of k47: what is alike; keys. -/
namespace PL
open PySem VL G47 List
theorem eqvAll_iDs : ∀ a b : List Int, PyData.eqvAll (iDs a) (iDs b) = decide (a = b)
  | [], [] => by simp [iDs, PyData.eqvAll]
  | [], _ :: _ => by simp [iDs, PyData.eqvAll]
  | _ :: _, [] => by simp [iDs, PyData.eqvAll]
  | x :: a, y :: b => by
    have := eqvAll_iDs a b
    simp only [iDs, List.map_cons, PyData.eqvAll] at this ⊢
    rw [this]
    have e : PyData.eqv (.int x) (.int y) = decide (x = y) := eqv_int x y
    rw [e]
    by_cases h1 : x = y <;> by_cases h2 : a = b <;> simp [h1, h2]
theorem eqv_tup (a b : List Int) : PyData.eqv (tup a) (tup b) = decide (a = b) := by
  unfold tup
  rw [PyData.eqv]
  exact eqvAll_iDs a b
theorem eqvAll_tups : ∀ a b : List (List Int), PyData.eqvAll (tups a) (tups b) = decide (a = b)
  | [], [] => by simp [tups, PyData.eqvAll]
  | [], _ :: _ => by simp [tups, PyData.eqvAll]
  | _ :: _, [] => by simp [tups, PyData.eqvAll]
  | x :: a, y :: b => by
    have := eqvAll_tups a b
    simp only [tups, List.map_cons, PyData.eqvAll] at this ⊢
    rw [this, eqv_tup]
    by_cases h1 : x = y <;> by_cases h2 : a = b <;> simp [h1, h2]
theorem eqv_enc : ∀ s t : Tr, PyData.eqv (enc s) (enc t) = true ↔ s = t
  | .lf i, .lf j => by
    have e : PyData.eqv (enc (.lf i)) (enc (.lf j)) = decide (i = j) := eqv_int i j
    rw [e]
    simp
  | .lf i, .nd a b => by simp [enc, PyData.eqv]
  | .nd a b, .lf i => by simp [enc, PyData.eqv]
  | .nd a b, .nd c d => by
    simp only [enc, PyData.eqv, PyData.eqvAll, Bool.and_true, Bool.and_eq_true, eqv_enc a c, eqv_enc b d, Tr.nd.injEq]
theorem eqv_enc' (s t : Tr) [Decidable (s = t)] : PyData.eqv (enc s) (enc t) = decide (s = t) := by
  rw [Bool.eq_iff_iff, eqv_enc, decide_eq_true_eq]
/-- keys -/
def kt (l : List Int) : NestedKey := .tup (l.map .num)
theorem keysOf_iDs : ∀ l : List Int, keysOf (iDs l) = some (l.map .num)
  | [] => by simp [iDs, keysOf]
  | x :: l => by
    have := keysOf_iDs l
    simp only [iDs, List.map_cons] at this ⊢
    simp [keysOf, keyOf, this]
theorem keyOf_tup (l : List Int) : keyOf (tup l) = some (kt l) := by
  unfold tup kt
  rw [keyOf, keysOf_iDs]
  rfl
theorem kt_inj {l m : List Int} : kt l = kt m ↔ l = m := by
  unfold kt
  constructor
  · intro h
    injection h with h
    induction l generalizing m with
    | nil =>
      cases m with
      | nil => rfl
      | cons y m => cases h
    | cons x l ih =>
      cases m with
      | nil => cases h
      | cons y m =>
        simp only [List.map_cons, List.cons.injEq, NestedKey.num.injEq] at h
        rw [h.1, ih h.2]
  · intro h; rw [h]
theorem memD_iDs (l : List Int) (x : Int) : memD (iDs l) (.int x) = decide (x ∈ l) := by
  unfold memD
  induction l with
  | nil => simp [iDs]
  | cons y l ih =>
    simp only [iDs, List.map_cons, List.any_cons] at ih ⊢
    rw [ih]
    have e : PyData.eqv (.int y) (.int x) = decide (y = x) := eqv_int y x
    rw [e, show decide (y = x) = decide (x = y) from decide_eq_decide.mpr eq_comm]
    by_cases h1 : x = y <;> by_cases h2 : x ∈ l <;> simp [h1, h2]
theorem memD_tups (ls : List (List Int)) (l : List Int) : memD (tups ls) (tup l) = decide (l ∈ ls) := by
  unfold memD
  induction ls with
  | nil => simp [tups]
  | cons y ls ih =>
    simp only [tups, List.map_cons, List.any_cons] at ih ⊢
    rw [ih, eqv_tup, show decide (y = l) = decide (l = y) from decide_eq_decide.mpr eq_comm]
    by_cases h1 : l = y <;> by_cases h2 : l ∈ ls <;> simp [h1, h2]
theorem inA_tup (x : Int) (l : List Int) : inA (.int x) (tup l) = some (.bool (decide (x ∈ l))) := by
  show (if okD (.int x) && PyData.plainAll (iDs l) then some (PyData.bool (memD (iDs l) (.int x))) else none) = _
  rw [okD_int, plain_ints, memD_iDs]
  rfl
end PL
set_option Elab.async false
set_option linter.all false
set_option maxRecDepth 100000
set_option maxHeartbeats 4000000
/-! The plain law of k47: do_cross, is_lot of both hands. -/
namespace PL
open PySem VL G47 List
theorem ltD_int (a b : Int) : ltD (.int a) (.int b) = some (.bool (decide (a < b))) := by
  show (if true then some (PyData.bool (PySem.W.dataLt (.int a) (.int b))) else none) = _
  rw [if_pos rfl, PySem.W.dataLt_int]
theorem geD_int (a b : Int) : geD (.int a) (.int b) = some (.bool (decide (b ≤ a))) := by
  show (if true then some (PyData.bool (!PySem.W.dataLt (.int a) (.int b))) else none) = _
  rw [if_pos rfl, PySem.W.dataLt_int]
  by_cases h : a < b
  · have : ¬ b ≤ a := by omega
    simp [h, this]
  · have : b ≤ a := by omega
    simp [h, this]
theorem gtD_int (a b : Int) : gtD (.int a) (.int b) = some (.bool (decide (b < a))) := by
  show (if true then some (PyData.bool (PySem.W.dataLt (.int b) (.int a))) else none) = _
  rw [if_pos rfl, PySem.W.dataLt_int]
theorem eqD_int (a b : Int) : eqD (.int a) (.int b) = some (.bool (decide (a = b))) := by
  show (if true then some (PyData.bool (PyData.eqv (.int a) (.int b))) else none) = _
  rw [if_pos rfl, eqv_int]
theorem eqv_lst (a b : List D) : PyData.eqv (.list a) (.list b) = PyData.eqvAll a b := by rw [PyData.eqv]
theorem eqv_tpl (a b : List D) : PyData.eqv (.tuple a) (.tuple b) = PyData.eqvAll a b := by rw [PyData.eqv]
theorem okD_lst (l : List Int) : okD (.list (iDs l)) = true := by
  simp [okD, PyData.plain, plain_ints, PyData.depth, depth_ints]
theorem neD_lst (a b : List Int) : neD (.list (iDs a)) (.list (iDs b)) = some (.bool (decide (a ≠ b))) := by
  unfold neD
  rw [okD_lst, okD_lst, eqv_lst, eqvAll_iDs]
  simp
theorem lenD_iDs (l : List Int) : lenD [.list (iDs l)] = some (.int l.length) := by
  show some (PyData.int (iDs l).length) = _
  simp [iDs]
theorem lenD_tup (l : List Int) : lenD [tup l] = some (.int l.length) := by
  show some (PyData.int (iDs l).length) = _
  simp [iDs]
theorem shared_lc (a b : List Int) (rs : List (Option D)) (g2 : Option D) (z : Src) (h : a.length ≤ 1000) (i : Nat) (hi : i = 3) :
    eLc (iV (eVar 0)) (gV 3) (tB (VL.e2 inA (eVar 3) (eVar 1))) (eVar 3) [3] [some (tup a), some (tup b), none, none] z = some (.list (iDs (a.filter fun x => decide (x ∈ b))), z) := by
  have hl : (iDs a).length ≤ sizeLine := by have := line_big; simp [iDs]; omega
  refine eLc_run (ds := iDs a) (iV_run (var_run rfl) rfl) hl ?_
  have := lc_pure (en := PyData.int) (p := fun x => decide (x ∈ b)) (f := PyData.int) (g := gV 3) (t := tB (VL.e2 inA (eVar 3) (eVar 1))) (e := eVar 3) (ρ := [some (tup a), some (tup b), none, none]) (z := z) a fun x hx => by
    refine ⟨[some (tup a), some (tup b), none, some (.int x)], rfl, ?_, fun _ => rfl⟩
    exact tB_run (e2_run (var_run rfl) (var_run rfl) (inA_tup x b))
  exact this
theorem sh_pos (s : List Int) : decide (s ≠ []) = decide (0 < s.length) := by
  cases s <;> simp
theorem do_cross_run (a b : List Int) (z : Src) (h : a.length ≤ 1000) : d_do_cross [tup a, tup b] z = some (.bool (cross a b), z) := by
  have s1 := shared_lc a b [] none z h 3 rfl
  generalize hs : a.filter (fun x => decide (x ∈ b)) = s at s1
  have eb : b_do_cross [some (tup a), some (tup b), none, none] z = some (.rt (.bool (cross a b)), z) := by
    unfold b_do_cross
    rw [seq_nx (asg_run s1)]
    refine ret_run ?_
    unfold cross shared
    rw [hs]
    have e0 : VL.e2 neD (eVar 2) (eLst aNil) [some (tup a), some (tup b), some (.list (iDs s)), none] z = some (.bool (decide (0 < s.length)), z) := by
      refine e2_run (var_run rfl) (eLst_run nil_run) ?_
      rw [← sh_pos]
      exact neD_lst s []
    have e1 : VL.e2 ltD (eC1 lenD (aCons (eVar 2) aNil)) (eC1 lenD (aCons (eVar 0) aNil)) [some (tup a), some (tup b), some (.list (iDs s)), none] z = some (.bool (decide (s.length < a.length)), z) := by
      refine e2_run (eC1_run (cons_run (var_run rfl) nil_run) (lenD_iDs s)) (eC1_run (cons_run (var_run rfl) nil_run) (lenD_tup a)) ?_
      rw [ltD_int]; simp
    have e2' : VL.e2 ltD (eC1 lenD (aCons (eVar 2) aNil)) (eC1 lenD (aCons (eVar 1) aNil)) [some (tup a), some (tup b), some (.list (iDs s)), none] z = some (.bool (decide (s.length < b.length)), z) := by
      refine e2_run (eC1_run (cons_run (var_run rfl) nil_run) (lenD_iDs s)) (eC1_run (cons_run (var_run rfl) nil_run) (lenD_tup b)) ?_
      rw [ltD_int]; simp
    show eAnd _ _ [some (tup a), some (tup b), some (.list (iDs s)), none] z = _
    cases c0 : decide (0 < s.length) with
    | false => rw [c0] at e0; rw [eAnd_f e0]; rfl
    | true =>
      rw [c0] at e0
      rw [eAnd_t e0]
      cases c1 : decide (s.length < a.length) with
      | false => rw [c1] at e1; rw [eAnd_f e1]; rfl
      | true => rw [c1] at e1; rw [eAnd_t e1]; exact e2'
  show runF 4 2 b_do_cross [tup a, tup b] z = endF (.rt (.bool (cross a b)), z)
  exact runF_run rfl (by rfl) eb
theorem law_cross_run (a b : List Int) (z : Src) (h : a.length ≤ 1000) : d__law_cross [tup a, tup b] z = some (.bool (cross a b), z) := by
  have s1 := shared_lc a b [] none z h 3 rfl
  generalize hs : a.filter (fun x => decide (x ∈ b)) = s at s1
  have eb : b__law_cross [some (tup a), some (tup b), none, none] z = some (.rt (.bool (cross a b)), z) := by
    unfold b__law_cross
    rw [seq_nx (asg_run (eC1_run (cons_run s1 nil_run) (lenD_iDs s)))]
    refine ret_run ?_
    unfold cross shared
    rw [hs]
    have e0 : ltD (.int 0) (.int s.length) = some (.bool (decide (0 < s.length))) := by rw [ltD_int]; simp
    have em : eC1 min2D (aCons (eC1 lenD (aCons (eVar 0) aNil)) (aCons (eC1 lenD (aCons (eVar 1) aNil)) aNil)) [some (tup a), some (tup b), some (.int s.length), none] z = some (.int (if (b.length : Int) < a.length then b.length else a.length), z) := by
      refine eC1_run (cons_run (eC1_run (cons_run (var_run rfl) nil_run) (lenD_tup a)) (cons_run (eC1_run (cons_run (var_run rfl) nil_run) (lenD_tup b)) nil_run)) rfl
    show eChain _ _ _ _ _ [some (tup a), some (tup b), some (.int s.length), none] z = _
    cases c0 : decide (0 < s.length) with
    | false => rw [c0] at e0; rw [chain_f (d1 := .int 0) rfl (var_run rfl) e0]; rfl
    | true =>
      rw [c0] at e0
      refine chain_t (d1 := .int 0) rfl (var_run rfl) e0 em ?_
      rw [ltD_int]
      congr 2
      by_cases c : b.length < a.length
      · have c' : (b.length : Int) < a.length := by omega
        rw [if_pos c']
        by_cases d1 : s.length < b.length
        · have d2 : s.length < a.length := by omega
          simp [d1, d2]
        · simp [d1]
      · have c' : ¬ (b.length : Int) < a.length := by omega
        rw [if_neg c']
        by_cases d1 : s.length < a.length
        · have d2 : s.length < b.length := by omega
          simp [d1, d2]
        · simp [d1]
  show runF 4 2 b__law_cross [tup a, tup b] z = endF (.rt (.bool (cross a b)), z)
  exact runF_run rfl (by rfl) eb
end PL
set_option Elab.async false
set_option linter.all false
set_option maxRecDepth 100000
set_option maxHeartbeats 4000000
/-! The plain law of k47: is_lot of both hands; slices, zips, alls. -/
namespace PL
open PySem VL G47 List
theorem cut_tail (xs : List D) : cutD xs (some 1) none = xs.tail := by
  unfold cutD HT.sIx
  cases xs with
  | nil => simp
  | cons x r =>
    have e : (min (1 : Int).toNat (x :: r).length) = 1 := by simp
    simp
theorem cut_head (xs : List D) : cutD xs none (some 1) = xs.take 1 := by
  unfold cutD HT.sIx
  cases xs with
  | nil => simp
  | cons x r => simp
theorem zip_map {α β : Type} (f : α → D) (g : β → D) : ∀ (a : List α) (b : List β), zipD (a.map f) (b.map g) = (a.zip b).map fun p => PyData.tuple [f p.1, g p.2]
  | [], _ => by simp [zipD]
  | _ :: _, [] => by simp [zipD]
  | x :: a, y :: b => by simp only [List.map_cons, zipD, List.zip_cons_cons, zip_map f g a b]
theorem bools_map {α : Type} (p : α → Bool) : ∀ xs : List α, boolsD (xs.map fun x => PyData.bool (p x)) = some (xs.map p)
  | [] => rfl
  | x :: xs => by simp only [List.map_cons, boolsD, bools_map p xs, Option.map_some]
theorem all_run {α : Type} {f : DE} {ρ : VL.Env} {z z' : Src} (p : α → Bool) (xs : List α) (h : f ρ z = some (.list (xs.map fun x => PyData.bool (p x)), z')) : eC1 allD (aCons f aNil) ρ z = some (.bool (xs.all p), z') := by
  refine eC1_run (cons_run h nil_run) ?_
  show (boolsD (xs.map fun x => PyData.bool (p x))).map _ = _
  rw [bools_map]
  simp
theorem any_run {α : Type} {f : DE} {ρ : VL.Env} {z z' : Src} (p : α → Bool) (xs : List α) (h : f ρ z = some (.list (xs.map fun x => PyData.bool (p x)), z')) : eC1 anyD (aCons f aNil) ρ z = some (.bool (xs.any p), z') := by
  refine eC1_run (cons_run h nil_run) ?_
  show (boolsD (xs.map fun x => PyData.bool (p x))).map _ = _
  rw [bools_map]
  simp
/-- a comprehension without a test, over data told by en -/
theorem lc_all {α : Type} {en : α → D} {f : α → D} {fi : DI} {g : DG} {e : DE} {ρ : VL.Env} {z : Src} {vs : List Nat} (xs : List α) (h1 : fi ρ z = some (xs.map en, z)) (hl : xs.length ≤ 1000) (h : ∀ x ∈ xs, ∃ ρ1, g (en x) (wipeE ρ vs) = some ρ1 ∧ e ρ1 z = some (f x, z)) : eLc fi g tTrue e vs ρ z = some (.list (xs.map f), z) := by
  have lb := line_big
  refine eLc_run h1 (by rw [List.length_map]; omega) ?_
  have := lc_pure (en := en) (p := fun _ => true) (f := f) (g := g) (t := tTrue) (e := e) (ρ := wipeE ρ vs) (z := z) xs fun x hx => by
    obtain ⟨ρ1, a, b⟩ := h x hx
    exact ⟨ρ1, a, rfl, fun _ => b⟩
  rw [this, List.filter_eq_self.mpr (fun _ _ => rfl)]
theorem lc_if {α : Type} {en : α → D} {p : α → Bool} {f : α → D} {fi : DI} {g : DG} {t : DT} {e : DE} {ρ : VL.Env} {z : Src} {vs : List Nat} (xs : List α) (h1 : fi ρ z = some (xs.map en, z)) (hl : xs.length ≤ 1000) (h : ∀ x ∈ xs, ∃ ρ1, g (en x) (wipeE ρ vs) = some ρ1 ∧ t ρ1 z = some (p x, z) ∧ (p x = true → e ρ1 z = some (f x, z))) : eLc fi g t e vs ρ z = some (.list ((xs.filter p).map f), z) := by
  have lb := line_big
  exact eLc_run h1 (by rw [List.length_map]; omega) (lc_pure xs h)
def incr (l : List Int) : Bool := (l.zip l.tail).all fun p => decide (p.1 < p.2)
def isLotB (n : Int) (l : List Int) : Bool := decide (l ≠ []) && (decide (0 ≤ l.headD 0) && (decide (l.getLastD 0 < n) && incr l))
theorem isa_tup (l : List Int) : isaD "tuple" (tup l) = some (.bool true) := by
  unfold isaD
  rw [if_pos (plain_tup l)]
  rfl
theorem isa_tpl (ls : List (List Int)) : isaD "tuple" (.tuple (tups ls)) = some (.bool true) := by
  unfold isaD
  have : (PyData.tuple (tups ls)).plain = true := plain_tups ls
  rw [if_pos this]
  rfl
theorem eqD_tup (a b : List Int) : eqD (tup a) (tup b) = some (.bool (decide (a = b))) := by
  unfold eqD
  rw [okD_tup, okD_tup, eqv_tup]
  rfl
theorem tup_nil : tup [] = .tuple [] := rfl
theorem zip_iDs (l : List Int) : zipD (iDs l) (cutD (iDs l) (some 1) none) = (l.zip l.tail).map fun p => PyData.tuple [.int p.1, .int p.2] := by
  rw [cut_tail]
  have : (iDs l).tail = l.tail.map PyData.int := by unfold iDs; rw [List.map_tail]
  rw [this]
  exact zip_map _ _ _ _
theorem zip_tups (ls : List (List Int)) : zipD (tups ls) (cutD (tups ls) (some 1) none) = (ls.zip ls.tail).map fun p => PyData.tuple [tup p.1, tup p.2] := by
  rw [cut_tail]
  have : (tups ls).tail = ls.tail.map tup := by unfold tups; rw [List.map_tail]
  rw [this]
  exact zip_map _ _ _ _
theorem zip_len {α : Type} (l : List α) (h : l.length ≤ 1000) : (l.zip l.tail).length ≤ 1000 := by
  rw [List.length_zip]; omega
theorem ix_last (l : List Int) (x : Int) (h : l.length ≤ 1000) : ixA (tup (l ++ [x])) (.int (-1)) = some (.int x) := by
  show atD (iDs (l ++ [x])) (-1) = some (.int x)
  have : iDs (l ++ [x]) = iDs l ++ [.int x] := by simp [iDs]
  rw [this]
  have := ixA_last (iDs l) (.int x) (by simp [iDs]; exact h)
  exact this
/-- the last part of both hands -/
theorem lot_tail (ρ : VL.Env) (z : Src) (n : Int) (l : List Int) (hl : l ≠ []) (h : l.length ≤ 1000) (h0 : ρ[0]? = some (some (.int n))) (h1 : ρ[1]? = some (some (tup l))) (f : DE) (hf : f ρ z = some (.bool (incr l), z)) :
    eAnd (VL.e2 geD (VL.e2 ixA (eVar 1) (eC (.int 0))) (eC (.int 0))) (eAnd (VL.e2 ltD (VL.e2 ixA (eVar 1) (VL.e1 negD (eC (.int 1)))) (eVar 0)) f) ρ z = some (.bool (isLotB n l), z) := by
  unfold isLotB
  rw [decide_eq_true hl, Bool.true_and]
  have e0 : VL.e2 geD (VL.e2 ixA (eVar 1) (eC (.int 0))) (eC (.int 0)) ρ z = some (.bool (decide (0 ≤ l.headD 0)), z) := by
    refine e2_run (e2_run (var_run h1) rfl (d := .int (l.headD 0)) ?_) rfl (geD_int _ _)
    cases l with
    | nil => exact absurd rfl hl
    | cons x r => rfl
  have e1 : VL.e2 ltD (VL.e2 ixA (eVar 1) (VL.e1 negD (eC (.int 1)))) (eVar 0) ρ z = some (.bool (decide (l.getLastD 0 < n)), z) := by
    refine e2_run (e2_run (var_run h1) (e1_run rfl rfl) (d := .int (l.getLastD 0)) ?_) (var_run h0) (ltD_int _ _)
    rcases List.eq_nil_or_concat l with e | ⟨m, x, e⟩
    · exact absurd e hl
    · rw [List.concat_eq_append] at e
      subst e
      have : (m ++ [x]).getLastD 0 = x := by simp
      rw [this]
      refine ix_last m x ?_
      rw [List.length_append] at h
      omega
  cases c0 : decide (0 ≤ l.headD 0) with
  | false => rw [c0] at e0; rw [eAnd_f e0]; rfl
  | true =>
    rw [c0] at e0
    rw [eAnd_t e0]
    cases c1 : decide (l.getLastD 0 < n) with
    | false => rw [c1] at e1; rw [eAnd_f e1]; rfl
    | true => rw [c1] at e1; rw [eAnd_t e1]; exact hf
theorem is_lot_run (n : Int) (l : List Int) (z : Src) (h : l.length ≤ 1000) : d_is_lot [.int n, tup l] z = some (.bool (isLotB n l), z) := by
  have hz := zip_len l h
  have e1 : VL.e2 eqD (eVar 1) (eTup aNil) [some (.int n), some (tup l), none, none, none] z = some (.bool (decide (l = [])), z) :=
    e2_run (var_run rfl) (eTup_run nil_run) (eqD_tup l [])
  have e2 : eC1 allD (aCons (eLc (iV (eVar 1)) (gV 2) tTrue (eCall d_is_integer (aCons (eVar 2) aNil)) [2]) aNil) [some (.int n), some (tup l), none, none, none] z = some (.bool true, z) := by
    rw [all_run (fun _ : Int => true) l (lc_all l (iV_run (var_run rfl) rfl) h fun x hx => ⟨[some (.int n), some (tup l), some (.int x), none, none], rfl, call_run (cons_run (var_run rfl) nil_run) (is_integer_int x z)⟩)]
    simp
  have e3 : eC1 allD (aCons (eLc (iRange iZ (aCons (eVar 1) (aCons (eSl (eVar 1) (pSome (eC (.int 1))) pNone) aNil))) (gT (gsCons (gV 3) (gsCons (gV 4) gsNil))) tTrue (VL.e2 ltD (eVar 3) (eVar 4)) [3, 4]) aNil) [some (.int n), some (tup l), none, none, none] z = some (.bool (incr l), z) := by
    refine all_run (fun p : Int × Int => decide (p.1 < p.2)) (l.zip l.tail) (lc_all (en := fun p => PyData.tuple [.int p.1, .int p.2]) (l.zip l.tail) ?_ hz fun p hp => ⟨[some (.int n), some (tup l), none, some (.int p.1), some (.int p.2)], rfl, e2_run (var_run rfl) (var_run rfl) (ltD_int _ _)⟩)
    rw [← zip_iDs]
    rfl
  have eb : b_is_lot [some (.int n), some (tup l), none, none, none] z = some (.rt (.bool (isLotB n l)), z) := by
    unfold b_is_lot
    have t0 := tNot_run (tB_run (e1_run (fa := eVar 1) (ρ := [some (.int n), some (tup l), none, none, none]) (z := z) (var_run rfl) (isa_tup l)))
    by_cases c : l = []
    · have e1 := tB_run e1
      rw [decide_eq_true c] at e1
      have en : isLotB n l = false := by rw [c]; rfl
      rw [en]
      exact seq_rt ((if_t ((tOr_f t0).trans (tOr_t e1))).trans rfl)
    · have e1 := tB_run e1
      rw [decide_eq_false c] at e1
      rw [seq_nx ((if_f ((tOr_f t0).trans ((tOr_f e1).trans (tNot_run (tB_run e2))))).trans rfl)]
      exact ret_run (lot_tail _ z n l c h rfl rfl _ e3)
  show runF 5 2 b_is_lot [.int n, tup l] z = endF (.rt (.bool (isLotB n l)), z)
  exact runF_run rfl (by rfl) eb
theorem law_is_lot_run (n : Int) (l : List Int) (z : Src) (h : l.length ≤ 1000) : d__law_is_lot [.int n, tup l] z = some (.bool (isLotB n l), z) := by
  have hz := zip_len l h
  have e1 : VL.e2 eqD (eVar 1) (eTup aNil) [some (.int n), some (tup l), none, none] z = some (.bool (decide (l = [])), z) :=
    e2_run (var_run rfl) (eTup_run nil_run) (eqD_tup l [])
  have e2 : eC1 anyD (aCons (eLc (iV (eVar 1)) (gV 2) tTrue (eOr (VL.e1 (isaD "bool") (eVar 2)) (VL.e1 notD (VL.e1 (isaD "int") (eVar 2)))) [2]) aNil) [some (.int n), some (tup l), none, none] z = some (.bool false, z) := by
    rw [any_run (fun _ : Int => false) l (lc_all l (iV_run (var_run rfl) rfl) h fun x hx => ⟨[some (.int n), some (tup l), some (.int x), none], rfl, rfl⟩)]
    simp
  have e3 : eC1 allD (aCons (eLc (iRange iZ (aCons (eVar 1) (aCons (eSl (eVar 1) (pSome (eC (.int 1))) pNone) aNil))) (gT (gsCons (gV 2) (gsCons (gV 3) gsNil))) tTrue (VL.e2 ltD (eVar 2) (eVar 3)) [2, 3]) aNil) [some (.int n), some (tup l), none, none] z = some (.bool (incr l), z) := by
    refine all_run (fun p : Int × Int => decide (p.1 < p.2)) (l.zip l.tail) (lc_all (en := fun p => PyData.tuple [.int p.1, .int p.2]) (l.zip l.tail) ?_ hz fun p hp => ⟨[some (.int n), some (tup l), some (.int p.1), some (.int p.2)], rfl, e2_run (var_run rfl) (var_run rfl) (ltD_int _ _)⟩)
    rw [← zip_iDs]
    rfl
  have eb : b__law_is_lot [some (.int n), some (tup l), none, none] z = some (.rt (.bool (isLotB n l)), z) := by
    unfold b__law_is_lot
    have t0 := tNot_run (tB_run (e1_run (fa := eVar 1) (ρ := [some (.int n), some (tup l), none, none]) (z := z) (var_run rfl) (isa_tup l)))
    by_cases c : l = []
    · have e1 := tB_run e1
      rw [decide_eq_true c] at e1
      have en : isLotB n l = false := by rw [c]; rfl
      rw [en]
      exact seq_rt ((if_t ((tOr_f t0).trans e1)).trans rfl)
    · have e1 := tB_run e1
      rw [decide_eq_false c] at e1
      rw [seq_nx ((if_f ((tOr_f t0).trans e1)).trans rfl), seq_nx ((if_f (tB_run e2)).trans rfl)]
      exact ret_run (lot_tail _ z n l c h rfl rfl _ e3)
  show runF 4 2 b__law_is_lot [.int n, tup l] z = endF (.rt (.bool (isLotB n l)), z)
  exact runF_run rfl (by rfl) eb
end PL
set_option Elab.async false
set_option linter.all false
set_option maxRecDepth 100000
set_option maxHeartbeats 4000000
/-! The plain law of k47: judge_lots of both hands. -/
namespace PL
open PySem VL G47 List
def incrL (ls : List (List Int)) : Bool := (ls.zip ls.tail).all fun p => decide (p.1 < p.2)
def innerP (ls : List (List Int)) (one : List Int) (i : Nat) : Option Nat := (List.range' (i + 1) (ls.length - (i + 1))).find? fun j => cross one (ls.getD j [])
def outerP (ls : List (List Int)) : Nat → List (List Int) → Option (Nat × Nat)
  | _, [] => none
  | i, one :: rest => match innerP ls one i with
    | some j => some (i, j)
    | none => outerP ls (i + 1) rest
def formD : D := .tuple [.str "form"]
def crossD (i j : Nat) : D := .tuple [.str "cross", .int i, .int j]
def manyD (k : Nat) : D := .tuple [.str "many", .int k]
def faultP (n : Int) (ls : List (List Int)) : D :=
  if ls.all (isLotB n) = true then
    if incrL ls = true then
      match outerP ls 0 ls with
      | some p => crossD p.1 p.2
      | none => if (ls.length : Int) = 2 * n - 1 then .none else manyD ls.length
    else formD
  else formD
theorem rangeD_nat (a c : Nat) : rangeD (a : Int) 1 c = (List.range' a c).map fun (j : Nat) => PyData.int j := by
  unfold rangeD
  rw [List.range'_eq_map_range, List.map_map]
  refine List.map_congr_left fun i _ => ?_
  simp only [Function.comp]
  congr 1
  push_cast
  omega
theorem ix_tups (ls : List (List Int)) (j : Nat) (h : j < ls.length) : ixA (.tuple (tups ls)) (.int j) = some (tup (ls.getD j [])) := by
  show atD (tups ls) (j : Int) = _
  unfold atD
  rw [if_pos (by omega), Int.toNat_natCast]
  unfold tups
  rw [List.getElem?_map, List.getElem?_eq_getElem h, List.getD_eq_getElem?_getD, List.getElem?_eq_getElem h]
  rfl
theorem enum_cons (k : Int) (d : D) (ds : List D) : enumD k (d :: ds) = .tuple [.int k, d] :: enumD (k + 1) ds := rfl
theorem rg2_run (i : Nat) (ls : List (List Int)) (hi : i < ls.length) (hl : ls.length ≤ 1000) : iRg2 [.int (i + 1 : Int), .int ls.length] = some ((List.range' (i + 1) (ls.length - (i + 1))).map fun (j : Nat) => PyData.int j) := by
  have h1 : big62 ((i : Int) + 1) = true := by
    have := big62_small (n := i + 1) (by omega)
    push_cast at this
    exact this
  have h2 := big62_small (n := ls.length) (by omega)
  unfold iRg2
  simp only [h1, h2, Bool.and_self, if_true]
  have e : ((ls.length : Int) - ((i : Int) + 1)).toNat = ls.length - (i + 1) := by omega
  rw [e]
  have := rangeD_nat (i + 1) (ls.length - (i + 1))
  push_cast at this
  rw [this]
section
variable (n : Int) (ls : List (List Int)) (z : Src)
def jE (i : Nat) (one : List Int) (x4 : Option D) : VL.Env := [some (.int n), some (.tuple (tups ls)), some (.int i), some (tup one), x4, none, none]
noncomputable def jIn : DS := sIf (tB (eCall d_do_cross (aCons (eVar 3) (aCons (VL.e2 ixA (eVar 1) (eVar 4)) aNil)))) (sRet (eTup (aCons (eC (.str "cross")) (aCons (eVar 2) (aCons (eVar 4) aNil))))) sNext
theorem j_in (i : Nat) (one : List Int) (ho : one.length ≤ 1000) : ∀ (js : List Nat) (x4 : Option D), (∀ j ∈ js, j < ls.length) →
    (∃ j, js.find? (fun j => cross one (ls.getD j [])) = some j ∧ loopF (gV 4) jIn (js.map fun (j : Nat) => PyData.int j) (jE n ls i one x4) z = some (.rt (crossD i j), z)) ∨
    (js.find? (fun j => cross one (ls.getD j [])) = none ∧ ∃ x4', loopF (gV 4) jIn (js.map fun (j : Nat) => PyData.int j) (jE n ls i one x4) z = some (.nx (jE n ls i one x4'), z))
  | [], x4, _ => .inr ⟨rfl, x4, rfl⟩
  | j :: js, x4, h => by
    have hj := h j List.mem_cons_self
    have e0 : tB (eCall d_do_cross (aCons (eVar 3) (aCons (VL.e2 ixA (eVar 1) (eVar 4)) aNil))) (jE n ls i one (some (.int j))) z = some (cross one (ls.getD j []), z) :=
      tB_run (call_run (cons_run (var_run rfl) (cons_run (e2_run (var_run rfl) (var_run rfl) (ix_tups ls j hj)) nil_run)) (do_cross_run one _ z ho))
    cases c : cross one (ls.getD j []) with
    | true =>
      left
      refine ⟨j, by rw [List.find?_cons, c], ?_⟩
      rw [c] at e0
      rw [List.map_cons]
      exact loop_rt (ρ1 := jE n ls i one (some (.int j))) rfl ((if_t e0).trans (ret_run (eTup_run (cons_run rfl (cons_run (var_run rfl) (cons_run (var_run rfl) nil_run))))))
    | false =>
      rw [c] at e0
      rw [List.map_cons, List.find?_cons, c]
      have e1 := loop_nx (g := gV 4) (s := jIn) (ds := js.map fun (j : Nat) => PyData.int j) (ρ := jE n ls i one x4) (d := .int j) (ρ1 := jE n ls i one (some (.int j))) rfl ((if_f (s1 := sRet (eTup (aCons (eC (.str "cross")) (aCons (eVar 2) (aCons (eVar 4) aNil))))) (s2 := sNext) e0).trans rfl)
      rw [e1]
      exact j_in i one ho js (some (.int j)) fun k hk => h k (List.mem_cons_of_mem _ hk)
theorem range_lt {i k : Nat} (h : i < k) : ∀ j ∈ List.range' (i + 1) (k - (i + 1)), j < k := fun j hj => by
  have := List.mem_range'.mp hj
  omega
def jO (x2 x3 x4 : Option D) : VL.Env := [some (.int n), some (.tuple (tups ls)), x2, x3, x4, none, none]
noncomputable def jOut : DS := sFor (iRange iRg2 (aCons (VL.e2 addD (eVar 2) (eC (.int 1))) (aCons (eC1 lenD (aCons (eVar 1) aNil)) aNil))) (gV 4) jIn
theorem j_out (hl : ls.length ≤ 1000) (hs : ∀ l ∈ ls, l.length ≤ 1000) : ∀ (rest : List (List Int)) (i : Nat) (x2 x3 x4 : Option D), i + rest.length = ls.length → (∀ l ∈ rest, l ∈ ls) →
    (∃ p, outerP ls i rest = some p ∧ loopF (gT (gsCons (gV 2) (gsCons (gV 3) gsNil))) jOut (enumD i (tups rest)) (jO n ls x2 x3 x4) z = some (.rt (crossD p.1 p.2), z)) ∨
    (outerP ls i rest = none ∧ ∃ y2 y3 y4, loopF (gT (gsCons (gV 2) (gsCons (gV 3) gsNil))) jOut (enumD i (tups rest)) (jO n ls x2 x3 x4) z = some (.nx (jO n ls y2 y3 y4), z))
  | [], i, x2, x3, x4, _, _ => .inr ⟨rfl, x2, x3, x4, rfl⟩
  | one :: rest, i, x2, x3, x4, h, hm => by
    have hi : i < ls.length := by rw [List.length_cons] at h; omega
    have ho := hs one (hm one List.mem_cons_self)
    have en : enumD (i : Int) (tups (one :: rest)) = .tuple [.int i, tup one] :: enumD ((i : Int) + 1) (tups rest) := rfl
    have ef : jOut (jE n ls i one x4) z = loopF (gV 4) jIn ((List.range' (i + 1) (ls.length - (i + 1))).map fun (j : Nat) => PyData.int j) (jE n ls i one x4) z := by
      unfold jOut
      refine for_run (iRange_run (cons_run (e2_run (var_run rfl) rfl rfl) (cons_run (eC1_run (cons_run (var_run rfl) nil_run) (d := .int ls.length) ?_) nil_run)) (rg2_run i ls hi hl))
      show some (PyData.int (tups ls).length) = _
      simp [tups]
    have ec : (((i + 1 : Nat)) : Int) = (i : Int) + 1 := by push_cast; rfl
    unfold outerP
    rcases j_in n ls z i one ho _ x4 (range_lt hi) with ⟨j, f1, f2⟩ | ⟨f1, y4, f2⟩
    · left
      have f1' : innerP ls one i = some j := f1
      rw [f1']
      refine ⟨(i, j), rfl, ?_⟩
      rw [en]
      exact loop_rt (ρ1 := jE n ls i one x4) rfl (ef.trans f2)
    · have f1' : innerP ls one i = none := f1
      rw [f1', en]
      have e1 := loop_nx (g := gT (gsCons (gV 2) (gsCons (gV 3) gsNil))) (s := jOut) (ds := enumD ((i : Int) + 1) (tups rest)) (ρ := jO n ls x2 x3 x4) (d := .tuple [.int i, tup one]) (ρ1 := jE n ls i one x4) rfl (ef.trans f2)
      rw [e1, ← ec]
      exact j_out hl hs rest (i + 1) _ _ y4 (by rw [List.length_cons] at h; omega) fun l hl => hm l (List.mem_cons_of_mem _ hl)
theorem last_run (ρ : VL.Env) (h0 : ρ[0]? = some (some (.int n))) (h1 : ρ[1]? = some (some (.tuple (tups ls)))) :
    sRet (eIf (tB (VL.e2 eqD (eC1 lenD (aCons (eVar 1) aNil)) (VL.e2 subD (VL.e2 mulD (eC (.int 2)) (eVar 0)) (eC (.int 1))))) (eC .none) (eTup (aCons (eC (.str "many")) (aCons (eC1 lenD (aCons (eVar 1) aNil)) aNil)))) ρ z = some (.rt (if (ls.length : Int) = 2 * n - 1 then .none else manyD ls.length), z) := by
  have el : eC1 lenD (aCons (eVar 1) aNil) ρ z = some (.int ls.length, z) := by
    refine eC1_run (cons_run (var_run h1) nil_run) ?_
    show some (PyData.int (tups ls).length) = _
    simp [tups]
  have et : tB (VL.e2 eqD (eC1 lenD (aCons (eVar 1) aNil)) (VL.e2 subD (VL.e2 mulD (eC (.int 2)) (eVar 0)) (eC (.int 1)))) ρ z = some (decide ((ls.length : Int) = 2 * n - 1), z) :=
    tB_run (e2_run el (e2_run (e2_run rfl (var_run h0) rfl) rfl rfl) (eqD_int _ _))
  refine ret_run ?_
  by_cases c : (ls.length : Int) = 2 * n - 1
  · rw [decide_eq_true c] at et
    rw [if_pos c]
    exact (eIf_t et).trans rfl
  · rw [decide_eq_false c] at et
    rw [if_neg c]
    exact (eIf_f et).trans (eTup_run (cons_run rfl (cons_run el nil_run)))
theorem judge_run (hl : ls.length ≤ 1000) (hs : ∀ l ∈ ls, l.length ≤ 1000) : d_judge_lots [.int n, .tuple (tups ls)] z = some (faultP n ls, z) := by
  have eb : b_judge_lots (jO n ls none none none) z = some (.rt (faultP n ls), z) := by
    have t0 : tNot (tB (e1 (isaD "tuple") (eVar 1))) (jO n ls none none none) z = some (false, z) := tNot_run (b := true) (tB_run (e1_run (var_run rfl) (isa_tpl ls)))
    have t1 : tNot (tB (eC1 allD (aCons (eLc (iV (eVar 1)) (gV 5) tTrue (eCall d_is_lot (aCons (eVar 0) (aCons (eVar 5) aNil))) [5]) aNil))) (jO n ls none none none) z = some (!(ls.all (isLotB n)), z) := by
      refine tNot_run (tB_run (all_run (isLotB n) ls (lc_all (en := tup) ls (iV_run (var_run rfl) rfl) hl fun l hm => ⟨[some (.int n), some (.tuple (tups ls)), none, none, none, some (tup l), none], rfl, ?_⟩)))
      exact call_run (cons_run (var_run rfl) (cons_run (var_run rfl) nil_run)) (is_lot_run n l z (hs l hm))
    have t2 : tNot (tB (eC1 allD (aCons (eLc (iRange iZ (aCons (eVar 1) (aCons (eSl (eVar 1) (pSome (eC (.int 1))) pNone) aNil))) (gT (gsCons (gV 3) (gsCons (gV 6) gsNil))) tTrue (VL.e2 ltD (eVar 3) (eVar 6)) [3, 6]) aNil))) (jO n ls none none none) z = some (!(incrL ls), z) := by
      refine tNot_run (tB_run (all_run (fun p : List Int × List Int => decide (p.1 < p.2)) (ls.zip ls.tail) (lc_all (en := fun p => PyData.tuple [tup p.1, tup p.2]) (ls.zip ls.tail) ?_ (zip_len ls hl) fun p hp => ⟨[some (.int n), some (.tuple (tups ls)), none, some (tup p.1), none, none, some (tup p.2)], rfl, e2_run (var_run rfl) (var_run rfl) (ltD_tup _ _)⟩)))
      rw [← zip_tups]
      rfl
    unfold b_judge_lots faultP
    cases c1 : ls.all (isLotB n) with
    | false =>
      rw [c1] at t1
      rw [if_neg Bool.false_ne_true]
      exact seq_rt ((if_t ((tOr_f t0).trans t1)).trans (ret_run (eTup_run (cons_run rfl nil_run))))
    | true =>
      rw [c1] at t1
      rw [if_pos rfl, seq_nx ((if_f ((tOr_f t0).trans t1)).trans rfl)]
      cases c2 : incrL ls with
      | false =>
        rw [c2] at t2
        rw [if_neg Bool.false_ne_true]
        exact seq_rt ((if_t t2).trans (ret_run (eTup_run (cons_run rfl nil_run))))
      | true =>
        rw [c2] at t2
        rw [if_pos rfl, seq_nx ((if_f t2).trans rfl)]
        have ef : sFor (iRange iE (aCons (eVar 1) aNil)) (gT (gsCons (gV 2) (gsCons (gV 3) gsNil))) jOut (jO n ls none none none) z = loopF (gT (gsCons (gV 2) (gsCons (gV 3) gsNil))) jOut (enumD ((0 : Nat) : Int) (tups ls)) (jO n ls none none none) z :=
          for_run (iRange_run (cons_run (var_run rfl) nil_run) rfl)
        rcases j_out n ls z hl hs ls 0 none none none (by omega) (fun l h => h) with ⟨p, f1, f2⟩ | ⟨f1, y2, y3, y4, f2⟩
        · rw [f1]
          exact seq_rt (ef.trans f2)
        · rw [f1]
          exact (seq_nx (ef.trans f2)).trans (last_run n ls z _ rfl rfl)
  show runF 7 2 b_judge_lots [.int n, .tuple (tups ls)] z = endF (.rt (faultP n ls), z)
  exact runF_run rfl (by rfl) eb
end
end PL
set_option Elab.async false
set_option linter.all false
set_option maxRecDepth 100000
set_option maxHeartbeats 4000000
/-! The plain law of k47: the law's own judge. -/
namespace PL
open PySem VL G47 List
section
variable (n : Int) (ls : List (List Int)) (z : Src)
def fE (x2 x3 x4 : Option D) (x7 : Option D) : VL.Env := [some (.int n), some (.tuple (tups ls)), x2, x3, x4, none, none, x7]
noncomputable def fIn : DS := sSeq (sAsg 4 (eLc (iRange iRg2 (aCons (VL.e2 addD (eVar 2) (eC (.int 1))) (aCons (eC1 lenD (aCons (eVar 1) aNil)) aNil))) (gV 7) (tB (eCall d__law_cross (aCons (eVar 3) (aCons (VL.e2 ixA (eVar 1) (eVar 7)) aNil)))) (eVar 7) [7])) (sIf (tB (VL.e2 neD (eVar 4) (eLst aNil))) (sRet (eTup (aCons (eC (.str "cross")) (aCons (eVar 2) (aCons (VL.e2 ixA (eVar 4) (eC (.int 0))) aNil))))) sNext)
theorem nats_ints (js : List Nat) : (js.map fun (j : Nat) => PyData.int j) = iDs (js.map fun (j : Nat) => (j : Int)) := by
  unfold iDs
  rw [List.map_map]
  rfl
theorem f_in (hl : ls.length ≤ 1000) (i : Nat) (hi : i < ls.length) (one : List Int) (ho : one.length ≤ 1000) (x4 : Option D) :
    (∃ j, innerP ls one i = some j ∧ fIn (fE n ls (some (.int i)) (some (tup one)) x4 none) z = some (.rt (crossD i j), z)) ∨
    (innerP ls one i = none ∧ ∃ x4', fIn (fE n ls (some (.int i)) (some (tup one)) x4 none) z = some (.nx (fE n ls (some (.int i)) (some (tup one)) x4' none), z)) := by
  have el : eLc (iRange iRg2 (aCons (VL.e2 addD (eVar 2) (eC (.int 1))) (aCons (eC1 lenD (aCons (eVar 1) aNil)) aNil))) (gV 7) (tB (eCall d__law_cross (aCons (eVar 3) (aCons (VL.e2 ixA (eVar 1) (eVar 7)) aNil)))) (eVar 7) [7] (fE n ls (some (.int i)) (some (tup one)) x4 none) z = some (.list (((List.range' (i + 1) (ls.length - (i + 1))).filter fun j => cross one (ls.getD j [])).map fun (j : Nat) => PyData.int j), z) := by
    refine lc_if (en := fun (j : Nat) => PyData.int j) (List.range' (i + 1) (ls.length - (i + 1))) ?_ (by rw [List.length_range']; omega) fun j hj => ⟨fE n ls (some (.int i)) (some (tup one)) x4 (some (.int j)), rfl, ?_, fun _ => var_run rfl⟩
    · refine iRange_run (cons_run (e2_run (var_run rfl) rfl rfl) (cons_run (eC1_run (cons_run (var_run rfl) nil_run) (d := .int ls.length) ?_) nil_run)) (rg2_run i ls hi hl)
      show some (PyData.int (tups ls).length) = _
      simp [tups]
    · exact tB_run (call_run (cons_run (var_run rfl) (cons_run (e2_run (var_run rfl) (var_run rfl) (ix_tups ls j (range_lt hi j hj))) nil_run)) (law_cross_run one _ z ho))
  have hf : innerP ls one i = ((List.range' (i + 1) (ls.length - (i + 1))).filter fun j => cross one (ls.getD j [])).head? := by
    unfold innerP
    rw [List.head?_filter]
  generalize (List.range' (i + 1) (ls.length - (i + 1))).filter (fun j => cross one (ls.getD j [])) = cs at el hf
  have et : tB (VL.e2 neD (eVar 4) (eLst aNil)) (fE n ls (some (.int i)) (some (tup one)) (some (.list (cs.map fun (j : Nat) => PyData.int j))) none) z = some (decide (cs ≠ []), z) := by
    refine tB_run (e2_run (var_run rfl) (eLst_run nil_run) ?_)
    rw [nats_ints]
    have e : neD (.list (iDs (cs.map fun (j : Nat) => (j : Int)))) (.list []) = some (.bool (decide (cs.map (fun (j : Nat) => (j : Int)) ≠ []))) := neD_lst _ []
    rw [e]
    simp
  cases cs with
  | nil =>
    right
    refine ⟨hf, some (.list []), ?_⟩
    unfold fIn
    rw [seq_nx (asg_run el)]
    exact (if_f et).trans rfl
  | cons c r =>
    left
    refine ⟨c, hf, ?_⟩
    unfold fIn
    rw [seq_nx (asg_run el)]
    exact (if_t et).trans (ret_run (eTup_run (cons_run rfl (cons_run (var_run rfl) (cons_run (e2_run (var_run rfl) rfl rfl) nil_run)))))
theorem f_out (hl : ls.length ≤ 1000) (hs : ∀ l ∈ ls, l.length ≤ 1000) : ∀ (rest : List (List Int)) (i : Nat) (x2 x3 x4 : Option D), i + rest.length = ls.length → (∀ l ∈ rest, l ∈ ls) →
    (∃ p, outerP ls i rest = some p ∧ loopF (gT (gsCons (gV 2) (gsCons (gV 3) gsNil))) fIn (enumD i (tups rest)) (fE n ls x2 x3 x4 none) z = some (.rt (crossD p.1 p.2), z)) ∨
    (outerP ls i rest = none ∧ ∃ y2 y3 y4, loopF (gT (gsCons (gV 2) (gsCons (gV 3) gsNil))) fIn (enumD i (tups rest)) (fE n ls x2 x3 x4 none) z = some (.nx (fE n ls y2 y3 y4 none), z))
  | [], i, x2, x3, x4, _, _ => .inr ⟨rfl, x2, x3, x4, rfl⟩
  | one :: rest, i, x2, x3, x4, h, hm => by
    have hi : i < ls.length := by rw [List.length_cons] at h; omega
    have ho := hs one (hm one List.mem_cons_self)
    have en : enumD (i : Int) (tups (one :: rest)) = .tuple [.int i, tup one] :: enumD ((i : Int) + 1) (tups rest) := rfl
    have ec : (((i + 1 : Nat)) : Int) = (i : Int) + 1 := by push_cast; rfl
    unfold outerP
    rcases f_in n ls z hl i hi one ho x4 with ⟨j, f1, f2⟩ | ⟨f1, y4, f2⟩
    · left
      rw [f1]
      refine ⟨(i, j), rfl, ?_⟩
      rw [en]
      exact loop_rt (ρ1 := fE n ls (some (.int i)) (some (tup one)) x4 none) rfl f2
    · rw [f1, en]
      have e1 := loop_nx (g := gT (gsCons (gV 2) (gsCons (gV 3) gsNil))) (s := fIn) (ds := enumD ((i : Int) + 1) (tups rest)) (ρ := fE n ls x2 x3 x4 none) (d := .tuple [.int i, tup one]) (ρ1 := fE n ls (some (.int i)) (some (tup one)) x4 none) rfl f2
      rw [e1, ← ec]
      exact f_out hl hs rest (i + 1) _ _ y4 (by rw [List.length_cons] at h; omega) fun l hl => hm l (List.mem_cons_of_mem _ hl)
theorem fault_run (hl : ls.length ≤ 1000) (hs : ∀ l ∈ ls, l.length ≤ 1000) : d__law_lots_fault [.int n, .tuple (tups ls)] z = some (faultP n ls, z) := by
  have eb : b__law_lots_fault (fE n ls none none none none) z = some (.rt (faultP n ls), z) := by
    have t0 : tNot (tB (e1 (isaD "tuple") (eVar 1))) (fE n ls none none none none) z = some (false, z) := tNot_run (b := true) (tB_run (e1_run (var_run rfl) (isa_tpl ls)))
    have t1 : tNot (tB (eC1 allD (aCons (eLc (iV (eVar 1)) (gV 5) tTrue (eCall d__law_is_lot (aCons (eVar 0) (aCons (eVar 5) aNil))) [5]) aNil))) (fE n ls none none none none) z = some (!(ls.all (isLotB n)), z) := by
      refine tNot_run (tB_run (all_run (isLotB n) ls (lc_all (en := tup) ls (iV_run (var_run rfl) rfl) hl fun l hm => ⟨[some (.int n), some (.tuple (tups ls)), none, none, none, some (tup l), none, none], rfl, ?_⟩)))
      exact call_run (cons_run (var_run rfl) (cons_run (var_run rfl) nil_run)) (law_is_lot_run n l z (hs l hm))
    have t2 : tNot (tB (eC1 allD (aCons (eLc (iRange iZ (aCons (eVar 1) (aCons (eSl (eVar 1) (pSome (eC (.int 1))) pNone) aNil))) (gT (gsCons (gV 3) (gsCons (gV 6) gsNil))) tTrue (VL.e2 ltD (eVar 3) (eVar 6)) [3, 6]) aNil))) (fE n ls none none none none) z = some (!(incrL ls), z) := by
      refine tNot_run (tB_run (all_run (fun p : List Int × List Int => decide (p.1 < p.2)) (ls.zip ls.tail) (lc_all (en := fun p => PyData.tuple [tup p.1, tup p.2]) (ls.zip ls.tail) ?_ (zip_len ls hl) fun p hp => ⟨[some (.int n), some (.tuple (tups ls)), none, some (tup p.1), none, none, some (tup p.2), none], rfl, e2_run (var_run rfl) (var_run rfl) (ltD_tup _ _)⟩)))
      rw [← zip_tups]
      rfl
    unfold b__law_lots_fault faultP
    cases c1 : ls.all (isLotB n) with
    | false =>
      rw [c1] at t1
      rw [if_neg Bool.false_ne_true]
      exact seq_rt ((if_t ((tOr_f t0).trans t1)).trans (ret_run (eTup_run (cons_run rfl nil_run))))
    | true =>
      rw [c1] at t1
      rw [if_pos rfl, seq_nx ((if_f ((tOr_f t0).trans t1)).trans rfl)]
      cases c2 : incrL ls with
      | false =>
        rw [c2] at t2
        rw [if_neg Bool.false_ne_true]
        exact seq_rt ((if_t t2).trans (ret_run (eTup_run (cons_run rfl nil_run))))
      | true =>
        rw [c2] at t2
        rw [if_pos rfl, seq_nx ((if_f t2).trans rfl)]
        have ef : sFor (iRange iE (aCons (eVar 1) aNil)) (gT (gsCons (gV 2) (gsCons (gV 3) gsNil))) fIn (fE n ls none none none none) z = loopF (gT (gsCons (gV 2) (gsCons (gV 3) gsNil))) fIn (enumD ((0 : Nat) : Int) (tups ls)) (fE n ls none none none none) z :=
          for_run (iRange_run (cons_run (var_run rfl) nil_run) rfl)
        rcases f_out n ls z hl hs ls 0 none none none (by omega) (fun l h => h) with ⟨p, f1, f2⟩ | ⟨f1, y2, y3, y4, f2⟩
        · rw [f1]
          exact seq_rt (ef.trans f2)
        · rw [f1]
          exact (seq_nx (ef.trans f2)).trans (last_run n ls z _ rfl rfl)
  show runF 8 2 b__law_lots_fault [.int n, .tuple (tups ls)] z = endF (.rt (faultP n ls), z)
  exact runF_run rfl (by rfl) eb
end
/-! ### what it says of lots that do not cross -/
theorem incr_pw : ∀ l : List Int, l.Pairwise (· < ·) → incr l = true
  | [], _ => rfl
  | [_], _ => rfl
  | x :: y :: r, h => by
    rw [List.pairwise_cons] at h
    have ih := incr_pw (y :: r) h.2
    unfold incr at ih ⊢
    simp only [List.tail_cons, List.zip_cons_cons, List.all_cons, Bool.and_eq_true, decide_eq_true_eq] at ih ⊢
    exact ⟨h.1 y List.mem_cons_self, ih⟩
theorem incrL_pw : ∀ ls : List (List Int), ls.Pairwise (· < ·) → incrL ls = true
  | [], _ => rfl
  | [_], _ => rfl
  | x :: y :: r, h => by
    rw [List.pairwise_cons] at h
    have ih := incrL_pw (y :: r) h.2
    unfold incrL at ih ⊢
    simp only [List.tail_cons, List.zip_cons_cons, List.all_cons, Bool.and_eq_true, decide_eq_true_eq] at ih ⊢
    exact ⟨h.1 y List.mem_cons_self, ih⟩
theorem Lot.isLot {n : Nat} {l : List Int} (h : Lot n l) : isLotB n l = true := by
  unfold isLotB
  rw [decide_eq_true h.ne, incr_pw l h.pw]
  have h0 : 0 ≤ l.headD 0 := by
    cases l with
    | nil => exact Int.le_refl _
    | cons x r => exact (h.rg x List.mem_cons_self).1
  have h1 : l.getLastD 0 < n := by
    rcases List.eq_nil_or_concat l with e | ⟨m, x, e⟩
    · exact absurd e h.ne
    · rw [List.concat_eq_append] at e
      subst e
      simpa using (h.rg x (by simp)).2
  simp only [decide_eq_true h0, decide_eq_true h1, Bool.and_self]
theorem outer_none {n : Nat} {F : List (List Int)} (h : Part n F) (ls : List (List Int)) (hm : ∀ l ∈ ls, l ∈ F) : ∀ (rest : List (List Int)) (i : Nat), (∀ l ∈ rest, l ∈ F) → outerP ls i rest = none
  | [], _, _ => rfl
  | one :: rest, i, hr => by
    have h1 : innerP ls one i = none := by
      unfold innerP
      rw [List.find?_eq_none]
      intro j hj
      have ho := hr one List.mem_cons_self
      by_cases c : j < ls.length
      · have hj' : ls.getD j [] ∈ F := by
          rw [List.getD_eq_getElem?_getD, List.getElem?_eq_getElem c]
          exact hm _ (List.getElem_mem c)
        rw [cross_iff (h.lot _ ho).nodup (h.lot _ hj').nodup]
        exact h.no _ ho _ hj'
      · have := List.mem_range'.mp hj
        omega
    unfold outerP
    rw [h1]
    exact outer_none h ls hm rest (i + 1) fun l hl => hr l (List.mem_cons_of_mem _ hl)
theorem srtL_lt {F : List (List Int)} (h : F.Nodup) : (srtL F).Pairwise (· < ·) := by
  have h1 := srtL_pw F
  have h2 : (srtL F).Pairwise (· ≠ ·) := (srtL_perm F).nodup_iff.mpr h
  refine (h1.and h2).imp fun ⟨a, b⟩ => ?_
  exact Decidable.byContradiction fun c => b (List.le_antisymm a (List.not_lt.mp c))
theorem fault_part {n : Nat} {F : List (List Int)} (h : Part n F) : faultP n (srtL F) = if (F.length : Int) = 2 * n - 1 then .none else manyD F.length := by
  have hm : ∀ l ∈ srtL F, l ∈ F := fun l hl => (srtL_perm F).mem_iff.mp hl
  have h1 : (srtL F).all (isLotB n) = true := List.all_eq_true.mpr fun l hl => (h.lot l (hm l hl)).isLot
  unfold faultP
  rw [if_pos h1, if_pos (incrL_pw _ (srtL_lt h.nd)), outer_none h _ hm _ _ hm, (srtL_perm F).length_eq]
end PL
set_option Elab.async false
set_option linter.all false
set_option maxRecDepth 100000
set_option maxHeartbeats 4000000
/-! The plain law of k47: dicts of plans by their lots. -/
namespace PL
open PySem VL G47 List
def ent (qs : List Tr) : List (D × D) := qs.map fun q => (tup (shires q), enc (form q))
/-- lots tell the plans apart -/
def Inj (qs : List Tr) : Prop := ∀ a ∈ qs, ∀ b ∈ qs, shires a = shires b → a = b
theorem Inj.tail {q : Tr} {qs : List Tr} (h : Inj (q :: qs)) : Inj qs := fun a ha b hb e => h a (List.mem_cons_of_mem _ ha) b (List.mem_cons_of_mem _ hb) e
theorem key_dec (l m : List Int) : decide (keyOf (tup l) = some (kt m)) = decide (l = m) := by
  rw [keyOf_tup]
  refine decide_eq_decide.mpr ?_
  rw [Option.some.injEq, kt_inj]
theorem dGet_cons (d v : D) (ps : List (D × D)) (k : NestedKey) : dGet ((d, v) :: ps) k = if keyOf d = some k then some v else dGet ps k := by
  unfold dGet
  rw [List.find?_cons]
  by_cases c : keyOf d = some k
  · rw [if_pos c, decide_eq_true c]; rfl
  · rw [if_neg c, decide_eq_false c]
theorem dGet_ent : ∀ (qs : List Tr), Inj qs → ∀ q ∈ qs, dGet (ent qs) (kt (shires q)) = some (enc (form q))
  | [], _, q, h => by cases h
  | q0 :: qs, hi, q, h => by
    show dGet ((tup (shires q0), enc (form q0)) :: ent qs) _ = _
    rw [dGet_cons, keyOf_tup]
    by_cases c : shires q0 = shires q
    · rw [if_pos (by rw [c]), hi q0 List.mem_cons_self q h c]
    · rw [if_neg (fun e => c (kt_inj.mp (Option.some.inj e)))]
      rcases List.mem_cons.mp h with rfl | h
      · exact absurd rfl c
      · exact dGet_ent qs hi.tail q h
theorem dGet_none : ∀ (qs : List Tr) (l : List Int), (∀ q ∈ qs, shires q ≠ l) → dGet (ent qs) (kt l) = none
  | [], _, _ => rfl
  | q0 :: qs, l, h => by
    show dGet ((tup (shires q0), enc (form q0)) :: ent qs) _ = _
    rw [dGet_cons, keyOf_tup, if_neg (fun e => h q0 List.mem_cons_self (kt_inj.mp (Option.some.inj e)))]
    exact dGet_none qs l fun q hq => h q (List.mem_cons_of_mem _ hq)
theorem ent_append (a b : List Tr) : ent (a ++ b) = ent a ++ ent b := by unfold ent; rw [List.map_append]
theorem dPut_ent (qs : List Tr) (p : Tr) (h : ∀ q ∈ qs, shires q ≠ shires p) : dPut (ent qs) (tup (shires p)) (kt (shires p)) (enc (form p)) = ent (qs ++ [p]) := by
  unfold dPut
  rw [dGet_none qs _ h, ent_append]
  rfl
theorem keyed_ent (qs : List Tr) : tupKeyed (ent qs) = true := by
  unfold tupKeyed ent
  rw [List.all_map]
  exact List.all_eq_true.mpr fun q _ => rfl
theorem depthK : ∀ l : List Int, NestedKey.depthAll (l.map .num) = 0
  | [] => rfl
  | x :: l => by
    have := depthK l
    simp only [List.map_cons, NestedKey.depthAll, NestedKey.depth, this, Nat.max_self]
theorem kOk_kt (l : List Int) : kOk (kt l) = true := by
  unfold kOk kt
  rw [NestedKey.depth, depthK]
  rfl
theorem cls_ent (qs : List Tr) (l : List Int) : sameCls (ent qs) (kt l) = true := by
  unfold sameCls
  rw [kOk_kt, keyed_ent]
  rfl
theorem ix_ent (qs : List Tr) (hi : Inj qs) (q : Tr) (h : q ∈ qs) : ixA (.dict (ent qs)) (tup (shires q)) = some (enc (form q)) := by
  show (keyOf (tup (shires q))).bind (dGet (ent qs)) = _
  rw [keyOf_tup]
  exact dGet_ent qs hi q h
theorem store_ent (qs : List Tr) (p : Tr) (h : ∀ q ∈ qs, shires q ≠ shires p) (hl : qs.length ≤ 1000) : storeD (.dict (ent qs)) (tup (shires p)) (enc (form p)) = some (.dict (ent (qs ++ [p]))) := by
  show (keyOf (tup (shires p))).bind (fun nk => if sameCls (ent qs) nk && decide ((ent qs).length < sizeLine) then some (PyData.dict (dPut (ent qs) (tup (shires p)) nk (enc (form p)))) else none) = _
  have lb := line_big
  have e : (ent qs).length < sizeLine := by unfold ent; rw [List.length_map]; omega
  rw [keyOf_tup, Option.bind_some, cls_ent, decide_eq_true e, dPut_ent qs p h]
  rfl
def triT (q : Tr) : D × NestedKey × D := (tup (shires q), kt (shires q), enc (form q))
theorem pairs_ent : ∀ qs : List Tr, pairsD (qs.map fun q => PyData.tuple [tup (shires q), enc (form q)]) = some (qs.map triT)
  | [] => rfl
  | q :: qs => by
    rw [List.map_cons]
    unfold pairsD
    rw [keyOf_tup, Option.bind_some, pairs_ent qs]
    rfl
theorem merge_ent : ∀ (qs acc : List Tr), Inj (acc ++ qs) → (acc ++ qs).Nodup → (qs.map triT).foldl (fun acc t => dPut acc t.1 t.2.1 t.2.2) (ent acc) = ent (acc ++ qs)
  | [], acc, _, _ => by simp
  | q :: qs, acc, h, n => by
    rw [List.map_cons, List.foldl_cons]
    have hq : ∀ a ∈ acc, shires a ≠ shires q := fun a ha e => by
      have := h a (List.mem_append_left _ ha) q (List.mem_append_right _ List.mem_cons_self) e
      rw [List.nodup_append] at n
      exact n.2.2 a ha q List.mem_cons_self this
    show (qs.map triT).foldl _ (dPut (ent acc) (tup (shires q)) (kt (shires q)) (enc (form q))) = _
    rw [dPut_ent acc q hq]
    have e : acc ++ q :: qs = (acc ++ [q]) ++ qs := by simp
    rw [e] at h n ⊢
    exact merge_ent qs (acc ++ [q]) h n
theorem dict_ent (qs : List Tr) (h : Inj qs) (n : qs.Nodup) : dictD [.list (qs.map fun q => PyData.tuple [tup (shires q), enc (form q)])] = some (.dict (ent qs)) := by
  show (pairsD _).bind (fun ts => if dictOkF ts || dictOkT ts then some (PyData.dict (mergeD ts)) else none) = _
  rw [pairs_ent, Option.bind_some]
  have hT : dictOkT (qs.map triT) = true := by
    unfold dictOkT
    rw [List.all_map]
    refine List.all_eq_true.mpr fun q _ => ?_
    show (isTup (kt (shires q)) && kOk (kt (shires q))) = true
    rw [kOk_kt]
    rfl
  have hm : mergeD (qs.map triT) = ent qs := merge_ent qs [] (by simpa using h) (by simpa using n)
  rw [hT, Bool.or_true, if_pos rfl, hm]
theorem del_ent (qs : List Tr) (q : Tr) : dDel (ent qs) (kt (shires q)) = ent (qs.filter fun a => decide (shires a ≠ shires q)) := by
  unfold dDel ent
  rw [List.filter_map]
  congr 1
  refine List.filter_congr fun a _ => ?_
  show decide (keyOf (tup (shires a)) ≠ some (kt (shires q))) = _
  rw [keyOf_tup]
  refine decide_eq_decide.mpr ?_
  rw [ne_eq, Option.some.injEq, kt_inj]
theorem keys_ent (qs : List Tr) : (ent qs).map (·.1) = qs.map fun q => tup (shires q) := by
  unfold ent
  rw [List.map_map]
  rfl
theorem hd_ix (q : Tr) : ixA (tup (shires q)) (.int 0) = some (.int (hd (shires q))) := by
  cases h : shires q with
  | nil => exact absurd h (shires_ne q)
  | cons x r => rfl
theorem begins_in (q p : Tr) : inA (.int (hd (shires q))) (tup (shires p)) = some (.bool (decide (hd (shires q) ∈ leaves p))) := by
  rw [inA_tup]
  congr 2
  exact decide_eq_decide.mpr mem_shires
theorem perm_pair {α : Type} {l : List α} {a b : α} (h : l ~ [a, b]) : l = [a, b] ∨ l = [b, a] := by
  have hl := h.length_eq
  match l, hl, h with
  | [x, y], _, h =>
    have hx : x = a ∨ x = b := by
      have : x ∈ [a, b] := h.mem_iff.mp (by simp)
      simpa using this
    rcases hx with hx | hx
    · subst hx
      left
      rw [List.perm_singleton.mp ((List.perm_cons x).mp h)]
    · subst hx
      right
      have h2 : [x, y] ~ [x, a] := h.trans (.swap _ _ _)
      rw [List.perm_singleton.mp ((List.perm_cons x).mp h2)]
end PL
set_option Elab.async false
set_option linter.all false
set_option maxRecDepth 100000
set_option maxHeartbeats 4000000
/-! The plain law of k47: plan_of. -/
namespace PL
open PySem VL G47 List
def nextQ (qs : List Tr) (p : Tr) : List Tr := qs.filter (fun q => !decide (hd (shires q) ∈ leaves p)) ++ [p]
def withinQ (qs : List Tr) (p : Tr) : List Tr := qs.filter (fun q => decide (hd (shires q) ∈ leaves p))
theorem inj_of {t : Tr} {qs : List Tr} (n : ND t) (h : ∀ q ∈ qs, q ∈ parts t) : Inj qs := fun a ha b hb e => shires_inj n (h a ha) (h b hb) e
theorem Seq.topIn {t p : Tr} {Q1 Q2 qs : List Tr} (S : Seq t (Q1 ++ p :: Q2)) (T : Top Q1 qs) : ∀ q ∈ qs, q ∈ parts t := fun q hq => S.inQ ((T.mem q).mp hq).1
theorem Seq.new {t p : Tr} {Q1 Q2 qs : List Tr} (S : Seq t (Q1 ++ p :: Q2)) (T : Top Q1 qs) : ∀ q ∈ qs, shires q ≠ shires p := fun q hq e => by
  have := shires_inj S.nd (S.topIn T q hq) S.pmem e
  exact S.pnot (this ▸ ((T.mem q).mp hq).1)
theorem within_leaf {t : Tr} {i : Int} {Q1 Q2 qs : List Tr} (S : Seq t (Q1 ++ .lf i :: Q2)) (T : Top Q1 qs) : withinQ qs (.lf i) = [] := List.perm_nil.mp (S.within T)
theorem next_leaf {t : Tr} {i : Int} {Q1 Q2 qs : List Tr} (S : Seq t (Q1 ++ .lf i :: Q2)) (T : Top Q1 qs) : nextQ qs (.lf i) = qs ++ [.lf i] := by
  have h := within_leaf S T
  unfold withinQ at h
  rw [List.filter_eq_nil_iff] at h
  unfold nextQ
  rw [List.filter_eq_self.mpr]
  intro q hq
  have := h q hq
  simpa using this
theorem shires_leaf (i : Int) : shires (.lf i) = [i] := by simp [shires, leaves, srt]
/-- shires that stand in a part are few -/
structure Sm (t : Tr) : Prop where
  sz : sz t ≤ 400
  dep : dep t < 40
theorem Sm.part {t p : Tr} (h : Sm t) (hp : p ∈ parts t) : Sm p := by
  have := parts_le hp
  exact ⟨by have := h.sz; omega, by have := h.dep; omega⟩
theorem Sm.form {t : Tr} (h : Sm t) : Sm (form t) := ⟨by rw [sz_form]; exact h.sz, by rw [dep_form]; exact h.dep⟩
theorem Sm.shires {t : Tr} (h : Sm t) : (shires t).length ≤ 400 := Nat.le_trans (shires_len t) h.sz
theorem paired_kids {a b : Tr} (n : ND (.nd a b)) (ha : Sm a) (hb : Sm b) (z : Src) : d_paired [enc (form a), enc (form b)] z = some (enc (form (.nd a b)), z) ∧ d_paired [enc (form b), enc (form a)] z = some (enc (form (.nd a b)), z) := by
  have fa := ha.form
  have fb := hb.form
  have h1 := fa.sz
  have h2 := fa.dep
  have h3 := fb.sz
  have h4 := fb.dep
  refine ⟨paired_enc _ _ (by omega) (by omega) (by omega) (by omega) z, ?_⟩
  rw [paired_enc _ _ (by omega) (by omega) (by omega) (by omega) z]
  have : pair (form b) (form a) = form (.nd a b) := (pair_comm (by rw [shires_form, shires_form]; exact fun e => shires_kids n e.symm))
  rw [this]
section
variable (n : D) (L : D) (z : Src)
def pE (qs : List Tr) (x3 x4 x5 x6 x7 : Option D) : VL.Env := [some n, some L, some (.dict (ent qs)), x3, x4, x5, x6, x7, none]
noncomputable def poB : DS := (sIf (tB (VL.e2 eqD (eC1 lenD (aCons (eVar 3) aNil)) (eC (.int 1)))) (sStore 2 (eVar 3) (VL.e2 ixA (eVar 3) (eC (.int 0)))) (sSeq (sAsg 4 (eLc (iV (eVar 2)) (gV 8) (tB (VL.e2 inA (VL.e2 ixA (eVar 8) (eC (.int 0))) (eVar 3))) (eVar 8) [8])) (sSeq (sAsgG (eVar 4) (gT (gsCons (gV 5) (gsCons (gV 6) gsNil)))) (sSeq (sAsg 7 (eCall d_paired (aCons (VL.e2 ixA (eVar 2) (eVar 5)) (aCons (VL.e2 ixA (eVar 2) (eVar 6)) aNil)))) (sSeq (sAsg 2 (eC1 dictD (aCons (eLc (iV (eVar 2)) (gV 8) (tB (VL.e2 notInA (eVar 8) (eVar 4))) (eTup (aCons (eVar 8) (aCons (VL.e2 ixA (eVar 2) (eVar 8)) aNil))) [8]) aNil))) (sStore 2 (eVar 3) (eVar 7)))))))
theorem len_test (ρ : VL.Env) (l : List Int) (h : ρ[3]? = some (some (tup l))) : tB (VL.e2 eqD (eC1 lenD (aCons (eVar 3) aNil)) (eC (.int 1))) ρ z = some (decide (l.length = 1), z) := by
  have e : tB (VL.e2 eqD (eC1 lenD (aCons (eVar 3) aNil)) (eC (.int 1))) ρ z = some (decide ((l.length : Int) = 1), z) :=
    tB_run (e2_run (eC1_run (cons_run (var_run h) nil_run) (lenD_tup l)) rfl (eqD_int _ _))
  rw [e]
  congr 2
  exact decide_eq_decide.mpr (by omega)
theorem notIn_tups (l : List Int) (ls : List (List Int)) : notInA (tup l) (.list (tups ls)) = some (.bool (decide (l ∉ ls))) := by
  show (if okD (tup l) && PyData.plainAll (tups ls) then some (PyData.bool (!memD (tups ls) (tup l))) else none) = _
  rw [okD_tup, plain_tups, memD_tups]
  by_cases h : l ∈ ls <;> simp [h]
theorem plan_step {t p : Tr} {Q1 Q2 qs : List Tr} (S : Seq t (Q1 ++ p :: Q2)) (T : Top Q1 qs) (hl : qs.length ≤ 900) (hs : Sm t) (x3 x4 x5 x6 x7 : Option D) :
    ∃ y4 y5 y6 y7, poB (pE n L qs (some (tup (shires p))) x4 x5 x6 x7) z = some (.nx (pE n L (nextQ qs p) (some (tup (shires p))) y4 y5 y6 y7), z) := by
  have hi := inj_of S.nd (S.topIn T)
  have hnew := S.new T
  cases p with
  | lf i =>
    refine ⟨x4, x5, x6, x7, ?_⟩
    rw [next_leaf S T]
    have lt := len_test z (pE n L qs (some (tup (shires (.lf i)))) x4 x5 x6 x7) (shires (.lf i)) rfl
    have e1 : (shires (.lf i)).length = 1 := by rw [shires_leaf]; rfl
    rw [decide_eq_true e1] at lt
    unfold poB
    rw [if_t lt]
    refine store_run (e2_run (var_run rfl) rfl (d := enc (form (.lf i))) ?_) (var_run rfl) rfl (store_ent qs (.lf i) hnew (by omega))
    rw [shires_leaf]
    rfl
  | nd a b =>
    have hp := S.pmem
    have np := parts_ND hp S.nd
    have e1 : ¬ (shires (.nd a b)).length = 1 := by
      have h1 := leaves_pos a
      have h2 := leaves_pos b
      rw [shires_len', lc_nd]
      simp only [lc]
      omega
    have lt := len_test z (pE n L qs (some (tup (shires (.nd a b)))) x4 x5 x6 x7) (shires (.nd a b)) rfl
    rw [decide_eq_false e1] at lt
    have w : withinQ qs (.nd a b) ~ [a, b] := S.within T
    have el : eLc (iV (eVar 2)) (gV 8) (tB (VL.e2 inA (VL.e2 ixA (eVar 8) (eC (.int 0))) (eVar 3))) (eVar 8) [8] (pE n L qs (some (tup (shires (.nd a b)))) x4 x5 x6 x7) z = some (.list ((withinQ qs (.nd a b)).map fun q => tup (shires q)), z) := by
      refine lc_if (en := fun q => tup (shires q)) qs (iV_run (var_run rfl) ?_) (by omega) fun q hq => ⟨[some n, some L, some (.dict (ent qs)), some (tup (shires (.nd a b))), x4, x5, x6, x7, some (tup (shires q))], rfl, ?_, fun _ => var_run rfl⟩
      · show some ((ent qs).map (·.1)) = _
        rw [keys_ent]
      · exact tB_run (e2_run (e2_run (var_run rfl) rfl (hd_ix q)) (var_run rfl) (begins_in q _))
    have ma : a ∈ qs := S.kidTop T (by simp [kids])
    have mb : b ∈ qs := S.kidTop T (by simp [kids])
    have pk := paired_kids np (hs.part (S.topIn T a ma)) (hs.part (S.topIn T b mb)) z
    -- what is left
    have rest : ∀ (c d : Tr), c ∈ qs → d ∈ qs → withinQ qs (.nd a b) = [c, d] → d_paired [enc (form c), enc (form d)] z = some (enc (form (.nd a b)), z) →
        ∃ y4 y5 y6 y7, poB (pE n L qs (some (tup (shires (.nd a b)))) x4 x5 x6 x7) z = some (.nx (pE n L (nextQ qs (.nd a b)) (some (tup (shires (.nd a b)))) y4 y5 y6 y7), z) := fun c d hc hd' hw pk => by
      rw [hw] at el
      refine ⟨some (.list [tup (shires c), tup (shires d)]), some (tup (shires c)), some (tup (shires d)), some (enc (form (.nd a b))), ?_⟩
      unfold poB
      rw [if_f lt, seq_nx (asg_run el)]
      rw [seq_nx (asgG_run (ρ' := pE n L qs (some (tup (shires (.nd a b)))) (some (.list [tup (shires c), tup (shires d)])) (some (tup (shires c))) (some (tup (shires d))) x7) (var_run rfl) rfl)]
      rw [seq_nx (asg_run (call_run (cons_run (e2_run (var_run rfl) (var_run rfl) (ix_ent qs hi c hc)) (cons_run (e2_run (var_run rfl) (var_run rfl) (ix_ent qs hi d hd')) nil_run)) pk))]
      have er : eLc (iV (eVar 2)) (gV 8) (tB (VL.e2 notInA (eVar 8) (eVar 4))) (eTup (aCons (eVar 8) (aCons (VL.e2 ixA (eVar 2) (eVar 8)) aNil))) [8] (pE n L qs (some (tup (shires (.nd a b)))) (some (.list [tup (shires c), tup (shires d)])) (some (tup (shires c))) (some (tup (shires d))) (some (enc (form (.nd a b))))) z =
          some (.list ((qs.filter (fun q => !decide (hd (shires q) ∈ leaves (.nd a b)))).map fun q => PyData.tuple [tup (shires q), enc (form q)]), z) := by
        refine lc_if (en := fun q => tup (shires q)) qs (iV_run (var_run rfl) ?_) (by omega) fun q hq => ⟨[some n, some L, some (.dict (ent qs)), some (tup (shires (.nd a b))), some (.list [tup (shires c), tup (shires d)]), some (tup (shires c)), some (tup (shires d)), some (enc (form (.nd a b))), some (tup (shires q))], rfl, ?_, fun _ => ?_⟩
        · show some ((ent qs).map (·.1)) = _
          rw [keys_ent]
        · have e0 : notInA (tup (shires q)) (.list [tup (shires c), tup (shires d)]) = some (.bool (!decide (hd (shires q) ∈ leaves (.nd a b)))) := by
            have := notIn_tups (shires q) [shires c, shires d]
            have e : tups [shires c, shires d] = [tup (shires c), tup (shires d)] := rfl
            rw [e] at this
            rw [this]
            congr 2
            rw [← decide_not]
            refine decide_eq_decide.mpr ?_
            have hw' : q ∈ withinQ qs (.nd a b) ↔ hd (shires q) ∈ leaves (.nd a b) := by
              unfold withinQ
              rw [List.mem_filter, decide_eq_true_eq]
              exact ⟨fun h => h.2, fun h => ⟨hq, h⟩⟩
            rw [← hw', hw]
            refine not_congr ?_
            simp only [List.mem_cons, List.not_mem_nil, or_false]
            constructor
            · rintro (h | h)
              · exact .inl (hi q hq c hc h)
              · exact .inr (hi q hq d hd' h)
            · rintro (h | h)
              · exact .inl (by rw [h])
              · exact .inr (by rw [h])
          exact tB_run (e2_run (var_run rfl) (var_run rfl) e0)
        · exact eTup_run (cons_run (var_run rfl) (cons_run (e2_run (var_run rfl) (var_run rfl) (ix_ent qs hi q hq)) nil_run))
      have hi2 : Inj (qs.filter (fun q => !decide (hd (shires q) ∈ leaves (.nd a b)))) := fun x hx y hy e => hi x (List.mem_filter.mp hx).1 y (List.mem_filter.mp hy).1 e
      have es : List.set (pE n L qs (some (tup (shires (.nd a b)))) (some (.list [tup (shires c), tup (shires d)])) (some (tup (shires c))) (some (tup (shires d))) x7) 7 (some (enc (form (.nd a b)))) = pE n L qs (some (tup (shires (.nd a b)))) (some (.list [tup (shires c), tup (shires d)])) (some (tup (shires c))) (some (tup (shires d))) (some (enc (form (.nd a b)))) := rfl
      rw [es, seq_nx (asg_run (eC1_run (cons_run er nil_run) (dict_ent _ hi2 (T.nd.filter _))))]
      refine store_run (var_run rfl) (var_run rfl) rfl (store_ent _ (.nd a b) (fun q hq => hnew q (List.mem_filter.mp hq).1) ?_)
      exact Nat.le_trans (List.length_filter_le _ _) (by omega)
    rcases perm_pair w with hw | hw
    · exact rest a b ma mb hw pk.1
    · exact rest b a mb ma hw pk.2
theorem plan_loop {t : Tr} (hs : Sm t) : ∀ (Q2 Q1 qs : List Tr) (x3 x4 x5 x6 x7 : Option D), Seq t (Q1 ++ Q2) → Top Q1 qs → qs.length ≤ Q1.length → 
    ∃ y3 y4 y5 y6 y7, loopF (gV 3) poB (Q2.map fun q => tup (shires q)) (pE n L qs x3 x4 x5 x6 x7) z = some (.nx (pE n L [t] y3 y4 y5 y6 y7), z)
  | [], Q1, qs, x3, x4, x5, x6, x7, S, T, _ => by
    rw [List.append_nil] at S
    rw [S.last T]
    exact ⟨x3, x4, x5, x6, x7, rfl⟩
  | p :: Q2, Q1, qs, x3, x4, x5, x6, x7, S, T, hl => by
    have hq : (Q1 ++ p :: Q2).length ≤ 400 := by
      rw [S.perm.length_eq, parts_len]; exact hs.sz
    rw [List.length_append, List.length_cons] at hq
    obtain ⟨y4, y5, y6, y7, e⟩ := plan_step n L z S T (by omega) hs x3 x4 x5 x6 x7
    rw [List.map_cons, loop_nx (ρ1 := pE n L qs (some (tup (shires p))) x4 x5 x6 x7) rfl e]
    have e2 : Q1 ++ p :: Q2 = (Q1 ++ [p]) ++ Q2 := by simp
    refine plan_loop hs Q2 (Q1 ++ [p]) (nextQ qs p) _ y4 y5 y6 y7 (e2 ▸ S) (S.next T) ?_
    unfold nextQ
    have := List.length_filter_le (fun q => !decide (hd (shires q) ∈ leaves p)) qs
    simp only [List.length_append, List.length_cons, List.length_nil]
    omega
end
theorem sortLen_run (ls : List (List Int)) (hl : ls.length ≤ 1000) : ∃ L, sortedLenA (.tuple (tups ls)) = some (.list (tups L)) ∧ L ~ ls ∧ L.Pairwise fun a b => a.length ≤ b.length := by
  refine ⟨ls.mergeSort fun a b => decide (a.length ≤ b.length), ?_, mergeSort_perm _ _, ?_⟩
  · show (if (tups ls).all isSeq && decide ((tups ls).length ≤ sizeLine) then some (PyData.list ((tups ls).mergeSort (PySem.W.dataLe false lenK))) else none) = _
    have lb := line_big
    have h1 : (tups ls).all isSeq = true := by
      unfold tups
      rw [List.all_map]
      exact List.all_eq_true.mpr fun l _ => rfl
    have h2 : (tups ls).length ≤ sizeLine := by unfold tups; rw [List.length_map]; omega
    rw [h1, decide_eq_true h2, Bool.and_self, if_pos rfl]
    congr 2
    unfold tups
    refine (List.map_mergeSort (f := tup) fun a _ b _ => ?_).symm
    show decide (a.length ≤ b.length) = PySem.W.dataLe false (fun b => b) (.int (iDs a).length) (.int (iDs b).length)
    have := congrFun (congrFun (PySem.W.dataLe_int (fun i : Int => i)) ((iDs a).length : Int)) ((iDs b).length : Int)
    have e : PySem.W.dataLe false (fun b => b) (PyData.int (iDs a).length) (PyData.int (iDs b).length) = decide (((iDs a).length : Int) ≤ ((iDs b).length : Int)) := this
    rw [e]
    refine decide_eq_decide.mpr ?_
    simp only [iDs, List.length_map]
    omega
  · have h := pairwise_mergeSort (le := fun a b : List Int => decide (a.length ≤ b.length)) (fun a b c h1 h2 => by simp at h1 h2 ⊢; omega) (fun a b => by simp; omega) ls
    exact h.imp fun h => by simpa using h
theorem range_tup (n : Nat) (hn : n ≤ 1000) : rg1D [.int n] = some (iDs (upto n)) := by
  unfold rg1D
  have h : rgOk 0 (n : Int) = true := by
    unfold rgOk
    have h0 : big62 0 = true := by decide
    have h1 := big62_small (n := n) (by omega)
    simp only [h0, h1, Bool.true_and, decide_eq_true_eq]
    omega
  simp only [h, if_true]
  have e : ((n : Int) - 0).toNat = n := by omega
  rw [e]
  have := rangeD_nat 0 n
  have e0 : ((0 : Nat) : Int) = 0 := rfl
  rw [e0] at this
  rw [this]
  unfold iDs upto
  rw [List.map_map, ← List.range_eq_range']
  rfl
theorem upto_shires {t : Tr} {n : Nat} (h : leaves t ~ upto n) : shires t = upto n := srt_of_lot (upto_pw n) h
theorem eTRg_run {fs : DA} {ρ : VL.Env} {z z' : Src} {es ds : List D} (e1 : fs ρ z = some (es, z')) (e2 : rg1D es = some ds) : eTRg fs ρ z = some (.tuple ds, z') := by
  unfold eTRg; rw [e1]; simp only [Option.bind_some, e2, Option.map_some]
theorem eLRg_run {fs : DA} {ρ : VL.Env} {z z' : Src} {es ds : List D} (e1 : fs ρ z = some (es, z')) (e2 : rg1D es = some ds) : eLRg fs ρ z = some (.list ds, z') := by
  unfold eLRg; rw [e1]; simp only [Option.bind_some, e2, Option.map_some]
theorem plan_ret {t : Tr} {n : Nat} (h : leaves t ~ upto n) (hn : n ≤ 1000) (z : Src) (L : D) (y3 y4 y5 y6 y7 : Option D) : sRet (VL.e2 ixA (eVar 2) (eTRg (eA1 (eVar 0)))) (pE (.int n) L [t] y3 y4 y5 y6 y7) z = some (.rt (enc (form t)), z) := by
  have ec : aCons (eVar 0) aNil (pE (.int n) L [t] y3 y4 y5 y6 y7) z = some ([.int n], z) := cons_run (var_run rfl) nil_run
  have er : eTRg (eA1 (eVar 0)) (pE (.int n) L [t] y3 y4 y5 y6 y7) z = some (tup (upto n), z) := by
    exact eTRg_run ec (range_tup n hn)
  refine ret_run (e2_run (var_run rfl) er ?_)
  rw [← upto_shires h]
  exact ix_ent [t] (fun a ha b hb _ => by simp at ha hb; rw [ha, hb]) t (by simp)
theorem plan_end {t : Tr} {n : Nat} (h : leaves t ~ upto n) (hn : n ≤ 1000) (z : Src) {L : D} {y3 y4 y5 y6 y7 : Option D} (e : sFor (iV (e1 sortedLenA (eVar 1))) (gV 3) poB (pE (.int n) L [] none none none none none) z = some (.nx (pE (.int n) L [t] y3 y4 y5 y6 y7), z)) : d_plan_of [.int n, L] z = some (enc (form t), z) := by
  have e0 : sAsg 2 (eC (.dict [])) [some (.int n), some L, none, none, none, none, none, none, none] z = some (.nx (pE (.int n) L [] none none none none none), z) := rfl
  have eb : b_plan_of [some (.int n), some L, none, none, none, none, none, none, none] z = some (.rt (enc (form t)), z) :=
    (seq_nx e0).trans ((seq_nx e).trans (plan_ret h hn z L y3 y4 y5 y6 y7))
  show runF 9 2 b_plan_of [.int n, L] z = endF (.rt (enc (form t)), z)
  exact runF_run rfl (by rfl) eb
/-- plan_of -/
theorem plan_of_run {t : Tr} {n : Nat} (h : leaves t ~ upto n) (hs : Sm t) (z : Src) : d_plan_of [.int n, .tuple (tups (lots t))] z = some (enc (form t), z) := by
  have nt : ND t := h.nodup_iff.mpr (upto_nodup n)
  have hlen : (lots t).length ≤ 400 := by
    unfold lots
    rw [(srtL_perm _).length_eq, List.length_map, parts_len]; exact hs.sz
  obtain ⟨L, l1, l2, l3⟩ := sortLen_run (lots t) (by omega)
  obtain ⟨Q, S, hQ⟩ := seq_of nt l2 l3
  obtain ⟨y3, y4, y5, y6, y7, e⟩ := plan_loop (.int n) (.tuple (tups (lots t))) z hs Q [] [] none none none none none S Top.nil (Nat.le_refl _)
  have hn : n ≤ 400 := by
    have h1 := h.length_eq
    have h2 := leaves_le t
    have h3 := hs.sz
    unfold upto at h1
    rw [List.length_map, List.length_range] at h1
    omega
  have ef : sFor (iV (e1 sortedLenA (eVar 1))) (gV 3) poB (pE (.int n) (.tuple (tups (lots t))) [] none none none none none) z = loopF (gV 3) poB (Q.map fun q => tup (shires q)) (pE (.int n) (.tuple (tups (lots t))) [] none none none none none) z := by
    refine for_run (iV_run (e1_run (var_run rfl) l1) ?_)
    rw [← hQ]
    unfold tups
    rw [List.map_map]
    rfl
  exact plan_end h (by omega) z (ef.trans e)
end PL
set_option Elab.async false
set_option linter.all false
set_option maxRecDepth 100000
set_option maxHeartbeats 4000000
/-! The plain law of k47: the law's own plan of lots. -/
namespace PL
open PySem VL G47 List
theorem okD_tups (ls : List (List Int)) : okD (.list (tups ls)) = true := by
  have h1 : (PyData.list (tups ls)).plain = true := plain_tups ls
  have h2 : (PyData.list (tups ls)).depth = PyData.depthAll (tups ls) + 1 := by rw [PyData.depth]
  have h3 := depth_tups ls
  unfold okD
  rw [h1, Bool.true_and, decide_eq_true_eq, h2]
  omega
theorem okD_tupT (ls : List (List Int)) : okD (.tuple (tups ls)) = true := by
  have h1 : (PyData.tuple (tups ls)).plain = true := plain_tups ls
  have h2 : (PyData.tuple (tups ls)).depth = PyData.depthAll (tups ls) + 1 := by rw [PyData.depth]
  have h3 := depth_tups ls
  unfold okD
  rw [h1, Bool.true_and, decide_eq_true_eq, h2]
  omega
/-- by length, then by themselves -/
def leL (a b : List Int) : Bool := decide (a.length < b.length ∨ (a.length = b.length ∧ a ≤ b))
theorem leL_trans (a b c : List Int) (h1 : leL a b = true) (h2 : leL b c = true) : leL a c = true := by
  unfold leL at *
  rw [decide_eq_true_eq] at *
  rcases h1 with h1 | ⟨h1, k1⟩ <;> rcases h2 with h2 | ⟨h2, k2⟩
  · exact .inl (by omega)
  · exact .inl (by omega)
  · exact .inl (by omega)
  · exact .inr ⟨by omega, List.le_trans k1 k2⟩
theorem leL_total (a b : List Int) : (leL a b || leL b a) = true := by
  unfold leL
  rw [Bool.or_eq_true, decide_eq_true_eq, decide_eq_true_eq]
  rcases Nat.lt_trichotomy a.length b.length with h | h | h
  · exact .inl (.inl h)
  · rcases List.le_total a b with k | k
    · exact .inl (.inr ⟨h, k⟩)
    · exact .inr (.inr ⟨h.symm, k⟩)
  · exact .inr (.inl h)
theorem keyLen_tup (l : List Int) : keyLenT (tup l) = .tuple [.int l.length, tup l] := by
  show PyData.tuple [.int (iDs l).length, .tuple (iDs l)] = _
  simp [iDs, tup]
theorem alike_int (a b : Int) : PySem.W.alike (.int a) (.int b) = true := by rfl
theorem keyLe (a b : List Int) : PySem.W.dataLe false keyLenT (tup a) (tup b) = leL a b := by
  show (!PySem.W.dataLt (keyLenT (tup b)) (keyLenT (tup a))) = _
  rw [keyLen_tup, keyLen_tup, PySem.W.dataLt_pair (alike_int _ _) (alike_tup _ _), eqv_int, eqv_tup, dataLt_tup, PySem.W.dataLt_int]
  unfold leL
  rcases Nat.lt_trichotomy a.length b.length with h | h | h
  · have h1 : ¬ ((b.length : Int) = a.length) := by omega
    have h2 : ¬ ((b.length : Int) < a.length) := by omega
    simp [h1, h2, h]
  · have h1 : ((b.length : Int) = a.length) := by omega
    rw [decide_eq_true h1, if_pos rfl]
    by_cases e : b = a
    · subst e
      have : b ≤ b := List.le_refl b
      simp [this]
    · rw [decide_eq_false e, if_neg Bool.false_ne_true]
      by_cases k : b < a
      · have : ¬ a ≤ b := fun r => List.not_lt.mpr r k
        simp [h, k, this]
      · have : a ≤ b := List.not_lt.mp k
        simp [h, k, this]
  · have h1 : ¬ ((b.length : Int) = a.length) := by omega
    have h2 : ((b.length : Int) < a.length) := by omega
    have h3 : ¬ a.length < b.length := by omega
    have h4 : ¬ a.length = b.length := by omega
    simp [h1, h2, h3, h4]
theorem flat_ints (l : List Int) : (iDs l).all PyProof.Rows.flatData = true := by
  unfold iDs
  rw [List.all_map]
  exact List.all_eq_true.mpr fun x _ => rfl
theorem sortBy_run (ls : List (List Int)) (hl : ls.length ≤ 1000) : ∃ L, sortedByD (.tuple (tups ls)) = some (.list (tups L)) ∧ L ~ ls ∧ L.Pairwise fun a b => a.length ≤ b.length := by
  refine ⟨ls.mergeSort leL, ?_, mergeSort_perm _ _, ?_⟩
  · have lb := line_big
    have mem : ∀ x ∈ tups ls, ∃ l, x = tup l := fun x hx => by
      obtain ⟨l, _, e⟩ := List.mem_map.mp hx
      exact ⟨l, e.symm⟩
    have ok : sortedByOk (tups ls) = true := by
      unfold sortedByOk
      rw [Bool.and_eq_true, Bool.and_eq_true, List.all_eq_true, List.all_eq_true, decide_eq_true_eq]
      refine ⟨⟨fun x hx => ?_, fun x hx => ?_⟩, by unfold tups; rw [List.length_map]; omega⟩
      · obtain ⟨l, rfl⟩ := mem x hx
        rw [Bool.and_eq_true, decide_eq_true_eq, keyLen_tup]
        refine ⟨flat_ints l, ?_⟩
        have hd := depth_tup l
        simp only [PyData.depth, PyData.depthAll, hd]
        omega
      · rw [List.all_eq_true]
        intro y hy
        obtain ⟨l, rfl⟩ := mem x hx
        obtain ⟨m, rfl⟩ := mem y hy
        rw [keyLen_tup, keyLen_tup]
        show PySem.W.alikeAll [.int l.length, tup l] [.int m.length, tup m] = true
        simp only [PySem.W.alikeAll, alike_int, alike_tup, Bool.and_self]
    show (if sortedByOk (tups ls) then some (PyData.list ((tups ls).mergeSort (PySem.W.dataLe false keyLenT))) else none) = _
    rw [ok, if_pos rfl]
    congr 2
    unfold tups
    exact (List.map_mergeSort (f := tup) fun a _ b _ => (keyLe a b).symm).symm
  · have h := pairwise_mergeSort (le := leL) leL_trans leL_total ls
    refine h.imp fun h => ?_
    unfold leL at h
    rw [decide_eq_true_eq] at h
    omega
section
variable (L : D) (z : Src)
def lE (ps : List (D × D)) (x2 x3 x4 x5 : Option D) : VL.Env := [some L, some (.dict ps), x2, x3, x4, x5]
noncomputable def lB : DS := (sSeq (sAsg 3 (eLc (iV (eC1 sortedD (aCons (eC1 listA (aCons (eVar 1) aNil)) aNil))) (gV 5) (tB (VL.e2 inA (VL.e2 ixA (eVar 5) (eC (.int 0))) (eVar 2))) (eVar 5) [5])) (sSeq (sAsg 4 (eIf (tB (VL.e2 eqD (eVar 3) (eLst aNil))) (VL.e2 ixA (eVar 2) (eC (.int 0))) (eTup (aCons (VL.e2 ixA (eVar 1) (VL.e2 ixA (eVar 3) (eC (.int 0)))) (aCons (VL.e2 ixA (eVar 1) (VL.e2 ixA (eVar 3) (eC (.int 1)))) aNil))))) (sSeq (sFor (iV (eVar 3)) (gV 5) (sDo (xPopD 1 (eVar 5)))) (sStore 1 (eVar 2) (eVar 4)))))
theorem pop_loop (x2 x3 x4 : Option D) : ∀ (ws qs : List Tr) (x5 : Option D), Inj qs → (∀ w ∈ ws, w ∈ qs) → ws.Nodup →
    ∃ y5, loopF (gV 5) (sDo (xPopD 1 (eVar 5))) (ws.map fun q => tup (shires q)) (lE L (ent qs) x2 x3 x4 x5) z = some (.nx (lE L (ent (qs.filter fun q => decide (shires q ∉ ws.map shires))) x2 x3 x4 y5), z)
  | [], qs, x5, _, _, _ => by
    refine ⟨x5, ?_⟩
    have : (qs.filter fun q => decide (shires q ∉ ([] : List Tr).map shires)) = qs := List.filter_eq_self.mpr fun q _ => by simp
    rw [this]
    rfl
  | w :: ws, qs, x5, hi, hw, hn => by
    have wm := hw w List.mem_cons_self
    have hn' := List.nodup_cons.mp hn
    have hi2 : Inj (qs.filter fun a => decide (shires a ≠ shires w)) := fun x hx y hy e => hi x (List.mem_filter.mp hx).1 y (List.mem_filter.mp hy).1 e
    obtain ⟨y5, e⟩ := pop_loop x2 x3 x4 ws (qs.filter fun a => decide (shires a ≠ shires w)) (some (tup (shires w))) hi2 (fun v hv => by
      rw [List.mem_filter, decide_eq_true_eq]
      refine ⟨hw v (List.mem_cons_of_mem _ hv), fun e => hn'.1 ?_⟩
      exact hi v (hw v (List.mem_cons_of_mem _ hv)) w wm e ▸ hv) hn'.2
    refine ⟨y5, ?_⟩
    rw [List.map_cons]
    have ex : sDo (xPopD 1 (eVar 5)) (lE L (ent qs) x2 x3 x4 (some (tup (shires w)))) z = some (.nx (lE L (ent (qs.filter fun a => decide (shires a ≠ shires w))) x2 x3 x4 (some (tup (shires w)))), z) := by
      rw [← del_ent]
      exact sDo_run (xPopD_run rfl (var_run rfl) (keyOf_tup _) (dGet_ent qs hi w wm))
    rw [loop_nx (ρ1 := lE L (ent qs) x2 x3 x4 (some (tup (shires w)))) rfl ex, e]
    congr 4
    rw [List.filter_filter]
    congr 1
    refine List.filter_congr fun q _ => ?_
    rw [← Bool.decide_and]
    refine decide_eq_decide.mpr ?_
    simp only [List.map_cons, List.mem_cons, not_or]
    exact And.comm
theorem lan_step {t p : Tr} {Q1 Q2 qs : List Tr} (S : Seq t (Q1 ++ p :: Q2)) (T : Top Q1 qs) (hl : qs.length ≤ 900) (hs : Sm t) (x3 x4 x5 : Option D) :
    ∃ y3 y4 y5, lB (lE L (ent qs) (some (tup (shires p))) x3 x4 x5) z = some (.nx (lE L (ent (nextQ qs p)) (some (tup (shires p))) y3 y4 y5), z) := by
  have hi := inj_of S.nd (S.topIn T)
  have hnew := S.new T
  -- the keys, sorted
  obtain ⟨qs', q1, q2⟩ := perm_lift shires (srtL_perm (qs.map shires)) rfl
  have hsort : sortedD [.list (qs.map fun q => tup (shires q))] = some (.list (qs'.map fun q => tup (shires q))) := by
    have e1 : (qs.map fun q => tup (shires q)) = tups (qs.map shires) := by unfold tups; rw [List.map_map]; rfl
    have e2 : (qs'.map fun q => tup (shires q)) = tups (qs'.map shires) := by unfold tups; rw [List.map_map]; rfl
    rw [e1, e2, q2]
    exact sorted_tups _ (by rw [List.length_map]; omega) fun l hl => by
      obtain ⟨q, _, rfl⟩ := List.mem_map.mp hl
      exact shires_ne q
  have hl' : qs'.length ≤ 1000 := by rw [q1.length_eq]; omega
  have el : eLc (iV (eC1 sortedD (aCons (eC1 listA (aCons (eVar 1) aNil)) aNil))) (gV 5) (tB (VL.e2 inA (VL.e2 ixA (eVar 5) (eC (.int 0))) (eVar 2))) (eVar 5) [5] (lE L (ent qs) (some (tup (shires p))) x3 x4 x5) z = some (.list ((withinQ qs' p).map fun q => tup (shires q)), z) := by
    refine lc_if (en := fun q => tup (shires q)) qs' (iV_run (eC1_run (cons_run (eC1_run (cons_run (var_run rfl) nil_run) (d := .list (qs.map fun q => tup (shires q))) ?_) nil_run) hsort) rfl) hl' fun q hq => ⟨lE L (ent qs) (some (tup (shires p))) x3 x4 (some (tup (shires q))), rfl, ?_, fun _ => var_run rfl⟩
    · show some (PyData.list ((ent qs).map (·.1))) = _
      rw [keys_ent]
    · exact tB_run (e2_run (e2_run (var_run rfl) rfl (hd_ix q)) (var_run rfl) (begins_in q _))
  have wp : withinQ qs' p ~ kids p := (List.Perm.filter _ q1).trans (S.within T)
  have wm : ∀ w ∈ withinQ qs' p, w ∈ qs := fun w hw => q1.mem_iff.mp (List.mem_filter.mp hw).1
  have wn : (withinQ qs' p).Nodup := wp.nodup_iff.mpr (kids_nodup (parts_ND S.pmem S.nd))
  -- what stays
  have stay : (qs.filter fun q => decide (shires q ∉ (withinQ qs' p).map shires)) = qs.filter fun q => !decide (hd (shires q) ∈ leaves p) := by
    refine List.filter_congr fun q hq => ?_
    rw [← decide_not]
    refine decide_eq_decide.mpr (not_congr ?_)
    rw [List.mem_map]
    constructor
    · rintro ⟨w, h1, h2⟩
      have := hi w (wm w h1) q hq h2
      subst this
      have := (List.mem_filter.mp h1).2
      rwa [decide_eq_true_eq] at this
    · intro h
      exact ⟨q, List.mem_filter.mpr ⟨q1.mem_iff.mpr hq, decide_eq_true h⟩, rfl⟩
  -- the rest of the body, once the plan is told
  have rest : ∀ (ws : List Tr), withinQ qs' p = ws → eIf (tB (VL.e2 eqD (eVar 3) (eLst aNil))) (VL.e2 ixA (eVar 2) (eC (.int 0))) (eTup (aCons (VL.e2 ixA (eVar 1) (VL.e2 ixA (eVar 3) (eC (.int 0)))) (aCons (VL.e2 ixA (eVar 1) (VL.e2 ixA (eVar 3) (eC (.int 1)))) aNil))) (lE L (ent qs) (some (tup (shires p))) (some (.list (ws.map fun q => tup (shires q)))) x4 x5) z = some (enc (form p), z) →
      ∃ y3 y4 y5, lB (lE L (ent qs) (some (tup (shires p))) x3 x4 x5) z = some (.nx (lE L (ent (nextQ qs p)) (some (tup (shires p))) y3 y4 y5), z) := fun ws hw e4 => by
    rw [hw] at el wm wn stay
    obtain ⟨y5, ep⟩ := pop_loop L z (some (tup (shires p))) (some (.list (ws.map fun q => tup (shires q)))) (some (enc (form p))) ws qs x5 hi wm wn
    refine ⟨some (.list (ws.map fun q => tup (shires q))), some (enc (form p)), y5, ?_⟩
    have a1 : sAsg 3 (eLc (iV (eC1 sortedD (aCons (eC1 listA (aCons (eVar 1) aNil)) aNil))) (gV 5) (tB (VL.e2 inA (VL.e2 ixA (eVar 5) (eC (.int 0))) (eVar 2))) (eVar 5) [5]) (lE L (ent qs) (some (tup (shires p))) x3 x4 x5) z = some (.nx (lE L (ent qs) (some (tup (shires p))) (some (.list (ws.map fun q => tup (shires q)))) x4 x5), z) := asg_run el
    have a2 : sAsg 4 (eIf (tB (VL.e2 eqD (eVar 3) (eLst aNil))) (VL.e2 ixA (eVar 2) (eC (.int 0))) (eTup (aCons (VL.e2 ixA (eVar 1) (VL.e2 ixA (eVar 3) (eC (.int 0)))) (aCons (VL.e2 ixA (eVar 1) (VL.e2 ixA (eVar 3) (eC (.int 1)))) aNil)))) (lE L (ent qs) (some (tup (shires p))) (some (.list (ws.map fun q => tup (shires q)))) x4 x5) z = some (.nx (lE L (ent qs) (some (tup (shires p))) (some (.list (ws.map fun q => tup (shires q)))) (some (enc (form p))) x5), z) := asg_run e4
    have a3 : sFor (iV (eVar 3)) (gV 5) (sDo (xPopD 1 (eVar 5))) (lE L (ent qs) (some (tup (shires p))) (some (.list (ws.map fun q => tup (shires q)))) (some (enc (form p))) x5) z = some (.nx (lE L (ent (qs.filter fun q => !decide (hd (shires q) ∈ leaves p))) (some (tup (shires p))) (some (.list (ws.map fun q => tup (shires q)))) (some (enc (form p))) y5), z) := by
      rw [← stay]
      exact (for_run (iV_run (var_run rfl) rfl)).trans ep
    have a4 : sStore 1 (eVar 2) (eVar 4) (lE L (ent (qs.filter fun q => !decide (hd (shires q) ∈ leaves p))) (some (tup (shires p))) (some (.list (ws.map fun q => tup (shires q)))) (some (enc (form p))) y5) z = some (.nx (lE L (ent (nextQ qs p)) (some (tup (shires p))) (some (.list (ws.map fun q => tup (shires q)))) (some (enc (form p))) y5), z) := by
      refine store_run (var_run rfl) (var_run rfl) rfl (store_ent _ p (fun q hq => hnew q (List.mem_filter.mp hq).1) ?_)
      exact Nat.le_trans (List.length_filter_le _ _) (by omega)
    exact (seq_nx a1).trans ((seq_nx a2).trans ((seq_nx a3).trans a4))
  cases p with
  | lf i =>
    have hw : withinQ qs' (.lf i) = [] := List.perm_nil.mp wp
    refine rest [] hw ?_
    have et : tB (VL.e2 eqD (eVar 3) (eLst aNil)) (lE L (ent qs) (some (tup (shires (.lf i)))) (some (.list [])) x4 x5) z = some (true, z) := tB_run (e2_run (var_run rfl) (eLst_run nil_run) rfl)
    refine (eIf_t et).trans (e2_run (var_run rfl) rfl ?_)
    rw [shires_leaf]
    rfl
  | nd a b =>
    have np := parts_ND S.pmem S.nd
    have ma : a ∈ qs := S.kidTop T (by simp [kids])
    have mb : b ∈ qs := S.kidTop T (by simp [kids])
    -- the two, the lesser first
    have two : ∀ (c d : Tr), c ∈ qs → d ∈ qs → withinQ qs' (.nd a b) = [c, d] → enc (form (.nd a b)) = .tuple [enc (form c), enc (form d)] →
        ∃ y3 y4 y5, lB (lE L (ent qs) (some (tup (shires (.nd a b)))) x3 x4 x5) z = some (.nx (lE L (ent (nextQ qs (.nd a b))) (some (tup (shires (.nd a b)))) y3 y4 y5), z) := fun c d hc hd' hw ef => by
      refine rest [c, d] hw ?_
      have et : tB (VL.e2 eqD (eVar 3) (eLst aNil)) (lE L (ent qs) (some (tup (shires (.nd a b)))) (some (.list ([c, d].map fun q => tup (shires q)))) x4 x5) z = some (false, z) := by
        refine tB_run (e2_run (var_run rfl) (eLst_run nil_run) ?_)
        have h1 : okD (.list ([c, d].map fun q => tup (shires q))) = true := by
          have e : ([c, d].map fun q => tup (shires q)) = tups [shires c, shires d] := rfl
          rw [e]
          exact okD_tups _
        unfold eqD
        rw [h1, okD_nil]
        rfl
      rw [ef]
      exact (eIf_f et).trans (eTup_run (cons_run (e2_run (var_run rfl) (e2_run (var_run rfl) rfl rfl) (ix_ent qs hi c hc)) (cons_run (e2_run (var_run rfl) (e2_run (var_run rfl) rfl rfl) (ix_ent qs hi d hd')) nil_run)))
    have srt : ∀ c d, withinQ qs' (.nd a b) = [c, d] → shires c ≤ shires d := fun c d hw => by
      have h1 := srtL_pw (qs.map shires)
      rw [← q2, List.pairwise_map] at h1
      have h2 : (withinQ qs' (.nd a b)).Pairwise fun a b => shires a ≤ shires b := h1.filter _
      rw [hw] at h2
      simpa using h2
    have ne := shires_kids np
    rcases perm_pair wp with hw | hw
    · refine two a b ma mb hw ?_
      have h1 : shires a < shires b := Decidable.byContradiction fun c => ne (List.le_antisymm (srt a b hw) (List.not_lt.mp c))
      show enc (pair (form a) (form b)) = _
      unfold pair
      rw [shires_form, shires_form, if_pos h1]
      rfl
    · refine two b a mb ma hw ?_
      have h1 : ¬ shires a < shires b := fun c => List.not_lt.mpr (srt b a hw) c
      show enc (pair (form a) (form b)) = _
      unfold pair
      rw [shires_form, shires_form, if_neg h1]
      rfl
theorem lan_loop {t : Tr} (hs : Sm t) : ∀ (Q2 Q1 qs : List Tr) (x2 x3 x4 x5 : Option D), Seq t (Q1 ++ Q2) → Top Q1 qs → qs.length ≤ Q1.length →
    ∃ y2 y3 y4 y5, loopF (gV 2) lB (Q2.map fun q => tup (shires q)) (lE L (ent qs) x2 x3 x4 x5) z = some (.nx (lE L (ent [t]) y2 y3 y4 y5), z)
  | [], Q1, qs, x2, x3, x4, x5, S, T, _ => by
    rw [List.append_nil] at S
    rw [S.last T]
    exact ⟨x2, x3, x4, x5, rfl⟩
  | p :: Q2, Q1, qs, x2, x3, x4, x5, S, T, hl => by
    have hq : (Q1 ++ p :: Q2).length ≤ 400 := by
      rw [S.perm.length_eq, parts_len]; exact hs.sz
    rw [List.length_append, List.length_cons] at hq
    obtain ⟨y3, y4, y5, e⟩ := lan_step L z S T (by omega) hs x3 x4 x5
    rw [List.map_cons, loop_nx (ρ1 := lE L (ent qs) (some (tup (shires p))) x3 x4 x5) rfl e]
    have e2 : Q1 ++ p :: Q2 = (Q1 ++ [p]) ++ Q2 := by simp
    refine lan_loop hs Q2 (Q1 ++ [p]) (nextQ qs p) _ y3 y4 y5 (e2 ▸ S) (S.next T) ?_
    unfold nextQ
    have := List.length_filter_le (fun q => !decide (hd (shires q) ∈ leaves p)) qs
    simp only [List.length_append, List.length_cons, List.length_nil]
    omega
end
theorem eSortBy_run {P : Addr} {q : Str} {f : DE} {ρ : VL.Env} {z : Src} {st : SrcSt} {dx d : D} (e : f ρ z = some (dx, some st)) (ok : tbOk P q st.tb) (e2 : sortedByD dx = some d) : eSortBy P q f ρ z = some (d, some st) := by
  unfold eSortBy
  rw [e]
  simp only [Option.bind_some, if_pos ok, e2, Option.map_some]
/-- _law_plan_by -/
theorem law_plan_run {Pt : Addr} {t : Tr} {n : Nat} (h : leaves t ~ upto n) (hs : Sm t) {st : SrcSt} (ok : tbOk Pt "_law_plan_by.<locals>.<lambda>" st.tb) : d__law_plan_by Pt [.tuple (tups (lots t))] (some st) = some (enc (form t), some st) := by
  have nt : ND t := h.nodup_iff.mpr (upto_nodup n)
  have hlen : (lots t).length ≤ 400 := by
    unfold lots
    rw [(srtL_perm _).length_eq, List.length_map, parts_len]; exact hs.sz
  obtain ⟨L, l1, l2, l3⟩ := sortBy_run (lots t) (by omega)
  obtain ⟨Q, S, hQ⟩ := seq_of nt l2 l3
  obtain ⟨y2, y3, y4, y5, e⟩ := lan_loop (.tuple (tups (lots t))) (some st) hs Q [] [] none none none none S Top.nil (Nat.le_refl _)
  have ef : sFor (iV (eSortBy Pt "_law_plan_by.<locals>.<lambda>" (eVar 0))) (gV 2) lB (lE (.tuple (tups (lots t))) [] none none none none) (some st) = loopF (gV 2) lB (Q.map fun q => tup (shires q)) (lE (.tuple (tups (lots t))) [] none none none none) (some st) := by
    refine for_run (iV_run (eSortBy_run (var_run rfl) ok l1) ?_)
    rw [← hQ]
    unfold tups
    rw [List.map_map]
    rfl
  have e0 : sAsg 1 (eC (.dict [])) [some (.tuple (tups (lots t))), none, none, none, none, none] (some st) = some (.nx (lE (.tuple (tups (lots t))) [] none none none none), some st) := rfl
  have er : sRet (VL.e2 ixA (e1 valsD (eVar 1)) (eC (.int 0))) (lE (.tuple (tups (lots t))) (ent [t]) y2 y3 y4 y5) (some st) = some (.rt (enc (form t)), some st) :=
    ret_run (e2_run (e1_run (var_run rfl) rfl) rfl rfl)
  have eb : b__law_plan_by Pt [some (.tuple (tups (lots t))), none, none, none, none, none] (some st) = some (.rt (enc (form t)), some st) :=
    (seq_nx e0).trans ((seq_nx (ef.trans e)).trans er)
  show runF 6 1 (b__law_plan_by Pt) [.tuple (tups (lots t))] (some st) = endF (.rt (enc (form t)), some st)
  exact runF_run rfl (by rfl) eb
end PL
set_option Elab.async false
set_option linter.all false
set_option maxRecDepth 100000
set_option maxHeartbeats 4000000
/-! The plain law of k47: all lots; drawn plans; turned plans. -/
namespace PL
open PySem VL G47 List
theorem subs_in : ∀ {n : Nat} {l : List Int}, l ∈ subs n → l.length ≤ n
  | 0, l, h => by
    have : l = [] := by simpa [subs] using h
    subst this
    exact Nat.le_refl _
  | n + 1, l, h => by
    rw [subs, List.mem_append] at h
    rcases h with h | h
    · exact Nat.le_succ_of_le (subs_in h)
    · obtain ⟨m, hm, rfl⟩ := List.mem_map.mp h
      have := subs_in hm
      rw [List.length_append]
      simp only [List.length_cons, List.length_nil]
      omega
theorem Lot.len {n : Nat} {l : List Int} (h : Lot n l) : l.length ≤ n := subs_in (mem_subs.mpr ⟨h.pw, h.rg⟩)
theorem add_tups (a b : List (List Int)) (h : a.length + b.length ≤ 1000) : addD (.list (tups a)) (.list (tups b)) = some (.list (tups (a ++ b))) := by
  have lb := line_big
  show (if (tups a).length + (tups b).length ≤ sizeLine then some (PyData.list (tups a ++ tups b)) else none) = _
  rw [if_pos (by simp only [tups, List.length_map]; omega)]
  simp [tups]
theorem add_tupsT (a b : List (List Int)) (h : a.length + b.length ≤ 1000) : addD (.tuple (tups a)) (.tuple (tups b)) = some (.tuple (tups (a ++ b))) := by
  have lb := line_big
  show (if (tups a).length + (tups b).length ≤ sizeLine then some (PyData.tuple (tups a ++ tups b)) else none) = _
  rw [if_pos (by simp only [tups, List.length_map]; omega)]
  simp [tups]
theorem add_tup (a b : List Int) (h : a.length + b.length ≤ 1000) : addD (tup a) (tup b) = some (tup (a ++ b)) := by
  have lb := line_big
  show (if (iDs a).length + (iDs b).length ≤ sizeLine then some (PyData.tuple (iDs a ++ iDs b)) else none) = _
  rw [if_pos (by simp only [iDs, List.length_map]; omega)]
  simp [iDs, tup]
theorem rg1_run (n : Nat) (h : n ≤ 1000) : iRg1 [.int n] = some ((List.range' 0 n).map fun (j : Nat) => PyData.int j) := by
  have hb := big62_small (n := n) (by omega)
  unfold iRg1
  simp only [hb, if_true, Int.toNat_natCast]
  have := rangeD_nat 0 n
  exact congrArg some this
theorem sl_run {f : DE} {fl fh : DP} {ρ : VL.Env} {z z1 z2 z3 : Src} {x d : D} {l h : Option Int} (e1 : f ρ z = some (x, z1)) (e2 : fl ρ z1 = some (l, z2)) (e3 : fh ρ z2 = some (h, z3)) (e4 : slD x l h = some d) : eSl f fl fh ρ z = some (d, z3) := by
  unfold eSl
  rw [e1]
  simp only [Option.bind_some, e2, e3, e4, Option.map_some]
section
variable (n : Nat) (z : Src)
def aE (fs : List (List Int)) (x2 x3 : Option D) : VL.Env := [some (.int n), some (.list (tups fs)), x2, x3]
noncomputable def aB : DS := sAsg 1 (VL.e2 addD (eVar 1) (eLc (iV (eVar 1)) (gV 3) tTrue (VL.e2 addD (eVar 3) (eTup (aCons (eVar 2) aNil))) [3]))
theorem all_step (k : Nat) (h : 2 ^ (k + 1) ≤ 1000) (hk : k ≤ 900) (x2 x3 : Option D) : aB (aE n (subs k) (some (.int k)) none) z = some (.nx (aE n (subs (k + 1)) (some (.int k)) none), z) := by
  have hl := subs_len k
  have hp : 2 ^ (k + 1) = 2 * 2 ^ k := by rw [Nat.pow_succ]; omega
  have el : eLc (iV (eVar 1)) (gV 3) tTrue (VL.e2 addD (eVar 3) (eTup (aCons (eVar 2) aNil))) [3] (aE n (subs k) (some (.int k)) none) z = some (.list ((subs k).map fun l => tup (l ++ [(k : Int)])), z) := by
    refine lc_all (en := tup) (subs k) (iV_run (var_run rfl) rfl) (by omega) fun l hm => ⟨aE n (subs k) (some (.int k)) (some (tup l)), rfl, ?_⟩
    refine e2_run (var_run rfl) (eTup_run (cons_run (var_run rfl) nil_run)) ?_
    have := subs_in hm
    exact add_tup l [(k : Int)] (by simp only [List.length_cons, List.length_nil]; omega)
  have e2 : ((subs k).map fun l => tup (l ++ [(k : Int)])) = tups ((subs k).map (· ++ [(k : Int)])) := by unfold tups; rw [List.map_map]; rfl
  rw [e2] at el
  refine (asg_run (e2_run (var_run rfl) el (add_tups _ _ ?_))).trans rfl
  rw [List.length_map]
  omega
theorem all_loop : ∀ (m k : Nat) (x2 : Option D), 2 ^ (k + m) ≤ 1000 → k + m ≤ 900 → ∃ y2, loopF (gV 2) aB ((List.range' k m).map fun (j : Nat) => PyData.int j) (aE n (subs k) x2 none) z = some (.nx (aE n (subs (k + m)) y2 none), z)
  | 0, k, x2, _, _ => ⟨x2, rfl⟩
  | m + 1, k, x2, h, hk => by
    have h1 : 2 ^ (k + 1) ≤ 1000 := Nat.le_trans (Nat.pow_le_pow_right (by omega) (by omega)) h
    have es := all_step n z k h1 (by omega) x2 none
    have e1 : k + (m + 1) = (k + 1) + m := by omega
    obtain ⟨y2, e⟩ := all_loop m (k + 1) (some (.int k)) (by rw [← e1]; exact h) (by omega)
    refine ⟨y2, ?_⟩
    rw [List.range'_succ, List.map_cons, loop_nx (ρ1 := aE n (subs k) (some (.int k)) none) rfl es, e, e1]
theorem all_run' (h : 2 ^ n ≤ 1000) (hn : n ≤ 900) : d__law_all_lots [.int n] z = some (.list (tups (allLots n)), z) := by
  obtain ⟨y2, e⟩ := all_loop n z n 0 none (by simpa using h) (by omega)
  have e0 : sAsg 1 (eLst (aCons (eTup aNil) aNil)) [some (.int n), none, none, none] z = some (.nx (aE n (subs 0) none none), z) := rfl
  have ef : sFor (iRange iRg1 (aCons (eVar 0) aNil)) (gV 2) aB (aE n (subs 0) none none) z = loopF (gV 2) aB ((List.range' 0 n).map fun (j : Nat) => PyData.int j) (aE n (subs 0) none none) z :=
    for_run (iRange_run (cons_run (var_run rfl) nil_run) (rg1_run n (by omega)))
  have e1 : 0 + n = n := Nat.zero_add n
  rw [e1] at e
  have er : sRet (eSl (eVar 1) (pSome (eC (.int 1))) pNone) (aE n (subs n) y2 none) z = some (.rt (.list (tups (allLots n))), z) := by
    refine ret_run (sl_run (var_run rfl) rfl rfl (l := some 1) (h := none) ?_)
    show some (PyData.list (cutD (tups (subs n)) (some 1) none)) = _
    rw [cut_tail, subs_cons]
    rfl
  have eb : b__law_all_lots [some (.int n), none, none, none] z = some (.rt (.list (tups (allLots n))), z) := (seq_nx e0).trans ((seq_nx (ef.trans e)).trans er)
  show runF 4 1 b__law_all_lots [.int n] z = endF (.rt (.list (tups (allLots n))), z)
  exact runF_run rfl (by rfl) eb
end
theorem dep_lc : ∀ t : Tr, dep t + 1 ≤ lc t
  | .lf _ => Nat.le_refl _
  | .nd a b => by
    have h1 := dep_lc a
    have h2 := dep_lc b
    have h3 := leaves_pos a
    have h4 := leaves_pos b
    have h5 := lc_nd a b
    simp only [dep, lc] at *
    omega
theorem Sm.of {t : Tr} (h : lc t ≤ 30) : Sm t := by
  have h1 := sz_lc t
  have h2 := dep_lc t
  exact ⟨by omega, by omega⟩
theorem G.mono {B B' : Nat} {tb : List (Addr × Str)} {st : SrcSt} (h : G B tb st) (hb : B ≤ B') : G B' tb st := ⟨h.lo, Int.le_trans h.hi (by omega), h.len, h.tb⟩
theorem xTup2_run {f h : DX} {ρ ρ1 ρ2 : VL.Env} {z z1 z2 : Src} {d1 d2 : D} (e1 : f ρ z = some (d1, ρ1, z1)) (e2 : h ρ1 z1 = some (d2, ρ2, z2)) : xTup2 f h ρ z = some (.tuple [d1, d2], ρ2, z2) := by
  unfold xTup2
  rw [e1]
  simp only [Option.bind_some, e2, Option.map_some]
section
variable (sh : D) {tb : List (Addr × Str)}
def dE (ts : List Tr) (x3 x4 : Option D) : VL.Env := [none, some sh, some (.list (ts.map enc)), x3, x4]
noncomputable def dB : DS := sSeq (sAsgX 4 (popF 2 d__law_pick)) (sDo (xAppend 2 (xTup2 (xV (eVar 4)) (popF 2 d__law_pick))))
theorem draw_step {B : Nat} {st : SrcSt} (ts : List Tr) (h2 : 2 ≤ ts.length) (hl : ts.length ≤ 900) (h : G B tb st) (hB : B ≤ 900000) (x3 x4 : Option D) :
    ∃ ts' y4 st', dB (dE sh ts x3 x4) (some st) = some (.nx (dE sh ts' x3 y4), some st') ∧ ts'.length + 1 = ts.length ∧ ts'.flatMap leaves ~ ts.flatMap leaves ∧ G (B + 2) tb st' := by
  have lb := line_big
  obtain ⟨r, hr, st1, e1, g1⟩ := popE_run enc 2 (dE sh ts x3 x4) ts rfl (by omega) (by omega) h (by omega)
  have le1 : (ts.eraseIdx r).length = ts.length - 1 := List.length_eraseIdx_of_lt hr
  obtain ⟨r2, hr2, st2, e2, g2⟩ := popE_run enc 2 (dE sh (ts.eraseIdx r) x3 (some (enc ts[r]))) (ts.eraseIdx r) rfl (by omega) (by omega) g1 (by omega)
  have le2 : ((ts.eraseIdx r).eraseIdx r2).length = (ts.eraseIdx r).length - 1 := List.length_eraseIdx_of_lt hr2
  refine ⟨(ts.eraseIdx r).eraseIdx r2 ++ [.nd ts[r] (ts.eraseIdx r)[r2]], some (enc ts[r]), st2, ?_, ?_, ?_, g2⟩
  · have a1 : sAsgX 4 (popF 2 d__law_pick) (dE sh ts x3 x4) (some st) = some (.nx (dE sh (ts.eraseIdx r) x3 (some (enc ts[r]))), some st1) := (asgX_run e1).trans rfl
    have a2 : xTup2 (xV (eVar 4)) (popF 2 d__law_pick) (dE sh (ts.eraseIdx r) x3 (some (enc ts[r]))) (some st1) = some (.tuple [enc ts[r], enc (ts.eraseIdx r)[r2]], dE sh ((ts.eraseIdx r).eraseIdx r2) x3 (some (enc ts[r])), some st2) := xTup2_run (xV_run (var_run rfl)) e2
    have a3 : xAppend 2 (xTup2 (xV (eVar 4)) (popF 2 d__law_pick)) (dE sh (ts.eraseIdx r) x3 (some (enc ts[r]))) (some st1) = some (.none, dE sh ((ts.eraseIdx r).eraseIdx r2 ++ [.nd ts[r] (ts.eraseIdx r)[r2]]) x3 (some (enc ts[r])), some st2) := by
      have a4 := xAppend_run (i := 2) (lstAt_of (ρ := dE sh (ts.eraseIdx r) x3 (some (enc ts[r]))) rfl) a2 (lstAt_of rfl) (by rw [List.length_map]; omega)
      rw [a4]
      unfold dE
      simp only [List.map_append, List.map_cons, List.map_nil, enc, List.set_cons_succ, List.set_cons_zero]
    exact (seq_nx a1).trans (sDo_run a3)
  · rw [List.length_append, le2, le1]
    simp only [List.length_cons, List.length_nil]
    omega
  · have p1 := (erase_perm (ts.eraseIdx r) r2 hr2)
    have p2 := erase_perm ts r hr
    have p3 : ts[r] :: (ts.eraseIdx r)[r2] :: (ts.eraseIdx r).eraseIdx r2 ~ ts := (p1.cons _).trans p2
    refine Perm.trans ?_ (p3.flatMap_right leaves)
    simp only [List.flatMap_append, List.flatMap_cons, List.flatMap_nil, List.append_nil, leaves]
    refine perm_append_comm.trans ?_
    rw [← List.append_assoc]
    exact perm_append_comm.append_right _
theorem draw_loop : ∀ (ks : List D) (ts : List Tr) (B : Nat) (st : SrcSt) (x3 x4 : Option D), ks.length + 1 = ts.length → ts.length ≤ 100 → G B tb st → B + 2 * ts.length ≤ 900000 →
    ∃ t y3 y4 st', loopF (gV 3) dB ks (dE sh ts x3 x4) (some st) = some (.nx (dE sh [t] y3 y4), some st') ∧ leaves t ~ ts.flatMap leaves ∧ G (B + 2 * ts.length) tb st'
  | [], ts, B, st, x3, x4, h1, h2, h3, _ => by
    match ts, h1 with
    | [t], _ => exact ⟨t, x3, x4, st, rfl, by simp, h3.mono (by omega)⟩
  | k :: ks, ts, B, st, x3, x4, h1, h2, h3, h4 => by
    rw [List.length_cons] at h1
    obtain ⟨ts', y4, st1, e1, l1, p1, g1⟩ := draw_step sh ts (by omega) (by omega) h3 (by omega) (some k) x4
    obtain ⟨t, z3, z4, st2, e2, p2, g2⟩ := draw_loop ks ts' (B + 2) st1 (some k) y4 (by omega) (by omega) g1 (by omega)
    refine ⟨t, z3, z4, st2, ?_, p2.trans p1, g2.mono (by omega)⟩
    rw [loop_nx (ρ1 := dE sh ts (some k) x4) rfl e1, e2]
end
theorem flat_leaves : ∀ xs : List Int, (xs.map Tr.lf).flatMap leaves = xs
  | [] => rfl
  | x :: xs => by
    rw [List.map_cons, List.flatMap_cons, flat_leaves xs]
    rfl
/-- _law_draw_plan -/
theorem draw_run {B : Nat} {tb : List (Addr × Str)} {st : SrcSt} (n : Nat) (h0 : 0 < n) (hn : n ≤ 30) (h : G B tb st) (hB : B ≤ 800000) :
    ∃ t st', d__law_draw_plan [.list (iDs (upto n))] (some st) = some (enc t, some st') ∧ leaves t ~ upto n ∧ G (B + 60) tb st' := by
  have hu : (upto n).length = n := by unfold upto; rw [List.length_map, List.length_range]
  have en : iDs (upto n) = ((upto n).map Tr.lf).map enc := by
    unfold iDs
    rw [List.map_map]
    rfl
  obtain ⟨t, y3, y4, st', e1, p1, g1⟩ := draw_loop (tb := tb) (.list (iDs (upto n))) ((List.range' 0 (n - 1)).map fun (j : Nat) => PyData.int j) ((upto n).map Tr.lf) B st none none (by rw [List.length_map, List.length_range', List.length_map, hu]; omega) (by rw [List.length_map, hu]; omega) h (by rw [List.length_map, hu]; omega)
  rw [flat_leaves] at p1
  rw [List.length_map, hu] at g1
  refine ⟨t, st', ?_, p1, g1.mono (by omega)⟩
  have e0 : sAsg 2 (eC1 listA (aCons (eVar 1) aNil)) [none, some (.list (iDs (upto n))), none, none, none] (some st) = some (.nx (dE (.list (iDs (upto n))) ((upto n).map Tr.lf) none none), some st) := by
    have e := asg_run (i := 2) (eC1_run (op := listA) (cons_run (var_run (ρ := [none, some (.list (iDs (upto n))), none, none, none]) (i := 1) (z := some st) rfl) nil_run) (d := .list (iDs (upto n))) rfl)
    rw [e]
    unfold dE
    rw [← en]
    rfl
  have ef : sFor (iRange iRg1 (aCons (VL.e2 subD (eC1 lenD (aCons (eVar 1) aNil)) (eC (.int 1))) aNil)) (gV 3) dB (dE (.list (iDs (upto n))) ((upto n).map Tr.lf) none none) (some st) = loopF (gV 3) dB ((List.range' 0 (n - 1)).map fun (j : Nat) => PyData.int j) (dE (.list (iDs (upto n))) ((upto n).map Tr.lf) none none) (some st) := by
    refine for_run (iRange_run (cons_run (e2_run (eC1_run (cons_run (var_run rfl) nil_run) (lenD_iDs _)) rfl (d := .int ((n - 1 : Nat) : Int)) ?_) nil_run) (rg1_run (n - 1) (by omega)))
    show some (PyData.int (((upto n).length : Int) - 1)) = _
    rw [hu]
    congr 2
    omega
  have er : sRet (VL.e2 ixA (eVar 2) (eC (.int 0))) (dE (.list (iDs (upto n))) [t] y3 y4) (some st') = some (.rt (enc t), some st') := ret_run (e2_run (var_run rfl) rfl rfl)
  have eb : b__law_draw_plan [none, some (.list (iDs (upto n))), none, none, none] (some st) = some (.rt (enc t), some st') := (seq_nx e0).trans ((seq_nx (ef.trans e1)).trans er)
  show runS 5 1 b__law_draw_plan [.list (iDs (upto n))] (some st) = endF (.rt (enc t), some st')
  exact runS_run rfl (by rfl) eb
/-- _law_turned -/
theorem turned_run {tb : List (Addr × Str)} : ∀ (t : Tr) (j B : Nat) (st : SrcSt), sz t ≤ 400 → dep t < j → G B tb st → B + sz t ≤ 900000 →
    ∃ t' st', d__law_turned_n j [enc t] (some st) = some (enc t', some st') ∧ leaves t' ~ leaves t ∧ G (B + sz t) tb st'
  | t, 0, B, st, _, h, _, _ => absurd h (Nat.not_lt_zero _)
  | .lf i, j + 1, B, st, _, _, g, _ => by
    refine ⟨.lf i, st, ?_, .refl _, g.mono (Nat.le_add_right _ _)⟩
    have et : tNot (tB (e1 (isaD "tuple") (eVar 1))) [none, some (.int i), none, none] (some st) = some (true, some st) := tNot_run (b := false) (tB_run (e1_run (var_run rfl) (isa_tup_int i)))
    have eb : b__law_turned (d__law_turned_n j) [none, some (.int i), none, none] (some st) = some (.rt (.int i), some st) := seq_rt ((if_t et).trans (ret_run (var_run rfl)))
    show runS 4 1 (b__law_turned (d__law_turned_n j)) [.int i] (some st) = endF (.rt (.int i), some st)
    exact runS_run rfl (by rfl) eb
  | .nd a b, j + 1, B, st, h1, h2, g, hB => by
    simp only [sz, dep] at h1 h2 hB
    obtain ⟨a', st1, e1', p1, g1⟩ := turned_run a j B st (by omega) (by omega) g (by omega)
    obtain ⟨b', st2, e2', p2, g2⟩ := turned_run b j (B + sz a) st1 (by omega) (by omega) g1 (by omega)
    obtain ⟨r, st3, e3, g3, _⟩ := pick_run g2 (by omega) 2 (by omega)
    have hp := enc_plain (.nd a b)
    simp only [enc] at hp
    have et : tNot (tB (e1 (isaD "tuple") (eVar 1))) [none, some (.tuple [enc a, enc b]), none, none] (some st) = some (false, some st) := tNot_run (b := true) (tB_run (e1_run (var_run rfl) (isa_tup_tup _ _ hp)))
    have ep : sPar (pCons 2 (eCall (d__law_turned_n j) (aCons (VL.e2 ixA (eVar 1) (eC (.int 0))) aNil)) (pCons 3 (eCall (d__law_turned_n j) (aCons (VL.e2 ixA (eVar 1) (eC (.int 1))) aNil)) pNil)) [none, some (.tuple [enc a, enc b]), none, none] (some st) = some (.nx [none, some (.tuple [enc a, enc b]), some (enc a'), some (enc b')], some st2) := by
      have x1 : eCall (d__law_turned_n j) (aCons (VL.e2 ixA (eVar 1) (eC (.int 0))) aNil) [none, some (.tuple [enc a, enc b]), none, none] (some st) = some (enc a', some st1) := call_run (cons_run (e2_run (var_run rfl) rfl rfl) nil_run) e1'
      have x2 : eCall (d__law_turned_n j) (aCons (VL.e2 ixA (eVar 1) (eC (.int 1))) aNil) [none, some (.tuple [enc a, enc b]), none, none] (some st1) = some (enc b', some st2) := call_run (cons_run (e2_run (var_run rfl) rfl rfl) nil_run) e2'
      unfold sPar pCons pNil
      simp only [x1, x2, Option.bind_some, Option.map_some, List.set_cons_succ, List.set_cons_zero]
    have ek : tB (VL.e2 eqD (eCall d__law_pick (aCons (eC (.int 2)) aNil)) (eC (.int 0))) [none, some (.tuple [enc a, enc b]), some (enc a'), some (enc b')] (some st2) = some (decide ((r : Int) = 0), some st3) := tB_run (e2_run (call_run (cons_run rfl nil_run) e3) rfl (eqD_int _ _))
    have gg : G (B + sz (.nd a b)) tb st3 := g3.mono (by simp only [sz]; omega)
    by_cases c : (r : Int) = 0
    · rw [decide_eq_true c] at ek
      refine ⟨.nd a' b', st3, ?_, p2.append p1, gg⟩
      have eb : b__law_turned (d__law_turned_n j) [none, some (.tuple [enc a, enc b]), none, none] (some st) = some (.rt (.tuple [enc a', enc b']), some st3) :=
        (seq_nx ((if_f et).trans rfl)).trans ((seq_nx ep).trans (ret_run ((eIf_t ek).trans (eTup_run (cons_run (var_run rfl) (cons_run (var_run rfl) nil_run))))))
      show runS 4 1 (b__law_turned (d__law_turned_n j)) [.tuple [enc a, enc b]] (some st) = endF (.rt (.tuple [enc a', enc b']), some st3)
      exact runS_run rfl (by rfl) eb
    · rw [decide_eq_false c] at ek
      refine ⟨.nd b' a', st3, ?_, (p1.append p2).trans perm_append_comm, gg⟩
      have eb : b__law_turned (d__law_turned_n j) [none, some (.tuple [enc a, enc b]), none, none] (some st) = some (.rt (.tuple [enc b', enc a']), some st3) :=
        (seq_nx ((if_f et).trans rfl)).trans ((seq_nx ep).trans (ret_run ((eIf_f ek).trans (eTup_run (cons_run (var_run rfl) (cons_run (var_run rfl) nil_run))))))
      show runS 4 1 (b__law_turned (d__law_turned_n j)) [.tuple [enc a, enc b]] (some st) = endF (.rt (.tuple [enc b', enc a']), some st3)
      exact runS_run rfl (by rfl) eb
end PL
set_option Elab.async false
set_option linter.all false
set_option maxRecDepth 100000
set_option maxHeartbeats 4000000
/-! The plain law of k47: lots grown. -/
namespace PL
open PySem VL G47 List
theorem okD_str1 (s : Str) : okD (.tuple [.str s]) = true := by
  simp [okD, PyData.plain, PyData.plainAll, PyData.depth, PyData.depthAll]
theorem okD_many (k : Nat) : okD (manyD k) = true := by
  simp [manyD, okD, PyData.plain, PyData.plainAll, PyData.depth, PyData.depthAll]
theorem okD_cross (i j : Nat) : okD (crossD i j) = true := by
  simp [crossD, okD, PyData.plain, PyData.plainAll, PyData.depth, PyData.depthAll]
theorem neD_self {d : D} (h : okD d = true) (e : PyData.eqv d d = true) : neD d d = some (.bool false) := by
  unfold neD
  rw [h, e]
  rfl
theorem eqD_self {d : D} (h : okD d = true) (e : PyData.eqv d d = true) : eqD d d = some (.bool true) := by
  unfold eqD
  rw [h, e]
  rfl
theorem many_self (k : Nat) : neD (manyD k) (manyD k) = some (.bool false) := neD_self (okD_many k) (by simp [manyD, PyData.eqv, PyData.eqvAll])
theorem none_self : neD .none .none = some (.bool false) := by rfl
theorem form_self : neD formD formD = some (.bool false) := neD_self (okD_str1 _) (by simp [formD, PyData.eqv, PyData.eqvAll])
theorem cross_self (i j : Nat) : neD (crossD i j) (crossD i j) = some (.bool false) := neD_self (okD_cross i j) (by simp [crossD, PyData.eqv, PyData.eqvAll])
theorem fault_self (n : Int) (ls : List (List Int)) : neD (faultP n ls) (faultP n ls) = some (.bool false) := by
  unfold faultP
  split
  · split
    · split
      · exact cross_self _ _
      · split
        · exact none_self
        · exact many_self _
    · exact form_self
  · exact form_self
theorem okD_enc {t : Tr} (h : Sm t) : okD (enc t) = true := by
  unfold okD
  have := h.dep
  rw [enc_plain, enc_depth, Bool.true_and, decide_eq_true_eq]
  omega
theorem enc_self {t : Tr} (h : Sm t) : eqD (enc t) (enc t) = some (.bool true) := eqD_self (okD_enc h) ((eqv_enc t t).mpr rfl)
theorem tups_self (ls : List (List Int)) : eqD (.tuple (tups ls)) (.tuple (tups ls)) = some (.bool true) := eqD_self (okD_tupT ls) (by rw [eqv_tpl, eqvAll_tups]; simp)
theorem sorted_list (ls : List (List Int)) (h : ls.length ≤ 1000) (hn : ∀ l ∈ ls, l ≠ []) : ∀ {f : DE} {ρ : VL.Env} {z z' : Src}, f ρ z = some (.list (tups ls), z') → eC1 tupleD (aCons (eC1 sortedD (aCons f aNil)) aNil) ρ z = some (.tuple (tups (srtL ls)), z') := fun e =>
  eC1_run (cons_run (eC1_run (cons_run e nil_run) (sorted_tups ls h hn)) nil_run) rfl
section
variable (n : Nat) (z : Src)
def gE (F : List (List Int)) (x3 x4 x5 : Option D) : VL.Env := [none, some (.int n), some (.list (tups F)), x3, x4, x5, none, none, none]
def eTwo : DE := VL.e2 subD (VL.e2 mulD (eC (.int 2)) (eVar 1)) (eC (.int 1))
noncomputable def gB : DS := sIf (tNot (tB (eC1 anyD (aCons (eLc (iR (eVar 2)) (gV 8) tTrue (eCall d__law_cross (aCons (eVar 3) (aCons (eVar 8) aNil))) [8]) aNil)))) (sSeq (sDo (xAppend 2 (xV (eVar 3)))) (sSeq (sAsg 4 (eC1 tupleD (aCons (eC1 sortedD (aCons (eVar 2) aNil)) aNil))) (sSeq (sAsg 5 (eIf (tB (VL.e2 eqD (eC1 lenD (aCons (eVar 2) aNil)) (VL.e2 subD (VL.e2 mulD (eC (.int 2)) (eVar 1)) (eC (.int 1))))) (eC .none) (eTup (aCons (eC (.str "many")) (aCons (eC1 lenD (aCons (eVar 2) aNil)) aNil))))) (sIf (tOr (tB (VL.e2 gtD (eC1 lenD (aCons (eVar 2) aNil)) (VL.e2 subD (VL.e2 mulD (eC (.int 2)) (eVar 1)) (eC (.int 1))))) (tB (VL.e2 neD (eCall d_judge_lots (aCons (eVar 1) (aCons (eVar 4) aNil))) (eVar 5)))) (sRet (eC (.bool false))) sNext)))) sNext
theorem two_run (ρ : VL.Env) (h : ρ[1]? = some (some (.int n))) : VL.e2 subD (VL.e2 mulD (eC (.int 2)) (eVar 1)) (eC (.int 1)) ρ z = some (.int (2 * n - 1), z) := e2_run (e2_run rfl (var_run h) rfl) rfl rfl
theorem len_run (ρ : VL.Env) (i : Nat) (F : List (List Int)) (h : ρ[i]? = some (some (.list (tups F)))) : eC1 lenD (aCons (eVar i) aNil) ρ z = some (.int F.length, z) := by
  refine eC1_run (cons_run (var_run h) nil_run) ?_
  show some (PyData.int (tups F).length) = _
  simp [tups]
theorem iR_run {f : DE} {ρ : VL.Env} {z z' : Src} {ds : List D} (e : f ρ z = some (.list ds, z')) : iR f ρ z = some (ds, z') := iV_run (e1_run e rfl) rfl
theorem grow_step {F : List (List Int)} {k : List Int} (hP : Part n F) (hk : Lot n k) (hkF : k ∉ F) (hn : n ≤ 400) (hF : F.length ≤ 2 * n - 1) (hG : (if F.any (fun m => cross k m) then F else F ++ [k]).length ≤ 2 * n - 1) (x4 x5 : Option D) :
    ∃ y4 y5, gB (gE n F (some (tup k)) x4 x5) z = some (.nx (gE n (if F.any (fun m => cross k m) then F else F ++ [k]) (some (tup k)) y4 y5), z) := by
  have lb := line_big
  have et : tNot (tB (eC1 anyD (aCons (eLc (iR (eVar 2)) (gV 8) tTrue (eCall d__law_cross (aCons (eVar 3) (aCons (eVar 8) aNil))) [8]) aNil))) (gE n F (some (tup k)) x4 x5) z = some (!(F.any (fun m => cross k m)), z) := by
    refine tNot_run (tB_run (any_run (fun m => cross k m) F (lc_all (en := tup) F (iR_run (var_run rfl)) (by omega) fun m hm => ⟨[none, some (.int n), some (.list (tups F)), some (tup k), x4, x5, none, none, some (tup m)], rfl, ?_⟩)))
    exact call_run (cons_run (var_run rfl) (cons_run (var_run rfl) nil_run)) (law_cross_run k m z (Nat.le_trans hk.len (by omega)))
  cases c : F.any (fun m => cross k m) with
  | true =>
    rw [c] at et
    refine ⟨x4, x5, ?_⟩
    rw [if_pos rfl]
    exact (if_f et).trans rfl
  | false =>
    rw [c] at et hG
    rw [if_neg Bool.false_ne_true] at hG ⊢
    have hP2 := hP.put hk hkF c
    have hl : (F ++ [k]).length ≤ 1000 := by omega
    have hne : ∀ l ∈ F ++ [k], l ≠ [] := fun l hl => (hP2.lot l hl).ne
    have e1 : sDo (xAppend 2 (xV (eVar 3))) (gE n F (some (tup k)) x4 x5) z = some (.nx (gE n (F ++ [k]) (some (tup k)) x4 x5), z) := by
      refine sDo_run (d := .none) ?_
      have hz : (tups F).length < sizeLine := by
        unfold tups
        rw [List.length_map]
        have : F.length ≤ 1000 := by omega
        omega
      have a := xAppend_run (i := 2) (ρ := gE n F (some (tup k)) x4 x5) (es := tups F) (ds := tups F) (lstAt_of rfl) (xV_run (var_run (i := 3) (z := z) (d := tup k) rfl)) (lstAt_of rfl) hz
      rw [a]
      unfold gE tups
      simp only [List.map_append, List.map_cons, List.map_nil, List.set_cons_succ, List.set_cons_zero]
    have e2 : sAsg 4 (eC1 tupleD (aCons (eC1 sortedD (aCons (eVar 2) aNil)) aNil)) (gE n (F ++ [k]) (some (tup k)) x4 x5) z = some (.nx (gE n (F ++ [k]) (some (tup k)) (some (.tuple (tups (srtL (F ++ [k]))))) x5), z) := asg_run (sorted_list _ hl hne (var_run rfl))
    have ed : eIf (tB (VL.e2 eqD (eC1 lenD (aCons (eVar 2) aNil)) (VL.e2 subD (VL.e2 mulD (eC (.int 2)) (eVar 1)) (eC (.int 1))))) (eC .none) (eTup (aCons (eC (.str "many")) (aCons (eC1 lenD (aCons (eVar 2) aNil)) aNil))) (gE n (F ++ [k]) (some (tup k)) (some (.tuple (tups (srtL (F ++ [k]))))) x5) z = some (if ((F ++ [k]).length : Int) = 2 * n - 1 then .none else manyD (F ++ [k]).length, z) := by
      have el := len_run z (gE n (F ++ [k]) (some (tup k)) (some (.tuple (tups (srtL (F ++ [k]))))) x5) 2 (F ++ [k]) rfl
      have et : tB (VL.e2 eqD (eC1 lenD (aCons (eVar 2) aNil)) (VL.e2 subD (VL.e2 mulD (eC (.int 2)) (eVar 1)) (eC (.int 1)))) (gE n (F ++ [k]) (some (tup k)) (some (.tuple (tups (srtL (F ++ [k]))))) x5) z = some (decide (((F ++ [k]).length : Int) = 2 * n - 1), z) := tB_run (e2_run el (two_run n z _ rfl) (eqD_int _ _))
      by_cases c : ((F ++ [k]).length : Int) = 2 * n - 1
      · rw [decide_eq_true c] at et
        rw [if_pos c]
        exact (eIf_t et).trans rfl
      · rw [decide_eq_false c] at et
        rw [if_neg c]
        exact (eIf_f et).trans (eTup_run (cons_run rfl (cons_run el nil_run)))
    have hf := fault_part hP2
    refine ⟨some (.tuple (tups (srtL (F ++ [k])))), some (faultP n (srtL (F ++ [k]))), ?_⟩
    have e3 : sAsg 5 (eIf (tB (VL.e2 eqD (eC1 lenD (aCons (eVar 2) aNil)) (VL.e2 subD (VL.e2 mulD (eC (.int 2)) (eVar 1)) (eC (.int 1))))) (eC .none) (eTup (aCons (eC (.str "many")) (aCons (eC1 lenD (aCons (eVar 2) aNil)) aNil)))) (gE n (F ++ [k]) (some (tup k)) (some (.tuple (tups (srtL (F ++ [k]))))) x5) z = some (.nx (gE n (F ++ [k]) (some (tup k)) (some (.tuple (tups (srtL (F ++ [k]))))) (some (faultP n (srtL (F ++ [k]))))), z) := by
      rw [hf]
      exact asg_run ed
    have e4 : tOr (tB (VL.e2 gtD (eC1 lenD (aCons (eVar 2) aNil)) (VL.e2 subD (VL.e2 mulD (eC (.int 2)) (eVar 1)) (eC (.int 1))))) (tB (VL.e2 neD (eCall d_judge_lots (aCons (eVar 1) (aCons (eVar 4) aNil))) (eVar 5))) (gE n (F ++ [k]) (some (tup k)) (some (.tuple (tups (srtL (F ++ [k]))))) (some (faultP n (srtL (F ++ [k]))))) z = some (false, z) := by
      have a1 : tB (VL.e2 gtD (eC1 lenD (aCons (eVar 2) aNil)) (VL.e2 subD (VL.e2 mulD (eC (.int 2)) (eVar 1)) (eC (.int 1)))) (gE n (F ++ [k]) (some (tup k)) (some (.tuple (tups (srtL (F ++ [k]))))) (some (faultP n (srtL (F ++ [k]))))) z = some (false, z) := by
        have e := tB_run (e2_run (len_run z (gE n (F ++ [k]) (some (tup k)) (some (.tuple (tups (srtL (F ++ [k]))))) (some (faultP n (srtL (F ++ [k]))))) 2 (F ++ [k]) rfl) (two_run n z _ rfl) (gtD_int _ _))
        have n1 : 0 < n := by
          obtain ⟨x, hx⟩ := hk.ex
          have := hk.rg x hx
          omega
        have c : ¬ (2 * (n : Int) - 1 < (F ++ [k]).length) := by
          generalize (F ++ [k]).length = q at hG
          omega
        rw [decide_eq_false c] at e
        exact e
      refine (tOr_f a1).trans (tB_run (e2_run (call_run (cons_run (var_run rfl) (cons_run (var_run rfl) nil_run)) (judge_run n (srtL (F ++ [k])) z ?_ fun l hm => ?_)) (var_run rfl) (fault_self _ _)))
      · rw [(srtL_perm _).length_eq]; exact hl
      · exact Nat.le_trans (hP2.lot l ((srtL_perm _).mem_iff.mp hm)).len (by omega)
    exact (if_t et).trans ((seq_nx e1).trans ((seq_nx e2).trans ((seq_nx e3).trans ((if_f e4).trans rfl))))
theorem grow_loop (hn : n ≤ 400) : ∀ (ks F : List (List Int)) (x3 x4 x5 : Option D), Part n F → (∀ k ∈ ks, Lot n k) → ks.Nodup → (∀ k ∈ ks, k ∉ F) → (grow F ks).length ≤ 2 * n - 1 →
    ∃ y3 y4 y5, loopF (gV 3) gB (tups ks) (gE n F x3 x4 x5) z = some (.nx (gE n (grow F ks) y3 y4 y5), z)
  | [], F, x3, x4, x5, _, _, _, _, _ => ⟨x3, x4, x5, rfl⟩
  | k :: ks, F, x3, x4, x5, hP, hl, hd, hkF, hG => by
    have hk := hl k List.mem_cons_self
    have hl' := fun x hx => hl x (List.mem_cons_of_mem k hx)
    have hd' := List.nodup_cons.mp hd
    have hn' := fun x hx => hkF x (List.mem_cons_of_mem k hx)
    have hkF' := hkF k List.mem_cons_self
    have eg : grow F (k :: ks) = grow (if F.any (fun m => cross k m) then F else F ++ [k]) ks := by
      rw [grow]
      split <;> rfl
    have hP2 : Part n (if F.any (fun m => cross k m) then F else F ++ [k]) := by
      cases c : F.any (fun m => cross k m) with
      | true => rw [if_pos rfl]; exact hP
      | false => rw [if_neg Bool.false_ne_true]; exact hP.put hk hkF' c
    have hnew : ∀ x ∈ ks, x ∉ (if F.any (fun m => cross k m) then F else F ++ [k]) := fun x hx => by
      split
      · exact hn' x hx
      · intro h
        rcases List.mem_append.mp h with h | h
        · exact hn' x hx h
        · have : x = k := by simpa using h
          exact hd'.1 (this ▸ hx)
    rw [eg] at hG ⊢
    obtain ⟨_, ⟨r, er⟩, _⟩ := grow_spec ks _ hP2 hl' hd'.2 hnew
    have hG1 : (if F.any (fun m => cross k m) then F else F ++ [k]).length ≤ 2 * n - 1 := by
      rw [er, List.length_append] at hG
      omega
    have hF : F.length ≤ 2 * n - 1 := by
      refine Nat.le_trans ?_ hG1
      split
      · exact Nat.le_refl _
      · rw [List.length_append]; omega
    obtain ⟨y4, y5, e1⟩ := grow_step n z hP hk hkF' hn hF hG1 x4 x5
    obtain ⟨w3, w4, w5, e2⟩ := grow_loop hn ks _ (some (tup k)) y4 y5 hP2 hl' hd'.2 hnew hG
    refine ⟨w3, w4, w5, ?_⟩
    show loopF (gV 3) gB (tup k :: tups ks) (gE n F x3 x4 x5) z = _
    rw [loop_nx (ρ1 := gE n F (some (tup k)) x4 x5) rfl e1, e2]
end
theorem lots_srt {t : Tr} {F : List (List Int)} (h : F ~ lots t) : srtL F = lots t := by
  show srtL F = srtL ((parts t).map shires)
  exact srtL_eq (h.trans (srtL_perm _))
theorem lots_len (t : Tr) : (lots t).length = sz t := by
  unfold lots
  rw [(srtL_perm _).length_eq, List.length_map, parts_len]
theorem formed_run {t : Tr} (h : Sm t) (z : Src) : d_formed [enc t] z = some (enc (form t), z) := formed_enc t 40 z (by have := h.sz; omega) (by have := h.dep; omega) h.dep
theorem lots_run {t : Tr} (h : Sm t) (z : Src) : d_lots_of [enc t] z = some (.tuple (tups (lots t)), z) := lots_of_enc t (by have := h.sz; omega) (by have := h.dep; omega) z
/-- _law_grown_right -/
theorem grown_run {Pt : Addr} {B : Nat} {tb : List (Addr × Str)} {st : SrcSt} (ok : tbOk Pt "_law_plan_by.<locals>.<lambda>" tb) (n : Nat) (h0 : 0 < n) (hn : n ≤ 9) (h : G B tb st) (hB : B ≤ 800000) :
    ∃ st', d__law_grown_right Pt [.int n] (some st) = some (.bool true, some st') ∧ G (B + 1000) tb st' := by
  have h2 : 2 ^ n ≤ 512 := Nat.le_trans (Nat.pow_le_pow_right (by omega) hn) (by decide)
  have hal := allLots_len n
  obtain ⟨ks, st', e1, p1, g1⟩ := order_run tup (allLots n) (by omega) h (by omega)
  obtain ⟨t, t1, t2, t3⟩ := grown h0 p1
  have hlt : lc t = n := by
    have := t1.length_eq
    unfold upto at this
    simpa using this
  have hs : Sm t := Sm.of (by omega)
  have nt : ND t := t1.nodup_iff.mpr (upto_nodup n)
  refine ⟨st', ?_, g1.mono (by omega)⟩
  obtain ⟨y3, y4, y5, e2⟩ := grow_loop n (some st') (by omega) ks [] none none none (Part.nil n) (fun k hk => mem_allLots.mp (p1.mem_iff.mp hk)) (p1.nodup_iff.mpr (allLots_nodup n)) (fun _ _ h => by cases h) (by omega)
  generalize hF : grow [] ks = F at t2 t3 e2
  have eF := lots_srt t2
  have mF : ∀ l ∈ F, l ≠ [] := fun l hl => by
    have : l ∈ (parts t).map shires := (srtL_perm _).mem_iff.mp (t2.mem_iff.mp hl)
    obtain ⟨q, _, rfl⟩ := List.mem_map.mp this
    exact shires_ne q
  have e0 : sAsg 2 (eLst aNil) [none, some (.int n), none, none, none, none, none, none, none] (some st) = some (.nx (gE n [] none none none), some st) := rfl
  have ef : sFor (iV (eCall d__law_any_order (aCons (eCall d__law_all_lots (aCons (eVar 1) aNil)) aNil))) (gV 3) gB (gE n [] none none none) (some st) = loopF (gV 3) gB (tups ks) (gE n [] none none none) (some st') :=
    for_run (iV_run (call_run (cons_run (call_run (cons_run (var_run rfl) nil_run) (all_run' n (some st) (by omega) (by omega))) nil_run) e1) rfl)
  have e3 : sAsg 6 (eC1 tupleD (aCons (eC1 sortedD (aCons (eVar 2) aNil)) aNil)) (gE n F y3 y4 y5) (some st') = some (.nx [none, some (.int n), some (.list (tups F)), y3, y4, y5, some (.tuple (tups (lots t))), none, none], some st') := by
    rw [← eF]
    exact asg_run (sorted_list F (by omega) mF (var_run rfl))
  have e4 : sAsg 7 (eCall d_plan_of (aCons (eVar 1) (aCons (eVar 6) aNil))) [none, some (.int n), some (.list (tups F)), y3, y4, y5, some (.tuple (tups (lots t))), none, none] (some st') = some (.nx [none, some (.int n), some (.list (tups F)), y3, y4, y5, some (.tuple (tups (lots t))), some (enc (form t)), none], some st') :=
    asg_run (call_run (cons_run (var_run rfl) (cons_run (var_run rfl) nil_run)) (plan_of_run t1 hs _))
  generalize hρ : ([none, some (.int n), some (.list (tups F)), y3, y4, y5, some (.tuple (tups (lots t))), some (enc (form t)), none] : VL.Env) = ρ at e4
  have v1 : ρ[1]? = some (some (.int n)) := by rw [← hρ]; rfl
  have v6 : ρ[6]? = some (some (.tuple (tups (lots t)))) := by rw [← hρ]; rfl
  have v7 : ρ[7]? = some (some (enc (form t))) := by rw [← hρ]; rfl
  have a1 : VL.e2 eqD (eC1 lenD (aCons (eVar 6) aNil)) (VL.e2 subD (VL.e2 mulD (eC (.int 2)) (eVar 1)) (eC (.int 1))) ρ (some st') = some (.bool true, some st') := by
    have e : VL.e2 eqD (eC1 lenD (aCons (eVar 6) aNil)) (VL.e2 subD (VL.e2 mulD (eC (.int 2)) (eVar 1)) (eC (.int 1))) ρ (some st') = some (.bool (decide (((lots t).length : Int) = 2 * n - 1)), some st') := by
      refine e2_run (eC1_run (cons_run (var_run v6) nil_run) (d := .int (lots t).length) ?_) (two_run n _ ρ v1) (eqD_int _ _)
      show some (PyData.int (tups (lots t)).length) = _
      simp [tups]
    have c : ((lots t).length : Int) = 2 * n - 1 := by
      have := t2.length_eq
      omega
    rw [decide_eq_true c] at e
    exact e
  have a2 : VL.e2 eqD (eCall d_lots_of (aCons (eVar 7) aNil)) (eVar 6) ρ (some st') = some (.bool true, some st') := by
    refine e2_run (call_run (cons_run (var_run v7) nil_run) (lots_run hs.form _)) (var_run v6) ?_
    rw [lots_form]
    exact tups_self _
  have a3 : VL.e2 eqD (eCall d_formed (aCons (eVar 7) aNil)) (eVar 7) ρ (some st') = some (.bool true, some st') := by
    refine e2_run (call_run (cons_run (var_run v7) nil_run) (formed_run hs.form _)) (var_run v7) ?_
    rw [form_form nt]
    exact enc_self hs.form
  have a4 : VL.e2 eqD (eVar 7) (eCall (d__law_plan_by Pt) (aCons (eVar 6) aNil)) ρ (some st') = some (.bool true, some st') := by
    exact e2_run (var_run v7) (call_run (cons_run (var_run v6) nil_run) (law_plan_run t1 hs (by rw [g1.tb]; exact ok))) (enc_self hs.form)
  have er : sRet (eAnd (VL.e2 eqD (eC1 lenD (aCons (eVar 6) aNil)) (VL.e2 subD (VL.e2 mulD (eC (.int 2)) (eVar 1)) (eC (.int 1)))) (eAnd (VL.e2 eqD (eCall d_lots_of (aCons (eVar 7) aNil)) (eVar 6)) (eAnd (VL.e2 eqD (eCall d_formed (aCons (eVar 7) aNil)) (eVar 7)) (VL.e2 eqD (eVar 7) (eCall (d__law_plan_by Pt) (aCons (eVar 6) aNil)))))) ρ (some st') = some (.rt (.bool true), some st') :=
    ret_run ((eAnd_t a1).trans ((eAnd_t a2).trans ((eAnd_t a3).trans a4)))
  have eb : b__law_grown_right Pt [none, some (.int n), none, none, none, none, none, none, none] (some st) = some (.rt (.bool true), some st') :=
    (seq_nx e0).trans ((seq_nx (ef.trans e2)).trans ((seq_nx e3).trans ((seq_nx e4).trans er)))
  show runS 9 1 (b__law_grown_right Pt) [.int n] (some st) = endF (.rt (.bool true), some st')
  exact runS_run rfl (by rfl) eb
end PL
set_option Elab.async false
set_option linter.all false
set_option maxRecDepth 100000
set_option maxHeartbeats 4000000
/-! The plain law of k47: two drawn plans. -/
namespace PL
open PySem VL G47 List
theorem bool_eqv (a b : Bool) : PyData.eqv (.bool a) (.bool b) = (a == b) := by simp [PyData.eqv]
theorem neD_bool (a b : Bool) : neD (.bool a) (.bool b) = some (.bool (!(a == b))) := by
  show (if true then some (PyData.bool (!PyData.eqv (.bool a) (.bool b))) else none) = _
  rw [if_pos rfl, bool_eqv]
theorem eqD_enc {s t : Tr} (hs : Sm s) (ht : Sm t) [Decidable (s = t)] : eqD (enc s) (enc t) = some (.bool (decide (s = t))) := by
  unfold eqD
  rw [okD_enc hs, okD_enc ht, eqv_enc']
  rfl
theorem neD_enc {s : Tr} (hs : Sm s) : neD (enc s) (enc s) = some (.bool false) := neD_self (okD_enc hs) ((eqv_enc s s).mpr rfl)
theorem eqD_tups (a b : List (List Int)) : eqD (.tuple (tups a)) (.tuple (tups b)) = some (.bool (decide (a = b))) := by
  unfold eqD
  rw [okD_tupT, okD_tupT, eqv_tpl, eqvAll_tups]
  rfl
/-! ### the dict of lots -/
def zer (ls : List (List Int)) : List (D × D) := ls.map fun l => (tup l, PyData.int 0)
theorem dGet_zer : ∀ (ls : List (List Int)) (l : List Int), (dGet (zer ls) (kt l)).isSome = decide (l ∈ ls)
  | [], l => by simp [zer, dGet]
  | m :: ls, l => by
    show (dGet ((tup m, PyData.int 0) :: zer ls) (kt l)).isSome = _
    rw [dGet_cons, keyOf_tup]
    by_cases c : m = l
    · rw [if_pos (by rw [c]), c]
      simp
    · rw [if_neg (fun e => c (kt_inj.mp (Option.some.inj e))), dGet_zer ls l]
      refine decide_eq_decide.mpr ?_
      rw [List.mem_cons]
      constructor
      · exact .inr
      · rintro (h | h)
        · exact absurd h.symm c
        · exact h
theorem dPut_zer (ls : List (List Int)) (l : List Int) : dPut (zer ls) (tup l) (kt l) (.int 0) = zer (if l ∈ ls then ls else ls ++ [l]) := by
  unfold dPut
  rw [dGet_zer]
  by_cases c : l ∈ ls
  · rw [decide_eq_true c, if_pos rfl, if_pos c]
    unfold zer
    rw [List.map_map]
    refine List.map_congr_left fun m _ => ?_
    simp only [Function.comp]
    split <;> rfl
  · rw [decide_eq_false c, if_neg Bool.false_ne_true, if_neg c]
    unfold zer
    rw [List.map_append]
    rfl
def triZ (l : List Int) : D × NestedKey × D := (tup l, kt l, .int 0)
theorem pairs_zer : ∀ ls : List (List Int), pairsD (ls.map fun l => PyData.tuple [tup l, .int 0]) = some (ls.map triZ)
  | [] => rfl
  | l :: ls => by
    rw [List.map_cons]
    unfold pairsD
    rw [keyOf_tup, Option.bind_some, pairs_zer ls]
    rfl
theorem merge_zer : ∀ (ls acc : List (List Int)), ∃ ks, (ls.map triZ).foldl (fun acc t => dPut acc t.1 t.2.1 t.2.2) (zer acc) = zer ks ∧ (∀ l ∈ ks, l ∈ acc ∨ l ∈ ls) ∧ ks.length ≤ acc.length + ls.length
  | [], acc => ⟨acc, rfl, fun l h => .inl h, Nat.le_refl _⟩
  | m :: ls, acc => by
    obtain ⟨ks, h1, h2, h3⟩ := merge_zer ls (if m ∈ acc then acc else acc ++ [m])
    refine ⟨ks, ?_, fun l hl => ?_, ?_⟩
    · rw [List.map_cons, List.foldl_cons]
      show (ls.map triZ).foldl _ (dPut (zer acc) (tup m) (kt m) (.int 0)) = _
      rw [dPut_zer]
      exact h1
    · rcases h2 l hl with h | h
      · split at h
        · exact .inl h
        · rcases List.mem_append.mp h with h | h
          · exact .inl h
          · right
            have : l = m := by simpa using h
            rw [this]
            exact List.mem_cons_self
      · exact .inr (List.mem_cons_of_mem _ h)
    · rw [List.length_cons]
      split at h3
      · omega
      · rw [List.length_append] at h3
        simp only [List.length_cons, List.length_nil] at h3
        omega
theorem dict_zer (ls : List (List Int)) : ∃ ks, dictD [.list (ls.map fun l => PyData.tuple [tup l, .int 0])] = some (.dict (zer ks)) ∧ (∀ l ∈ ks, l ∈ ls) ∧ ks.length ≤ ls.length := by
  obtain ⟨ks, h1, h2, h3⟩ := merge_zer ls []
  refine ⟨ks, ?_, fun l hl => ?_, by simpa using h3⟩
  · show (pairsD _).bind (fun ts => if dictOkF ts || dictOkT ts then some (PyData.dict (mergeD ts)) else none) = _
    rw [pairs_zer, Option.bind_some]
    have hT : dictOkT (ls.map triZ) = true := by
      unfold dictOkT
      rw [List.all_map]
      refine List.all_eq_true.mpr fun l _ => ?_
      show (isTup (kt l) && kOk (kt l)) = true
      rw [kOk_kt]
      rfl
    have hm : mergeD (ls.map triZ) = zer ks := h1
    rw [hT, Bool.or_true, if_pos rfl, hm]
  · rcases h2 l hl with h | h
    · cases h
    · exact h
theorem keys_zer (ls : List (List Int)) : (zer ls).map (·.1) = tups ls := by
  unfold zer tups
  rw [List.map_map]
  rfl
/-! ### some of the lots -/
theorem some_loop {tb : List (Addr × Str)} {t : DT} {ρ : VL.Env} {i : Nat} (hi : ∀ d : D, (ρ.set i (some d))[i]? = some (some d))
    (ht : ∀ (ρ1 : VL.Env) (B : Nat) (st : SrcSt), G B tb st → B ≤ 900000 → ∃ b st', t ρ1 (some st) = some (b, some st') ∧ G (B + 1) tb st') :
    ∀ (ls : List (List Int)) (B : Nat) (st : SrcSt), G B tb st → B + ls.length ≤ 900000 → ∃ ks st', lcF (gV i) t (eVar i) ρ (tups ls) (some st) = some (tups ks, some st') ∧ (∀ l ∈ ks, l ∈ ls) ∧ ks.length ≤ ls.length ∧ G (B + ls.length) tb st'
  | [], B, st, g, _ => ⟨[], st, rfl, fun _ h => h, Nat.le_refl _, g⟩
  | l :: ls, B, st, g, hB => by
    rw [List.length_cons] at hB
    obtain ⟨b, st1, e1, g1⟩ := ht (ρ.set i (some (tup l))) B st g (by omega)
    obtain ⟨ks, st2, e2, h1, h2, g2⟩ := some_loop hi ht ls (B + 1) st1 g1 (by omega)
    have g3 : G (B + (l :: ls).length) tb st2 := g2.mono (by rw [List.length_cons]; omega)
    have ev : eVar i (ρ.set i (some (tup l))) (some st1) = some (tup l, some st1) := var_run (hi _)
    cases b with
    | true =>
      refine ⟨l :: ks, st2, ?_, fun m hm => ?_, by rw [List.length_cons, List.length_cons]; omega, g3⟩
      · show lcF (gV i) t (eVar i) ρ (tup l :: tups ls) (some st) = _
        simp only [lcF, gV, Option.bind_some, e1, if_true, ev, e2, Option.map_some]
        rfl
      · rcases List.mem_cons.mp hm with rfl | hm
        · exact List.mem_cons_self
        · exact List.mem_cons_of_mem _ (h1 m hm)
    | false =>
      refine ⟨ks, st2, ?_, fun m hm => List.mem_cons_of_mem _ (h1 m hm), by rw [List.length_cons]; omega, g3⟩
      show lcF (gV i) t (eVar i) ρ (tup l :: tups ls) (some st) = _
      simp only [lcF, gV, Option.bind_some, e1, Bool.false_eq_true, if_false, e2]
/-! ### the judges -/
section
variable (n : Nat)
noncomputable def tB2 : DS := sIf (tB (VL.e2 neD (eCall d_judge_lots (aCons (eVar 1) (aCons (eVar 7) aNil))) (eCall d__law_lots_fault (aCons (eVar 1) (aCons (eVar 7) aNil))))) (sRet (eC (.bool false))) sNext
theorem judges_loop (z : Src) : ∀ (vs : List (List (List Int))) (ρ : VL.Env), ρ.length = 11 → ρ[1]? = some (some (.int n)) → (∀ v ∈ vs, v.length ≤ 1000 ∧ ∀ l ∈ v, l.length ≤ 1000) →
    ∃ y, loopF (gV 7) tB2 (vs.map fun v => PyData.tuple (tups v)) ρ z = some (.nx (ρ.set 7 y), z)
  | [], ρ, hl, h1, _ => by
    refine ⟨ρ[7], ?_⟩
    rw [List.set_getElem_self]
    rfl
  | v :: vs, ρ, hl, h1, hv => by
    have hv0 := hv v List.mem_cons_self
    have a1 : (ρ.set 7 (some (PyData.tuple (tups v))))[1]? = some (some (.int n)) := by
      rw [List.getElem?_set_ne (by omega)]; exact h1
    have a7 : (ρ.set 7 (some (PyData.tuple (tups v))))[7]? = some (some (PyData.tuple (tups v))) := by
      rw [List.getElem?_set_self (by omega)]
    have e : tB2 (ρ.set 7 (some (PyData.tuple (tups v)))) z = some (.nx (ρ.set 7 (some (PyData.tuple (tups v)))), z) := by
      refine (if_f (tB_run (e2_run (call_run (cons_run (var_run a1) (cons_run (var_run a7) nil_run)) (judge_run n v z hv0.1 hv0.2)) (call_run (cons_run (var_run a1) (cons_run (var_run a7) nil_run)) (fault_run n v z hv0.1 hv0.2)) (fault_self _ _)))).trans rfl
    obtain ⟨y, e2⟩ := judges_loop z vs (ρ.set 7 (some (PyData.tuple (tups v)))) (by rw [List.length_set]; exact hl) a1 fun w hw => hv w (List.mem_cons_of_mem _ hw)
    refine ⟨y, ?_⟩
    rw [List.map_cons, loop_nx (ρ1 := ρ.set 7 (some (PyData.tuple (tups v)))) rfl e, e2, List.set_set]
end
theorem form_lots {s t : Tr} {n : Nat} (hs : leaves s ~ upto n) (ht : leaves t ~ upto n) (ss : Sm s) (st : Sm t) : form s = form t ↔ lots s = lots t := by
  constructor
  · intro h
    rw [← lots_form s, ← lots_form t, h]
  · intro h
    have h1 := plan_of_run hs ss none
    have h2 := plan_of_run ht st none
    rw [h] at h1
    rw [h1] at h2
    have h3 : enc (form s) = enc (form t) := (Prod.mk.inj (Option.some.inj h2)).1
    have h4 := (eqv_enc (form s) (form s)).mpr rfl
    rw [← eqv_enc]
    rw [← h3]
    exact h4
theorem lots_small {t : Tr} {n : Nat} (h : leaves t ~ upto n) (hn : n ≤ 30) : (lots t).length ≤ 100 ∧ (∀ l ∈ lots t, l ≠ [] ∧ l.length ≤ 100) := by
  have hlt : lc t = n := by
    have := h.length_eq
    unfold upto at this
    simpa using this
  have h1 := sz_lc t
  refine ⟨by rw [lots_len]; omega, fun l hl => ?_⟩
  have : l ∈ (parts t).map shires := (srtL_perm _).mem_iff.mp hl
  obtain ⟨q, hq, rfl⟩ := List.mem_map.mp this
  refine ⟨shires_ne q, ?_⟩
  have h2 := shires_len q
  have h3 := (parts_le hq).1
  omega
theorem plots_srt (t : Tr) : srtL (plots t) = lots t := srtL_eq (plots_perm t)
end PL
set_option Elab.async false
set_option linter.all false
set_option maxRecDepth 100000
set_option maxHeartbeats 4000000
/-! The plain law of k47: the law. -/
namespace PL
open PySem VL G47 List
theorem okD_two (a b : D) (ha : a.plain = true) (hb : b.plain = true) (da : a.depth ≤ 50) (db : b.depth ≤ 50) : okD (.list [a, b]) = true := by
  have h2 : (PyData.list [a, b]).depth = PyData.depthAll [a, b] + 1 := by rw [PyData.depth]
  have h3 : PyData.depthAll [a, b] = max a.depth (max b.depth 0) := by simp [PyData.depthAll]
  have h1 : (PyData.list [a, b]).plain = true := by
    show PyData.plainAll [a, b] = true
    simp [PyData.plainAll, ha, hb]
  unfold okD
  rw [h1, Bool.true_and, decide_eq_true_eq, h2, h3]
  omega
theorem eqv_two (a b : D) (ha : PyData.eqv a a = true) (hb : PyData.eqv b b = true) : PyData.eqv (.list [a, b]) (.list [a, b]) = true := by
  rw [eqv_lst]
  simp [PyData.eqvAll, ha, hb]
theorem tups_eqv (ls : List (List Int)) : PyData.eqv (.list (tups ls)) (.list (tups ls)) = true := by
  rw [eqv_lst, eqvAll_tups]
  simp
theorem tups_depth (ls : List (List Int)) : (PyData.list (tups ls)).depth ≤ 50 := by
  have h2 : (PyData.list (tups ls)).depth = PyData.depthAll (tups ls) + 1 := by rw [PyData.depth]
  have := depth_tups ls
  omega
theorem plan_lots_run {t : Tr} (h : Sm t) (z : Src) : d__law_plan_lots [enc t] z = some (.list (tups (plots t)), z) := plan_lots_enc t 40 z h.sz (by have := h.dep; omega) h.dep
theorem law_formed_run {t : Tr} (h : Sm t) (z : Src) : d__law_formed [enc t] z = some (enc (form t), z) := law_formed_enc t 40 z h.sz h.dep h.dep
def wE (n : Nat) (x2 x3 x4 x5 x6 : Option D) : VL.Env := [none, some (.int n), x2, x3, x4, x5, x6, none, none, none, none]
theorem two_right_run {B : Nat} {tb : List (Addr × Str)} {st : SrcSt} (n : Nat) (h0 : 0 < n) (hn : n ≤ 9) (h : G B tb st) (hB : B ≤ 700000) :
    ∃ st', d__law_two_right [.int n] (some st) = some (.bool true, some st') ∧ G (B + 1000) tb st' := by
  have lb := line_big
  -- one
  obtain ⟨t1, st1, d1, p1, g1⟩ := draw_run n h0 (by omega) h (by omega)
  have lc1 : lc t1 = n := by
    have := p1.length_eq
    unfold upto at this
    simpa using this
  have s1 : Sm t1 := Sm.of (by omega)
  have sz1 := sz_lc t1
  have range : ∀ (ρ : VL.Env) (z : Src), ρ[1]? = some (some (.int n)) → aCons (eLRg (eA1 (eVar 1))) aNil ρ z = some ([.list (iDs (upto n))], z) := fun ρ z hρ =>
    cons_run (eLRg_run (cons_run (var_run hρ) nil_run) (range_tup n (by omega))) nil_run
  have a2 : sAsg 2 (eCall d__law_draw_plan (aCons (eLRg (eA1 (eVar 1))) aNil)) (wE n none none none none none) (some st) = some (.nx (wE n (some (enc t1)) none none none none), some st1) := asg_run (call_run (range _ _ rfl) d1)
  -- other
  obtain ⟨r, st2, k2, g2, _⟩ := pick_run g1 (by omega) 2 (by omega)
  have ek : tB (VL.e2 eqD (eCall d__law_pick (aCons (eC (.int 2)) aNil)) (eC (.int 0))) (wE n (some (enc t1)) none none none none) (some st1) = some (decide ((r : Int) = 0), some st2) := tB_run (e2_run (call_run (cons_run rfl nil_run) k2) rfl (eqD_int _ _))
  have other : ∃ t2 st3, eIf (tB (VL.e2 eqD (eCall d__law_pick (aCons (eC (.int 2)) aNil)) (eC (.int 0)))) (eCall d__law_draw_plan (aCons (eLRg (eA1 (eVar 1))) aNil)) (eCall d__law_turned (aCons (eVar 2) aNil)) (wE n (some (enc t1)) none none none none) (some st1) = some (enc t2, some st3) ∧ leaves t2 ~ upto n ∧ G (B + 200) tb st3 := by
    by_cases c : (r : Int) = 0
    · rw [decide_eq_true c] at ek
      obtain ⟨t2, st3, d2, p2, g3⟩ := draw_run n h0 (by omega) g2 (by omega)
      exact ⟨t2, st3, (eIf_t ek).trans (call_run (range _ _ rfl) d2), p2, g3.mono (by omega)⟩
    · rw [decide_eq_false c] at ek
      obtain ⟨t2, st3, d2, p2, g3⟩ := turned_run t1 40 (B + 60 + 1) st2 s1.sz s1.dep g2 (by omega)
      exact ⟨t2, st3, (eIf_f ek).trans (call_run (cons_run (var_run rfl) nil_run) d2), p2.trans p1, g3.mono (by omega)⟩
  obtain ⟨t2, st3, d2, p2, g3⟩ := other
  have lc2 : lc t2 = n := by
    have := p2.length_eq
    unfold upto at this
    simpa using this
  have s2 : Sm t2 := Sm.of (by omega)
  have a3 := asg_run (i := 3) d2
  have a3 : sAsg 3 (eIf (tB (VL.e2 eqD (eCall d__law_pick (aCons (eC (.int 2)) aNil)) (eC (.int 0)))) (eCall d__law_draw_plan (aCons (eLRg (eA1 (eVar 1))) aNil)) (eCall d__law_turned (aCons (eVar 2) aNil))) (wE n (some (enc t1)) none none none none) (some st1) = some (.nx (wE n (some (enc t1)) (some (enc t2)) none none none), some st3) := a3
  -- told
  obtain ⟨l1a, l1b⟩ := lots_small p1 (by omega)
  obtain ⟨l2a, l2b⟩ := lots_small p2 (by omega)
  have a4 : sAsg 4 (eLst (aCons (eCall d_lots_of (aCons (eVar 2) aNil)) (aCons (eCall d_lots_of (aCons (eVar 3) aNil)) aNil))) (wE n (some (enc t1)) (some (enc t2)) none none none) (some st3) = some (.nx (wE n (some (enc t1)) (some (enc t2)) (some (.list [.tuple (tups (lots t1)), .tuple (tups (lots t2))])) none none), some st3) :=
    asg_run (eLst_run (cons_run (call_run (cons_run (var_run rfl) nil_run) (lots_run s1 _)) (cons_run (call_run (cons_run (var_run rfl) nil_run) (lots_run s2 _)) nil_run)))
  generalize hT : PyData.list [.tuple (tups (lots t1)), .tuple (tups (lots t2))] = told at a4
  have ix0' : ixA told (.int 0) = some (.tuple (tups (lots t1))) := by rw [← hT]; rfl
  have ix1' : ixA told (.int 1) = some (.tuple (tups (lots t2))) := by rw [← hT]; rfl
  have it' : itD told = some ([lots t1, lots t2].map fun ls => PyData.tuple (tups ls)) := by rw [← hT]; rfl
  -- the lists
  have b1 : VL.e2 neD (eLc (iV (eVar 4)) (gV 8) tTrue (eC1 listA (aCons (eVar 8) aNil)) [8]) (eLc (iV (eTup (aCons (eVar 2) (aCons (eVar 3) aNil)))) (gV 9) tTrue (eC1 sortedD (aCons (eCall d__law_plan_lots (aCons (eVar 9) aNil)) aNil)) [9]) (wE n (some (enc t1)) (some (enc t2)) (some told) none none) (some st3) = some (.bool false, some st3) := by
    refine e2_run (lc_all (en := fun ls => PyData.tuple (tups ls)) (f := fun ls => PyData.list (tups ls)) [lots t1, lots t2] (iV_run (var_run rfl) it') (by simp) fun ls _ => ⟨[none, some (.int n), some (enc t1), some (enc t2), some told, none, none, none, some (.tuple (tups ls)), none, none], rfl, eC1_run (cons_run (var_run rfl) nil_run) rfl⟩)
      (lc_all (en := enc) (f := fun t => PyData.list (tups (lots t))) [t1, t2] (iV_run (eTup_run (cons_run (var_run rfl) (cons_run (var_run rfl) nil_run))) rfl) (by simp) fun t ht => ⟨[none, some (.int n), some (enc t1), some (enc t2), some told, none, none, none, none, some (enc t), none], rfl, ?_⟩) ?_
    · have hs : Sm t ∧ leaves t ~ upto n := by
        rcases (by simpa using ht : t = t1 ∨ t = t2) with e | e <;> rw [e]
        · exact ⟨s1, p1⟩
        · exact ⟨s2, p2⟩
      refine eC1_run (cons_run (call_run (cons_run (var_run rfl) nil_run) (plan_lots_run hs.1 _)) nil_run) ?_
      rw [sorted_tups (plots t) (by rw [plots_len]; have := hs.1.sz; omega) fun l hl => ?_, plots_srt]
      have : l ∈ (parts t).map shires := (plots_perm t).mem_iff.mp hl
      obtain ⟨q, _, rfl⟩ := List.mem_map.mp this
      exact shires_ne q
    · exact neD_self (okD_two _ _ (plain_tups _) (plain_tups _) (tups_depth _) (tups_depth _)) (eqv_two _ _ (tups_eqv _) (tups_eqv _))
  -- the forms
  have b2 : tB (VL.e2 neD (VL.e2 eqD (eCall d_formed (aCons (eVar 2) aNil)) (eCall d_formed (aCons (eVar 3) aNil))) (VL.e2 eqD (VL.e2 ixA (eVar 4) (eC (.int 0))) (VL.e2 ixA (eVar 4) (eC (.int 1))))) (wE n (some (enc t1)) (some (enc t2)) (some told) none none) (some st3) = some (false, some st3) := by
    haveI : Decidable (form t1 = form t2) := Classical.propDecidable _
    refine tB_run (e2_run (e2_run (call_run (cons_run (var_run rfl) nil_run) (formed_run s1 _)) (call_run (cons_run (var_run rfl) nil_run) (formed_run s2 _)) (eqD_enc s1.form s2.form)) (e2_run (e2_run (var_run rfl) rfl ix0') (e2_run (var_run rfl) rfl ix1') (eqD_tups _ _)) ?_)
    rw [neD_bool]
    have : decide (form t1 = form t2) = decide (lots t1 = lots t2) := decide_eq_decide.mpr (form_lots p1 p2 s1 s2)
    rw [this]
    simp
  have b3 : tB (VL.e2 neD (eCall d_formed (aCons (eVar 2) aNil)) (eCall d__law_formed (aCons (eVar 2) aNil))) (wE n (some (enc t1)) (some (enc t2)) (some told) none none) (some st3) = some (false, some st3) :=
    tB_run (e2_run (call_run (cons_run (var_run rfl) nil_run) (formed_run s1 _)) (call_run (cons_run (var_run rfl) nil_run) (law_formed_run s1 _)) (neD_enc s1.form))
  -- mixed
  obtain ⟨ks, k1, km, kl⟩ := dict_zer (lots t1 ++ lots t2)
  rw [List.length_append] at kl
  have a5 : sAsg 5 (eC1 dictD (aCons (eLc (iV (VL.e2 addD (VL.e2 ixA (eVar 4) (eC (.int 0))) (VL.e2 ixA (eVar 4) (eC (.int 1))))) (gV 10) tTrue (eTup (aCons (eVar 10) (aCons (eC (.int 0)) aNil))) [10]) aNil)) (wE n (some (enc t1)) (some (enc t2)) (some told) none none) (some st3) = some (.nx (wE n (some (enc t1)) (some (enc t2)) (some told) (some (.dict (zer ks))) none), some st3) := by
    refine asg_run (eC1_run (cons_run (lc_all (en := tup) (f := fun l => PyData.tuple [tup l, .int 0]) (lots t1 ++ lots t2) (iV_run (e2_run (e2_run (var_run rfl) rfl ix0') (e2_run (var_run rfl) rfl ix1') (add_tupsT _ _ (by omega))) rfl) (by rw [List.length_append]; omega) fun l _ => ⟨[none, some (.int n), some (enc t1), some (enc t2), some told, none, none, none, none, none, some (tup l)], rfl, ?_⟩) nil_run) k1)
    exact eTup_run (cons_run (var_run rfl) (cons_run rfl nil_run))
  have kne : ∀ l ∈ ks, l ≠ [] ∧ l.length ≤ 100 := fun l hl => by
    rcases List.mem_append.mp (km l hl) with h | h
    · exact l1b l h
    · exact l2b l h
  -- some
  obtain ⟨ss, st4, e6, sm, sl', g4⟩ := some_loop (tb := tb) (t := tB (VL.e2 gtD (eCall d__law_pick (aCons (eC (.int 5)) aNil)) (eC (.int 0)))) (ρ := wE n (some (enc t1)) (some (enc t2)) (some told) (some (.dict (zer ks))) none) (i := 10) (fun d => rfl) (fun ρ1 B st g hB => by
    obtain ⟨r, st', e, g', _⟩ := pick_run g (by omega) 5 (by omega)
    exact ⟨decide (0 < (r : Int)), st', tB_run (e2_run (call_run (cons_run rfl nil_run) e) rfl (gtD_int _ _)), g'⟩) ks (B + 200) st3 g3 (by omega)
  have sne : ∀ l ∈ ss, l ≠ [] ∧ l.length ≤ 100 := fun l hl => kne l (sm l hl)
  have a6 : sAsg 6 (eC1 tupleD (aCons (eC1 sortedD (aCons (eLc (iV (eVar 5)) (gV 10) (tB (VL.e2 gtD (eCall d__law_pick (aCons (eC (.int 5)) aNil)) (eC (.int 0)))) (eVar 10) [10]) aNil)) aNil)) (wE n (some (enc t1)) (some (enc t2)) (some told) (some (.dict (zer ks))) none) (some st3) = some (.nx (wE n (some (enc t1)) (some (enc t2)) (some told) (some (.dict (zer ks))) (some (.tuple (tups (srtL ss))))), some st4) := by
    refine asg_run (sorted_list ss (by omega) (fun l hl => (sne l hl).1) (eLc_run (ds := tups ks) (iV_run (var_run rfl) ?_) ?_ e6))
    · show some ((zer ks).map (·.1)) = _
      rw [keys_zer]
    · unfold tups
      rw [List.length_map]
      omega
  -- the judges
  have cut1 : slD (.tuple (tups (lots t1))) none (some 1) = some (.tuple (tups ((lots t1).take 1))) := by
    show some (PyData.tuple (cutD (tups (lots t1)) none (some 1))) = _
    rw [cut_head]
    unfold tups
    rw [List.map_take]
  have cut2 : slD (.tuple (tups (lots t2))) (some 1) none = some (.tuple (tups (lots t2).tail)) := by
    show some (PyData.tuple (cutD (tups (lots t2)) (some 1) none)) = _
    rw [cut_tail]
    unfold tups
    rw [List.map_tail]
  have tk : ((lots t1).take 1).length ≤ 1 := by rw [List.length_take]; omega
  have tl : (lots t2).tail.length ≤ 100 := by rw [List.length_tail]; omega
  have e7 : iV (eTup (aCons (eC1 tupleD (aCons (eC1 sortedD (aCons (eC1 listA (aCons (eVar 5) aNil)) aNil)) aNil)) (aCons (eVar 6) (aCons (VL.e2 addD (eSl (VL.e2 ixA (eVar 4) (eC (.int 0))) pNone (pSome (eC (.int 1)))) (eSl (VL.e2 ixA (eVar 4) (eC (.int 1))) (pSome (eC (.int 1))) pNone)) aNil)))) (wE n (some (enc t1)) (some (enc t2)) (some told) (some (.dict (zer ks))) (some (.tuple (tups (srtL ss))))) (some st4) = some (([srtL ks, srtL ss, (lots t1).take 1 ++ (lots t2).tail].map fun v => PyData.tuple (tups v)), some st4) := by
    refine iV_run (eTup_run (cons_run (sorted_list ks (by omega) (fun l hl => (kne l hl).1) (eC1_run (cons_run (var_run rfl) nil_run) ?_)) (cons_run (var_run rfl) (cons_run (e2_run (sl_run (e2_run (var_run rfl) rfl ix0') rfl rfl cut1) (sl_run (e2_run (var_run rfl) rfl ix1') rfl rfl cut2) (add_tupsT _ _ (by omega))) nil_run)))) rfl
    show some (PyData.list ((zer ks).map (·.1))) = _
    rw [keys_zer]
  obtain ⟨y7, e8⟩ := judges_loop n (some st4) [srtL ks, srtL ss, (lots t1).take 1 ++ (lots t2).tail] (wE n (some (enc t1)) (some (enc t2)) (some told) (some (.dict (zer ks))) (some (.tuple (tups (srtL ss))))) rfl rfl fun v hv => by
    rcases (by simpa using hv : v = srtL ks ∨ v = srtL ss ∨ v = (lots t1).take 1 ++ (lots t2).tail) with e | e | e <;> rw [e]
    · rw [(srtL_perm _).length_eq]
      exact ⟨by omega, fun l hl => Nat.le_trans (kne l ((srtL_perm _).mem_iff.mp hl)).2 (by omega)⟩
    · rw [(srtL_perm _).length_eq]
      exact ⟨by omega, fun l hl => Nat.le_trans (sne l ((srtL_perm _).mem_iff.mp hl)).2 (by omega)⟩
    · rw [List.length_append]
      refine ⟨by omega, fun l hl => ?_⟩
      rcases List.mem_append.mp hl with h | h
      · exact Nat.le_trans (l1b l (List.mem_of_mem_take h)).2 (by omega)
      · exact Nat.le_trans (l2b l (List.mem_of_mem_tail h)).2 (by omega)
  have e9 : sRet (VL.e2 eqD (eLc (iV (eVar 4)) (gV 8) tTrue (eCall d_plan_of (aCons (eVar 1) (aCons (eVar 8) aNil))) [8]) (eLst (aCons (eCall d_formed (aCons (eVar 2) aNil)) (aCons (eCall d_formed (aCons (eVar 3) aNil)) aNil)))) (List.set (wE n (some (enc t1)) (some (enc t2)) (some told) (some (.dict (zer ks))) (some (.tuple (tups (srtL ss))))) 7 y7) (some st4) = some (.rt (.bool true), some st4) := by
    have x1 : eLc (iV (eVar 4)) (gV 8) tTrue (eCall d_plan_of (aCons (eVar 1) (aCons (eVar 8) aNil))) [8] (List.set (wE n (some (enc t1)) (some (enc t2)) (some told) (some (.dict (zer ks))) (some (.tuple (tups (srtL ss))))) 7 y7) (some st4) = some (.list ([t1, t2].map fun t => enc (form t)), some st4) := by
      refine lc_all (en := fun t => PyData.tuple (tups (lots t))) (f := fun t => enc (form t)) [t1, t2] (iV_run (var_run rfl) it') (by simp) fun t ht => ⟨[none, some (.int n), some (enc t1), some (enc t2), some told, some (.dict (zer ks)), some (.tuple (tups (srtL ss))), y7, some (.tuple (tups (lots t))), none, none], rfl, ?_⟩
      have hs : Sm t ∧ leaves t ~ upto n := by
        rcases (by simpa using ht : t = t1 ∨ t = t2) with e | e <;> rw [e]
        · exact ⟨s1, p1⟩
        · exact ⟨s2, p2⟩
      exact call_run (cons_run (var_run rfl) (cons_run (var_run rfl) nil_run)) (plan_of_run hs.2 hs.1 _)
    have d1' : (enc (form t1)).depth ≤ 50 := by rw [enc_depth]; have := s1.form.dep; omega
    have d2' : (enc (form t2)).depth ≤ 50 := by rw [enc_depth]; have := s2.form.dep; omega
    exact ret_run (e2_run x1 (eLst_run (cons_run (call_run (cons_run (var_run rfl) nil_run) (formed_run s1 _)) (cons_run (call_run (cons_run (var_run rfl) nil_run) (formed_run s2 _)) nil_run))) (eqD_self (okD_two _ _ (enc_plain _) (enc_plain _) d1' d2') (eqv_two _ _ ((eqv_enc _ _).mpr rfl) ((eqv_enc _ _).mpr rfl))))
  refine ⟨st4, ?_, g4.mono (by omega)⟩
  have eb : b__law_two_right (wE n none none none none none) (some st) = some (.rt (.bool true), some st4) :=
    (seq_nx a2).trans ((seq_nx a3).trans ((seq_nx a4).trans ((seq_nx ((if_f (tB_run b1)).trans rfl)).trans ((seq_nx ((if_f ((tOr_f b2).trans b3)).trans rfl)).trans ((seq_nx a5).trans ((seq_nx a6).trans ((seq_nx ((for_run e7).trans e8)).trans e9)))))))
  show runS 11 1 b__law_two_right [.int n] (some st) = endF (.rt (.bool true), some st4)
  exact runS_run rfl (by rfl) eb
theorem law_loop {tb : List (Addr × Str)} {s : DS} (hs : ∀ (ρ : VL.Env) (B : Nat) (st : SrcSt), G B tb st → B ≤ 500000 → ∃ st', s ρ (some st) = some (.nx ρ, some st') ∧ G (B + 2000) tb st') : ∀ (ks : List D) (ρ : VL.Env) (B : Nat) (st : SrcSt), G B tb st → B + 2000 * ks.length ≤ 500000 →
    ∃ ρ' st', loopF (gV 2) s ks ρ (some st) = some (.nx ρ', some st') ∧ G (B + 2000 * ks.length) tb st'
  | [], ρ, B, st, g, _ => ⟨ρ, st, rfl, g⟩
  | k :: ks, ρ, B, st, g, hB => by
    rw [List.length_cons] at hB ⊢
    obtain ⟨st1, e1, g1⟩ := hs (ρ.set 2 (some k)) B st g (by omega)
    obtain ⟨ρ', st2, e2, g2⟩ := law_loop hs ks (ρ.set 2 (some k)) (B + 2000) st1 g1 (by omega)
    refine ⟨ρ', st2, ?_, g2.mono (by omega)⟩
    rw [loop_nx (ρ1 := ρ.set 2 (some k)) rfl e1, e2]
theorem law_plain (Pt : Addr) (ms : List Int) (hl : ms.length ≤ 63) : ∃ z', (b_law Pt (List.replicate 3 none) (some { openSt ms with tb := [(Pt, "_law_plan_by.<locals>.<lambda>")] })).bind endF = some (PyData.bool true, z') := by
  have ok : tbOk Pt "_law_plan_by.<locals>.<lambda>" [(Pt, "_law_plan_by.<locals>.<lambda>")] := ⟨List.mem_cons_self, fun t ht _ => by
    rw [List.mem_singleton.mp ht]⟩
  generalize hst : ({ openSt ms with tb := [(Pt, "_law_plan_by.<locals>.<lambda>")] } : SrcSt) = st
  have g0 : G 0 [(Pt, "_law_plan_by.<locals>.<lambda>")] st := by
    rw [← hst]
    refine ⟨Int.le_refl 0, Int.le_refl 0, ?_, rfl⟩
    show ((ms.map absI).reverse).length ≤ 1000
    rw [List.length_reverse, List.length_map]
    omega
  have step1 : ∀ (ρ : VL.Env) (B : Nat) (st : SrcSt), G B [(Pt, "_law_plan_by.<locals>.<lambda>")] st → B ≤ 500000 → ∃ st', sIf (tNot (tB (eCall (d__law_grown_right Pt) (aCons (VL.e2 addD (eC (.int 2)) (eCall d__law_pick (aCons (eC (.int 4)) aNil))) aNil)))) (sRet (eC (.bool false))) sNext ρ (some st) = some (.nx ρ, some st') ∧ G (B + 2000) [(Pt, "_law_plan_by.<locals>.<lambda>")] st' := fun ρ B st g hB => by
    obtain ⟨r, st1, e1, g1, hr⟩ := pick_run g (by omega) 4 (by omega)
    have hr := hr (by omega)
    obtain ⟨st2, e2, g2⟩ := grown_run ok (2 + r) (by omega) (by omega) g1 (by omega)
    refine ⟨st2, ?_, g2.mono (by omega)⟩
    have et : tNot (tB (eCall (d__law_grown_right Pt) (aCons (VL.e2 addD (eC (.int 2)) (eCall d__law_pick (aCons (eC (.int 4)) aNil))) aNil))) ρ (some st) = some (false, some st2) := by
      refine tNot_run (b := true) (tB_run (call_run (cons_run (e2_run rfl (call_run (cons_run rfl nil_run) e1) (d := .int ((2 + r : Nat) : Int)) ?_) nil_run) e2))
      show some (PyData.int (2 + (r : Int))) = _
      congr 2
    exact (if_f et).trans rfl
  have step2 : ∀ (ρ : VL.Env) (B : Nat) (st : SrcSt), G B [(Pt, "_law_plan_by.<locals>.<lambda>")] st → B ≤ 500000 → ∃ st', sIf (tNot (tB (eCall d__law_two_right (aCons (VL.e2 addD (eC (.int 1)) (eCall d__law_pick (aCons (eC (.int 9)) aNil))) aNil)))) (sRet (eC (.bool false))) sNext ρ (some st) = some (.nx ρ, some st') ∧ G (B + 2000) [(Pt, "_law_plan_by.<locals>.<lambda>")] st' := fun ρ B st g hB => by
    obtain ⟨r, st1, e1, g1, hr⟩ := pick_run g (by omega) 9 (by omega)
    have hr := hr (by omega)
    obtain ⟨st2, e2, g2⟩ := two_right_run (1 + r) (by omega) (by omega) g1 (by omega)
    refine ⟨st2, ?_, g2.mono (by omega)⟩
    have et : tNot (tB (eCall d__law_two_right (aCons (VL.e2 addD (eC (.int 1)) (eCall d__law_pick (aCons (eC (.int 9)) aNil))) aNil))) ρ (some st) = some (false, some st2) := by
      refine tNot_run (b := true) (tB_run (call_run (cons_run (e2_run rfl (call_run (cons_run rfl nil_run) e1) (d := .int ((1 + r : Nat) : Int)) ?_) nil_run) e2))
      show some (PyData.int (1 + (r : Int))) = _
      congr 2
    exact (if_f et).trans rfl
  obtain ⟨ρ1, st1, e1, g1⟩ := law_loop step1 ((List.range' 0 2).map fun (j : Nat) => PyData.int j) (List.replicate 3 none) 0 st g0 (by simp)
  rw [List.length_map, List.length_range'] at g1
  obtain ⟨ρ2, st2, e2, g2⟩ := law_loop step2 ((List.range' 0 3).map fun (j : Nat) => PyData.int j) ρ1 _ st1 g1 (by simp)
  refine ⟨some st2, ?_⟩
  have f1 := (for_run (g := gV 2) (s := sIf (tNot (tB (eCall (d__law_grown_right Pt) (aCons (VL.e2 addD (eC (.int 2)) (eCall d__law_pick (aCons (eC (.int 4)) aNil))) aNil)))) (sRet (eC (.bool false))) sNext) (iRange_run (ρ := List.replicate 3 none) (z := some st) (fs := aCons (eC (.int 2)) aNil) (es := [.int 2]) rfl (rg1_run 2 (by omega)))).trans e1
  have f2 := (for_run (g := gV 2) (s := sIf (tNot (tB (eCall d__law_two_right (aCons (VL.e2 addD (eC (.int 1)) (eCall d__law_pick (aCons (eC (.int 9)) aNil))) aNil)))) (sRet (eC (.bool false))) sNext) (iRange_run (ρ := ρ1) (z := some st1) (fs := aCons (eC (.int 3)) aNil) (es := [.int 3]) rfl (rg1_run 3 (by omega)))).trans e2
  have eb : b_law Pt (List.replicate 3 none) (some st) = some (.rt (.bool true), some st2) := (seq_nx f1).trans ((seq_nx f2).trans (ret_run rfl))
  rw [eb]
  rfl
end PL
set_option Elab.async false
set_option linter.all false
set_option maxRecDepth 100000
set_option maxHeartbeats 0
open PySem PySem.W PyProof.Rows
theorem G47.plain (Pt : Addr) (ms : List Int) (hl : ms.length ≤ 63) : ∃ z', (G47.b_law Pt (List.replicate 3 none) (some { VL.openSt ms with tb := [(Pt, "_law_plan_by.<locals>.<lambda>")] })).bind VL.endF = some (PyData.bool true, z') := PL.law_plain Pt ms hl
theorem PySem.Challenge.cw_foxborders_k47_whole_lots_that_do_not_cr_holds : PySem.Challenge.rw_foxborders_k47_whole_lots_that_do_not_cr.Holds := by
  w_on; o_law; k_head; (case hw => w_witness2)
  k_fill
  refine VL.walkG (l := PySem.Challenge.rw_foxborders_k47_whole_lots_that_do_not_cr) (n := 63) (k := 82) (x := "script") rfl (by decide) rfl ⟨rfl, by decide, by decide⟩ (fun w h Y => km_in_of Y) ?F
  case F =>
    intro w mg fa h Y X G hmg
    have T := km_tabs_of Y
    obtain ⟨f__law_pick, fd__law_pick, D__law_pick⟩ : ∃ f fd, VL.Def _ mg "_law_pick" G47.s__law_pick f fd ["source", "most"] := by
      refine' ⟨_, _, VL.def_mk X G ?a ?l ?c ?k ?b⟩
      (case a => k_is); (case l => k_is); (case c => k_is); (case k => k_is)
      (case b => exact fun _ _ _ _ _ _ us hl => match us, hl with | [_, _], _ => rfl)
    obtain ⟨f__law_any_order, fd__law_any_order, D__law_any_order⟩ : ∃ f fd, VL.Def _ mg "_law_any_order" G47.s__law_any_order f fd ["source", "things"] := by
      refine' ⟨_, _, VL.def_mk X G ?a ?l ?c ?k ?b⟩
      (case a => k_is); (case l => k_is); (case c => k_is); (case k => k_is)
      (case b => exact fun _ _ _ _ _ _ us hl => match us, hl with | [_, _], _ => rfl)
    obtain ⟨f__law_all_lots, fd__law_all_lots, D__law_all_lots⟩ : ∃ f fd, VL.Def _ mg "_law_all_lots" G47.s__law_all_lots f fd ["n"] := by
      refine' ⟨_, _, VL.def_mk X G ?a ?l ?c ?k ?b⟩
      (case a => k_is); (case l => k_is); (case c => k_is); (case k => k_is)
      (case b => exact fun _ _ _ _ _ _ us hl => match us, hl with | [_], _ => rfl)
    obtain ⟨f__law_cross, fd__law_cross, D__law_cross⟩ : ∃ f fd, VL.Def _ mg "_law_cross" G47.s__law_cross f fd ["one", "other"] := by
      refine' ⟨_, _, VL.def_mk X G ?a ?l ?c ?k ?b⟩
      (case a => k_is); (case l => k_is); (case c => k_is); (case k => k_is)
      (case b => exact fun _ _ _ _ _ _ us hl => match us, hl with | [_, _], _ => rfl)
    obtain ⟨f_is_integer, fd_is_integer, D_is_integer⟩ : ∃ f fd, VL.Def _ mg "is_integer" G47.s_is_integer f fd ["value"] := by
      refine' ⟨_, _, VL.def_mk X G ?a ?l ?c ?k ?b⟩
      (case a => k_is); (case l => k_is); (case c => k_is); (case k => k_is)
      (case b => exact fun _ _ _ _ _ _ us hl => match us, hl with | [_], _ => rfl)
    obtain ⟨f_is_lot, fd_is_lot, D_is_lot⟩ : ∃ f fd, VL.Def _ mg "is_lot" G47.s_is_lot f fd ["n", "value"] := by
      refine' ⟨_, _, VL.def_mk X G ?a ?l ?c ?k ?b⟩
      (case a => k_is); (case l => k_is); (case c => k_is); (case k => k_is)
      (case b => exact fun _ _ _ _ _ _ us hl => match us, hl with | [_, _], _ => rfl)
    obtain ⟨f_do_cross, fd_do_cross, D_do_cross⟩ : ∃ f fd, VL.Def _ mg "do_cross" G47.s_do_cross f fd ["one", "other"] := by
      refine' ⟨_, _, VL.def_mk X G ?a ?l ?c ?k ?b⟩
      (case a => k_is); (case l => k_is); (case c => k_is); (case k => k_is)
      (case b => exact fun _ _ _ _ _ _ us hl => match us, hl with | [_, _], _ => rfl)
    obtain ⟨f_judge_lots, fd_judge_lots, D_judge_lots⟩ : ∃ f fd, VL.Def _ mg "judge_lots" G47.s_judge_lots f fd ["n", "value"] := by
      refine' ⟨_, _, VL.def_mk X G ?a ?l ?c ?k ?b⟩
      (case a => k_is); (case l => k_is); (case c => k_is); (case k => k_is)
      (case b => exact fun _ _ _ _ _ _ us hl => match us, hl with | [_, _], _ => rfl)
    obtain ⟨f_is_pair, fd_is_pair, D_is_pair⟩ : ∃ f fd, VL.Def _ mg "is_pair" G47.s_is_pair f fd ["value"] := by
      refine' ⟨_, _, VL.def_mk X G ?a ?l ?c ?k ?b⟩
      (case a => k_is); (case l => k_is); (case c => k_is); (case k => k_is)
      (case b => exact fun _ _ _ _ _ _ us hl => match us, hl with | [_], _ => rfl)
    obtain ⟨f_parts_in, fd_parts_in, D_parts_in⟩ : ∃ f fd, VL.Def _ mg "parts_in" G47.s_parts_in f fd ["value"] := by
      refine' ⟨_, _, VL.def_mk X G ?a ?l ?c ?k ?b⟩
      (case a => k_is); (case l => k_is); (case c => k_is); (case k => k_is)
      (case b => exact fun _ _ _ _ _ _ us hl => match us, hl with | [_], _ => rfl)
    obtain ⟨f_leaves_in, fd_leaves_in, D_leaves_in⟩ : ∃ f fd, VL.Def _ mg "leaves_in" G47.s_leaves_in f fd ["value"] := by
      refine' ⟨_, _, VL.def_mk X G ?a ?l ?c ?k ?b⟩
      (case a => k_is); (case l => k_is); (case c => k_is); (case k => k_is)
      (case b => exact fun _ _ _ _ _ _ us hl => match us, hl with | [_], _ => rfl)
    obtain ⟨f_shires_of, fd_shires_of, D_shires_of⟩ : ∃ f fd, VL.Def _ mg "shires_of" G47.s_shires_of f fd ["plan"] := by
      refine' ⟨_, _, VL.def_mk X G ?a ?l ?c ?k ?b⟩
      (case a => k_is); (case l => k_is); (case c => k_is); (case k => k_is)
      (case b => exact fun _ _ _ _ _ _ us hl => match us, hl with | [_], _ => rfl)
    obtain ⟨f_paired, fd_paired, D_paired⟩ : ∃ f fd, VL.Def _ mg "paired" G47.s_paired f fd ["one", "other"] := by
      refine' ⟨_, _, VL.def_mk X G ?a ?l ?c ?k ?b⟩
      (case a => k_is); (case l => k_is); (case c => k_is); (case k => k_is)
      (case b => exact fun _ _ _ _ _ _ us hl => match us, hl with | [_, _], _ => rfl)
    obtain ⟨f_plan_of, fd_plan_of, D_plan_of⟩ : ∃ f fd, VL.Def _ mg "plan_of" G47.s_plan_of f fd ["n", "lots"] := by
      refine' ⟨_, _, VL.def_mk X G ?a ?l ?c ?k ?b⟩
      (case a => k_is); (case l => k_is); (case c => k_is); (case k => k_is)
      (case b => exact fun _ _ _ _ _ _ us hl => match us, hl with | [_, _], _ => rfl)
    obtain ⟨f__law_plan_by, fd__law_plan_by, cP, Pt, L⟩ : ∃ f fd c P, VL.LamF _ h mg "_law_plan_by" G47.s__law_plan_by f fd ["lots"] c P := by
      refine' ⟨_, _, _, _, VL.defC_mk (VL.def_mk X G ?a ?l ?c ?k ?b) ?l2, ?hd, ?tab, ?nt⟩
      (case a => k_is); (case l => k_is); (case c => k_is); (case k => k_is); (case l2 => k_is)
      (case b => exact fun _ _ _ _ _ _ us hl => match us, hl with | [_], _ => rfl)
      (case tab => exact T _ List.mem_cons_self)
      (case hd => exact codeHd_of_K X (by kernel_rfl))
      (case nt => kernel_rfl)
    obtain ⟨f_formed, fd_formed, D_formed⟩ : ∃ f fd, VL.Def _ mg "formed" G47.s_formed f fd ["plan"] := by
      refine' ⟨_, _, VL.def_mk X G ?a ?l ?c ?k ?b⟩
      (case a => k_is); (case l => k_is); (case c => k_is); (case k => k_is)
      (case b => exact fun _ _ _ _ _ _ us hl => match us, hl with | [_], _ => rfl)
    obtain ⟨f_lots_of, fd_lots_of, D_lots_of⟩ : ∃ f fd, VL.Def _ mg "lots_of" G47.s_lots_of f fd ["plan"] := by
      refine' ⟨_, _, VL.def_mk X G ?a ?l ?c ?k ?b⟩
      (case a => k_is); (case l => k_is); (case c => k_is); (case k => k_is)
      (case b => exact fun _ _ _ _ _ _ us hl => match us, hl with | [_], _ => rfl)
    obtain ⟨f__law_grown_right, fd__law_grown_right, D__law_grown_right⟩ : ∃ f fd, VL.Def _ mg "_law_grown_right" G47.s__law_grown_right f fd ["source", "n"] := by
      refine' ⟨_, _, VL.def_mk X G ?a ?l ?c ?k ?b⟩
      (case a => k_is); (case l => k_is); (case c => k_is); (case k => k_is)
      (case b => exact fun _ _ _ _ _ _ us hl => match us, hl with | [_, _], _ => rfl)
    obtain ⟨f__law_draw_plan, fd__law_draw_plan, D__law_draw_plan⟩ : ∃ f fd, VL.Def _ mg "_law_draw_plan" G47.s__law_draw_plan f fd ["source", "shires"] := by
      refine' ⟨_, _, VL.def_mk X G ?a ?l ?c ?k ?b⟩
      (case a => k_is); (case l => k_is); (case c => k_is); (case k => k_is)
      (case b => exact fun _ _ _ _ _ _ us hl => match us, hl with | [_, _], _ => rfl)
    obtain ⟨f__law_turned, fd__law_turned, D__law_turned⟩ : ∃ f fd, VL.Def _ mg "_law_turned" G47.s__law_turned f fd ["source", "plan"] := by
      refine' ⟨_, _, VL.def_mk X G ?a ?l ?c ?k ?b⟩
      (case a => k_is); (case l => k_is); (case c => k_is); (case k => k_is)
      (case b => exact fun _ _ _ _ _ _ us hl => match us, hl with | [_, _], _ => rfl)
    obtain ⟨f__law_plan_lots, fd__law_plan_lots, D__law_plan_lots⟩ : ∃ f fd, VL.Def _ mg "_law_plan_lots" G47.s__law_plan_lots f fd ["value"] := by
      refine' ⟨_, _, VL.def_mk X G ?a ?l ?c ?k ?b⟩
      (case a => k_is); (case l => k_is); (case c => k_is); (case k => k_is)
      (case b => exact fun _ _ _ _ _ _ us hl => match us, hl with | [_], _ => rfl)
    obtain ⟨f__law_formed, fd__law_formed, D__law_formed⟩ : ∃ f fd, VL.Def _ mg "_law_formed" G47.s__law_formed f fd ["plan"] := by
      refine' ⟨_, _, VL.def_mk X G ?a ?l ?c ?k ?b⟩
      (case a => k_is); (case l => k_is); (case c => k_is); (case k => k_is)
      (case b => exact fun _ _ _ _ _ _ us hl => match us, hl with | [_], _ => rfl)
    obtain ⟨f__law_is_lot, fd__law_is_lot, D__law_is_lot⟩ : ∃ f fd, VL.Def _ mg "_law_is_lot" G47.s__law_is_lot f fd ["n", "value"] := by
      refine' ⟨_, _, VL.def_mk X G ?a ?l ?c ?k ?b⟩
      (case a => k_is); (case l => k_is); (case c => k_is); (case k => k_is)
      (case b => exact fun _ _ _ _ _ _ us hl => match us, hl with | [_, _], _ => rfl)
    obtain ⟨f__law_lots_fault, fd__law_lots_fault, D__law_lots_fault⟩ : ∃ f fd, VL.Def _ mg "_law_lots_fault" G47.s__law_lots_fault f fd ["n", "value"] := by
      refine' ⟨_, _, VL.def_mk X G ?a ?l ?c ?k ?b⟩
      (case a => k_is); (case l => k_is); (case c => k_is); (case k => k_is)
      (case b => exact fun _ _ _ _ _ _ us hl => match us, hl with | [_, _], _ => rfl)
    obtain ⟨f__law_two_right, fd__law_two_right, D__law_two_right⟩ : ∃ f fd, VL.Def _ mg "_law_two_right" G47.s__law_two_right f fd ["source", "n"] := by
      refine' ⟨_, _, VL.def_mk X G ?a ?l ?c ?k ?b⟩
      (case a => k_is); (case l => k_is); (case c => k_is); (case k => k_is)
      (case b => exact fun _ _ _ _ _ _ us hl => match us, hl with | [_, _], _ => rfl)
    obtain ⟨f__law_open_cells, fd__law_open_cells, D__law_open_cells⟩ : ∃ f fd, VL.Def _ mg "_law_open_cells" G47.s__law_open_cells f fd ["script"] := by
      refine' ⟨_, _, VL.def_mk X G ?a ?l ?c ?k ?b⟩
      (case a => k_is); (case l => k_is); (case c => k_is); (case k => k_is)
      (case b => exact fun _ _ _ _ _ _ us hl => match us, hl with | [_], _ => rfl)
    obtain ⟨f_law, fd_law, LD⟩ : ∃ f fd, VL.LawD _ mg "law" G47.s_law f fd "script" := by
      refine' ⟨_, _, VL.def_mk X G ?a ?l ?c ?k ?b, fun s v => .of_eq rfl⟩
      (case a => k_is); (case l => k_is); (case c => k_is); (case k => k_is)
      (case b => exact fun _ _ _ _ _ _ us hl => match us, hl with | [_], _ => rfl)
    have b_len : mg "len" = none := by
      refine PySem.W.mg_none_of X G ?z
      (case z => k_is)
    have b_int : mg "int" = none := by
      refine PySem.W.mg_none_of X G ?z
      (case z => k_is)
    have b_list : mg "list" = none := by
      refine PySem.W.mg_none_of X G ?z
      (case z => k_is)
    have b_range : mg "range" = none := by
      refine PySem.W.mg_none_of X G ?z
      (case z => k_is)
    have b_min : mg "min" = none := by
      refine PySem.W.mg_none_of X G ?z
      (case z => k_is)
    have b_isinstance : mg "isinstance" = none := by
      refine PySem.W.mg_none_of X G ?z
      (case z => k_is)
    have b_bool : mg "bool" = none := by
      refine PySem.W.mg_none_of X G ?z
      (case z => k_is)
    have b_all : mg "all" = none := by
      refine PySem.W.mg_none_of X G ?z
      (case z => k_is)
    have b_tuple : mg "tuple" = none := by
      refine PySem.W.mg_none_of X G ?z
      (case z => k_is)
    have b_zip : mg "zip" = none := by
      refine PySem.W.mg_none_of X G ?z
      (case z => k_is)
    have b_enumerate : mg "enumerate" = none := by
      refine PySem.W.mg_none_of X G ?z
      (case z => k_is)
    have b_sorted : mg "sorted" = none := by
      refine PySem.W.mg_none_of X G ?z
      (case z => k_is)
    have b_dict : mg "dict" = none := by
      refine PySem.W.mg_none_of X G ?z
      (case z => k_is)
    have b_any : mg "any" = none := by
      refine PySem.W.mg_none_of X G ?z
      (case z => k_is)
    have b_abs : mg "abs" = none := by
      refine PySem.W.mg_none_of X G ?z
      (case z => k_is)
    have e : fa = f_law := by
      have e := hmg.symm.trans LD.d.mg
      cases e
      rfl
    subst e
    exact VL.lawG_one LD L.tb L.nt L.hd (by decide) (G47.plain Pt) fun base kin bns TB => G47.law_ok D__law_pick D__law_any_order D__law_all_lots D__law_cross D_is_integer D_is_lot D_do_cross D_judge_lots D_is_pair D_parts_in D_leaves_in D_shires_of D_paired D_plan_of L.d D_formed D_lots_of D__law_grown_right D__law_draw_plan D__law_turned D__law_plan_lots D__law_formed D__law_is_lot D__law_lots_fault D__law_two_right D__law_open_cells LD.d b_len b_int b_list b_range b_min b_isinstance b_bool b_all b_tuple b_zip b_enumerate b_sorted b_dict b_any b_abs TB
