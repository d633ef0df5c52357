import PyProof.Rows.All
import Wide.All
import OpenK.AllK
import Wide.FinOn
import HandS.ForMost
import HandS.Wide
import HandS.Deep
import HandS.Gcd
import HandS.IsInst
import HandS.TupAny
import HandS.TupMul
import HandS.Style
import HandS.Defaults
import HandS.HeadHook1
import KE.GoesMore
import HandS.Zip
import HandS.Rev
import KE.KRevSl
import HandS.Head0
import HandS.Head1
import HandS.Head2
import HandS.Head3
import HandS.HeadEnd
import HandS.HeadHook2
import PySem.Challenge.RW_treehung_k00_whole_factors_with_pivots_o
set_option Elab.async false
set_option linter.all false
set_option maxRecDepth 100000
set_option maxHeartbeats 1000000
/-! DwCore: a layer over the hand layer. Slots hold data; a reading speaks of data alone, the heap is kept out of sight. -/
namespace DW
open PySem PySem.Spec PyProof.Rows L2

abbrev Fg := PySem.W.Frag
/-- the heap without some addresses -/
def hid (H : Hp) (S : List Addr) : Hp := fun b => if b ∈ S then none else H b
theorem hid_out {H : Hp} {S : List Addr} {b : Addr} (h : b ∉ S) : hid H S b = H b := if_neg h
theorem hid_in {H : Hp} {S : List Addr} {b : Addr} (h : b ∈ S) : hid H S b = none := if_pos h
/-- what is tracked by a predicate of one's own -/
def isX : HO → Bool
  | .ext _ => true
  | _ => false
/-- the heap goes on: all that is tracked stays so, all but predicates is as it was -/
structure Same (H H' : Hp) : Prop where
  k : ∀ {b : Addr} {o : HO}, H b = some o → isX o = false → H' b = some o
  th : ∀ {b : Addr} {o : HO}, H b = some o → ∃ o', H' b = some o'
theorem Same.refl (H : Hp) : Same H H := ⟨fun e _ => e, fun e => ⟨_, e⟩⟩
theorem Same.trans {H H1 H2 : Hp} (a : Same H H1) (b : Same H1 H2) : Same H H2 := ⟨fun e x => b.k (a.k e x) x, fun e => let ⟨_, q⟩ := a.th e; b.th q⟩
theorem Same.free {H H' : Hp} (e : Same H H') {l : Addr} (h : H' l = none) : H l = none := by
  cases q : H l with
  | none => rfl
  | some o => obtain ⟨o', z⟩ := e.th q; rw [h] at z; cases z
theorem Same.of {H H' : Hp} (h : ∀ b o, H b = some o → H' b = some o) : Same H H' := ⟨fun e _ => h _ _ e, fun e => ⟨_, h _ _ e⟩⟩
theorem hid_some {H : Hp} {S : List Addr} {b : Addr} {o : HO} (e : hid H S b = some o) : b ∉ S ∧ H b = some o := by
  by_cases hb : b ∈ S
  · rw [hid_in hb] at e; cases e
  · exact ⟨hb, by rw [hid_out hb] at e; exact e⟩
theorem hid_le (H : Hp) (S : List Addr) : Same (hid H S) H := .of fun b o e => (hid_some e).2
theorem hid_mono {H H' : Hp} (S : List Addr) (h : Same H H') : Same (hid H S) (hid H' S) := ⟨fun e x => by
  obtain ⟨hb, e⟩ := hid_some e
  rw [hid_out hb]; exact h.k e x, fun e => by
  obtain ⟨hb, e⟩ := hid_some e
  rw [hid_out hb]; exact h.th e⟩
theorem hid_nil (H : Hp) : hid H [] = H := by
  funext b
  exact hid_out (by simp)
theorem hid_upd_in {H : Hp} {S : List Addr} {a : Addr} {o : HO} (h : a ∈ S) : hid (upd H a o) S = hid H S := by
  funext b
  by_cases hb : b ∈ S
  · rw [hid_in hb, hid_in hb]
  · rw [hid_out hb, hid_out hb, upd_ne (fun e => hb (by rw [e]; exact h))]
theorem hid_cons_new {H : Hp} {S : List Addr} {a : Addr} {o : HO} (h : H a = none) : hid (upd H a o) (a :: S) = hid H S := by
  funext b
  by_cases hb : b ∈ a :: S
  · rw [hid_in hb]
    by_cases hs : b ∈ S
    · rw [hid_in hs]
    · rw [hid_out hs]
      rcases List.mem_cons.mp hb with e | e
      · rw [e, h]
      · exact absurd e hs
  · have hs : b ∉ S := fun z => hb (List.mem_cons_of_mem _ z)
    have hn : b ≠ a := fun z => hb (z ▸ List.mem_cons_self)
    rw [hid_out hb, hid_out hs, upd_ne hn]
theorem same_new {H : Hp} {a : Addr} {o : HO} (h : H a = none) : Same H (upd H a o) := .of fun b x e => by
  rw [upd_ne (ne_of_none e h)]; exact e

theorem Same.rd {H H' : Hp} (h : Same H H') {a : Addr} {u : HO} (r : Rd H a u) (x : isX u = false) : Rd H' a u := by
  rcases r with r | ⟨o, r⟩
  · exact .inl (h.k r x)
  · exact .inr ⟨o, h.k r rfl⟩
theorem Same.sqT {K : Fg} {H H' : Hp} (h : Same H H') {a : Addr} {xs : List V} (r : SqT K H a xs) : SqT K H' a xs := by
  rcases r with r | r
  · exact .inl (Same.rd h r rfl)
  · exact .inr r
theorem Same.sqL {K : Fg} {H H' : Hp} (h : Same H H') {a : Addr} {xs : List V} (r : SqL K H a xs) : SqL K H' a xs := by
  rcases r with r | r
  · exact .inl (Same.rd h r rfl)
  · exact .inr r
mutual
theorem Dp.mono {K : Fg} {H H' : Hp} (h : Same H H') : ∀ {d : PyData} {v : V}, Dp K H v d → Dp K H' v d
  | .none, _, .non => .non
  | .bool b, _, .bl _ => .bl b
  | .int i, _, .int _ => .int i
  | .str x, _, .str _ => .str x
  | .list ds, _, .lst s a => .lst (Same.sqL h s) (DpAll.mono h a)
  | .tuple ds, _, .tup s a => .tup (Same.sqT h s) (DpAll.mono h a)
  | .dict _, _, z => by cases z
theorem DpAll.mono {K : Fg} {H H' : Hp} (h : Same H H') : ∀ {ds : List PyData} {vs : List V}, DpAll K H vs ds → DpAll K H' vs ds
  | [], _, .nil => .nil
  | _ :: _, _, .cons a b => .cons (Dp.mono h a) (DpAll.mono h b)
end
theorem DpAll.length {K : Fg} {H : Hp} : ∀ {ds : List PyData} {vs : List V}, DpAll K H vs ds → vs.length = ds.length
  | [], _, .nil => rfl
  | _ :: _, _, .cons _ b => by rw [List.length_cons, List.length_cons, DpAll.length b]
theorem DpAll.get {K : Fg} {H : Hp} : ∀ {ds : List PyData} {vs : List V}, DpAll K H vs ds → ∀ {i : Nat} {d : PyData}, ds[i]? = some d → ∃ v, vs[i]? = some v ∧ Dp K H v d
  | [], _, .nil, _, _, e => by simp at e
  | _ :: _, _, .cons a b, 0, d, e => by simp at e; subst e; exact ⟨_, rfl, a⟩
  | _ :: _, _, .cons a b, i + 1, d, e => by
    obtain ⟨v, h1, h2⟩ := DpAll.get b (i := i) (d := d) (by simpa using e)
    exact ⟨v, by simpa using h1, h2⟩
theorem DpAll.get2 {K : Fg} {H : Hp} : ∀ {ds : List PyData} {vs : List V}, DpAll K H vs ds → ∀ {i : Nat} {v : V}, vs[i]? = some v → ∃ d, ds[i]? = some d ∧ Dp K H v d
  | [], _, .nil, _, _, e => by simp at e
  | _ :: _, _, .cons a b, 0, d, e => by simp at e; subst e; exact ⟨_, rfl, a⟩
  | _ :: _, _, .cons a b, i + 1, d, e => by
    obtain ⟨v, h1, h2⟩ := DpAll.get2 b (i := i) (v := d) (by simpa using e)
    exact ⟨v, by simpa using h1, h2⟩
theorem DpAll.app {K : Fg} {H : Hp} : ∀ {ds : List PyData} {vs : List V} {es : List PyData} {us : List V}, DpAll K H vs ds → DpAll K H us es → DpAll K H (vs ++ us) (ds ++ es)
  | [], _, _, _, .nil, h => h
  | _ :: _, _, _, _, .cons a b, h => .cons a (DpAll.app b h)
theorem DpAll.one {K : Fg} {H : Hp} {d : PyData} {v : V} (h : Dp K H v d) : DpAll K H [v] [d] := .cons h .nil
theorem DpAll.set {K : Fg} {H : Hp} {d : PyData} {v : V} (h : Dp K H v d) : ∀ {ds : List PyData} {vs : List V} (i : Nat), DpAll K H vs ds → DpAll K H (vs.set i v) (ds.set i d)
  | [], _, _, .nil => .nil
  | _ :: _, _, 0, .cons a b => .cons h b
  | _ :: _, _, i + 1, .cons a b => .cons a (DpAll.set h i b)
theorem DpAll.take {K : Fg} {H : Hp} : ∀ {ds : List PyData} {vs : List V} (n : Nat), DpAll K H vs ds → DpAll K H (vs.take n) (ds.take n)
  | _, _, 0, _ => by simp; exact .nil
  | [], _, _ + 1, .nil => .nil
  | _ :: _, _, n + 1, .cons a b => .cons a (DpAll.take n b)
theorem DpAll.drop {K : Fg} {H : Hp} : ∀ {ds : List PyData} {vs : List V} (n : Nat), DpAll K H vs ds → DpAll K H (vs.drop n) (ds.drop n)
  | _, _, 0, h => h
  | [], _, _ + 1, .nil => .nil
  | _ :: _, _, n + 1, .cons a b => DpAll.drop n b
theorem DpAll.rev {K : Fg} {H : Hp} : ∀ {ds : List PyData} {vs : List V}, DpAll K H vs ds → DpAll K H vs.reverse ds.reverse
  | [], _, .nil => .nil
  | _ :: _, _, .cons a b => by
    rw [List.reverse_cons, List.reverse_cons]
    exact DpAll.app (DpAll.rev b) (DW.DpAll.one a)
theorem DpAll.rep {K : Fg} {H : Hp} {ds : List PyData} {vs : List V} (h : DpAll K H vs ds) : ∀ n : Nat, DpAll K H (List.replicate n vs).flatten (List.replicate n ds).flatten
  | 0 => .nil
  | n + 1 => by
    rw [List.replicate_succ, List.replicate_succ, List.flatten_cons, List.flatten_cons]
    exact DpAll.app h (DpAll.rep h n)
theorem DpAll.ints {K : Fg} {H : Hp} : ∀ {ns : List Int} {vs : List V}, DpAll K H vs (ns.map .int) → vs = ns.map V.int
  | [], _, .nil => rfl
  | n :: ns, _, .cons a b => by cases a; rw [DpAll.ints b]; rfl
theorem DpAll.bls {K : Fg} {H : Hp} : ∀ {ns : List Bool} {vs : List V}, DpAll K H vs (ns.map .bool) → vs = ns.map V.bl
  | [], _, .nil => rfl
  | n :: ns, _, .cons a b => by cases a; rw [DpAll.bls b]; rfl
theorem DpAll.ofInts {K : Fg} {H : Hp} : ∀ (ns : List Int), DpAll K H (ns.map V.int) (ns.map .int)
  | [] => .nil
  | n :: ns => .cons (.int n) (DpAll.ofInts ns)

mutual
/-- data that nothing can change: no list, no dict in it -/
def imm : PyData → Bool
  | .list _ => false
  | .dict _ => false
  | .tuple ds => immAll ds
  | _ => true
def immAll : List PyData → Bool
  | [] => true
  | d :: ds => imm d && immAll ds
end
mutual
theorem Dp.hide {K : Fg} {H : Hp} {S : List Addr} (hS : ∀ a ∈ S, ∃ xs, H a = some (.lst xs)) : ∀ {d : PyData} {v : V}, imm d = true → Dp K H v d → Dp K (hid H S) v d
  | .none, _, _, .non => .non
  | .bool b, _, _, .bl _ => .bl b
  | .int i, _, _, .int _ => .int i
  | .str x, _, _, .str _ => .str x
  | .list ds, _, h, _ => by simp [imm] at h
  | .tuple ds, _, h, .tup (a := a) s r => by
    refine .tup ?_ (DpAll.hide hS (by simpa [imm] using h) r)
    rcases s with s | s
    · refine .inl ?_
      have ha : a ∉ S := fun z => by
        obtain ⟨xs, e⟩ := hS a z
        rcases s with s | ⟨o, s⟩ <;> (rw [e] at s; cases s)
      rcases s with s | ⟨o, s⟩
      · exact .inl (by rw [hid_out ha]; exact s)
      · exact .inr ⟨o, by rw [hid_out ha]; exact s⟩
    · exact .inr s
  | .dict _, _, _, z => by cases z
theorem DpAll.hide {K : Fg} {H : Hp} {S : List Addr} (hS : ∀ a ∈ S, ∃ xs, H a = some (.lst xs)) : ∀ {ds : List PyData} {vs : List V}, immAll ds = true → DpAll K H vs ds → DpAll K (hid H S) vs ds
  | [], _, _, .nil => .nil
  | _ :: _, _, h, .cons a b => by
    have h2 := Bool.and_eq_true_iff.mp (show (imm _ && immAll _) = true from h)
    exact .cons (Dp.hide hS h2.1 a) (DpAll.hide hS h2.2 b)
end

/-! ### what a slot holds -/
/-- data, or the source of draws, or a Net -/
inductive Ar where
  | d (x : PyData)
  | sta
  | net (many : Int) (ties : List (Int × Int))
/-- the source of draws, as it stands in the heap: a dict whose numbers are not told, but how often it was filled, at most -/
def stE (P : Program) (w : World) (a g c : Addr) (n : Nat) : HO := .ext fun h =>
  ∃ l t : Int, 0 ≤ l ∧ 0 ≤ t ∧ t ≤ n ∧ (a == sysModules) = false ∧ ∃ vs, KV [((.inr "great" : Key), V.ref g), (.inr "cells", .ref c), (.inr "left", .int l), (.inr "turn", .int t)] vs ∧ h.DictOf (mixKind P w) a vs
/-- a list of numbers -/
def grE (g : Addr) : HO := .ext fun h =>
  ∃ (ns : List Int) (its : List Value) (n : Nat), (∀ k ∈ ns, (0 : Int) ≤ k) ∧ ns.length ≤ 1000 ∧ Vals (ns.map V.int) its ∧ h.get? g = some { cls := .type "list", data := .seq its.toArray n }
/-- the cells, which nobody writes -/
def CeE (u : HO) : Prop := ∃ (o : Obj) (cells : List Int), u = .frz o (.lst (cells.map V.int)) ∧ cells.length ≤ 1000 ∧ ∀ k ∈ cells, (0 : Int) ≤ k
def StOKn (P : Program) (w : World) (H : Hp) (a : Addr) (n : Nat) : Prop :=
  ∃ (m : Nat) (g c : Addr) (u : HO), m ≤ n ∧ CeE u ∧ H a = some (stE P w a g c m) ∧ H g = some (grE g) ∧ H c = some u
def StOK (P : Program) (w : World) (H : Hp) (a : Addr) : Prop := ∃ n, StOKn P w H a n
/-- what a source is made of -/
def stU : HO → Bool
  | .ext _ => true
  | .frz _ _ => true
  | _ => false
theorem CeE.stU {u : HO} (h : CeE u) : DW.stU u = true := by obtain ⟨o, cells, rfl, _⟩ := h; rfl
theorem StOKn.to {P : Program} {w : World} {H H' : Hp} {a : Addr} {n : Nat} (h : StOKn P w H a n) (k : ∀ b u, DW.stU u = true → H b = some u → H' b = some u) : StOKn P w H' a n := by
  obtain ⟨m, g, c, u, hm, hu, h1, h2, h3⟩ := h
  exact ⟨m, g, c, u, hm, hu, k _ _ rfl h1, k _ _ rfl h2, k _ _ hu.stU h3⟩
theorem StOKn.le {P : Program} {w : World} {H : Hp} {a : Addr} {n m : Nat} (h : StOKn P w H a n) (l : n ≤ m) : StOKn P w H a m := by
  obtain ⟨k, g, c, u, hm, r⟩ := h
  exact ⟨k, g, c, u, Nat.le_trans hm l, r⟩
theorem StOK.to {P : Program} {w : World} {H H' : Hp} {a : Addr} (h : StOK P w H a) (k : ∀ b u, DW.stU u = true → H b = some u → H' b = some u) : StOK P w H' a := let ⟨n, q⟩ := h; ⟨n, q.to k⟩
/-- no source was filled more than n times -/
def Cn (P : Program) (w : World) (H : Hp) (n : Nat) : Prop := ∀ (a g c : Addr) (m : Nat), H a = some (stE P w a g c m) → ∃ (g' c' : Addr) (m' : Nat), m' ≤ n ∧ H a = some (stE P w a g' c' m')
theorem Cn.le {P : Program} {w : World} {H : Hp} {n m : Nat} (h : Cn P w H n) (l : n ≤ m) : Cn P w H m := fun a g c k e => let ⟨g', c', m', h1, h2⟩ := h a g c k e; ⟨g', c', m', Nat.le_trans h1 l, h2⟩
theorem Cn.to {P : Program} {w : World} {H H' : Hp} {n : Nat} (h : Cn P w H n) (k : ∀ b u, DW.stU u = true → H b = some u → H' b = some u) (k' : ∀ b u, DW.stU u = true → H' b = some u → H b = some u) : Cn P w H' n := fun a g c m e => let ⟨g', c', m', h1, h2⟩ := h a g c m (k' _ _ rfl e); ⟨g', c', m', h1, k _ _ rfl h2⟩
/-- the heap goes on, with at most c fillings -/
structure Sm (P : Program) (w : World) (c : Nat) (H H' : Hp) : Prop extends Same H H' where
  sta : ∀ {a : Addr}, StOK P w H a → StOK P w H' a
  cnt : ∀ {n : Nat}, Cn P w H n → Cn P w H' (n + c)
theorem Sm.refl {P : Program} {w : World} (H : Hp) : Sm P w 0 H H := ⟨Same.refl H, fun h => h, fun h => h⟩
theorem Sm.trans {P : Program} {w : World} {c d : Nat} {H H1 H2 : Hp} (a : Sm P w c H H1) (b : Sm P w d H1 H2) : Sm P w (c + d) H H2 := ⟨a.toSame.trans b.toSame, fun h => b.sta (a.sta h), fun {n} h => by rw [← Nat.add_assoc]; exact b.cnt (a.cnt h)⟩
theorem Sm.le {P : Program} {w : World} {c d : Nat} {H H1 : Hp} (a : Sm P w c H H1) (h : c ≤ d) : Sm P w d H H1 := ⟨a.toSame, a.sta, fun q => (a.cnt q).le (by omega)⟩
/-- another view of the same sources -/
theorem Sm.up {P : Program} {w : World} {c : Nat} {H H1 H2 : Hp} (h : Sm P w c H H1) (s : Same H1 H2) (k : ∀ b u, DW.stU u = true → H1 b = some u → H2 b = some u) (k' : ∀ b u, DW.stU u = true → H2 b = some u → H1 b = some u) : Sm P w c H H2 := ⟨h.toSame.trans s, fun q => (h.sta q).to k, fun q => (h.cnt q).to k k'⟩
theorem Sm.new {P : Program} {w : World} {H : Hp} {a : Addr} {o : HO} (h : H a = none) (x : stU o = false := by rfl) : Sm P w 0 H (upd H a o) := by
  have ne : ∀ {b : Addr} {u : HO}, H b = some u → upd H a o b = some u := fun {b u} e => by rw [upd_ne (ne_of_none e h)]; exact e
  refine (Sm.refl H).up (same_new h) (fun b u _ e => ne e) fun b u y e => ?_
  by_cases hb : b = a
  · subst hb
    rw [upd_same] at e
    cases e
    rw [x] at y; cases y
  · rw [upd_ne hb] at e; exact e
/-- room for c more fillings -/
def Bud (P : Program) (w : World) (H : Hp) (c : Nat) : Prop := ∃ n, Cn P w H n ∧ n + c ≤ 2 ^ 4000
theorem Bud.le {P : Program} {w : World} {H : Hp} {c d : Nat} (b : Bud P w H c) (h : d ≤ c) : Bud P w H d := let ⟨n, h1, h2⟩ := b; ⟨n, h1, by omega⟩
theorem Bud.after {P : Program} {w : World} {H H' : Hp} {c d e : Nat} (b : Bud P w H e) (h : c + d ≤ e) (s : Sm P w c H H') : Bud P w H' d := let ⟨n, h1, h2⟩ := b; ⟨n + c, s.cnt h1, by omega⟩
def pairD (p : Int × Int) : PyData := .tuple [.int p.1, .int p.2]
/-- an instance of Net -/
def NetOK (K : Fg) (H : Hp) (v : V) (n : Int) (ts : List (Int × Int)) : Prop :=
  ∃ (a dx : Addr) (tv : V), v = .ref a ∧ H a = some (.ins (He.ga K "Net") dx [("many", .int n), ("ties", tv)]) ∧ Dp K H tv (.tuple (ts.map pairD))
def Ra (P : Program) (w : World) (K : Fg) (H : Hp) (v : V) : Ar → Prop
  | .d x => Dp K H v x
  | .sta => ∃ a, v = .ref a ∧ StOK P w H a
  | .net n ts => NetOK K H v n ts
theorem Ra.mono {P : Program} {w : World} {K : Fg} {H H' : Hp} {c : Nat} (h : Sm P w c H H') {v : V} : ∀ {x : Ar}, Ra P w K H v x → Ra P w K H' v x
  | .d x, r => Dp.mono h.toSame r
  | .sta, ⟨a, e, r⟩ => ⟨a, e, h.sta r⟩
  | .net _ _, ⟨a, dx, tv, e, r, q⟩ => ⟨a, dx, tv, e, h.k r rfl, Dp.mono h.toSame q⟩
inductive RaAll (P : Program) (w : World) (K : Fg) (H : Hp) : List V → List Ar → Prop
  | nil : RaAll P w K H [] []
  | cons {v : V} {vs : List V} {x : Ar} {xs : List Ar} : Ra P w K H v x → RaAll P w K H vs xs → RaAll P w K H (v :: vs) (x :: xs)
theorem RaAll.mono {P : Program} {w : World} {K : Fg} {H H' : Hp} {c : Nat} (h : Sm P w c H H') : ∀ {xs : List Ar} {vs : List V}, RaAll P w K H vs xs → RaAll P w K H' vs xs
  | [], _, .nil => .nil
  | _ :: _, _, .cons a b => .cons (Ra.mono h a) (RaAll.mono h b)
theorem RaAll.length {P : Program} {w : World} {K : Fg} {H : Hp} : ∀ {xs : List Ar} {vs : List V}, RaAll P w K H vs xs → vs.length = xs.length
  | [], _, .nil => rfl
  | _ :: _, _, .cons _ b => by rw [List.length_cons, List.length_cons, RaAll.length b]
/-- the datas of a list -/
def allD : List Ar → Option (List PyData)
  | [] => some []
  | .d x :: r => (allD r).map (x :: ·)
  | _ :: _ => none
theorem RaAll.dps {P : Program} {w : World} {K : Fg} {H : Hp} : ∀ {xs : List Ar} {vs : List V} {ds : List PyData}, RaAll P w K H vs xs → allD xs = some ds → DpAll K H vs ds
  | [], _, ds, .nil, e => by cases e; exact .nil
  | .d x :: r, _, ds, .cons a b, e => by
    unfold allD at e
    cases q : allD r with
    | none => rw [q] at e; cases e
    | some es => rw [q] at e; cases e; exact .cons a (RaAll.dps b q)
  | .sta :: r, _, ds, _, e => by cases e
  | .net _ _ :: r, _, ds, _, e => by cases e
inductive Sl where
  | no
  | ar (x : Ar)
  /-- a list of the frame's own, read and written by nobody else -/
  | ow (xs : List PyData)
  /-- such a list of such lists -/
  | ow2 (xss : List (List PyData))
def ll (xss : List (List PyData)) : PyData := .list (xss.map .list)
abbrev Sl.d (x : PyData) : Sl := .ar (.d x)
abbrev Ro := List Sl
def noOw : Ro → Ro := List.map fun
  | .ow _ => .no
  | .ow2 _ => .no
  | x => x
def SlE (P : Program) (w : World) (K : Fg) (H : Hp) (u : Option (Option V)) : Sl → Prop
  | .no => True
  | .ar x => ∃ v, u = some (some v) ∧ Ra P w K H v x
  | .ow xs => ∃ v, u = some (some v) ∧ Dp K H v (.list xs)
  | .ow2 xss => ∃ v, u = some (some v) ∧ Dp K H v (ll xss)
theorem SlE.mono {P : Program} {w : World} {K : Fg} {H H' : Hp} {c : Nat} {u : Option (Option V)} (h : Sm P w c H H') : ∀ {x : Sl}, SlE P w K H u x → SlE P w K H' u x
  | .no, _ => trivial
  | .ar x, ⟨v, a, b⟩ => ⟨v, a, Ra.mono h b⟩
  | .ow xs, ⟨v, a, b⟩ => ⟨v, a, Dp.mono h.toSame b⟩
  | .ow2 xs, ⟨v, a, b⟩ => ⟨v, a, Dp.mono h.toSame b⟩
/-- an expression's view of the slots, and the room that it has -/
structure RepE (P : Program) (w : World) (K : Fg) (ρ : Ro) (σ : L2.St) (H : Hp) (c : Nat) : Prop where
  sl : ∀ (i : Nat) (x : Sl), ρ[i]? = some x → SlE P w K H σ[i]? x
  bud : Bud P w H c
section
variable {P : Program} {w : World} {K : Fg} {ρ : Ro} {σ : L2.St} {H H' : Hp} {c d : Nat}
theorem RepE.le (r : RepE P w K ρ σ H c) (h : d ≤ c) : RepE P w K ρ σ H d := ⟨r.sl, r.bud.le h⟩
theorem RepE.l (r : RepE P w K ρ σ H (c + d)) : RepE P w K ρ σ H c := r.le (Nat.le_add_right _ _)
theorem RepE.mono (h : Sm P w c H H') (r : RepE P w K ρ σ H (c + d)) : RepE P w K ρ σ H' d := ⟨fun i x e => (r.sl i x e).mono h, r.bud.after (Nat.le_refl _) h⟩
theorem RepE.go (r : RepE P w K ρ σ H (c + d)) (h : Sm P w c H H') : RepE P w K ρ σ H' d := RepE.mono h r
theorem RepE.set (r : RepE P w K ρ σ H c) {i : Nat} {v : V} {x : Ar} (hi : i < σ.length) (h : Ra P w K H v x) : RepE P w K (ρ.set i (.ar x)) (σ.set i (some v)) H c := ⟨fun j y e => by
  by_cases hj : i = j
  · subst hj
    by_cases hl : i < ρ.length
    · rw [List.getElem?_set_self hl] at e
      cases e
      exact ⟨v, by rw [List.getElem?_set_self hi], h⟩
    · rw [List.getElem?_eq_none (by simpa using hl)] at e; cases e
  · rw [List.getElem?_set_ne hj] at e ⊢
    exact r.sl j y e, r.bud⟩
def wipeR (ρ : Ro) : List Nat → Ro
  | [] => ρ
  | v :: vs => (wipeR ρ vs).set v .no
theorem RepE.setNo (r : RepE P w K ρ σ H c) (i : Nat) (o : Option V) : RepE P w K (ρ.set i .no) (σ.set i o) H c := ⟨fun j y e => by
  by_cases hj : i = j
  · subst hj
    by_cases hl : i < ρ.length
    · rw [List.getElem?_set_self hl] at e
      cases e
      trivial
    · rw [List.getElem?_eq_none (by simpa using hl)] at e; cases e
  · rw [List.getElem?_set_ne hj] at e ⊢
    exact r.sl j y e, r.bud⟩
theorem RepE.wipe (r : RepE P w K ρ σ H c) : ∀ vs : List Nat, RepE P w K (wipeR ρ vs) (L2.wipe σ vs) H c
  | [] => r
  | v :: vs => RepE.setNo (RepE.wipe r vs) v none
end
end DW
set_option Elab.async false
set_option linter.all false
set_option maxRecDepth 100000
set_option maxHeartbeats 1000000
/-! DwExpr: the frame rule, the judgements of expressions, tests, argument lists, what is walked. -/
namespace DW
open PySem PySem.Spec PyProof.Rows L2

/-! ### the frame rule: what is hidden stays -/
def LstS (H : Hp) (S : List Addr) : Prop := ∀ a ∈ S, ∃ xs, H a = some (.lst xs)
def rest (H : Hp) (S : List Addr) (H1 : Hp) : Hp := fun b => if b ∈ S then H b else H1 b
theorem rest_in {H H1 : Hp} {S : List Addr} {b : Addr} (h : b ∈ S) : rest H S H1 b = H b := if_pos h
theorem rest_out {H H1 : Hp} {S : List Addr} {b : Addr} (h : b ∉ S) : rest H S H1 b = H1 b := if_neg h
theorem hid_rest {H H1 : Hp} {S : List Addr} (h : ∀ a ∈ S, H1 a = none) : hid (rest H S H1) S = H1 := by
  funext b
  by_cases hb : b ∈ S
  · rw [hid_in hb, h b hb]
  · rw [hid_out hb, rest_out hb]
theorem same_rest {H H1 : Hp} {S : List Addr} (h : Same (hid H S) H1) : Same H (rest H S H1) := ⟨fun {b o} e x => by
  by_cases hb : b ∈ S
  · rw [rest_in hb]; exact e
  · rw [rest_out hb]; exact h.k (by rw [hid_out hb]; exact e) x, fun {b o} e => by
  by_cases hb : b ∈ S
  · exact ⟨o, by rw [rest_in hb]; exact e⟩
  · rw [rest_out hb]; exact h.th (o := o) (by rw [hid_out hb]; exact e)⟩
theorem LstS.out {H : Hp} {S : List Addr} (l : LstS H S) {b : Addr} {o : HO} (e : H b = some o) (x : stU o = true) : b ∉ S := fun z => by
  obtain ⟨xs, q⟩ := l b z
  rw [e] at q; cases q; cases x
section
variable {P : Program} {w : World} {H H1 H' : Hp} {S : List Addr} {c n : Nat}
theorem hidK (l : LstS H S) : ∀ b u, stU u = true → H b = some u → DW.hid H S b = some u := fun b u x e => by rw [hid_out (l.out e x)]; exact e
theorem hidB : ∀ b u, stU u = true → DW.hid H S b = some u → H b = some u := fun b u _ e => (hid_some e).2
theorem StOK.hid {a : Addr} (l : LstS H S) (h : StOK P w H a) : StOK P w (hid H S) a := h.to (hidK l)
theorem Cn.hid (l : LstS H S) (h : Cn P w H n) : Cn P w (hid H S) n := h.to (hidK l) hidB
theorem Cn.unhid (l : LstS H S) (h : Cn P w (DW.hid H S) n) : Cn P w H n := h.to hidB (hidK l)
theorem Bud.hid (l : LstS H S) (h : Bud P w H c) : Bud P w (DW.hid H S) c := let ⟨n, h1, h2⟩ := h; ⟨n, h1.hid l, h2⟩
theorem Bud.unhid (l : LstS H S) (h : Bud P w (DW.hid H S) c) : Bud P w H c := let ⟨n, h1, h2⟩ := h; ⟨n, h1.unhid l, h2⟩
theorem sm_rest (l : LstS H S) (h : Sm P w c (DW.hid H S) H1) (no : ∀ a ∈ S, H1 a = none) : Sm P w c H (rest H S H1) := by
  have on : ∀ b u, stU u = true → H1 b = some u → rest H S H1 b = some u := fun b u _ e => by rw [rest_out (fun z => by rw [no b z] at e; cases e)]; exact e
  have back : ∀ b u, stU u = true → rest H S H1 b = some u → H1 b = some u := fun b u x e => by
    by_cases hb : b ∈ S
    · rw [rest_in hb] at e
      exact absurd hb (l.out e x)
    · rw [rest_out hb] at e; exact e
  exact ⟨same_rest h.toSame, fun q => (h.sta (q.hid l)).to on, fun q => (h.cnt (q.hid l)).to on back⟩
theorem sm_hid (l : LstS H S) (h : Sm P w c H H') : Sm P w c (DW.hid H S) (DW.hid H' S) := by
  have l' : LstS H' S := fun a ha => let ⟨xs, q⟩ := l a ha; ⟨xs, h.k q rfl⟩
  exact ⟨hid_mono S h.toSame, fun {a} q => (h.sta (q.to hidB)).hid l', fun {n} q => (h.cnt (q.unhid l)).hid l'⟩
theorem sm_unhid (l : LstS H' S) (h : Sm P w c H (DW.hid H' S)) : Sm P w c H H' := h.up (hid_le _ _) hidB (hidK l)
end
section
variable {X : Cx} {pins : List (Addr × Obj)} {σ : L2.St} {H : Hp} {s : Shared}
theorem fsFree (I : Inv X pins σ H s) {b : Addr} (hb : b ∈ X.fs) : H b = none := by
  obtain ⟨_, o, ho, _⟩ := I.ok.funs.mem hb
  exact I.base.free b o ho (I.ok.frf b hb) fun z => I.ok.exfs b z hb
theorem Inv.hideL (I : Inv X pins σ H s) {S : List Addr} (hS : LstS H S) : Inv X (pins ++ pinsAt S s.heap) σ (hid H S) s := by
  have out : ∀ b o, H b = some o → (∀ xs, o ≠ .lst xs) → b ∉ S := fun b o e n hb => by
    obtain ⟨xs, q⟩ := hS b hb
    rw [e] at q; cases q; exact n _ rfl
  have le : ∀ b, H b = none → hid H S b = none := fun b e => by
    by_cases hb : b ∈ S
    · exact hid_in hb
    · rw [hid_out hb]; exact e
  refine ⟨I.ok, I.os, I.bare, ⟨I.base.keep, I.base.slot, fun b o e n hx => le b (I.base.free b o e n hx), I.base.there, fun b xs e => ?_, fun b o u e => ?_, fun b ps e => ?_⟩, I.loc, I.cell, le _ I.free, fun x c e => le _ (I.freeC x c e), fun p hp => ?_, fun b o e => ?_, I.len⟩
  · have q := I.base.tups b xs e
    rw [hid_out (out b _ q fun _ z => by cases z)]; exact q
  · have q := I.base.frzs b o u e
    rw [hid_out (out b _ q fun _ z => by cases z)]; exact q
  · obtain ⟨m, q⟩ := I.base.tbls b ps e
    exact ⟨m, by rw [hid_out (out b _ q fun _ z => by cases z)]; exact q⟩
  · rw [← List.append_assoc] at hp
    rcases List.mem_append.mp hp with hp | hp
    · obtain ⟨e, n, r⟩ := I.pin p hp
      exact ⟨e, le _ n, r⟩
    · obtain ⟨hm, e⟩ := of_pinsAt hp
      obtain ⟨xs, q⟩ := hS _ hm
      refine ⟨e, hid_in hm, fun z => ?_, fun z => ?_, fun v z => ?_⟩
      · rw [z, I.free] at q; cases q
      · rw [fsFree I z] at q; cases q
      · obtain ⟨_, its, n, _, e2⟩ := I.hok _ _ q
        rw [e2] at e
        have e3 := Option.some.inj e
        rw [← e3] at z; cases z
  · have hb : b ∉ S := fun z => by rw [hid_in z] at e; cases e
    rw [hid_out hb] at e
    refine (I.hok b o e).stay (fun _ _ _ q => q) (fun c q => ?_) fun c xs q => ?_
    · rw [hid_out (out c _ q fun _ z => by cases z)]; exact q
    · rw [hid_out (out c _ q fun _ z => by cases z)]; exact q
theorem Inv.unhide {s' : Shared} {σ' : L2.St} {H1 : Hp} {S : List Addr} (I : Inv X pins σ H s) (hS : LstS H S) (J : Inv X (pins ++ pinsAt S s.heap) σ' H1 s') : Inv X pins σ' (rest H S H1) s' ∧ ∀ a ∈ S, H1 a = none := by
  have obj : ∀ a ∈ S, ∃ o, s.heap.get? a = some o := fun a ha => by
    obtain ⟨xs, q⟩ := hS a ha
    obtain ⟨_, its, n, _, e⟩ := I.hok a _ q
    exact ⟨_, e⟩
  have pinned : ∀ a ∈ S, ∀ o, s.heap.get? a = some o → s'.heap.get? a = some o ∧ H1 a = none := fun a ha o e => by
    obtain ⟨e1, n, _⟩ := J.pin (a, o) (List.mem_append_right _ (List.mem_append_right _ (mem_pinsAt ha e)))
    exact ⟨e1, n⟩
  have no : ∀ a ∈ S, H1 a = none := fun a ha => by
    obtain ⟨o, e⟩ := obj a ha
    exact (pinned a ha o e).2
  have outH : ∀ b o, H1 b = some o → b ∉ S := fun b o e hb => by rw [no b hb] at e; cases e
  have outN : ∀ b, H b = none → b ∉ S := fun b e hb => by
    obtain ⟨xs, q⟩ := hS b hb
    rw [e] at q; cases q
  refine ⟨⟨J.ok, J.os, J.bare, ⟨J.base.keep, J.base.slot, fun b o e n hx => ?_, J.base.there, fun b xs e => ?_, fun b o u e => ?_, fun b ps e => ?_⟩, J.loc, J.cell, ?_, fun x c e => ?_, fun p hp => ?_, fun b o e => ?_, J.len⟩, no⟩
  · have hb := outN b (I.base.free b o e n hx)
    rw [rest_out hb]; exact J.base.free b o e n hx
  · have q := J.base.tups b xs e
    rw [rest_out (outH b _ q)]; exact q
  · have q := J.base.frzs b o u e
    rw [rest_out (outH b _ q)]; exact q
  · obtain ⟨m, q⟩ := J.base.tbls b ps e
    exact ⟨m, by rw [rest_out (outH b _ q)]; exact q⟩
  · rw [rest_out (outN _ I.free)]; exact J.free
  · rw [rest_out (outN _ (I.freeC x c e))]; exact J.freeC x c e
  · obtain ⟨_, n, _⟩ := I.pin p hp
    obtain ⟨e1, n1, r⟩ := J.pin p (by rw [← List.append_assoc]; exact List.mem_append_left _ hp)
    exact ⟨e1, by rw [rest_out (outN _ n)]; exact n1, r⟩
  · by_cases hb : b ∈ S
    · rw [rest_in hb] at e
      obtain ⟨xs, q⟩ := hS b hb
      rw [e] at q; cases q
      obtain ⟨z, its, n, r, e2⟩ := I.hok b _ e
      exact ⟨z, its, n, r, (pinned b hb _ e2).1⟩
    · rw [rest_out hb] at e
      refine (J.hok b o e).stay (fun _ _ _ q => q) (fun c q => ?_) fun c xs q => ?_
      · rw [rest_out (outH c _ q)]; exact q
      · rw [rest_out (outH c _ q)]; exact q
end
def tFr (t : TE) : TE := fun σ H Q => ∃ S, LstS H S ∧ t σ (hid H S) fun v H1 => (∀ a ∈ S, H1 a = none) → Q v (rest H S H1)
theorem pe_fr {X : Cx} {e : Expr} {t : TE} (h : PE X e t) : PE X e (tFr t) := by
  refine ⟨fun pins s σ H Q I ⟨S, hS, q⟩ => ?_⟩
  refine thn (h.run _ s σ _ _ (Inv.hideL I hS) q) fun u s1 ⟨v, H1, I1, r1, q1⟩ => ?_
  obtain ⟨J, no⟩ := Inv.unhide I hS I1
  exact ⟨v, _, J, r1, q1 no⟩
def tFrT (t : TT) : TT := fun σ H Q => ∃ S, LstS H S ∧ t σ (hid H S) fun v H1 => (∀ a ∈ S, H1 a = none) → Q v (rest H S H1)
theorem pt_fr {X : Cx} {e : Expr} {t : TT} (h : PT X e t) : PT X e (tFrT t) := by
  refine ⟨fun pins s σ H Q I ⟨S, hS, q⟩ => ?_⟩
  refine thn (h.run _ s σ _ _ (Inv.hideL I hS) q) fun u s1 ⟨H1, I1, q1⟩ => ?_
  obtain ⟨J, no⟩ := Inv.unhide I hS I1
  exact ⟨_, J, q1 no⟩

theorem pe_imp {X : Cx} {e : Expr} {t t' : TE} (h : PE X e t) (i : ∀ σ H Q, t' σ H Q → t σ H Q) : PE X e t' := ⟨fun pins s σ H Q I q => h.run pins s σ H Q I (i _ _ _ q)⟩
theorem pe_impI {X : Cx} {e : Expr} {t t' : TE} (h : PE X e t) (i : ∀ pins s σ H Q, Inv X pins σ H s → t' σ H Q → t σ H Q) : PE X e t' := ⟨fun pins s σ H Q I q => h.run pins s σ H Q I (i _ _ _ _ _ I q)⟩
theorem pt_imp {X : Cx} {e : Expr} {t t' : TT} (h : PT X e t) (i : ∀ σ H Q, t' σ H Q → t σ H Q) : PT X e t' := ⟨fun pins s σ H Q I q => h.run pins s σ H Q I (i _ _ _ q)⟩
theorem pa_imp {X : Cx} {e : List Expr} {t t' : TA} (h : PA X e t) (i : ∀ σ H Q, t' σ H Q → t σ H Q) : PA X e t' := ⟨fun pos pins s σ H Q I q => h.run pos pins s σ H Q I (i _ _ _ q)⟩
theorem ps_imp {X : Cx} {e : Stmt} {t t' : TS} (h : PS X e t) (i : ∀ D σ H, t' D σ H → t D σ H) : PS X e t' := ⟨fun pins s σ H D I q => h.run pins s σ H D I (i _ _ _ q)⟩

/-! ### the judgements -/
abbrev WE := Ro → (Ar → Prop) → Prop
abbrev WT := Ro → (Bool → Prop) → Prop
abbrev WL := Ro → (List Ar → Prop) → Prop
abbrev MonoE (w : WE) : Prop := ∀ ρ (Q Q' : Ar → Prop), (∀ x, Q x → Q' x) → w ρ Q → w ρ Q'
abbrev MonoT (w : WT) : Prop := ∀ ρ (Q Q' : Bool → Prop), (∀ x, Q x → Q' x) → w ρ Q → w ρ Q'
abbrev MonoL (w : WL) : Prop := ∀ ρ (Q Q' : List Ar → Prop), (∀ x, Q x → Q' x) → w ρ Q → w ρ Q'
abbrev SmX (X : Cx) (c : Nat) (H H' : Hp) : Prop := Sm X.prog X.w c H H'
abbrev RepX (X : Cx) (ρ : Ro) (σ : L2.St) (H : Hp) (c : Nat) : Prop := RepE X.prog X.w X.K ρ σ H c
def tD (X : Cx) (w : WE) (c : Nat) : TE := fun σ H Q => ∃ ρ, RepX X ρ σ H c ∧ w ρ fun x => ∀ v H', SmX X c H H' → Ra X.prog X.w X.K H' v x → Q v H'
def tDT (X : Cx) (w : WT) (c : Nat) : TT := fun σ H Q => ∃ ρ, RepX X ρ σ H c ∧ w ρ fun b => ∀ H', SmX X c H H' → Q b H'
def tDL (X : Cx) (w : WL) (c : Nat) : TA := fun σ H Q => ∃ ρ, RepX X ρ σ H c ∧ w ρ fun xs => ∀ vs H', SmX X c H H' → RaAll X.prog X.w X.K H' vs xs → Q vs H'
/-- c: the source of draws is filled c times at most -/
structure DE (X : Cx) (e : Expr) (w : WE) (c : Nat) : Prop where
  mono : MonoE w
  run : PE X e (tD X w c)
structure DT (X : Cx) (e : Expr) (w : WT) (c : Nat) : Prop where
  mono : MonoT w
  run : PT X e (tDT X w c)
/-- a test whatever its whole is (and, or) -/
structure DW' (X : Cx) (e : Expr) (w : WT) (c : Nat) : Prop where
  mono : MonoT w
  run : PW X e (tDT X w c)
structure DL (X : Cx) (es : List Expr) (w : WL) (c : Nat) : Prop where
  mono : MonoL w
  len : ∀ ρ Q, w ρ Q → w ρ fun xs => xs.length = es.length ∧ Q xs
  run : PA X es (tDL X w c)
section
variable {X : Cx} {c d c2 : Nat}

/-- chaining: the reading of a part, then more -/
theorem tD_then {w : WE} (m : MonoE w) {σ : L2.St} {H : Hp} {ρ : Ro} {Q : Ar → Prop} {R : VK} (r : RepX X ρ σ H c) (h : w ρ Q) (k : ∀ x v H', Q x → SmX X c H H' → Ra X.prog X.w X.K H' v x → R v H') : tD X w c σ H R :=
  ⟨ρ, r, m ρ _ _ (fun x q v H' e z => k x v H' q e z) h⟩
theorem tDT_then {w : WT} (m : MonoT w) {σ : L2.St} {H : Hp} {ρ : Ro} {Q : Bool → Prop} {R : Bool → Hp → Prop} (r : RepX X ρ σ H c) (h : w ρ Q) (k : ∀ x H', Q x → SmX X c H H' → R x H') : tDT X w c σ H R :=
  ⟨ρ, r, m ρ _ _ (fun x q H' e => k x H' q e) h⟩
theorem tDL_then {w : WL} (m : MonoL w) {σ : L2.St} {H : Hp} {ρ : Ro} {Q : List Ar → Prop} {R : List V → Hp → Prop} (r : RepX X ρ σ H c) (h : w ρ Q) (k : ∀ x v H', Q x → SmX X c H H' → RaAll X.prog X.w X.K H' v x → R v H') : tDL X w c σ H R :=
  ⟨ρ, r, m ρ _ _ (fun x q v H' e z => k x v H' q e z) h⟩

/-! ### names, constants -/
def wVar (i : Nat) : WE := fun ρ Q => match ρ[i]? with
  | some (.ar x) => Q x
  | some (.ow xs) => Q (.d (.list xs))
  | some (.ow2 xss) => Q (.d (ll xss))
  | _ => False
theorem wVar_mono (i : Nat) : MonoE (wVar i) := fun ρ Q Q' h q => by
  unfold wVar at q ⊢
  split <;> simp_all
theorem de_var (i : Nat) {x : Str} {pos : Pos} (hN : X.N[i]? = some x := by rfl) (hv : Vis X.env.scope x := by first | exact Or.inl rfl | exact Or.inr (Or.inl rfl) | exact Or.inr (Or.inr rfl)) (hd : (x == ("__debug__" : Str)) = false := by decide)
    (hcd : (x == ("__classdict__" : Str)) = false := by decide) : DE X (.Name x pos) (wVar i) 0 := by
  refine ⟨wVar_mono i, pe_imp (pe_var hN hv hd hcd) fun σ H Q ⟨ρ, r, h⟩ => ?_⟩
  unfold wVar at h
  have q := fun x e => r.sl i x e
  split at h
  · rename_i x e
    obtain ⟨v, e1, z⟩ := q _ e
    exact ⟨v, e1, h v H (Sm.refl H) z⟩
  · rename_i xs e
    obtain ⟨v, e1, z⟩ := q _ e
    exact ⟨v, e1, h v H (Sm.refl H) z⟩
  · rename_i xs e
    obtain ⟨v, e1, z⟩ := q _ e
    exact ⟨v, e1, h v H (Sm.refl H) z⟩
  · exact h.elim
def wC (x : PyData) : WE := fun _ Q => Q (.d x)
theorem wC_mono (x : PyData) : MonoE (wC x) := fun _ _ _ h q => h _ q
theorem de_const {e : Expr} {v : V} {x : PyData} (h : PE X e (tC v)) (hx : ∀ H, Dp X.K H v x) : DE X e (wC x) 0 :=
  ⟨wC_mono x, pe_imp h fun σ H Q ⟨ρ, r, q⟩ => q v H (Sm.refl H) (hx H)⟩
theorem de_int {i : Int} {j pos} : DE X (.Constant (.int i) j pos) (wC (.int i)) 0 := de_const pe_int fun _ => .int i
theorem de_bl {b : Bool} {j pos} : DE X (.Constant (.bool b) j pos) (wC (.bool b)) 0 := de_const pe_bl fun _ => .bl b
theorem de_non {j pos} : DE X (.Constant .none j pos) (wC .none) 0 := de_const pe_non fun _ => .non
theorem de_str {x : Str} {j pos} : DE X (.Constant (.str x) j pos) (wC (.str x)) 0 := de_const pe_str fun _ => .str x
/-- a constant of the module -/
theorem de_glob {x : Str} {v : V} {d : PyData} {u : Value} {pos : Pos} (hg : Gl X x) (hm : X.mg x = some u) (r : RelV v u) (hx : ∀ H, Dp X.K H v d) (hd : (x == ("__debug__" : Str)) = false := by decide) : DE X (.Name x pos) (wC d) 0 := de_const (pe_glob hg hm r hd) hx

/-! ### lists of expressions, displays -/
def wNil : WL := fun _ Q => Q []
def wCons (a : WE) (l : WL) : WL := fun ρ Q => a ρ fun x => l ρ fun xs => Q (x :: xs)
theorem dl_nil : DL X [] wNil 0 := ⟨fun _ _ _ h q => h _ q, fun _ _ q => ⟨rfl, q⟩, pa_imp pa_nil fun σ H Q ⟨ρ, r, q⟩ => q [] H (Sm.refl H) .nil⟩
theorem dl_cons {e : Expr} {es : List Expr} {a : WE} {l : WL} (he : DE X e a c) (hl : DL X es l d) (hs : starEach (e :: es) X.env = (false, eval e X.env) :: starEach es X.env := by rfl) : DL X (e :: es) (wCons a l) (c + d) := by
  refine ⟨fun ρ Q Q' h q => he.mono ρ _ _ (fun x q => hl.mono ρ _ _ (fun xs q => h _ q) q) q, fun ρ Q q => ?_, pa_imp (pa_cons he.run hl.run hs) fun σ H Q ⟨ρ, r, q⟩ => ?_⟩
  · refine he.mono ρ _ _ (fun x q => ?_) q
    refine hl.mono ρ _ _ (fun xs q => ?_) (hl.len ρ _ q)
    exact ⟨by rw [List.length_cons, List.length_cons, q.1], q.2⟩
  · refine tD_then he.mono r.l q fun x v H1 q1 e1 z1 => ?_
    refine tDL_then hl.mono (r.go e1) q1 fun xs vs H2 q2 e2 z2 => ?_
    exact q2 (v :: vs) H2 (e1.trans e2) (.cons (Ra.mono e2 z1) z2)
def wTup (l : WL) : WE := fun ρ Q => l ρ fun xs => match allD xs with
  | some ds => Q (.d (.tuple ds))
  | none => False
def wLst (l : WL) : WE := fun ρ Q => l ρ fun xs => match allD xs with
  | some ds => Q (.d (.list ds))
  | none => False
theorem de_tup {es : List Expr} {l : WL} {x1 : Nat} {pos : Pos} (h : DL X es l c) (hz : es.length ≤ sizeLine := by decide) : DE X (.Tuple es x1 pos) (wTup l) c := by
  refine ⟨fun ρ Q Q' k q => h.mono ρ _ _ (fun xs q => ?_) q, pe_imp (pe_tup h.run) fun σ H Q ⟨ρ, r, q⟩ => ?_⟩
  · cases e : allD xs with
    | none => rw [e] at q; exact q
    | some ds => rw [e] at q; exact k _ q
  · refine tDL_then h.mono r (h.len ρ _ q) fun xs vs H1 ⟨hl, q1⟩ e1 z1 => ?_
    cases e : allD xs with
    | none => rw [e] at q1; exact q1.elim
    | some ds =>
      rw [e] at q1
      refine ⟨by rw [z1.length, hl]; exact hz, fun p hp => q1 (.ref p) _ (e1.trans (Sm.new hp)) (.tup (.inl (.inl upd_same)) (DpAll.mono (same_new hp) (z1.dps e)))⟩
theorem de_lst {es : List Expr} {l : WL} {pos : Pos} (h : DL X es l c) (hz : es.length ≤ sizeLine := by decide) : DE X (.List es pos) (wLst l) c := by
  refine ⟨fun ρ Q Q' k q => h.mono ρ _ _ (fun xs q => ?_) q, pe_imp (pe_lst h.run) fun σ H Q ⟨ρ, r, q⟩ => ?_⟩
  · cases e : allD xs with
    | none => rw [e] at q; exact q
    | some ds => rw [e] at q; exact k _ q
  · refine tDL_then h.mono r (h.len ρ _ q) fun xs vs H1 ⟨hl, q1⟩ e1 z1 => ?_
    cases e : allD xs with
    | none => rw [e] at q1; exact q1.elim
    | some ds =>
      rw [e] at q1
      refine ⟨by rw [z1.length, hl]; exact hz, fun p hp => q1 (.ref p) _ (e1.trans (Sm.new hp)) (.lst (.inl (.inl upd_same)) (DpAll.mono (same_new hp) (z1.dps e)))⟩

/-! ### operators -/
abbrev FB := PyData → PyData → (PyData → Prop) → Prop
abbrev MonoB (f : FB) : Prop := ∀ x y (Q Q' : PyData → Prop), (∀ z, Q z → Q' z) → f x y Q → f x y Q'
/-- a rule of two values that keeps to data -/
def RB (X : Cx) (r : R2) (f : FB) : Prop := ∀ (H : Hp) (x y : V) (a b : PyData) (Q : VK), Dp X.K H x a → Dp X.K H y b → f a b (fun z => ∀ v H', SmX X 0 H H' → Dp X.K H' v z → Q v H') → r x y H Q
def wBin (f : FB) (a b : WE) : WE := fun ρ Q => a ρ fun x => b ρ fun y => match x, y with
  | .d x, .d y => f x y fun z => Q (.d z)
  | _, _ => False
theorem wBin_mono {f : FB} {a b : WE} (hf : MonoB f) (ha : MonoE a) (hb : MonoE b) : MonoE (wBin f a b) := fun ρ Q Q' k q =>
  ha ρ _ _ (fun x q => hb ρ _ _ (fun y q => by
    cases x <;> cases y <;> first | exact hf _ _ _ _ (fun z q => k _ q) q | exact q.elim) q) q
theorem bin_run {r : R2} {f : FB} (hr : RB X r f) (hf : MonoB f) {ea eb : Expr} {a b : WE} (ha : DE X ea a c) (hb : DE X eb b d) : ∀ σ H Q, tD X (wBin f a b) (c + d) σ H Q → tOp r (tD X a c) (tD X b d) σ H Q := fun σ H Q ⟨ρ, rp, q⟩ => by
  refine tD_then ha.mono rp.l q fun x v H1 q1 e1 z1 => ?_
  refine tD_then hb.mono (rp.go e1) q1 fun y u H2 q2 e2 z2 => ?_
  cases x with
  | d x =>
    cases y with
    | d y => exact hr H2 v u x y Q (Dp.mono e2.toSame z1) z2 (hf _ _ _ _ (fun z q v' H' e z' => q v' H' ((e1.trans e2).trans e) z') q2)
    | sta => exact q2.elim
    | net _ _ => exact q2.elim
  | sta => exact q2.elim
  | net _ _ => exact q2.elim
theorem de_op {op : Operator} {r : R2} {f : FB} (ho : OpR X (binaryOp op) r) (hr : RB X r f) (hf : MonoB f) {ea eb : Expr} {a b : WE} {pos : Pos} (ha : DE X ea a c) (hb : DE X eb b d) : DE X (.BinOp ea op eb pos) (wBin f a b) (c + d) :=
  ⟨wBin_mono hf ha.mono hb.mono, pe_imp (pe_op ho ha.run hb.run) (bin_run hr hf ha hb)⟩
theorem de_cmp {op : CmpOp} {r : R2} {f : FB} (ho : OpR X (compareOp op) r) (hr : RB X r f) (hf : MonoB f) {ea eb : Expr} {a b : WE} {pos : Pos} (ha : DE X ea a c) (hb : DE X eb b d) (hm : behindInMarks op eb = false) : DE X (.Compare ea [op] [eb] pos) (wBin f a b) (c + d) :=
  ⟨wBin_mono hf ha.mono hb.mono, pe_imp (pe_cmpR ho ha.run hb.run hm) (bin_run hr hf ha hb)⟩
/-- as a test -/
def wBT (f : FB) (a b : WE) : WT := fun ρ Q => wBin f a b ρ fun z => match z with
  | .d (.bool k) => Q k
  | _ => False
theorem wBT_mono {f : FB} {a b : WE} (hf : MonoB f) (ha : MonoE a) (hb : MonoE b) : MonoT (wBT f a b) := fun ρ Q Q' k q => wBin_mono hf ha hb ρ _ _ (fun z q => by
  revert q
  split
  · exact k _
  · exact id) q
theorem dt_cmp {op : CmpOp} {r : R2} {f : FB} (ho : OpR X (compareOp op) r) (hr : RB X r f) (hf : MonoB f) {ea eb : Expr} {a b : WE} {pos : Pos} (ha : DE X ea a c) (hb : DE X eb b d) (hm : behindInMarks op eb = false) : DT X (.Compare ea [op] [eb] pos) (wBT f a b) (c + d) := by
  refine ⟨wBT_mono hf ha.mono hb.mono, pt_imp (pt_cmpR ho ha.run hb.run hm) fun σ H Q ⟨ρ, rp, q⟩ => ?_⟩
  refine bin_run hr hf ha hb σ H _ ⟨ρ, rp, wBin_mono hf ha.mono hb.mono ρ _ _ (fun z q v H' e rz => ?_) q⟩
  revert q
  split
  · intro q
    cases rz
    exact ⟨_, rfl, q H' e⟩
  · exact False.elim
/-- a value that is a truth, as a test -/
def wVT (a : WE) : WT := fun ρ Q => a ρ fun z => match z with
  | .d (.bool k) => Q k
  | _ => False
theorem dt_val {e : Expr} {a : WE} (h : DE X e a c) (he : ∀ whole, isTrue e X.env whole = (do let v ← whole; standAt e.pos; holding [v] (truthy v)) := by intro _; rfl) : DT X e (wVT a) c := by
  refine ⟨fun ρ Q Q' k q => h.mono ρ _ _ (fun z q => ?_) q, pt_imp (pt_val h.run he) fun σ H Q ⟨ρ, r, q⟩ => ?_⟩
  · revert q
    split
    · exact k _
    · exact id
  · refine tD_then h.mono r q fun z v H1 q1 e1 z1 => ?_
    revert q1
    split
    · intro q1
      cases z1
      exact ⟨_, rfl, q1 H1 e1⟩
    · exact False.elim
def wNotT (a : WT) : WT := fun ρ Q => a ρ fun b => Q (!b)
theorem dt_not {e : Expr} {a : WT} {pos : Pos} (h : DT X e a c) : DT X (.UnaryOp .Not e pos) (wNotT a) c :=
  ⟨fun ρ Q Q' k q => h.mono ρ _ _ (fun b q => k _ q) q, pt_imp (pt_not h.run) fun σ H Q ⟨ρ, r, q⟩ => tDT_then h.mono r q fun b H' q e => q H' e⟩
def wAndT (a b : WT) : WT := fun ρ Q => a ρ fun c => match c with
  | true => b ρ Q
  | false => Q false
def wOrT (a b : WT) : WT := fun ρ Q => a ρ fun c => match c with
  | true => Q true
  | false => b ρ Q
theorem wAndT_mono {a b : WT} (ha : MonoT a) (hb : MonoT b) : MonoT (wAndT a b) := fun ρ Q Q' k q => ha ρ _ _ (fun c q => by
  cases c
  · exact k _ q
  · exact hb ρ _ _ k q) q
theorem wOrT_mono {a b : WT} (ha : MonoT a) (hb : MonoT b) : MonoT (wOrT a b) := fun ρ Q Q' k q => ha ρ _ _ (fun c q => by
  cases c
  · exact hb ρ _ _ k q
  · exact k _ q) q
theorem pw_imp {X : Cx} {e : Expr} {t t' : TT} (h : PW X e t) (i : ∀ σ H Q, t' σ H Q → t σ H Q) : PW X e t' := ⟨fun wh pins s σ H Q I q => h.run wh pins s σ H Q I (i _ _ _ q)⟩
theorem dw_and1 {e : Expr} {a : WT} {pos : Pos} (h : DT X e a c) : DW' X (.BoolOp .And [e] pos) a c := ⟨h.mono, pw_and1 h.run⟩
theorem dw_or1 {e : Expr} {a : WT} {pos : Pos} (h : DT X e a c) : DW' X (.BoolOp .Or [e] pos) a c := ⟨h.mono, pw_or1 h.run⟩
theorem dw_and {e f : Expr} {es : List Expr} {a b : WT} {pos : Pos} (ha : DT X e a c) (hb : DW' X (.BoolOp .And (f :: es) pos) b d) : DW' X (.BoolOp .And (e :: f :: es) pos) (wAndT a b) (c + d) := by
  refine ⟨wAndT_mono ha.mono hb.mono, pw_imp (pw_and ha.run hb.run) fun σ H Q ⟨ρ, r, q⟩ => ?_⟩
  refine tDT_then ha.mono r.l q fun k H' q e => ?_
  cases k with
  | false => exact q H' (e.le (Nat.le_add_right _ _))
  | true => exact tDT_then hb.mono (r.go e) q fun k H2 q e2 => q H2 (e.trans e2)
theorem dw_or {e f : Expr} {es : List Expr} {a b : WT} {pos : Pos} (ha : DT X e a c) (hb : DW' X (.BoolOp .Or (f :: es) pos) b d) : DW' X (.BoolOp .Or (e :: f :: es) pos) (wOrT a b) (c + d) := by
  refine ⟨wOrT_mono ha.mono hb.mono, pw_imp (pw_or ha.run hb.run) fun σ H Q ⟨ρ, r, q⟩ => ?_⟩
  refine tDT_then ha.mono r.l q fun k H' q e => ?_
  cases k with
  | true => exact q H' (e.le (Nat.le_add_right _ _))
  | false => exact tDT_then hb.mono (r.go e) q fun k H2 q e2 => q H2 (e.trans e2)
theorem DW'.dt {e : Expr} {a : WT} (h : DW' X e a c) : DT X e a c := ⟨h.mono, h.run.pt⟩
/-- as values: all but the last are truths -/
def wAndV (a b : WE) : WE := fun ρ Q => a ρ fun x => match x with
  | .d (.bool true) => b ρ Q
  | .d (.bool false) => Q (.d (.bool false))
  | _ => False
def wOrV (a b : WE) : WE := fun ρ Q => a ρ fun x => match x with
  | .d (.bool true) => Q (.d (.bool true))
  | .d (.bool false) => b ρ Q
  | _ => False
theorem de_one {op} {e : Expr} {a : WE} {pos : Pos} (h : DE X e a c) : DE X (.BoolOp op [e] pos) a c := ⟨h.mono, pe_one h.run⟩
theorem de_and {e f : Expr} {es : List Expr} {a b : WE} {pos : Pos} (ha : DE X e a c) (hb : DE X (.BoolOp .And (f :: es) pos) b d) : DE X (.BoolOp .And (e :: f :: es) pos) (wAndV a b) (c + d) := by
  refine ⟨fun ρ Q Q' k q => ha.mono ρ _ _ (fun x q => ?_) q, pe_imp (pe_and ha.run hb.run) fun σ H Q ⟨ρ, r, q⟩ => ?_⟩
  · revert q
    split
    · exact hb.mono ρ _ _ k
    · exact k _
    · exact id
  · refine tD_then ha.mono r.l q fun x v H1 q1 e1 z1 => ?_
    revert q1
    split
    · intro q1
      cases z1
      refine ⟨true, rfl, iteT ?_⟩
      exact tD_then hb.mono (r.go e1) q1 fun y u H2 q2 e2 z2 => q2 u H2 (e1.trans e2) z2
    · intro q1
      cases z1
      exact ⟨false, rfl, iteF (q1 _ H1 (e1.le (Nat.le_add_right _ _)) (Dp.bl false))⟩
    · exact False.elim
theorem de_or {e f : Expr} {es : List Expr} {a b : WE} {pos : Pos} (ha : DE X e a c) (hb : DE X (.BoolOp .Or (f :: es) pos) b d) : DE X (.BoolOp .Or (e :: f :: es) pos) (wOrV a b) (c + d) := by
  refine ⟨fun ρ Q Q' k q => ha.mono ρ _ _ (fun x q => ?_) q, pe_imp (pe_or ha.run hb.run) fun σ H Q ⟨ρ, r, q⟩ => ?_⟩
  · revert q
    split
    · exact k _
    · exact hb.mono ρ _ _ k
    · exact id
  · refine tD_then ha.mono r.l q fun x v H1 q1 e1 z1 => ?_
    revert q1
    split
    · intro q1
      cases z1
      exact ⟨true, rfl, iteT (q1 _ H1 (e1.le (Nat.le_add_right _ _)) (Dp.bl true))⟩
    · intro q1
      cases z1
      refine ⟨false, rfl, iteF ?_⟩
      exact tD_then hb.mono (r.go e1) q1 fun y u H2 q2 e2 z2 => q2 u H2 (e1.trans e2) z2
    · exact False.elim
def wNotV (a : WE) : WE := fun ρ Q => a ρ fun x => match x with
  | .d (.bool k) => Q (.d (.bool (!k)))
  | _ => False
theorem de_not {e : Expr} {a : WE} {pos : Pos} (h : DE X e a c) : DE X (.UnaryOp .Not e pos) (wNotV a) c := by
  refine ⟨fun ρ Q Q' k q => h.mono ρ _ _ (fun x q => ?_) q, pe_imp (pe_not h.run) fun σ H Q ⟨ρ, r, q⟩ => ?_⟩
  · revert q
    split
    · exact k _
    · exact id
  · refine tD_then h.mono r q fun x v H1 q1 e1 z1 => ?_
    revert q1
    split
    · intro q1
      cases z1
      exact ⟨_, rfl, q1 _ H1 e1 (Dp.bl _)⟩
    · exact False.elim
def wIf (t : WT) (a b : WE) : WE := fun ρ Q => t ρ fun c => match c with
  | true => a ρ Q
  | false => b ρ Q
theorem de_if {g e f : Expr} {t : WT} {a b : WE} {pos : Pos} (hc : DT X g t c) (ha : DE X e a d) (hb : DE X f b c2) : DE X (.IfExp g e f pos) (wIf t a b) (c + (d + c2)) := by
  refine ⟨fun ρ Q Q' k q => hc.mono ρ _ _ (fun c q => ?_) q, pe_imp (pe_ifExp hc.run ha.run hb.run) fun σ H Q ⟨ρ, r, q⟩ => ?_⟩
  · cases c
    · exact hb.mono ρ _ _ k q
    · exact ha.mono ρ _ _ k q
  · refine tDT_then hc.mono r.l q fun k H1 q1 e1 => ?_
    cases k with
    | true => exact iteT (tD_then ha.mono (r.go e1).l q1 fun y u H2 q2 e2 z2 => q2 u H2 ((e1.trans e2).le (by omega)) z2)
    | false => exact iteF (tD_then hb.mono ((r.go e1).le (by omega)) q1 fun y u H2 q2 e2 z2 => q2 u H2 ((e1.trans e2).le (by omega)) z2)
end
end DW
set_option Elab.async false
set_option linter.all false
set_option maxRecDepth 100000
set_option maxHeartbeats 1000000
/-! DwOps: operators, comparisons, subscripts, slices, calls of built-ins on data. -/
namespace DW
open PySem PySem.Spec PyProof.Rows L2
section
variable {X : Cx}
/-! ### ints -/
def fInt2 (g : Int → Int → PyData) : FB := fun x y Q => match x, y with
  | .int i, .int j => Q (g i j)
  | _, _ => False
def fInt2C (C : Int → Int → Prop) (g : Int → Int → PyData) : FB := fun x y Q => match x, y with
  | .int i, .int j => C i j ∧ Q (g i j)
  | _, _ => False
theorem fInt2_mono (g : Int → Int → PyData) : MonoB (fInt2 g) := fun x y Q Q' h q => by
  unfold fInt2 at q ⊢
  split at q
  · exact h _ q
  · exact q.elim
theorem fInt2C_mono (C : Int → Int → Prop) (g : Int → Int → PyData) : MonoB (fInt2C C g) := fun x y Q Q' h q => by
  unfold fInt2C at q ⊢
  split at q
  · exact ⟨q.1, h _ q.2⟩
  · exact q.elim
theorem rb_int {g : Int → Int → PyData} {gV : Int → Int → V} (hg : ∀ H i j, Dp X.K H (gV i j) (g i j)) : RB X (rI0 gV) (fInt2 g) := fun H x y a b Q ra rb q => by
  unfold fInt2 at q
  split at q
  · cases ra; cases rb
    exact ⟨_, _, rfl, rfl, q _ H (Sm.refl H) (hg H _ _)⟩
  · exact q.elim
theorem rb_intC {C : Int → Int → Prop} {g : Int → Int → PyData} {gV : Int → Int → V} (hg : ∀ H i j, Dp X.K H (gV i j) (g i j)) : RB X (rI C gV) (fInt2C C g) := fun H x y a b Q ra rb q => by
  unfold fInt2C at q
  split at q
  · cases ra; cases rb
    exact ⟨_, _, rfl, rfl, q.1, q.2 _ H (Sm.refl H) (hg H _ _)⟩
  · exact q.elim
def CDivA (_ j : Int) : Prop := j ≠ 0 ∧ j.natAbs.log2 < 9000
theorem op_fdivA : OpR X (binaryOp .FloorDiv) (rI CDivA fun i j => .int (i.fdiv j)) := opI fun _ _ _ _ _ _ _ hc q => floordiv_int hc.1 q (.inl (PyProof.noPylong_of_log2 hc.2))
abbrev fSub : FB := fInt2 fun i j => .int (i - j)
abbrev fMul : FB := fInt2C CMulW fun i j => .int (i * j)
abbrev fDiv : FB := fInt2C CDivA fun i j => .int (i.fdiv j)
abbrev fMod : FB := fInt2C (fun _ j => j ≠ 0) fun i j => .int (i.fmod j)
/-- a power of less than 2 ^ 20 bits times 100 -/
def CPowA (i j : Int) : Prop := 0 ≤ j ∧ j ≤ 100 ∧ i.natAbs.log2 < 1000000
theorem op_powA : OpR X (binaryOp .Pow) (rI CPowA fun i j => .int (i ^ j.toNat)) := opI fun i j _ _ _ _ _ hc q => pow_int hc.1 (by
  have b : Builtin.Int.intBits i ≤ i.natAbs.log2 + 1 := by unfold Builtin.Int.intBits; split <;> omega
  have h3 : i.natAbs.log2 < 1000000 := hc.2.2
  have h4 : (Builtin.Int.intBits i : Int) * j ≤ 1000000 * j := Int.mul_le_mul_of_nonneg_right (by omega) hc.1
  have h5 := hc.2.1
  omega) q
abbrev fPow : FB := fInt2C CPowA fun i j => .int (i ^ j.toNat)
abbrev fLt : FB := fInt2 fun i j => .bool (decide (i < j))
abbrev fLe : FB := fInt2 fun i j => .bool (decide (i ≤ j))
abbrev fGt : FB := fInt2 fun i j => .bool (decide (j < i))
abbrev fGe : FB := fInt2 fun i j => .bool (decide (j ≤ i))
section
variable {ea eb : Expr} {a b : WE} {pos : Pos}
theorem de_sub (ha : DE X ea a c) (hb : DE X eb b d) : DE X (.BinOp ea .Sub eb pos) (wBin fSub a b) (c + d) := de_op op_sub (rb_int fun _ _ _ => .int _) (fInt2_mono _) ha hb
theorem de_mul (ha : DE X ea a c) (hb : DE X eb b d) : DE X (.BinOp ea .Mult eb pos) (wBin fMul a b) (c + d) := de_op op_mulW (rb_intC fun _ _ _ => .int _) (fInt2C_mono _ _) ha hb
theorem de_div (ha : DE X ea a c) (hb : DE X eb b d) : DE X (.BinOp ea .FloorDiv eb pos) (wBin fDiv a b) (c + d) := de_op op_fdivA (rb_intC fun _ _ _ => .int _) (fInt2C_mono _ _) ha hb
theorem de_mod (ha : DE X ea a c) (hb : DE X eb b d) : DE X (.BinOp ea .Mod eb pos) (wBin fMod a b) (c + d) := de_op op_modN (rb_intC fun _ _ _ => .int _) (fInt2C_mono _ _) ha hb
theorem de_pow (ha : DE X ea a c) (hb : DE X eb b d) : DE X (.BinOp ea .Pow eb pos) (wBin fPow a b) (c + d) := de_op op_powA (rb_intC fun _ _ _ => .int _) (fInt2C_mono _ _) ha hb
theorem de_lt (ha : DE X ea a c) (hb : DE X eb b d) : DE X (.Compare ea [.Lt] [eb] pos) (wBin fLt a b) (c + d) := de_cmp op_lt (rb_int fun _ _ _ => .bl _) (fInt2_mono _) ha hb (nomark _)
theorem de_le (ha : DE X ea a c) (hb : DE X eb b d) : DE X (.Compare ea [.LtE] [eb] pos) (wBin fLe a b) (c + d) := de_cmp op_le (rb_int fun _ _ _ => .bl _) (fInt2_mono _) ha hb (nomark _)
theorem de_gt (ha : DE X ea a c) (hb : DE X eb b d) : DE X (.Compare ea [.Gt] [eb] pos) (wBin fGt a b) (c + d) := de_cmp op_gt (rb_int fun _ _ _ => .bl _) (fInt2_mono _) ha hb (nomark _)
theorem de_ge (ha : DE X ea a c) (hb : DE X eb b d) : DE X (.Compare ea [.GtE] [eb] pos) (wBin fGe a b) (c + d) := de_cmp op_ge (rb_int fun _ _ _ => .bl _) (fInt2_mono _) ha hb (nomark _)
theorem dt_lt (ha : DE X ea a c) (hb : DE X eb b d) : DT X (.Compare ea [.Lt] [eb] pos) (wBT fLt a b) (c + d) := dt_cmp op_lt (rb_int fun _ _ _ => .bl _) (fInt2_mono _) ha hb (nomark _)
theorem dt_le (ha : DE X ea a c) (hb : DE X eb b d) : DT X (.Compare ea [.LtE] [eb] pos) (wBT fLe a b) (c + d) := dt_cmp op_le (rb_int fun _ _ _ => .bl _) (fInt2_mono _) ha hb (nomark _)
theorem dt_gt (ha : DE X ea a c) (hb : DE X eb b d) : DT X (.Compare ea [.Gt] [eb] pos) (wBT fGt a b) (c + d) := dt_cmp op_gt (rb_int fun _ _ _ => .bl _) (fInt2_mono _) ha hb (nomark _)
theorem dt_ge (ha : DE X ea a c) (hb : DE X eb b d) : DT X (.Compare ea [.GtE] [eb] pos) (wBT fGe a b) (c + d) := dt_cmp op_ge (rb_int fun _ _ _ => .bl _) (fInt2_mono _) ha hb (nomark _)
end
/-! ### + of ints and of tuples -/
def fAdd : FB := fun x y Q => match x, y with
  | .int i, .int j => Q (.int (i + j))
  | .tuple xs, .tuple ys => xs.length + ys.length ≤ 100000 ∧ Q (.tuple (xs ++ ys))
  | .str x, .str y => x.length + y.length ≤ 100000 ∧ Q (.str (x ++ y))
  | _, _ => False
theorem fAdd_mono : MonoB fAdd := fun x y Q Q' h q => by
  unfold fAdd at q ⊢
  split at q
  · exact h _ q
  · exact ⟨q.1, h _ q.2⟩
  · exact ⟨q.1, h _ q.2⟩
  · exact q.elim
theorem line5 {n : Nat} (h : n ≤ 100000) : n ≤ sizeLine := by rw [sizeLine_eq]; omega
theorem DpAll.nil_of {K : Fg} {H : Hp} {vs : List V} {ds : List PyData} (h : DpAll K H vs ds) : vs = [] ↔ ds = [] := by
  cases h with
  | nil => simp
  | cons a b => simp
theorem op_addA : OpR X (binaryOp .Add) (fun x y H Q => (rI0 (fun i j => .int (i + j)) x y H Q) ∨ (rCatA X.K x y H Q ∨ (∃ i j, x = .str i ∧ y = .str j ∧ i.length + j.length ≤ sizeLine ∧ Q (.str (i ++ j)) H))) := op_add.or (op_catA.or op_add_str)
theorem rb_add : RB X (fun x y H Q => (rI0 (fun i j => .int (i + j)) x y H Q) ∨ (rCatA X.K x y H Q ∨ (∃ i j, x = .str i ∧ y = .str j ∧ i.length + j.length ≤ sizeLine ∧ Q (.str (i ++ j)) H))) fAdd := fun H x y a b Q ra rb q => by
  unfold fAdd at q
  split at q
  · cases ra; cases rb
    exact .inl ⟨_, _, rfl, rfl, q _ H (Sm.refl H) (.int _)⟩
  · cases ra with
    | tup s1 r1 =>
      cases rb with
      | tup s2 r2 =>
        refine .inr (.inl ⟨_, _, _, _, rfl, rfl, s1, s2, ?_, fun e => ?_, fun e1 e2 => ?_, fun e1 e2 p hp => ?_⟩)
        · rw [DpAll.length r1, DpAll.length r2]; exact line5 q.1
        · have e0 := (DpAll.nil_of r1).mp e
          subst e0
          exact q.2 _ H (Sm.refl H) (.tup s2 r2)
        · have e0 := (DpAll.nil_of r2).mp e2
          subst e0
          refine q.2 _ H (Sm.refl H) ?_
          rw [List.append_nil]
          exact .tup s1 r1
        · exact q.2 _ _ (Sm.new hp) (.tup (.inl (.inl upd_same)) (DpAll.mono (same_new hp) (DpAll.app r1 r2)))
  · cases ra; cases rb
    exact .inr (.inr ⟨_, _, rfl, rfl, line5 q.1, q.2 _ H (Sm.refl H) (.str _)⟩)
  · exact q.elim
theorem de_add {ea eb : Expr} {a b : WE} {pos : Pos} (ha : DE X ea a c) (hb : DE X eb b d) : DE X (.BinOp ea .Add eb pos) (wBin fAdd a b) (c + d) := de_op op_addA rb_add fAdd_mono ha hb
/-! ### ==, != at any depth -/
def fEq : FB := fun x y Q => SeqAt.shaped x = true ∧ SeqAt.shaped y = true ∧ Q (.bool (PyData.eqv x y))
def fNe : FB := fun x y Q => SeqAt.shaped x = true ∧ SeqAt.shaped y = true ∧ Q (.bool (!PyData.eqv x y))
theorem fEq_mono : MonoB fEq := fun x y Q Q' h q => ⟨q.1, q.2.1, h _ q.2.2⟩
theorem fNe_mono : MonoB fNe := fun x y Q Q' h q => ⟨q.1, q.2.1, h _ q.2.2⟩
theorem rb_eq : RB X (rEqD X.K) fEq := fun H x y a b Q ra rb q => ⟨a, b, ra, rb, q.1, q.2.1, q.2.2 _ H (Sm.refl H) (.bl _)⟩
theorem rb_ne : RB X (rNeD X.K) fNe := fun H x y a b Q ra rb q => ⟨a, b, ra, rb, q.1, q.2.1, q.2.2 _ H (Sm.refl H) (.bl _)⟩
section
variable {ea eb : Expr} {a b : WE} {pos : Pos}
theorem de_eq (hu : X.A.units + 64 < cLine) (ha : DE X ea a c) (hb : DE X eb b d) : DE X (.Compare ea [.Eq] [eb] pos) (wBin fEq a b) (c + d) := de_cmp (op_eqD hu) rb_eq fEq_mono ha hb (nomark _)
theorem de_ne (hu : X.A.units + 64 < cLine) (ha : DE X ea a c) (hb : DE X eb b d) : DE X (.Compare ea [.NotEq] [eb] pos) (wBin fNe a b) (c + d) := de_cmp (op_neD hu) rb_ne fNe_mono ha hb (nomark _)
theorem dt_eq (hu : X.A.units + 64 < cLine) (ha : DE X ea a c) (hb : DE X eb b d) : DT X (.Compare ea [.Eq] [eb] pos) (wBT fEq a b) (c + d) := dt_cmp (op_eqD hu) rb_eq fEq_mono ha hb (nomark _)
theorem dt_ne (hu : X.A.units + 64 < cLine) (ha : DE X ea a c) (hb : DE X eb b d) : DT X (.Compare ea [.NotEq] [eb] pos) (wBT fNe a b) (c + d) := dt_cmp (op_neD hu) rb_ne fNe_mono ha hb (nomark _)
end
/-! ### is, is not of truths -/
def fIs : FB := fun x y Q => match x, y with
  | .bool a, .bool b => Q (.bool (decide (a = b)))
  | _, _ => False
def fIsNot : FB := fun x y Q => match x, y with
  | .bool a, .bool b => Q (.bool (!decide (a = b)))
  | _, _ => False
theorem fIs_mono : MonoB fIs := fun x y Q Q' h q => by
  unfold fIs at q ⊢
  split at q
  · exact h _ q
  · exact q.elim
theorem fIsNot_mono : MonoB fIsNot := fun x y Q Q' h q => by
  unfold fIsNot at q ⊢
  split at q
  · exact h _ q
  · exact q.elim
theorem rb_is : RB X rIsB fIs := fun H x y a b Q ra rb q => by
  unfold fIs at q
  split at q
  · cases ra; cases rb; exact ⟨_, _, rfl, rfl, q _ H (Sm.refl H) (.bl _)⟩
  · exact q.elim
theorem rb_isnot : RB X rNotB fIsNot := fun H x y a b Q ra rb q => by
  unfold fIsNot at q
  split at q
  · cases ra; cases rb; exact ⟨_, _, rfl, rfl, q _ H (Sm.refl H) (.bl _)⟩
  · exact q.elim
section
variable {ea eb : Expr} {a b : WE} {pos : Pos}
theorem de_is (ha : DE X ea a c) (hb : DE X eb b d) : DE X (.Compare ea [.Is] [eb] pos) (wBin fIs a b) (c + d) := de_cmp op_isBl rb_is fIs_mono ha hb (nomark _)
theorem de_isnot (ha : DE X ea a c) (hb : DE X eb b d) : DE X (.Compare ea [.IsNot] [eb] pos) (wBin fIsNot a b) (c + d) := de_cmp op_notBl rb_isnot fIsNot_mono ha hb (nomark _)
theorem dt_is (ha : DE X ea a c) (hb : DE X eb b d) : DT X (.Compare ea [.Is] [eb] pos) (wBT fIs a b) (c + d) := dt_cmp op_isBl rb_is fIs_mono ha hb (nomark _)
theorem dt_isnot (ha : DE X ea a c) (hb : DE X eb b d) : DT X (.Compare ea [.IsNot] [eb] pos) (wBT fIsNot a b) (c + d) := dt_cmp op_notBl rb_isnot fIsNot_mono ha hb (nomark _)
end
/-! ### in, not in, flat -/
def flatD : PyData → Bool
  | .none | .bool _ | .int _ | .str _ => true
  | _ => false
def toV : PyData → V
  | .bool b => .bl b
  | .int i => .int i
  | .str x => .str x
  | _ => .non
theorem Dp.flat {K : Fg} {H : Hp} {v : V} {d : PyData} (h : Dp K H v d) (f : flatD d = true) : v = toV d := by
  cases h <;> first | rfl | (simp [flatD] at f)
theorem DpAll.flat {K : Fg} {H : Hp} : ∀ {ds : List PyData} {vs : List V}, DpAll K H vs ds → ds.all flatD = true → vs = ds.map toV
  | [], _, .nil, _ => rfl
  | d :: ds, _, .cons a b, f => by
    rw [List.all_cons, Bool.and_eq_true] at f
    rw [Dp.flat a f.1, DpAll.flat b f.2]; rfl
theorem flat_toV {d : PyData} (f : flatD d = true) : flatV (toV d) = true := by
  cases d <;> first | rfl | (simp [flatD] at f)
theorem flat_toVs : ∀ {ds : List PyData}, ds.all flatD = true → (ds.map toV).all flatV = true
  | [], _ => rfl
  | d :: ds, f => by
    rw [List.all_cons, Bool.and_eq_true] at f
    rw [List.map_cons, List.all_cons, flat_toV f.1, flat_toVs f.2]; rfl
def inD (x : PyData) (ds : List PyData) : Bool := ds.any fun y => eqV (toV y) (toV x)
theorem inV_toV (x : PyData) (ds : List PyData) : inV (toV x) (ds.map toV) = inD x ds := by
  unfold inV inD
  rw [List.any_map]; rfl
def fIn (neg : Bool) : FB := fun x y Q => match y with
  | .list ds => flatD x = true ∧ ds.all flatD = true ∧ Q (.bool (if neg then !inD x ds else inD x ds))
  | .tuple ds => flatD x = true ∧ ds.all flatD = true ∧ Q (.bool (if neg then !inD x ds else inD x ds))
  | _ => False
theorem fIn_mono (neg : Bool) : MonoB (fIn neg) := fun x y Q Q' h q => by
  unfold fIn at q ⊢
  split at q
  · exact ⟨q.1, q.2.1, h _ q.2.2⟩
  · exact ⟨q.1, q.2.1, h _ q.2.2⟩
  · exact q.elim
theorem rb_in (neg : Bool) : RB X (rIn X.K neg) (fIn neg) := fun H x y a b Q ra rb q => by
  unfold fIn at q
  have e1 := fun f => Dp.flat ra f
  split at q
  · cases rb with
    | lst s r =>
      have e2 := DpAll.flat r q.2.1
      rw [e2] at s
      refine ⟨_, _, rfl, .inl s, ?_, flat_toVs q.2.1, ?_⟩
      · rw [e1 q.1]; exact flat_toV q.1
      · rw [e1 q.1, inV_toV]; exact q.2.2 _ H (Sm.refl H) (.bl _)
  · cases rb with
    | tup s r =>
      have e2 := DpAll.flat r q.2.1
      rw [e2] at s
      refine ⟨_, _, rfl, .inr s, ?_, flat_toVs q.2.1, ?_⟩
      · rw [e1 q.1]; exact flat_toV q.1
      · rw [e1 q.1, inV_toV]; exact q.2.2 _ H (Sm.refl H) (.bl _)
  · exact q.elim
section
variable {ea eb : Expr} {a b : WE} {pos : Pos}
theorem de_in (ha : DE X ea a c) (hb : DE X eb b d) (hm : behindInMarks .In eb = false := by rfl) : DE X (.Compare ea [.In] [eb] pos) (wBin (fIn false) a b) (c + d) := de_cmp op_in_seq (rb_in false) (fIn_mono _) ha hb hm
theorem de_notin (ha : DE X ea a c) (hb : DE X eb b d) (hm : behindInMarks .NotIn eb = false := by rfl) : DE X (.Compare ea [.NotIn] [eb] pos) (wBin (fIn true) a b) (c + d) := de_cmp op_notIn_seq (rb_in true) (fIn_mono _) ha hb hm
theorem dt_in (ha : DE X ea a c) (hb : DE X eb b d) (hm : behindInMarks .In eb = false := by rfl) : DT X (.Compare ea [.In] [eb] pos) (wBT (fIn false) a b) (c + d) := dt_cmp op_in_seq (rb_in false) (fIn_mono _) ha hb hm
theorem dt_notin (ha : DE X ea a c) (hb : DE X eb b d) (hm : behindInMarks .NotIn eb = false := by rfl) : DT X (.Compare ea [.NotIn] [eb] pos) (wBT (fIn true) a b) (c + d) := dt_cmp op_notIn_seq (rb_in true) (fIn_mono _) ha hb hm
end
/-! ### subscripts -/
def fIx : FB := fun x y Q => match x, y with
  | .list ds, .int i => ∃ d, atI ds i = some d ∧ Q d
  | .tuple ds, .int i => ∃ d, atI ds i = some d ∧ Q d
  | _, _ => False
theorem fIx_mono : MonoB fIx := fun x y Q Q' h q => by
  unfold fIx at q ⊢
  split at q
  · obtain ⟨d, e, q⟩ := q; exact ⟨d, e, h _ q⟩
  · obtain ⟨d, e, q⟩ := q; exact ⟨d, e, h _ q⟩
  · exact q.elim
theorem DpAll.atI {K : Fg} {H : Hp} {ds : List PyData} {vs : List V} (h : DpAll K H vs ds) {i : Int} {d : PyData} (e : atI ds i = some d) : ∃ v, L2.atI vs i = some v ∧ Dp K H v d := by
  unfold L2.atI at e ⊢
  rw [DpAll.length h]
  cases q : ixN ds.length i with
  | none => rw [q] at e; cases e
  | some j => rw [q] at e; exact DpAll.get h e
theorem rb_ix : RB X (rIx X.K) fIx := fun H x y a b Q ra rb q => by
  unfold fIx at q
  split at q
  · obtain ⟨d, e, q⟩ := q
    cases rb
    cases ra with
    | lst s r =>
      obtain ⟨v, e2, z⟩ := DpAll.atI r e
      exact .inl ⟨_, _, _, v, rfl, rfl, s, e2, q v H (Sm.refl H) z⟩
  · obtain ⟨d, e, q⟩ := q
    cases rb
    cases ra with
    | tup s r =>
      obtain ⟨v, e2, z⟩ := DpAll.atI r e
      exact .inr (.inl ⟨_, _, _, v, rfl, rfl, s, e2, q v H (Sm.refl H) z⟩)
  · exact q.elim
theorem de_ix {ea eb : Expr} {a b : WE} {pos : Pos} (ha : DE X ea a c) (hb : DE X eb b d) (hs : PlainIx eb := by exact fun _ _ => rfl) : DE X (.Subscript ea eb pos) (wBin fIx a b) (c + d) :=
  ⟨wBin_mono fIx_mono ha.mono hb.mono, pe_imp (pe_ix ix_seq ha.run hb.run hs) (bin_run rb_ix fIx_mono ha hb)⟩
/-! ### slices -/
abbrev WO := Ro → (Option Int → Prop) → Prop
structure DO (X : Cx) (e : Option Expr) (w : WO) (c : Nat) : Prop where
  mono : ∀ ρ (Q Q' : Option Int → Prop), (∀ x, Q x → Q' x) → w ρ Q → w ρ Q'
  run : PO X e (fun σ H Q => ∃ ρ, RepX X ρ σ H c ∧ w ρ fun o => ∀ H', SmX X c H H' → Q o H')
theorem po_imp {e : Option Expr} {t t' : TO} (h : PO X e t) (i : ∀ σ H Q, t' σ H Q → t σ H Q) : PO X e t' := ⟨fun pins s σ H Q I q => h.run pins s σ H Q I (i _ _ _ q)⟩
def wNoPart : WO := fun _ Q => Q none
def wPart (a : WE) : WO := fun ρ Q => a ρ fun x => match x with
  | .d (.int i) => Q (some i)
  | _ => False
theorem do_none : DO X none wNoPart 0 := ⟨fun _ _ _ h q => h _ q, po_imp po_none fun σ H Q ⟨ρ, r, q⟩ => q H (Sm.refl H)⟩
theorem do_some {e : Expr} {a : WE} (h : DE X e a c) : DO X (some e) (wPart a) c := by
  refine ⟨fun ρ Q Q' k q => h.mono ρ _ _ (fun x q => ?_) q, po_imp (po_some h.run) fun σ H Q ⟨ρ, r, q⟩ => ?_⟩
  · revert q
    split
    · exact k _
    · exact id
  · refine tD_then h.mono r q fun x v H1 q1 e1 z1 => ?_
    revert q1
    split
    · intro q1
      cases z1
      exact ⟨_, rfl, q1 H1 e1⟩
    · exact False.elim
def cutD (ds : List PyData) (lo hi : Option Int) : List PyData := (ds.drop (HT.sIx ds.length 0 lo)).take (HT.sIx ds.length ds.length hi - HT.sIx ds.length 0 lo)
def wSl (a : WE) (l h : WO) : WE := fun ρ Q => a ρ fun x => l ρ fun lo => h ρ fun hi => match x with
  | .d (.list ds) => Q (.d (.list (cutD ds lo hi)))
  | .d (.tuple ds) => Q (.d (.tuple (cutD ds lo hi)))
  | _ => False
theorem DpAll.cut {K : Fg} {H : Hp} {ds : List PyData} {vs : List V} (h : DpAll K H vs ds) (lo hi : Option Int) : DpAll K H (cutV vs lo hi) (cutD ds lo hi) := by
  unfold cutV cutD
  rw [DpAll.length h]
  exact DpAll.take _ (DpAll.drop _ h)
theorem cut_whole {ds : List PyData} {lo hi : Option Int} (h : HT.sIx ds.length 0 lo = 0 ∧ HT.sIx ds.length ds.length hi = ds.length) : cutD ds lo hi = ds := by
  unfold cutD
  rw [h.1, h.2, List.drop_zero, Nat.sub_zero, List.take_length]
theorem de_slice {ea : Expr} {lo hi : Option Expr} {a : WE} {l h : WO} {p2 pos : Pos} (ha : DE X ea a c) (hl : DO X lo l d) (hh : DO X hi h c2) : DE X (.Subscript ea (.Slice lo hi none p2) pos) (wSl a l h) (c + (d + c2)) := by
  refine ⟨fun ρ Q Q' k q => ha.mono ρ _ _ (fun x q => hl.mono ρ _ _ (fun lo q => hh.mono ρ _ _ (fun hi q => ?_) q) q) q, pe_imp (pe_slice (sl_list.or sl_tupA) ha.run hl.run hh.run) fun σ H Q ⟨ρ, r, q⟩ => ?_⟩
  · revert q
    split
    · exact k _
    · exact k _
    · exact id
  · refine tD_then ha.mono r.l q fun x v H1 q1 e1 z1 => ?_
    refine ⟨ρ, (r.go e1).l, hl.mono ρ _ _ (fun lo q1 H2 e2 => ?_) q1⟩
    refine ⟨ρ, (r.go e1).go e2, hh.mono ρ _ _ (fun hi q1 H3 e3 => ?_) q1⟩
    have e4 := e1.trans (e2.trans e3)
    have z3 := Ra.mono (e2.trans e3) z1
    revert q1
    split
    · intro q1
      cases z3 with
      | lst s d =>
        exact .inl ⟨_, _, rfl, s, fun p hp => q1 _ _ (e4.trans (Sm.new hp)) (Dp.lst (.inl (.inl upd_same)) (DpAll.mono (same_new hp) (DpAll.cut d lo hi)))⟩
    · intro q1
      cases z3 with
      | tup s d =>
        refine .inr ⟨_, _, rfl, s, fun hw => ?_, fun hw p hp => q1 _ _ (e4.trans (Sm.new hp)) (Dp.tup (.inl (.inl upd_same)) (DpAll.mono (same_new hp) (DpAll.cut d lo hi)))⟩
        rw [DpAll.length d] at hw
        have e5 := cut_whole hw
        rw [e5] at q1
        exact q1 _ _ e4 (Dp.tup s d)
    · exact False.elim
end
end DW
set_option Elab.async false
set_option linter.all false
set_option maxRecDepth 100000
set_option maxHeartbeats 1000000
/-! DwCalls: calls of built-ins, of defs; new lists. -/
namespace DW
open PySem PySem.Spec PyProof.Rows L2
/-! ### built-in functions of data -/
abbrev FL := List PyData → (PyData → Prop) → Prop
abbrev MonoFL (f : FL) : Prop := ∀ xs (Q Q' : PyData → Prop), (∀ z, Q z → Q' z) → f xs Q → f xs Q'
def RL (X : Cx) (r : List V → Hp → VK → Prop) (f : FL) : Prop := ∀ (H : Hp) (vs : List V) (ds : List PyData) (Q : VK), DpAll X.K H vs ds → f ds (fun z => ∀ v H', SmX X 0 H H' → Dp X.K H' v z → Q v H') → r vs H Q
def wCB (f : FL) (l : WL) : WE := fun ρ Q => l ρ fun xs => match allD xs with
  | some ds => f ds fun z => Q (.d z)
  | none => False
theorem wCB_mono {f : FL} {l : WL} (hf : MonoFL f) (hl : MonoL l) : MonoE (wCB f l) := fun ρ Q Q' k q => hl ρ _ _ (fun xs q => by
  cases e : allD xs with
  | none => rw [e] at q; exact q
  | some ds => rw [e] at q; exact hf _ _ _ (fun z q => k _ q) q) q
section
variable {X : Cx}
theorem cb_run {r : List V → Hp → VK → Prop} {f : FL} (hr : RL X r f) (hf : MonoFL f) {es : List Expr} {l : WL} (hl : DL X es l c) : ∀ σ H Q, tD X (wCB f l) c σ H Q → tCB r (tDL X l c) σ H Q := fun σ H Q ⟨ρ, rp, q⟩ => by
  refine tDL_then hl.mono rp q fun xs vs H1 q1 e1 z1 => ?_
  cases e : allD xs with
  | none => rw [e] at q1; exact q1.elim
  | some ds =>
    rw [e] at q1
    exact hr H1 vs ds Q (z1.dps e) (hf _ _ _ (fun z q v H' e2 z2 => q v H' (e1.trans e2) z2) q1)
section
variable {x : Str} {p pos : Pos} {e : Expr} {es : List Expr} {id T : String} {r : List V → Hp → VK → Prop} {f : FL} {l : WL}
theorem de_callB (hc : CallR X (.builtin id) r) (hr : RL X r f) (hf : MonoFL f) (hg : Gl X x) (hm : X.mg x = none) (hv : bootBuiltins x = some (.builtin id)) (hl : DL X (e :: es) l c) (hn : x ≠ "__name__" := by decide) (hdb : (x == ("__debug__" : Str)) = false := by decide)
    (he : starEach (e :: es) X.env = (false, eval e X.env) :: starEach es X.env := by rfl) (hpl : (backTo pos (starEach es X.env)).any (·.1) = false := by rfl) : DE X (.Call (.Name x p) (e :: es) [] pos) (wCB f l) c :=
  ⟨wCB_mono hf hl.mono, pe_imp (pe_callB hc hg hm hv hl.run hn hdb he hpl) (cb_run hr hf hl)⟩
theorem de_callTy (hc : CallR X (.type T) r) (hr : RL X r f) (hf : MonoFL f) (hg : Gl X x) (hm : X.mg x = none) (hv : bootBuiltins x = some (.type T)) (hl : DL X (e :: es) l c) (hn : x ≠ "__name__" := by decide) (hdb : (x == ("__debug__" : Str)) = false := by decide)
    (he : starEach (e :: es) X.env = (false, eval e X.env) :: starEach es X.env := by rfl) (hpl : (backTo pos (starEach es X.env)).any (·.1) = false := by rfl) : DE X (.Call (.Name x p) (e :: es) [] pos) (wCB f l) c :=
  ⟨wCB_mono hf hl.mono, pe_imp (pe_callTy hc hg hm hv hl.run hn hdb he hpl) (cb_run hr hf hl)⟩
theorem de_callFun (hc : CallR X (.builtin id) r) (hr : RL X r f) (hf : MonoFL f) (hg : Gl X x) (hm : X.mg x = some (.builtin id)) (hl : DL X (e :: es) l c) (hdb : (x == ("__debug__" : Str)) = false := by decide)
    (he : starEach (e :: es) X.env = (false, eval e X.env) :: starEach es X.env := by rfl) (hpl : (backTo pos (starEach es X.env)).any (·.1) = false := by rfl) : DE X (.Call (.Name x p) (e :: es) [] pos) (wCB f l) c :=
  ⟨wCB_mono hf hl.mono, pe_imp (pe_callBfun hc hg hm hl.run hdb he hpl) (cb_run hr hf hl)⟩
end
/-! len -/
def fLen : FL := fun xs Q => match xs with
  | [.list ds] => Q (.int ds.length)
  | [.tuple ds] => Q (.int ds.length)
  | _ => False
theorem fLen_mono : MonoFL fLen := fun xs Q Q' h q => by
  unfold fLen at q ⊢
  split at q
  · exact h _ q
  · exact h _ q
  · exact q.elim
theorem rl_len : RL X (fun xs H Q => ∃ p ys, xs = [.ref p] ∧ (SqL X.K H p ys ∨ SqT X.K H p ys) ∧ Q (.int ys.length) H) fLen := fun H vs ds Q r q => by
  unfold fLen at q
  split at q
  · cases r with
    | cons a b =>
      cases b
      cases a with
      | lst s d => exact ⟨_, _, rfl, .inl s, by rw [DpAll.length d]; exact q _ H (Sm.refl H) (.int _)⟩
  · cases r with
    | cons a b =>
      cases b
      cases a with
      | tup s d => exact ⟨_, _, rfl, .inr s, by rw [DpAll.length d]; exact q _ H (Sm.refl H) (.int _)⟩
  · exact q.elim
theorem de_len {p pos : Pos} {e : Expr} {a : WE} (hm : X.mg "len" = none) (h : DE X e a c) (hg : Gl X "len" := by rfl) (hs : starEach [e] X.env = (false, eval e X.env) :: starEach [] X.env := by rfl) : DE X (.Call (.Name "len" p) [e] [] pos) (wCB fLen (wCons a wNil)) (c + 0) :=
  de_callB call_len_seq rl_len fLen_mono hg hm PySem.boot_len (dl_cons h dl_nil hs) (he := hs)
/-! any, all -/
def allB : List PyData → Option (List Bool)
  | [] => some []
  | .bool b :: r => (allB r).map (b :: ·)
  | _ => none
theorem allB_eq : ∀ {ds : List PyData} {bs : List Bool}, allB ds = some bs → ds = bs.map .bool
  | [], bs, e => by cases e; rfl
  | d :: r, bs, e => by
    cases d with
    | bool b =>
      unfold allB at e
      cases q : allB r with
      | none => rw [q] at e; cases e
      | some cs => rw [q] at e; cases e; rw [allB_eq q]; rfl
    | _ => cases e
theorem allB_map (bs : List Bool) : allB (bs.map .bool) = some bs := by
  induction bs with
  | nil => rfl
  | cons b r ih => show (allB (r.map .bool)).map (b :: ·) = _; rw [ih]; rfl
def fBools (g : List Bool → Bool) : FL := fun xs Q => match xs with
  | [.list ds] => match allB ds with
    | some bs => Q (.bool (g bs))
    | none => False
  | _ => False
theorem fBools_mono (g : List Bool → Bool) : MonoFL (fBools g) := fun xs Q Q' h q => by
  unfold fBools at q ⊢
  split at q
  · split at q
    · exact h _ q
    · exact q.elim
  · exact q.elim
theorem rl_bools {g : List Bool → Bool} : RL X (fun vs H Q => ∃ (a : Addr) (bs : List Bool), vs = [V.ref a] ∧ SqL X.K H a (bs.map V.bl) ∧ Q (.bl (g bs)) H) (fBools g) := fun H vs ds Q r q => by
  unfold fBools at q
  split at q
  · rename_i ds'
    cases e : allB ds' with
    | none => rw [e] at q; exact q.elim
    | some bs =>
      rw [e] at q
      have e2 := allB_eq e
      subst e2
      cases r with
      | cons a b =>
        cases b
        cases a with
        | lst s d =>
          rw [DpAll.bls d] at s
          exact ⟨_, _, rfl, s, q _ H (Sm.refl H) (.bl _)⟩
  · exact q.elim
theorem de_any {p pos : Pos} {e : Expr} {a : WE} (hm : X.mg "any" = none) (h : DE X e a c) (hc : X.calm = true := by rfl) (hg : Gl X "any" := by rfl) (hs : starEach [e] X.env = (false, eval e X.env) :: starEach [] X.env := by rfl) : DE X (.Call (.Name "any" p) [e] [] pos) (wCB (fBools fun bs => bs.any id) (wCons a wNil)) (c + 0) :=
  de_callB (cr_any hc) rl_bools (fBools_mono _) hg hm boot_any (dl_cons h dl_nil hs) (he := hs)
theorem de_all {p pos : Pos} {e : Expr} {a : WE} (hm : X.mg "all" = none) (h : DE X e a c) (hc : X.calm = true := by rfl) (hg : Gl X "all" := by rfl) (hs : starEach [e] X.env = (false, eval e X.env) :: starEach [] X.env := by rfl) : DE X (.Call (.Name "all" p) [e] [] pos) (wCB (fBools fun bs => bs.all id) (wCons a wNil)) (c + 0) :=
  de_callB (cr_all hc) rl_bools (fBools_mono _) hg hm boot_all (dl_cons h dl_nil hs) (he := hs)
/-! tuple, list -/
def fSeqTo (g : List PyData → PyData) : FL := fun xs Q => match xs with
  | [.list ds] => Q (g ds)
  | [.tuple ds] => Q (g ds)
  | _ => False
theorem fSeqTo_mono (g : List PyData → PyData) : MonoFL (fSeqTo g) := fun xs Q Q' h q => by
  unfold fSeqTo at q ⊢
  split at q
  · exact h _ q
  · exact h _ q
  · exact q.elim
theorem rl_tuple : RL X (fun xs H Q => ∃ p ys, xs = [.ref p] ∧ ((SqL X.K H p ys ∧ ∀ l, H l = none → Q (.ref l) (upd H l (.tup ys))) ∨ (SqT X.K H p ys ∧ Q (.ref p) H))) (fSeqTo .tuple) := fun H vs ds Q r q => by
  unfold fSeqTo at q
  split at q
  · cases r with
    | cons a b =>
      cases b
      cases a with
      | lst s d => exact ⟨_, _, rfl, .inl ⟨s, fun l hl => q _ _ (Sm.new hl) (.tup (.inl (.inl upd_same)) (DpAll.mono (same_new hl) d))⟩⟩
  · cases r with
    | cons a b =>
      cases b
      cases a with
      | tup s d => exact ⟨_, _, rfl, .inr ⟨s, q _ _ (Sm.refl H) (.tup s d)⟩⟩
  · exact q.elim
theorem rl_list : RL X (fun xs H Q => ∃ p ys, xs = [.ref p] ∧ (SqL X.K H p ys ∨ SqT X.K H p ys) ∧ ∀ l, H l = none → Q (.ref l) (upd H l (.lst ys))) (fSeqTo .list) := fun H vs ds Q r q => by
  unfold fSeqTo at q
  split at q
  · cases r with
    | cons a b =>
      cases b
      cases a with
      | lst s d => exact ⟨_, _, rfl, .inl s, fun l hl => q _ _ (Sm.new hl) (.lst (.inl (.inl upd_same)) (DpAll.mono (same_new hl) d))⟩
  · cases r with
    | cons a b =>
      cases b
      cases a with
      | tup s d => exact ⟨_, _, rfl, .inr s, fun l hl => q _ _ (Sm.new hl) (.lst (.inl (.inl upd_same)) (DpAll.mono (same_new hl) d))⟩
  · exact q.elim
theorem de_tuple {p pos : Pos} {e : Expr} {a : WE} (hm : X.mg "tuple" = none) (h : DE X e a c) (hg : Gl X "tuple" := by rfl) (hs : starEach [e] X.env = (false, eval e X.env) :: starEach [] X.env := by rfl) : DE X (.Call (.Name "tuple" p) [e] [] pos) (wCB (fSeqTo .tuple) (wCons a wNil)) (c + 0) :=
  de_callTy call_tuple_of rl_tuple (fSeqTo_mono _) hg hm PyProof.Rows.boot_tuple (dl_cons h dl_nil hs) (he := hs)
theorem de_list {p pos : Pos} {e : Expr} {a : WE} (hm : X.mg "list" = none) (h : DE X e a c) (hg : Gl X "list" := by rfl) (hs : starEach [e] X.env = (false, eval e X.env) :: starEach [] X.env := by rfl) : DE X (.Call (.Name "list" p) [e] [] pos) (wCB (fSeqTo .list) (wCons a wNil)) (c + 0) :=
  de_callTy call_list_of rl_list (fSeqTo_mono _) hg hm PyProof.Rows.boot_list (dl_cons h dl_nil hs) (he := hs)
/-! int, abs, min, max, gcd -/
def fIntOf : FL := fun xs Q => match xs with
  | [.int i] => Q (.int i)
  | [.bool b] => Q (.int (if b then 1 else 0))
  | _ => False
theorem fIntOf_mono : MonoFL fIntOf := fun xs Q Q' h q => by
  unfold fIntOf at q ⊢
  split at q
  · exact h _ q
  · exact h _ q
  · exact q.elim
theorem rl_int : RL X (fun xs H Q => (∃ i, xs = [.int i] ∧ Q (.int i) H) ∨ ∃ k, xs = [.bl k] ∧ Q (.int (if k then 1 else 0)) H) fIntOf := fun H vs ds Q r q => by
  unfold fIntOf at q
  split at q
  · cases r with
    | cons a b => cases b; cases a; exact .inl ⟨_, rfl, q _ H (Sm.refl H) (.int _)⟩
  · cases r with
    | cons a b => cases b; cases a; exact .inr ⟨_, rfl, q _ H (Sm.refl H) (.int _)⟩
  · exact q.elim
theorem de_intOf {p pos : Pos} {e : Expr} {a : WE} (hm : X.mg "int" = none) (h : DE X e a c) (hg : Gl X "int" := by rfl) (hs : starEach [e] X.env = (false, eval e X.env) :: starEach [] X.env := by rfl) : DE X (.Call (.Name "int" p) [e] [] pos) (wCB fIntOf (wCons a wNil)) (c + 0) :=
  de_callTy call_int1 rl_int fIntOf_mono hg hm PyProof.Rows.boot_int (dl_cons h dl_nil hs) (he := hs)
def fI1 (g : Int → Int) : FL := fun xs Q => match xs with
  | [.int i] => Q (.int (g i))
  | _ => False
def fI2 (g : Int → Int → Int) : FL := fun xs Q => match xs with
  | [.int i, .int j] => Q (.int (g i j))
  | _ => False
theorem fI1_mono (g : Int → Int) : MonoFL (fI1 g) := fun xs Q Q' h q => by
  unfold fI1 at q ⊢
  split at q
  · exact h _ q
  · exact q.elim
theorem fI2_mono (g : Int → Int → Int) : MonoFL (fI2 g) := fun xs Q Q' h q => by
  unfold fI2 at q ⊢
  split at q
  · exact h _ q
  · exact q.elim
theorem rl_i1 {g : Int → Int} : RL X (fun xs H Q => ∃ i, xs = [.int i] ∧ Q (.int (g i)) H) (fI1 g) := fun H vs ds Q r q => by
  unfold fI1 at q
  split at q
  · cases r with
    | cons a b => cases b; cases a; exact ⟨_, rfl, q _ H (Sm.refl H) (.int _)⟩
  · exact q.elim
theorem rl_i2 {g : Int → Int → Int} : RL X (fun xs H Q => ∃ i j, xs = [.int i, .int j] ∧ Q (.int (g i j)) H) (fI2 g) := fun H vs ds Q r q => by
  unfold fI2 at q
  split at q
  · cases r with
    | cons a b =>
      cases b with
      | cons c d => cases d; cases a; cases c; exact ⟨_, _, rfl, q _ H (Sm.refl H) (.int _)⟩
  · exact q.elim
def iAbs (i : Int) : Int := if i < 0 then -i else i
def iMin (i j : Int) : Int := if j < i then j else i
def iMax (i j : Int) : Int := if j > i then j else i
def iGcd (i j : Int) : Int := ((Nat.gcd i.natAbs j.natAbs : Nat) : Int)
theorem de_abs {p pos : Pos} {e : Expr} {a : WE} (hm : X.mg "abs" = none) (h : DE X e a c) (hg : Gl X "abs" := by rfl) (hs : starEach [e] X.env = (false, eval e X.env) :: starEach [] X.env := by rfl) : DE X (.Call (.Name "abs" p) [e] [] pos) (wCB (fI1 iAbs) (wCons a wNil)) (c + 0) :=
  de_callB call_abs rl_i1 (fI1_mono _) hg hm boot_abs (dl_cons h dl_nil hs) (he := hs)
theorem de_min2 {p pos : Pos} {e e2 : Expr} {a b : WE} (hm : X.mg "min" = none) (h : DE X e a c) (h2 : DE X e2 b d) (hc : X.calm = true := by rfl) (hg : Gl X "min" := by rfl) (hs : starEach [e, e2] X.env = (false, eval e X.env) :: starEach [e2] X.env := by rfl) (hs2 : starEach [e2] X.env = (false, eval e2 X.env) :: starEach [] X.env := by rfl)
    (hpl : (backTo pos (starEach [e2] X.env)).any (·.1) = false := by rfl) : DE X (.Call (.Name "min" p) [e, e2] [] pos) (wCB (fI2 iMin) (wCons a (wCons b wNil))) (c + (d + 0)) :=
  de_callB (call_min2 hc) rl_i2 (fI2_mono _) hg hm boot_min (dl_cons h (dl_cons h2 dl_nil hs2) hs) (he := hs) (hpl := hpl)
theorem de_max2 {p pos : Pos} {e e2 : Expr} {a b : WE} (hm : X.mg "max" = none) (h : DE X e a c) (h2 : DE X e2 b d) (hc : X.calm = true := by rfl) (hg : Gl X "max" := by rfl) (hs : starEach [e, e2] X.env = (false, eval e X.env) :: starEach [e2] X.env := by rfl) (hs2 : starEach [e2] X.env = (false, eval e2 X.env) :: starEach [] X.env := by rfl)
    (hpl : (backTo pos (starEach [e2] X.env)).any (·.1) = false := by rfl) : DE X (.Call (.Name "max" p) [e, e2] [] pos) (wCB (fI2 iMax) (wCons a (wCons b wNil))) (c + (d + 0)) :=
  de_callB (call_max2 hc) rl_i2 (fI2_mono _) hg hm boot_max (dl_cons h (dl_cons h2 dl_nil hs2) hs) (he := hs) (hpl := hpl)
theorem de_gcd {x : Str} {p pos : Pos} {e e2 : Expr} {a b : WE} (hm : X.mg x = some (.builtin "math.gcd")) (h : DE X e a c) (h2 : DE X e2 b d) (hg : Gl X x := by rfl) (hdb : (x == ("__debug__" : Str)) = false := by decide) (hs : starEach [e, e2] X.env = (false, eval e X.env) :: starEach [e2] X.env := by rfl)
    (hs2 : starEach [e2] X.env = (false, eval e2 X.env) :: starEach [] X.env := by rfl) (hpl : (backTo pos (starEach [e2] X.env)).any (·.1) = false := by rfl) : DE X (.Call (.Name x p) [e, e2] [] pos) (wCB (fI2 iGcd) (wCons a (wCons b wNil))) (c + (d + 0)) :=
  de_callFun cr_gcd rl_i2 (fI2_mono _) hg hm (dl_cons h (dl_cons h2 dl_nil hs2) hs) hdb (he := hs) (hpl := hpl)
/-! isinstance, one built-in class -/
def tyD : PyData → String
  | .none => "NoneType" | .bool _ => "bool" | .int _ => "int" | .str _ => "str" | .list _ => "list" | .tuple _ => "tuple" | .dict _ => "dict"
theorem Dp.ty {K : Fg} {H : Hp} {v : V} {d : PyData} (h : Dp K H v d) : TyX K H v (.type (tyD d)) := by
  cases h with
  | non => exact .base .non
  | bl b => exact .base (.bl b)
  | int i => exact .base (.int i)
  | str x => exact .base (.str x)
  | lst s r =>
    rcases s with (s | ⟨o, s⟩) | ⟨o, its, n, k, c, _⟩
    · exact .base (.lst s)
    · exact .base (.frz s)
    · exact .kList k c
  | tup s r =>
    rcases s with (s | ⟨o, s⟩) | ⟨o, its, n, k, c, _⟩
    · exact .base (.tup s)
    · exact .fTuple s
    · exact .kTuple k c
def isiD (c : String) (d : PyData) : Bool := tyD d == c || (c == "int" && tyD d == "bool")
def IsiC (c : String) : Prop := ∀ d : PyData, kitB (tyD d) c = some (isiD c d)
theorem isiC_of {c : String} (h : (["NoneType", "bool", "int", "str", "list", "tuple", "dict"].all fun t => kitB t c == some (t == c || (c == "int" && t == "bool"))) = true) : IsiC c := fun d => by
  have h2 := List.all_eq_true.mp h (tyD d) (by cases d <;> simp [tyD])
  exact eq_of_beq h2
theorem isi_int : IsiC "int" := isiC_of (by decide +kernel)
theorem isi_bool : IsiC "bool" := isiC_of (by decide +kernel)
theorem isi_tuple : IsiC "tuple" := isiC_of (by decide +kernel)
theorem isi_list : IsiC "list" := isiC_of (by decide +kernel)
theorem isi_str : IsiC "str" := isiC_of (by decide +kernel)
def wIsi (c : String) (a : WE) : WE := fun ρ Q => a ρ fun x => match x with
  | .d d => Q (.d (.bool (isiD c d)))
  | _ => False
theorem wIsi_mono {c : String} {a : WE} (h : MonoE a) : MonoE (wIsi c a) := fun ρ Q Q' k q => h ρ _ _ (fun x q => by
  revert q
  split
  · exact k _
  · exact id) q
theorem de_isi {T : String} {x : Str} {p p2 pos : Pos} {e : Expr} {a : WE} (hc : IsiC T) (hb : bootBuiltins x = some (.type T)) (hm : X.mg "isinstance" = none) (hx : X.mg x = none) (h : DE X e a c) (hg : Gl X "isinstance" := by rfl) (hgx : Gl X x := by rfl) (hn : x ≠ "__name__" := by decide) (hd : (x == ("__debug__" : Str)) = false := by decide)
    (hs : starEach [e, .Name x p2] X.env = (false, eval e X.env) :: starEach [.Name x p2] X.env := by rfl) : DE X (.Call (.Name "isinstance" p) [e, .Name x p2] [] pos) (wIsi T a) c := by
  refine ⟨wIsi_mono h.mono, pe_imp (pe_callB call_isi hg hm boot_isinstance (pa_cons h.run (pa_cons (pe_bltn (v := .ty T) hgx hx hb rfl hn hd) pa_nil) hs) (he := hs)) fun σ H Q ⟨ρ, r, q⟩ => ?_⟩
  refine tD_then h.mono r q fun x v H1 q1 e1 z1 => ?_
  revert q1
  split
  · rename_i d
    intro q1
    exact ⟨v, .ty T, .type (tyD d), .type T, isiD T d, rfl, .ty T, Dp.ty z1, kit_ty (hc d), q1 _ H1 e1 (Dp.bl _)⟩
  · exact False.elim

/-! ### new lists of new lists -/
inductive Rows (K : Fg) (H : Hp) (S : List Addr) : List Addr → List (List PyData) → Prop
  | nil : Rows K H S [] []
  | cons {b : Addr} {bs : List Addr} {us : List V} {xs : List PyData} {xss : List (List PyData)} : H b = some (.lst us) → DpAll K (hid H S) us xs → Rows K H S bs xss → Rows K H S (b :: bs) (xs :: xss)
theorem Rows.to {K : Fg} {H H' : Hp} {S S' : List Addr} (e : Same (hid H S) (hid H' S')) : ∀ {xss : List (List PyData)} {bs : List Addr}, (∀ b ∈ bs, ∀ o, H b = some o → H' b = some o) → Rows K H S bs xss → Rows K H' S' bs xss
  | [], _, _, .nil => .nil
  | _ :: _, _, k, .cons h d r => .cons (k _ List.mem_cons_self _ h) (DpAll.mono e d) (Rows.to e (fun b hb => k b (List.mem_cons_of_mem _ hb)) r)
theorem Rows.up {K : Fg} {H H' : Hp} {S : List Addr} (e : Same (hid H S) H') : ∀ {xss : List (List PyData)} {bs : List Addr}, (∀ b ∈ bs, ∀ o, H b = some o → H' b = some o) → Rows K H S bs xss → DpAll K H' (bs.map V.ref) (xss.map .list)
  | [], _, _, .nil => .nil
  | _ :: _, _, k, .cons h d r => .cons (.lst (.inl (.inl (k _ List.mem_cons_self _ h))) (DpAll.mono e d)) (Rows.up e (fun b hb => k b (List.mem_cons_of_mem _ hb)) r)
theorem Rows.length {K : Fg} {H : Hp} {S : List Addr} : ∀ {xss : List (List PyData)} {bs : List Addr}, Rows K H S bs xss → bs.length = xss.length
  | [], _, .nil => rfl
  | _ :: _, _, .cons _ _ r => by rw [List.length_cons, List.length_cons, Rows.length r]
theorem Rows.get {K : Fg} {H : Hp} {S : List Addr} : ∀ {xss : List (List PyData)} {bs : List Addr}, Rows K H S bs xss → ∀ {i : Nat} {xs : List PyData}, xss[i]? = some xs → ∃ b us, bs[i]? = some b ∧ H b = some (.lst us) ∧ DpAll K (hid H S) us xs
  | _ :: _, _, .cons h d r, i, xs, e => by
    cases i with
    | zero => simp at e; subst e; exact ⟨_, _, by simp, h, d⟩
    | succ i => obtain ⟨b, us, e1, q⟩ := Rows.get r (i := i) (by simpa using e); exact ⟨b, us, by simpa using e1, q⟩
theorem Rows.app {K : Fg} {H : Hp} {S : List Addr} : ∀ {xss : List (List PyData)} {bs : List Addr} {yss : List (List PyData)} {cs : List Addr}, Rows K H S bs xss → Rows K H S cs yss → Rows K H S (bs ++ cs) (xss ++ yss)
  | [], _, _, _, .nil, h => h
  | _ :: _, _, _, _, .cons a d b, h => .cons a d (Rows.app b h)
/-! ### defs -/
inductive Rv where
  | ar (x : Ar)
  /-- a new list -/
  | ow (xs : List PyData)
  | ow2 (xss : List (List PyData))
abbrev Rv.d (x : PyData) : Rv := .ar (.d x)
abbrev WF := List Ar → (Rv → Prop) → Prop
abbrev MonoF (ws : WF) : Prop := ∀ xs (Q Q' : Rv → Prop), (∀ z, Q z → Q' z) → ws xs Q → ws xs Q'
/-- what a def's end means of a value and the heap -/
def Rend (P : Program) (w : World) (K : Fg) (c : Nat) (H : Hp) (Q : VK) : Rv → Prop
  | .ar x => ∀ v H', Sm P w c H H' → Ra P w K H' v x → Q v H'
  | .ow ds => ∀ a vs H', Sm P w c H H' → H a = none → H' a = some (.lst vs) → DpAll K (hid H' [a]) vs ds → Q (.ref a) H'
  | .ow2 xss => ∀ a bs H', Sm P w c H H' → (∀ b ∈ a :: bs, H b = none) → (a :: bs).Nodup → H' a = some (.lst (bs.map V.ref)) → Rows K H' (a :: bs) bs xss → Q (.ref a) H'
def spF (P : Program) (w : World) (K : Fg) (ws : WF) (c : Nat) : Sp := fun vs H Q _ => ∃ xs, RaAll P w K H vs xs ∧ Bud P w H c ∧ ws xs (Rend P w K c H Q)
def Rv.toAr : Rv → Ar
  | .ar x => x
  | .ow ds => .d (.list ds)
  | .ow2 xss => .d (ll xss)
def wCall (ws : WF) (l : WL) : WE := fun ρ Q => l ρ fun xs => ws xs fun r => Q r.toAr
theorem wCall_mono {ws : WF} {l : WL} (hw : MonoF ws) (hl : MonoL l) : MonoE (wCall ws l) := fun ρ Q Q' k q => hl ρ _ _ (fun xs q => hw xs _ _ (fun r q => k _ q) q) q
theorem rend_of {H H1 : Hp} {Q : VK} {R : Ar → Prop} (hR : ∀ x, R x → ∀ v H', SmX X (c + d) H H' → Ra X.prog X.w X.K H' v x → Q v H') (e1 : SmX X c H H1) : ∀ r : Rv, R r.toAr → Rend X.prog X.w X.K d H1 Q r
  | .ar x, q => fun v H' e z => hR x q v H' (e1.trans e) z
  | .ow ds, q => fun a vs H' e hn ha hd => hR _ q _ H' (e1.trans e) (Dp.lst (.inl (.inl ha)) (DpAll.mono (hid_le _ _) hd))
  | .ow2 xss, q => fun a bs H' e hn nd ha hd => hR _ q _ H' (e1.trans e) (Dp.lst (.inl (.inl ha)) (Rows.up (hid_le _ _) (fun _ _ _ z => z) hd))
theorem de_call {k : Nat} {f : Addr} {fd : FuncData} {ps : List Str} {ws : WF} {x : Str} {p pos : Pos} {e : Expr} {es : List Expr} {l : WL} (F : FnOk X.prog X.w X.K X.mg X.base CX0 k f fd ps (spF X.prog X.w X.K ws d)) (hw : MonoF ws) (hr : Room k X.A) (hm : X.mg x = some (.ref f))
    (hk : PySem.W.keepIn X.K (.ref f) = true) (hb : Binds X.K fd ps []) (hl : DL X (e :: es) l c) (hg : Gl X x := by rfl) (hdb : (x == ("__debug__" : Str)) = false := by decide) (he : starEach (e :: es) X.env = (false, eval e X.env) :: starEach es X.env := by rfl) (hpl : (backTo pos (starEach es X.env)).any (·.1) = false := by rfl) :
    DE X (.Call (.Name x p) (e :: es) [] pos) (wCall ws l) (c + d) := by
  refine ⟨wCall_mono hw hl.mono, pe_imp (pe_call F hr hg hm hk hb .nil pass0 hl.run hdb he hpl) fun σ H Q ⟨ρ, r, q⟩ => ?_⟩
  refine tDL_then hl.mono r.l q fun xs vs H1 q1 e1 z1 => ?_
  show ∃ xs, RaAll X.prog X.w X.K H1 (vs ++ []) xs ∧ _
  rw [List.append_nil]
  exact ⟨xs, z1, (r.go e1).bud, hw xs _ _ (fun r q => rend_of (X := X) (R := fun x => ∀ v H', SmX X (c + d) H H' → Ra X.prog X.w X.K H' v x → Q v H') (fun x q => q) e1 r q) q1⟩

/-! ### new lists -/
abbrev WN := Ro → (List PyData → Prop) → Prop
abbrev MonoN (w : WN) : Prop := ∀ ρ (Q Q' : List PyData → Prop), (∀ x, Q x → Q' x) → w ρ Q → w ρ Q'
def Nend (X : Cx) (c : Nat) (H : Hp) (Q : VK) (ds : List PyData) : Prop := ∀ a vs H', SmX X c H H' → H a = none → H' a = some (.lst vs) → DpAll X.K (hid H' [a]) vs ds → Q (.ref a) H'
def tDN (X : Cx) (w : WN) (c : Nat) : TE := fun σ H Q => ∃ ρ, RepX X ρ σ H c ∧ w ρ (Nend X c H Q)
/-- an expression that makes a new list -/
structure DN (X : Cx) (e : Expr) (w : WN) (c : Nat) : Prop where
  mono : MonoN w
  run : PE X e (tDN X w c)
def wOfN (w : WN) : WE := fun ρ Q => w ρ fun ds => Q (.d (.list ds))
theorem DN.de {e : Expr} {w : WN} (h : DN X e w c) : DE X e (wOfN w) c := by
  refine ⟨fun ρ Q Q' k q => h.mono ρ _ _ (fun ds q => k _ q) q, pe_imp h.run fun σ H Q ⟨ρ, r, q⟩ => ⟨ρ, r, h.mono ρ _ _ (fun ds q a vs H' e hn ha hd => ?_) q⟩⟩
  exact q _ H' e (Dp.lst (.inl (.inl ha)) (DpAll.mono (hid_le _ _) hd))
def wNLst (l : WL) : WN := fun ρ Q => l ρ fun xs => match allD xs with
  | some ds => Q ds
  | none => False
theorem hid_new {H : Hp} {a : Addr} {o : HO} (h : H a = none) : hid (upd H a o) [a] = H := by
  have e := hid_cons_new (S := []) (o := o) h
  rw [hid_nil] at e
  exact e
theorem dn_lst {es : List Expr} {l : WL} {pos : Pos} (h : DL X es l c) (hz : es.length ≤ sizeLine := by decide) : DN X (.List es pos) (wNLst l) c := by
  refine ⟨fun ρ Q Q' k q => h.mono ρ _ _ (fun xs q => ?_) q, pe_imp (pe_lst h.run) fun σ H Q ⟨ρ, r, q⟩ => ?_⟩
  · cases e : allD xs with
    | none => rw [e] at q; exact q
    | some ds => rw [e] at q; exact k _ q
  · refine tDL_then h.mono r (h.len ρ _ q) fun xs vs H1 ⟨hl, q1⟩ e1 z1 => ?_
    cases e : allD xs with
    | none => rw [e] at q1; exact q1.elim
    | some ds =>
      rw [e] at q1
      refine ⟨by rw [z1.length, hl]; exact hz, fun p hp => q1 p vs _ (e1.trans (Sm.new hp)) ?_ upd_same ?_⟩
      · exact e1.free hp
      · rw [hid_new hp]; exact z1.dps e
def fListN : List PyData → (List PyData → Prop) → Prop := fun xs Q => match xs with
  | [.list ds] => Q ds
  | [.tuple ds] => Q ds
  | _ => False
def wNList (a : WE) : WN := fun ρ Q => a ρ fun x => match x with
  | .d (.list ds) => Q ds
  | .d (.tuple ds) => Q ds
  | _ => False
theorem dn_list {p pos : Pos} {e : Expr} {a : WE} (hm : X.mg "list" = none) (h : DE X e a c) (hg : Gl X "list" := by rfl) (hs : starEach [e] X.env = (false, eval e X.env) :: starEach [] X.env := by rfl) : DN X (.Call (.Name "list" p) [e] [] pos) (wNList a) (c + 0) := by
  refine ⟨fun ρ Q Q' k q => h.mono ρ _ _ (fun x q => ?_) q, pe_imp (pe_callTy call_list_of hg hm PyProof.Rows.boot_list (pa_cons h.run pa_nil hs) (he := hs)) fun σ H Q ⟨ρ, r, q⟩ => ?_⟩
  · revert q
    split
    · exact k _
    · exact k _
    · exact id
  · refine tD_then h.mono r q fun x v H1 q1 e1 z1 => ?_
    revert q1
    split
    · intro q1
      cases z1 with
      | lst s d => exact ⟨_, _, rfl, .inl s, fun l hl => q1 l _ _ (e1.trans (Sm.new hl)) (e1.free hl) upd_same (by rw [hid_new hl]; exact d)⟩
    · intro q1
      cases z1 with
      | tup s d => exact ⟨_, _, rfl, .inr s, fun l hl => q1 l _ _ (e1.trans (Sm.new hl)) (e1.free hl) upd_same (by rw [hid_new hl]; exact d)⟩
    · exact False.elim
/-- a def that gives a new list -/
def wNCall (ws : WF) (l : WL) : WN := fun ρ Q => l ρ fun xs => ws xs fun r => match r with
  | .ow ds => Q ds
  | .ow2 xss => Q (xss.map .list)
  | _ => False
theorem dn_call {k : Nat} {f : Addr} {fd : FuncData} {ps : List Str} {ws : WF} {x : Str} {p pos : Pos} {e : Expr} {es : List Expr} {l : WL} (F : FnOk X.prog X.w X.K X.mg X.base CX0 k f fd ps (spF X.prog X.w X.K ws d)) (hw : MonoF ws) (hr : Room k X.A) (hm : X.mg x = some (.ref f))
    (hk : PySem.W.keepIn X.K (.ref f) = true) (hb : Binds X.K fd ps []) (hl : DL X (e :: es) l c) (hg : Gl X x := by rfl) (hdb : (x == ("__debug__" : Str)) = false := by decide) (he : starEach (e :: es) X.env = (false, eval e X.env) :: starEach es X.env := by rfl) (hpl : (backTo pos (starEach es X.env)).any (·.1) = false := by rfl) :
    DN X (.Call (.Name x p) (e :: es) [] pos) (wNCall ws l) (c + d) := by
  refine ⟨fun ρ Q Q' k q => hl.mono ρ _ _ (fun xs q => hw xs _ _ (fun r q => ?_) q) q, pe_imp (pe_call F hr hg hm hk hb .nil pass0 hl.run hdb he hpl) fun σ H Q ⟨ρ, r, q⟩ => ?_⟩
  · cases r with
    | ar x => exact q
    | ow ds => exact k _ q
    | ow2 ds => exact k _ q
  · refine tDL_then hl.mono r.l q fun xs vs H1 q1 e1 z1 => ?_
    show ∃ xs, RaAll X.prog X.w X.K H1 (vs ++ []) xs ∧ _
    rw [List.append_nil]
    refine ⟨xs, z1, (r.go e1).bud, hw xs _ _ (fun r q => ?_) q1⟩
    cases r with
    | ar x => exact q.elim
    | ow ds => exact fun a vs H' e hn ha hd => q a vs H' (e1.trans e) (e1.free hn) ha hd
    | ow2 xss =>
      refine fun a bs H' e hn nd ha hd => q a _ H' (e1.trans e) (e1.free (hn a List.mem_cons_self)) ha (Rows.up (.of fun b o z => ?_) (fun b hb o z => ?_) hd)
      · have hb : b ∉ a :: bs := fun y => by rw [hid_in y] at z; cases z
        rw [hid_out hb] at z
        rw [hid_out (fun y => hb (by rw [List.mem_singleton.mp y]; exact List.mem_cons_self))]; exact z
      · rw [hid_out (fun y => (List.nodup_cons.mp nd).1 (by have e := List.mem_singleton.mp y; rw [← e]; exact hb))]; exact z
/-! ### new lists of new lists, made -/
abbrev WN2 := Ro → (List (List PyData) → Prop) → Prop
def Nend2 (X : Cx) (c : Nat) (H : Hp) (Q : VK) (xss : List (List PyData)) : Prop := ∀ a bs H', SmX X c H H' → (∀ b ∈ a :: bs, H b = none) → (a :: bs).Nodup → H' a = some (.lst (bs.map V.ref)) → Rows X.K H' (a :: bs) bs xss → Q (.ref a) H'
def tDN2 (X : Cx) (w : WN2) (c : Nat) : TE := fun σ H Q => ∃ ρ, RepX X ρ σ H c ∧ w ρ (Nend2 X c H Q)
structure DN2 (X : Cx) (e : Expr) (w : WN2) (c : Nat) : Prop where
  mono : ∀ ρ (Q Q' : List (List PyData) → Prop), (∀ x, Q x → Q' x) → w ρ Q → w ρ Q'
  run : PE X e (tDN2 X w c)
def wN2Call (ws : WF) (l : WL) : WN2 := fun ρ Q => l ρ fun xs => ws xs fun r => match r with
  | .ow2 xss => Q xss
  | _ => False
theorem dn2_call {k : Nat} {f : Addr} {fd : FuncData} {ps : List Str} {ws : WF} {x : Str} {p pos : Pos} {e : Expr} {es : List Expr} {l : WL} (F : FnOk X.prog X.w X.K X.mg X.base CX0 k f fd ps (spF X.prog X.w X.K ws d)) (hw : MonoF ws) (hr : Room k X.A) (hm : X.mg x = some (.ref f))
    (hk : PySem.W.keepIn X.K (.ref f) = true) (hb : Binds X.K fd ps []) (hl : DL X (e :: es) l c) (hg : Gl X x := by rfl) (hdb : (x == ("__debug__" : Str)) = false := by decide) (he : starEach (e :: es) X.env = (false, eval e X.env) :: starEach es X.env := by rfl) (hpl : (backTo pos (starEach es X.env)).any (·.1) = false := by rfl) :
    DN2 X (.Call (.Name x p) (e :: es) [] pos) (wN2Call ws l) (c + d) := by
  refine ⟨fun ρ Q Q' k q => hl.mono ρ _ _ (fun xs q => hw xs _ _ (fun r q => ?_) q) q, pe_imp (pe_call F hr hg hm hk hb .nil pass0 hl.run hdb he hpl) fun σ H Q ⟨ρ, r, q⟩ => ?_⟩
  · cases r with
    | ar x => exact q
    | ow ds => exact q
    | ow2 ds => exact k _ q
  · refine tDL_then hl.mono r.l q fun xs vs H1 q1 e1 z1 => ?_
    show ∃ xs, RaAll X.prog X.w X.K H1 (vs ++ []) xs ∧ _
    rw [List.append_nil]
    refine ⟨xs, z1, (r.go e1).bud, hw xs _ _ (fun r q => ?_) q1⟩
    cases r with
    | ar x => exact q.elim
    | ow ds => exact q.elim
    | ow2 xss => exact fun a bs H' e hn nd ha hd => q a bs H' (e1.trans e) (fun b hb => e1.free (hn b hb)) nd ha hd
end
end DW
set_option Elab.async false
set_option linter.all false
set_option maxRecDepth 100000
set_option maxHeartbeats 1000000
/-! DwIter: what is walked; targets; list comprehensions. -/
namespace DW
open PySem PySem.Spec PyProof.Rows L2
/-! ### what is walked -/
def ItOk (K : Fg) (J : It) (ds : List PyData) (Hs : Hp) : Prop := ∀ (H : Hp) (S : List Addr), LstS H S → Same Hs (hid H S) →
  (∀ (i : Nat) (d : PyData), ds[i]? = some d → J.go i H ∧ ∀ x H', J.yld i H x H' → (∀ (P : Program) (w : World), Sm P w 0 H H') ∧ Dp K (hid H' S) x d) ∧ J.stop ds.length H
theorem ItOk.mono {K : Fg} {J : It} {ds : List PyData} {Hs Ht : Hp} (h : ItOk K J ds Hs) (e : Same Hs Ht) : ItOk K J ds Ht := fun H S l s => h H S l (e.trans s)
abbrev WI := Ro → (List PyData → Prop) → Prop
def tDI (X : Cx) (w : WI) (c : Nat) : TI := fun σ H R => ∃ ρ S, LstS H S ∧ RepX X ρ σ (hid H S) c ∧ w ρ fun ds => ∀ J H', SmX X c H H' → ItOk X.K J ds (hid H' S) → R J H'
structure DI (X : Cx) (tg iter : Expr) (w : WI) (c : Nat) : Prop where
  mono : MonoN w
  run : PI X tg iter (tDI X w c)
theorem pi_imp {X : Cx} {tg iter : Expr} {t t' : TI} (h : PI X tg iter t) (i : ∀ σ H R, t' σ H R → t σ H R) : PI X tg iter t' := ⟨fun pins s σ H R I q => h.run pins s σ H R I (i _ _ _ q)⟩
section
variable {X : Cx} {tg : Expr}
def iSeq (K : Fg) (tl : TE) : TI := fun σ H R => tl σ H fun x H1 => ∃ a, x = .ref a ∧ (((∃ xs, SqL K H1 a xs) ∧ R (Itl K a) H1) ∨ ((∃ xs, SqT K H1 a xs) ∧ R (Itt K a) H1))
theorem pi_seq {l : Expr} {tl : TE} (hl : PE X l tl) : PI X tg l (iSeq X.K tl) := by
  refine ⟨fun pins s σ H R I h => ?_⟩
  refine thn (hl.run pins s σ H _ I h) fun v s1 ⟨x, H1, I1, r1, q1⟩ => ?_
  obtain ⟨a, e, q⟩ := q1
  subst e
  cases r1
  rcases q with ⟨⟨xs, hq⟩, q⟩ | ⟨⟨xs, hq⟩, q⟩
  · obtain ⟨its, rv, p, hz⟩ := I1.list hq
    refine wpAny_pyIter_list p.isList ?_
    refine ⟨s1.heap.objs.size, [s1.heap.objs.size], _, _, H1, rfl, I1.kept (t' := s1.toks) fun b o e => Heap.get?_push_of_some _ e, turn_list a _, ⟨_, Heap.get?_push_size _ rfl, rfl, rfl⟩, fun b hb => ?_, q⟩
    have e : b = s1.heap.objs.size := by simpa using hb
    subst e
    exact I1.fpOk (Nat.le_refl _) (I1.hok.fresh (Nat.le_refl _))
  · obtain ⟨its, rv, p, hz⟩ := I1.tuple hq
    refine wpAny_pyIter_tuple (show s1.heap.IsTuple a its.toArray from p) ?_
    refine ⟨s1.heap.objs.size, [s1.heap.objs.size], _, _, H1, rfl, I1.kept (t' := s1.toks) fun b o e => Heap.get?_push_of_some _ e, turn_tuple a _, ⟨_, Heap.get?_push_size _ rfl, rfl, rfl⟩, fun b hb => ?_, q⟩
    have e : b = s1.heap.objs.size := by simpa using hb
    subst e
    exact I1.fpOk (Nat.le_refl _) (I1.hok.fresh (Nat.le_refl _))
theorem itl_ok {K : Fg} {a : Addr} {ds : List PyData} {Hs : Hp} {vs : List V} (s : SqL K Hs a vs) (d : DpAll K Hs vs ds) : ItOk K (Itl K a) ds Hs := fun H S l e => by
  have s2 : SqL K H a vs := Same.sqL (e.trans (hid_le H S)) s
  refine ⟨fun i x hx => ?_, ⟨vs, s2, by rw [DpAll.length d]; exact Nat.le_refl _⟩⟩
  obtain ⟨v, hv, z⟩ := DpAll.get d hx
  refine ⟨⟨vs, v, s2, hv⟩, fun y H' hy => ?_⟩
  obtain ⟨e1, e2⟩ := hy
  have e3 := e2 vs s2
  rw [hv] at e3
  cases e3
  rw [e1]
  exact ⟨fun _ _ => Sm.refl H, Dp.mono e z⟩
theorem itt_ok {K : Fg} {a : Addr} {ds : List PyData} {Hs : Hp} {vs : List V} (s : SqT K Hs a vs) (d : DpAll K Hs vs ds) : ItOk K (Itt K a) ds Hs := fun H S l e => by
  have s2 : SqT K H a vs := Same.sqT (e.trans (hid_le H S)) s
  refine ⟨fun i x hx => ?_, ⟨vs, s2, by rw [DpAll.length d]; exact Nat.le_refl _⟩⟩
  obtain ⟨v, hv, z⟩ := DpAll.get d hx
  refine ⟨⟨vs, v, s2, hv⟩, fun y H' hy => ?_⟩
  obtain ⟨e1, e2⟩ := hy
  have e3 := e2 vs s2
  rw [hv] at e3
  cases e3
  rw [e1]
  exact ⟨fun _ _ => Sm.refl H, Dp.mono e z⟩
def wSeq (a : WE) : WI := fun ρ Q => a ρ fun x => match x with
  | .d (.list ds) => Q ds
  | .d (.tuple ds) => Q ds
  | _ => False
theorem wSeq_mono {a : WE} (h : MonoE a) : MonoN (wSeq a) := fun ρ Q Q' k q => h ρ _ _ (fun x q => by
  revert q
  split
  · exact k _
  · exact k _
  · exact id) q
theorem same_no {H H1 : Hp} {S : List Addr} (no : ∀ a ∈ S, H1 a = none) : Same H1 (rest H S H1) := .of fun b o e => by
  have hb : b ∉ S := fun z => by rw [no b z] at e; cases e
  rw [rest_out hb]; exact e
theorem di_seq {e : Expr} {a : WE} (h : DE X e a c) : DI X tg e (wSeq a) c := by
  refine ⟨wSeq_mono h.mono, pi_imp (pi_seq (pe_fr h.run)) fun σ H R ⟨ρ, S, l, r, q⟩ => ?_⟩
  refine ⟨S, l, ?_⟩
  refine tD_then h.mono r q fun x v H1 q1 e1 z1 no => ?_
  have e2 : SmX X c H (rest H S H1) := sm_rest l e1 no
  revert q1
  split
  · intro q1
    cases z1 with
    | lst s d => exact ⟨_, rfl, .inl ⟨⟨_, Same.sqL (same_no no) s⟩, q1 _ _ e2 (by rw [hid_rest no]; exact itl_ok s d)⟩⟩
  · intro q1
    cases z1 with
    | tup s d => exact ⟨_, rfl, .inr ⟨⟨_, Same.sqT (same_no no) s⟩, q1 _ _ e2 (by rw [hid_rest no]; exact itt_ok s d)⟩⟩
  · exact False.elim
/-! ranges -/
def rngD (lo : Int) (n : Nat) : List PyData := (List.range n).map fun i => .int (lo + (i : Nat))
theorem rngD_get {lo : Int} {n i : Nat} {d : PyData} (h : (rngD lo n)[i]? = some d) : i < n ∧ d = .int (lo + (i : Nat)) := by
  unfold rngD at h
  rw [List.getElem?_map, Option.map_eq_some_iff] at h
  obtain ⟨j, hj, e⟩ := h
  obtain ⟨h1, h2⟩ := List.getElem?_eq_some_iff.mp hj
  rw [List.length_range] at h1
  rw [List.getElem_range] at h2
  subst h2
  exact ⟨h1, e.symm⟩
theorem rngD_length (lo : Int) (n : Nat) : (rngD lo n).length = n := by unfold rngD; rw [List.length_map, List.length_range]
theorem itr_ok {K : Fg} {lo : Int} {n : Nat} {Hs : Hp} : ItOk K (Itr lo n) (rngD lo n) Hs := fun H S l e => by
  refine ⟨fun i x hx => ?_, ?_⟩
  · obtain ⟨hi, rfl⟩ := rngD_get hx
    refine ⟨hi, fun y H' hy => ?_⟩
    obtain ⟨e1, e2⟩ := hy
    rw [e1, e2]
    exact ⟨fun _ _ => Sm.refl H, .int _⟩
  · show n ≤ _
    rw [rngD_length]; exact Nat.le_refl _
def wRng1 (a : WE) : WI := fun ρ Q => a ρ fun x => match x with
  | .d (.int j) => (-(2 ^ 62) ≤ j ∧ j < 2 ^ 62) ∧ Q (rngD 0 j.toNat)
  | _ => False
def wRng2 (a b : WE) : WI := fun ρ Q => a ρ fun x => b ρ fun y => match x, y with
  | .d (.int i), .d (.int j) => (-(2 ^ 62) ≤ i ∧ i < 2 ^ 62 ∧ -(2 ^ 62) ≤ j ∧ j < 2 ^ 62) ∧ Q (rngD i (j - i).toNat)
  | _, _ => False
theorem pa_fr {es : List Expr} {t : TA} (h : PA X es t) : PA X es (fun σ H Q => ∃ S, LstS H S ∧ t σ (hid H S) fun v H1 => (∀ a ∈ S, H1 a = none) → Q v (rest H S H1)) := by
  refine ⟨fun pos pins s σ H Q I ⟨S, hS, q⟩ => ?_⟩
  refine thn (h.run pos _ s σ _ _ (Inv.hideL I hS) q) fun u s1 ⟨v, H1, I1, r1, q1⟩ => ?_
  obtain ⟨J, no⟩ := Inv.unhide I hS I1
  exact ⟨v, _, J, r1, q1 no⟩
theorem di_rng1 {e : Expr} {a : WE} {p pos : Pos} (hm : X.mg "range" = none) (h : DE X e a c) (hg : Gl X "range" := by rfl) (hs : starEach [e] X.env = [(false, eval e X.env)] := by rfl) : DI X tg (.Call (.Name "range" p) [e] [] pos) (wRng1 a) c := by
  refine ⟨fun ρ Q Q' k q => h.mono ρ _ _ (fun x q => ?_) q, pi_imp (pi_range1 hg hm (pa_fr (pa_cons h.run pa_nil hs)) hs) fun σ H R ⟨ρ, S, l, r, q⟩ => ?_⟩
  · revert q
    split
    · exact fun q => ⟨q.1, k _ q.2⟩
    · exact id
  · refine ⟨S, l, ?_⟩
    refine tD_then h.mono r q fun x v H1 q1 e1 z1 no => ?_
    revert q1
    split
    · intro q1
      cases z1
      exact ⟨_, rfl, q1.1.1, q1.1.2, q1.2 _ _ (sm_rest l e1 no) itr_ok⟩
    · exact False.elim
theorem di_rng2 {e f : Expr} {a b : WE} {p pos : Pos} (hm : X.mg "range" = none) (h : DE X e a c) (h2 : DE X f b d) (hg : Gl X "range" := by rfl) (hs : starEach [e, f] X.env = [(false, eval e X.env), (false, eval f X.env)] := by rfl) (hs2 : starEach [f] X.env = [(false, eval f X.env)] := by rfl) : DI X tg (.Call (.Name "range" p) [e, f] [] pos) (wRng2 a b) (c + d) := by
  refine ⟨fun ρ Q Q' k q => h.mono ρ _ _ (fun x q => h2.mono ρ _ _ (fun y q => ?_) q) q, pi_imp (pi_range2 hg hm (pa_fr (pa_cons h.run (pa_cons h2.run pa_nil hs2) (by rw [hs, hs2]))) hs hs2) fun σ H R ⟨ρ, S, l, r, q⟩ => ?_⟩
  · revert q
    dsimp only
    split
    · exact fun q => ⟨q.1, k _ q.2⟩
    · exact id
  · refine ⟨S, l, ?_⟩
    refine tD_then h.mono r.l q fun x v H1 q1 e1 z1 => ?_
    refine tD_then h2.mono (r.go e1) q1 fun y u H2 q2 e2 z2 no => ?_
    revert q2
    split
    · intro q2
      cases z1
      cases z2
      exact ⟨_, _, rfl, q2.1, q2.2 _ _ (sm_rest l (e1.trans e2) no) itr_ok⟩
    · exact False.elim
def rngC (lo c : Int) (n : Nat) : List PyData := (List.range n).map fun i => .int (lo + (i : Nat) * c)
/-- range(i, j, -1) -/
def wRngDown (a b : WE) : WI := fun ρ Q => a ρ fun x => b ρ fun y => match x, y with
  | .d (.int i), .d (.int j) => (-(2 ^ 62) ≤ i ∧ i < 2 ^ 62 ∧ -(2 ^ 62) ≤ j ∧ j < 2 ^ 62) ∧ Q (rngC i (-1) (i - j).toNat)
  | _, _ => False
end
/-! ### targets -/
abbrev Bd := List (Nat × PyData)
inductive BAll (K : Fg) (H : Hp) : List V → Bd → Prop
  | nil : BAll K H [] []
  | cons {v : V} {vs : List V} {b : Nat × PyData} {bs : Bd} : Dp K H v b.2 → BAll K H vs bs → BAll K H (v :: vs) (b :: bs)
theorem BAll.mono {K : Fg} {H H' : Hp} (h : Same H H') : ∀ {bs : Bd} {vs : List V}, BAll K H vs bs → BAll K H' vs bs
  | [], _, .nil => .nil
  | _ :: _, _, .cons a b => .cons (Dp.mono h a) (BAll.mono h b)
theorem BAll.app {K : Fg} {H : Hp} : ∀ {bs : Bd} {vs : List V} {cs : Bd} {us : List V}, BAll K H vs bs → BAll K H us cs → BAll K H (vs ++ us) (bs ++ cs)
  | [], _, _, _, .nil, h => h
  | _ :: _, _, _, _, .cons a b, h => .cons a (BAll.app b h)
def setV (σ : L2.St) : List V → Bd → L2.St
  | v :: vs, b :: bs => setV (σ.set b.1 (some v)) vs bs
  | _, _ => σ
def setR (ρ : Ro) : Bd → Ro
  | [] => ρ
  | b :: bs => setR (ρ.set b.1 (.d b.2)) bs
theorem setV_length : ∀ (bs : Bd) (vs : List V) (σ : L2.St), (setV σ vs bs).length = σ.length
  | [], vs, σ => by cases vs <;> rfl
  | b :: bs, [], σ => rfl
  | b :: bs, v :: vs, σ => by
    show (setV (σ.set b.1 (some v)) vs bs).length = _
    rw [setV_length bs vs, List.length_set]
theorem setV_app {K : Fg} {H : Hp} {cs : Bd} {us : List V} {bs : Bd} : ∀ {vs : List V} {σ : L2.St}, BAll K H vs bs → setV σ (vs ++ us) (bs ++ cs) = setV (setV σ vs bs) us cs := by
  induction bs with
  | nil => intro vs σ h; cases h; rfl
  | cons b bs ih =>
    intro vs σ h
    cases h with
    | cons a r => exact ih r
theorem setV_out {K : Fg} {H : Hp} {bs : Bd} : ∀ {vs : List V} {σ : L2.St} {j : Nat}, BAll K H vs bs → (∀ b ∈ bs, b.1 ≠ j) → (setV σ vs bs)[j]? = σ[j]? := by
  induction bs with
  | nil => intro vs σ j h _; cases h; rfl
  | cons b bs ih =>
    intro vs σ j h hn
    cases h with
    | cons a r =>
      show (setV (List.set _ b.1 _) _ bs)[j]? = _
      rw [ih r (fun c hc => hn c (List.mem_cons_of_mem _ hc)), List.getElem?_set_ne (hn b List.mem_cons_self)]
theorem RepE.setV {P : Program} {w : World} {K : Fg} {H : Hp} {c : Nat} {bs : Bd} : ∀ {vs : List V} {ρ : Ro} {σ : L2.St}, RepE P w K ρ σ H c → BAll K H vs bs → (∀ b ∈ bs, b.1 < σ.length) → RepE P w K (setR ρ bs) (DW.setV σ vs bs) H c := by
  induction bs with
  | nil => intro vs ρ σ r h _; cases h; exact r
  | cons b bs ih =>
    intro vs ρ σ r h hl
    cases h with
    | cons a q => exact ih (RepE.set (x := .d b.2) r (hl b List.mem_cons_self) a) q (fun c hc => by rw [List.length_set]; exact hl c (List.mem_cons_of_mem _ hc))
abbrev TF := PyData → Option Bd
abbrev TFs := List PyData → Option Bd
def tDG (K : Fg) (tf : TF) : TG := fun v σ H Q => ∃ Hs d bs, Same Hs H ∧ Dp K Hs v d ∧ tf d = some bs ∧ ∀ us, BAll K Hs us bs → Q (setV σ us bs) H
def tDGs (K : Fg) (tf : TFs) : TGs := fun vs σ H Q => ∃ Hs ds bs, Same Hs H ∧ DpAll K Hs vs ds ∧ tf ds = some bs ∧ ∀ us, BAll K Hs us bs → Q (setV σ us bs) H
structure DG (X : Cx) (tg : Expr) (is : List Nat) (tf : TF) : Prop where
  ix : ∀ d bs, tf d = some bs → ∀ b ∈ bs, b.1 ∈ is
  lt : ∀ i ∈ is, i < X.N.length
  run : PG X tg (tDG X.K tf)
structure DGs (X : Cx) (ts : List Expr) (is : List Nat) (tf : TFs) : Prop where
  ix : ∀ d bs, tf d = some bs → ∀ b ∈ bs, b.1 ∈ is
  lt : ∀ i ∈ is, i < X.N.length
  len : ∀ d bs, tf d = some bs → d.length = ts.length
  run : PGs X ts (tDGs X.K tf)
def tfName (i : Nat) : TF := fun d => some [(i, d)]
def tfNil : TFs := fun ds => match ds with
  | [] => some []
  | _ => none
def tfCons (t : TF) (u : TFs) : TFs := fun ds => match ds with
  | d :: r => match t d, u r with
    | some a, some b => some (a ++ b)
    | _, _ => none
  | [] => none
def tfTup (u : TFs) : TF := fun d => match d with
  | .tuple ds => u ds
  | _ => none
section
variable {X : Cx} {pos : Pos}
theorem pg_imp {tg : Expr} {t t' : TG} (h : PG X tg t) (i : ∀ v σ H Q, t' v σ H Q → t v σ H Q) : PG X tg t' := ⟨fun pins s σ H v u Q I r q => h.run pins s σ H v u Q I r (i _ _ _ _ q)⟩
theorem pgs_imp {tg : List Expr} {t t' : TGs} (h : PGs X tg t) (i : ∀ v σ H Q, t' v σ H Q → t v σ H Q) : PGs X tg t' := ⟨fun pins s σ H v u Q I r q => h.run pins s σ H v u Q I r (i _ _ _ _ q)⟩
theorem dg_name (i : Nat) {x : Str} (hN : X.N.Nodup) (hi : X.N[i]? = some x := by rfl) (hx : Loc X.env.scope x := by first | exact Or.inl rfl | exact Or.inr rfl) (hf : X.fn x = true ∨ X.env.scope.names.lookup x = some .local := by first | exact .inl rfl | exact .inr rfl | assumption) : DG X (.Name x pos) [i] (tfName i) := by
  refine ⟨fun d bs e b hb => ?_, fun j hj => ?_, pg_imp (pg_name hN hi hx hf) fun v σ H Q ⟨Hs, d, bs, s, hd, e, q⟩ => ?_⟩
  · cases e
    rcases List.mem_cons.mp hb with rfl | hb
    · exact List.mem_cons_self
    · cases hb
  · rcases List.mem_cons.mp hj with rfl | hj
    · exact (List.getElem?_eq_some_iff.mp hi).1
    · cases hj
  · cases e
    exact q [v] (.cons hd .nil)
theorem dgs_nil : DGs X [] [] tfNil := by
  refine ⟨fun d bs e b hb => ?_, (fun i hi => nomatch hi), fun d bs e => ?_, pgs_imp pgs_nil fun vs σ H Q ⟨Hs, ds, bs, s, hd, e, q⟩ => ?_⟩
  · cases d with
    | nil => cases e; cases hb
    | cons _ _ => cases e
  · cases d with
    | nil => rfl
    | cons _ _ => cases e
  · cases hd with
    | nil => cases e; exact ⟨rfl, q [] .nil⟩
    | cons _ _ => cases e
theorem dgs_cons {e : Expr} {es : List Expr} {is js : List Nat} {t : TF} {u : TFs} (h1 : DG X e is t) (h2 : DGs X es js u) (hs : (assignEach (e :: es) X.env).map (·.2) = assign e X.env :: (assignEach es X.env).map (·.2) := by rfl) : DGs X (e :: es) (is ++ js) (tfCons t u) := by
  have inv : ∀ ds bs, tfCons t u ds = some bs → ∃ d r a b, ds = d :: r ∧ t d = some a ∧ u r = some b ∧ bs = a ++ b := fun ds bs e => by
    cases ds with
    | nil => cases e
    | cons d r =>
      unfold tfCons at e
      dsimp only at e
      split at e
      · rename_i a b ea eb
        cases e
        exact ⟨d, r, a, b, rfl, ea, eb, rfl⟩
      · cases e
  refine ⟨fun ds bs e b hb => ?_, fun i hi => ?_, fun ds bs e => ?_, pgs_imp (pgs_cons h1.run h2.run hs) fun vs σ H Q ⟨Hs, ds, bs, s, hd, e, q⟩ => ?_⟩
  · obtain ⟨d, r, a, c, _, ea, ec, rfl⟩ := inv ds bs e
    rcases List.mem_append.mp hb with hb | hb
    · exact List.mem_append_left _ (h1.ix d a ea b hb)
    · exact List.mem_append_right _ (h2.ix r c ec b hb)
  · rcases List.mem_append.mp hi with hi | hi
    · exact h1.lt i hi
    · exact h2.lt i hi
  · obtain ⟨d, r, a, c, rfl, ea, ec, _⟩ := inv ds bs e
    rw [List.length_cons, List.length_cons, h2.len r c ec]
  · obtain ⟨d, r, a, c, rfl, ea, ec, rfl⟩ := inv ds bs e
    cases hd with
    | cons z zs =>
      refine ⟨_, _, rfl, Hs, d, a, s, z, ea, fun us hu => ?_⟩
      refine ⟨Hs, r, c, s, zs, ec, fun ws hw => ?_⟩
      have q2 := q (us ++ ws) (BAll.app hu hw)
      rw [setV_app hu] at q2
      exact q2
theorem dg_tup {es : List Expr} {k : Nat} {is : List Nat} {u : TFs} (h : DGs X es is u) (hc : X.calm = true := by rfl) (hn : (assignEach es X.env).length = es.length := by rfl) (hst : (assignEach es X.env).findIdx? (·.1) = none := by rfl) : DG X (.Tuple es k pos) is (tfTup u) := by
  refine ⟨fun d bs e b hb => ?_, h.lt, pg_imp (pg_tup hc h.run hn hst) fun v σ H Q ⟨Hs, d, bs, s, hd, e, q⟩ => ?_⟩
  · cases d <;> first | exact h.ix _ _ e b hb | cases e
  · cases d with
    | tuple ds =>
      cases hd with
      | tup sq ra =>
        refine ⟨_, _, rfl, Same.sqT s sq, ?_, Hs, ds, bs, s, ra, e, q⟩
        rw [DpAll.length ra]; exact h.len ds bs e
    | _ => cases e
end
/-! ### list comprehensions -/
def compW (step : PyData → List PyData → (List PyData → Prop) → Prop) : List PyData → List PyData → (List PyData → Prop) → Prop
  | [], acc, Q => Q acc
  | d :: ds, acc, Q => step d acc fun acc' => compW step ds acc' Q
def lcStep (ρ : Ro) (vs : List Nat) (tf : TF) (tt : WT) (te : WE) : PyData → List PyData → (List PyData → Prop) → Prop := fun d acc k => match tf d with
  | some bs => tt (setR (wipeR ρ vs) bs) fun b => match b with
    | true => te (setR (wipeR ρ vs) bs) fun y => match y with
      | .d y => k (acc ++ [y])
      | _ => False
    | false => k acc
  | none => False
def wLc (wi : WI) (tf : TF) (tt : WT) (te : WE) (vs : List Nat) : WN := fun ρ Q => wi ρ fun ds => ds.length ≤ 100000 ∧ compW (lcStep ρ vs tf tt te) ds [] Q
theorem lcStep_mono {ρ : Ro} {vs : List Nat} {tf : TF} {tt : WT} {te : WE} (ht : MonoT tt) (he : MonoE te) (d : PyData) (acc : List PyData) (k k' : List PyData → Prop) (h : ∀ a, k a → k' a) (q : lcStep ρ vs tf tt te d acc k) : lcStep ρ vs tf tt te d acc k' := by
  unfold lcStep at q ⊢
  split at q
  · refine ht _ _ _ (fun b q => ?_) q
    cases b with
    | true =>
      refine he _ _ _ (fun y q => ?_) q
      revert q
      split
      · exact h _
      · exact id
    | false => exact h _ q
  · exact q
theorem compW_mono {step : PyData → List PyData → (List PyData → Prop) → Prop} (hs : ∀ d acc k k', (∀ a, k a → k' a) → step d acc k → step d acc k') : ∀ ds acc (Q Q' : List PyData → Prop), (∀ a, Q a → Q' a) → compW step ds acc Q → compW step ds acc Q'
  | [], acc, _, _, h, q => h _ q
  | d :: ds, acc, Q, Q', h, q => hs d acc _ _ (fun a => compW_mono hs ds a Q Q' h) q
theorem wipe_eq {σ σ' : L2.St} (hl : σ'.length = σ.length) : ∀ {vs : List Nat}, (∀ j, j ∉ vs → σ'[j]? = σ[j]?) → L2.wipe σ' vs = L2.wipe σ vs := fun {vs} h => by
  refine List.ext_getElem? fun j => ?_
  by_cases hj : j ∈ vs
  · have key : ∀ (τ : L2.St) (us : List Nat), j ∈ us → (L2.wipe τ us)[j]? = if j < τ.length then some none else none := fun τ us => by
      induction us with
      | nil => intro z; cases z
      | cons u us ih =>
        intro z
        show ((L2.wipe τ us).set u none)[j]? = _
        by_cases hu : u = j
        · subst hu
          by_cases hlt : u < τ.length
          · rw [if_pos hlt, List.getElem?_set_self (by rw [wipe_length]; exact hlt)]
          · rw [if_neg hlt, List.getElem?_eq_none (by rw [List.length_set, wipe_length]; omega)]
        · rw [List.getElem?_set_ne hu]
          exact ih ((List.mem_cons.mp z).resolve_left (fun e => hu e.symm))
    rw [key σ' vs hj, key σ vs hj, hl]
  · rw [wipe_out hj, wipe_out hj]
    exact h j hj
section
variable {X : Cx}
structure DTs (X : Cx) (ifs : List Expr) (w : WT) (c : Nat) : Prop where
  mono : MonoT w
  run : PTs X ifs (tDT X w c)
def wYes : WT := fun _ Q => Q true
theorem pts_imp {ifs : List Expr} {t t' : TT} (h : PTs X ifs t) (i : ∀ σ H Q, t' σ H Q → t σ H Q) : PTs X ifs t' := ⟨fun pins s σ H Q I q => h.run pins s σ H Q I (i _ _ _ q)⟩
theorem dts_nil : DTs X [] wYes 0 := ⟨fun _ _ _ h q => h _ q, pts_imp pts_nil fun σ H Q ⟨ρ, r, q⟩ => q H (Sm.refl H)⟩
theorem dts_one {g : Expr} {w : WT} (h : DT X g w c) : DTs X [g] w c := ⟨h.mono, pts_one h.run⟩
theorem pts_fr {ifs : List Expr} {t : TT} (h : PTs X ifs t) : PTs X ifs (tFrT t) := by
  refine ⟨fun pins s σ H Q I ⟨S, hS, q⟩ => ?_⟩
  refine thn (h.run _ s σ _ _ (Inv.hideL I hS) q) fun u s1 ⟨H1, I1, q1⟩ => ?_
  obtain ⟨J, no⟩ := Inv.unhide I hS I1
  exact ⟨_, J, q1 no⟩
/-- the reading of a comprehension, from that of its parts over data: a for the source, b for a turn's test, d for a turn's item -/
theorem lc_run {a b d : Nat} {wi : WI} {is : List Nat} {tf : TF} {tt : WT} {te : WE} {vs : List Nat} (hwi : MonoN wi) (hix : ∀ d bs, tf d = some bs → ∀ b ∈ bs, b.1 ∈ is) (hlt : ∀ i ∈ is, i < X.N.length) (hv : ∀ i ∈ is, i ∈ vs) (htt : MonoT tt) (hte : MonoE te)
    {σ : L2.St} {H : Hp} {Q : VK} (hσ : σ.length = X.N.length) (h : ∃ ρ, RepX X ρ σ H (a + 100000 * (b + d)) ∧ wLc wi tf tt te vs ρ (Nend X (a + 100000 * (b + d)) H Q)) : tLc (tDI X wi a) (tDG X.K tf) (tFrT (tDT X tt b)) (tFr (tD X te d)) vs σ H Q := by
  obtain ⟨ρ, r, q⟩ := h
  refine ⟨ρ, [], (fun _ z => nomatch z), by rw [hid_nil]; exact r.l, hwi ρ _ _ (fun ds ⟨hlen, q⟩ J H1 e1 ok D hD => ?_) q⟩
  rw [hid_nil] at ok
  have r1 : RepX X ρ σ H1 (100000 * (b + d)) := r.go e1
  refine ⟨fun i m Hc => m = ds.length - i ∧ i ≤ ds.length ∧ ∃ us acc, Hc D = some (.lst us) ∧ DpAll X.K (hid Hc [D]) us acc ∧ SmX X (i * (b + d)) H1 (hid Hc [D]) ∧ acc.length ≤ i ∧ compW (lcStep ρ vs tf tt te) (ds.drop i) acc (Nend X (a + 100000 * (b + d)) H Q),
    ⟨ds.length, rfl, Nat.zero_le _, [], [], upd_same, .nil, by rw [hid_new hD, Nat.zero_mul]; exact Sm.refl _, Nat.le_refl _, q⟩, ?_⟩
  rintro i m Hc ⟨rfl, hi, us, acc, hDc, hacc, e2, hal, qi⟩
  have lst : ∀ {H' : Hp} {us : List V}, H' D = some (.lst us) → LstS H' [D] := fun h a ha => by
    rw [List.mem_singleton.mp ha]; exact ⟨_, h⟩
  have okc := ok Hc [D] (lst hDc) e2.toSame
  by_cases hlt2 : i < ds.length
  · have step : (i + 1) * (b + d) = i * (b + d) + (b + d) := Nat.succ_mul _ _
    have room : i * (b + d) + (b + d) ≤ 100000 * (b + d) := by rw [← step]; exact Nat.mul_le_mul_right _ (by omega)
    obtain ⟨go, yl⟩ := okc.1 i ds[i] (List.getElem?_eq_getElem hlt2)
    refine .inr ⟨go, fun H' => ∃ us acc, H' D = some (.lst us) ∧ DpAll X.K (hid H' [D]) us acc ∧ SmX X ((i + 1) * (b + d)) H1 (hid H' [D]) ∧ acc.length ≤ i + 1 ∧ compW (lcStep ρ vs tf tt te) (ds.drop (i + 1)) acc (Nend X (a + 100000 * (b + d)) H Q), fun H' nx => ⟨ds.length - (i + 1), by omega, rfl, hlt2, nx⟩, fun x H' hy => ?_⟩
    obtain ⟨e3, hx⟩ := yl x H' hy
    rw [List.drop_eq_getElem_cons hlt2] at qi
    have qi : lcStep ρ vs tf tt te ds[i] acc fun acc' => compW (lcStep ρ vs tf tt te) (ds.drop (i + 1)) acc' (Nend X (a + 100000 * (b + d)) H Q) := qi
    unfold lcStep at qi
    have hD' : H' D = some (.lst us) := (e3 X.prog X.w).k hDc rfl
    have e4 : SmX X 0 (hid Hc [D]) (hid H' [D]) := sm_hid (lst hDc) (e3 _ _)
    have e24 : SmX X (i * (b + d)) H1 (hid H' [D]) := e2.trans e4
    cases ht : tf ds[i] with
    | none => rw [ht] at qi; exact qi.elim
    | some bs =>
      rw [ht] at qi
      refine ⟨hid H' [D], ds[i], bs, hid_le _ _, hx, ht, fun ws hw => ?_⟩
      have hsl : (setV (L2.wipe σ vs) ws bs).length = (L2.wipe σ vs).length := setV_length _ _ _
      have ivs : ∀ b ∈ bs, b.1 ∈ vs := fun b hb => hv _ (hix _ _ ht b hb)
      refine ⟨?_, ?_⟩
      · have h1 : L2.wipe (setV (L2.wipe σ vs) ws bs) vs = L2.wipe (L2.wipe σ vs) vs := wipe_eq hsl fun j hj => setV_out hw fun b hb e => hj (e ▸ ivs b hb)
        rw [h1]
        exact wipe_eq (wipe_length σ vs) fun j hj => wipe_out hj
      · -- the test
        have rep : RepX X (setR (wipeR ρ vs) bs) (setV (L2.wipe σ vs) ws bs) (hid H' [D]) (b + d) :=
          RepE.setV (RepE.wipe ((r1.le room).go e24) vs) hw fun b hb => by rw [wipe_length, hσ]; exact hlt _ (hix _ _ ht b hb)
        refine ⟨[D], lst hD', tDT_then htt rep.l qi fun k H3 q3 e5 no3 => ?_⟩
        have e6 : SmX X b H' (rest H' [D] H3) := sm_rest (lst hD') e5 no3
        have hD3 : rest H' [D] H3 D = some (.lst us) := e6.k hD' rfl
        have hh3 : hid (rest H' [D] H3) [D] = H3 := hid_rest no3
        have e25 : SmX X (i * (b + d) + b) H1 H3 := e24.trans e5
        have a3 : DpAll X.K H3 us acc := DpAll.mono (e4.toSame.trans e5.toSame) hacc
        cases k with
        | false =>
          refine iteF ⟨us, acc, hD3, ?_, ?_, Nat.le_succ_of_le hal, q3⟩
          · rw [hh3]; exact a3
          · rw [hh3]; exact e25.le (by omega)
        | true =>
          refine iteT ?_
          have rep3 : RepX X (setR (wipeR ρ vs) bs) (setV (L2.wipe σ vs) ws bs) (hid (rest H' [D] H3) [D]) d := by rw [hh3]; exact rep.go e5
          refine ⟨[D], lst hD3, tD_then hte rep3 q3 fun y v H4 q4 e7 z4 no4 => ?_⟩
          have e8 : SmX X d (rest H' [D] H3) (rest (rest H' [D] H3) [D] H4) := sm_rest (lst hD3) e7 no4
          have hD4 := e8.k hD3 rfl
          have hh4 : hid (rest (rest H' [D] H3) [D] H4) [D] = H4 := hid_rest no4
          rw [hh3] at e7
          refine ⟨us, hD4, ?_, ?_⟩
          · have hz := sizeLine_eq
            rw [DpAll.length hacc]; omega
          · cases y with
            | d y =>
              have q4 : compW (lcStep ρ vs tf tt te) (ds.drop (i + 1)) (acc ++ [y]) (Nend X (a + 100000 * (b + d)) H Q) := q4
              refine ⟨us ++ [v], acc ++ [y], upd_same, ?_, ?_, ?_, q4⟩
              · rw [hid_upd_in (by simp), hh4]
                exact DpAll.app (DpAll.mono e7.toSame a3) (.cons z4 .nil)
              · rw [hid_upd_in (by simp), hh4]
                exact (e25.trans e7).le (by omega)
              · rw [List.length_append, List.length_singleton]; omega
            | sta => exact q4.elim
            | net _ _ => exact q4.elim
  · have hi2 : i = ds.length := by omega
    subst hi2
    rw [List.drop_length] at qi
    have qi : Nend X (a + 100000 * (b + d)) H Q acc := qi
    refine .inl ⟨okc.2, qi D us Hc ?_ (e1.free hD) hDc hacc⟩
    have up : SmX X (ds.length * (b + d)) H1 Hc := sm_unhid (lst hDc) e2
    exact (e1.trans up).le (Nat.add_le_add_left (Nat.mul_le_mul_right _ hlen) _)
theorem dn_lc {a b d : Nat} {elt tg iter : Expr} {ifs : List Expr} {scope : Scope} {own : List (Str × Nat)} {pos : Pos} {wi : WI} {is : List Nat} {tf : TF} {tt : WT} {te : WE} (hN : X.N.Nodup) (hi : DI X tg iter wi a) (ok : BlkOk X.N X.env.scope scope own)
    (hg : ∀ (s : Shared) (H : Hp) (C : Addr) (cl : List (Str × Addr)) (fp : List Addr), DG (X.blk s H scope (compEnvC scope cl C X.env) fp) tg is tf) (ht : ∀ (s : Shared) (H : Hp) (C : Addr) (cl : List (Str × Addr)) (fp : List Addr), DTs (X.blk s H scope (compEnvC scope cl C X.env) fp) ifs tt b)
    (he : ∀ (s : Shared) (H : Hp) (C : Addr) (cl : List (Str × Addr)) (fp : List Addr), DE (X.blk s H scope (compEnvC scope cl C X.env) fp) elt te d) (hv : ∀ i ∈ is, i ∈ own.map (·.2) := by decide) (hc : X.calm = true := by rfl) (hs : ∀ x, foldedSetIterable iter X.env x = pure x := by intro _; rfl) :
    DN X (.ListComp elt [⟨tg, iter, ifs, 0⟩] scope pos) (wLc wi tf tt te (own.map (·.2))) (a + 100000 * (b + d)) := by
  have s0 : Shared := {}
  have G0 := hg s0 (fun _ => none) 0 [] []
  have T0 := ht s0 (fun _ => none) 0 [] []
  have E0' := he s0 (fun _ => none) 0 [] []
  refine ⟨fun ρ Q Q' k q => hi.mono ρ _ _ (fun ds q => ⟨q.1, compW_mono (fun d acc k k' h q => lcStep_mono T0.mono E0'.mono d acc k k' h q) ds [] Q Q' k q.2⟩) q, pe_impI (pe_lc hc hN hi.run ok (g := tDG X.K tf) (tt := tFrT (tDT X tt b)) (te := tFr (tD X te d)) (fun s H C cl fp => (hg s H C cl fp).run) (fun s H C cl fp => pts_fr (t := tDT X tt b) (ht s H C cl fp).run) (fun s H C cl fp => pe_fr (t := tD X te d) (he s H C cl fp).run) hs) fun pins s σ H Q I h => ?_⟩
  exact lc_run hi.mono G0.ix G0.lt hv T0.mono E0'.mono I.len h
end
end DW
set_option Elab.async false
set_option linter.all false
set_option maxRecDepth 100000
set_option maxHeartbeats 1000000
/-! DwStmt: statements over data; defs. -/
namespace DW
open PySem PySem.Spec PyProof.Rows L2
/-- a list of own lists -/
def Own2 (K : Fg) (H : Hp) (S : List Addr) (a : Addr) (bs : List Addr) (xss : List (List PyData)) : Prop := (∀ b ∈ a :: bs, b ∈ S) ∧ (a :: bs).Nodup ∧ H a = some (.lst (bs.map V.ref)) ∧ Rows K H S bs xss
/-- the lists that a slot owns -/
def OwnAd (H : Hp) (v : V) : Sl → List Addr → Prop
  | .ow _, A => ∃ a, v = .ref a ∧ A = [a]
  | .ow2 _, A => ∃ a bs, v = .ref a ∧ H a = some (.lst (bs.map V.ref)) ∧ A = a :: bs
  | _, A => A = []
structure Rep (P : Program) (w : World) (K : Fg) (ρ : Ro) (σ : L2.St) (H : Hp) (S : List Addr) : Prop where
  ar : ∀ (i : Nat) (x : Ar), ρ[i]? = some (.ar x) → ∃ v, σ[i]? = some (some v) ∧ Ra P w K (hid H S) v x
  ow : ∀ (i : Nat) (xs : List PyData), ρ[i]? = some (.ow xs) → ∃ a us, σ[i]? = some (some (.ref a)) ∧ a ∈ S ∧ H a = some (.lst us) ∧ DpAll K (hid H S) us xs
  ow2 : ∀ (i : Nat) (xss : List (List PyData)), ρ[i]? = some (.ow2 xss) → ∃ a bs, σ[i]? = some (some (.ref a)) ∧ Own2 K H S a bs xss
  sep : ∀ (i j : Nat) (s t : Sl) (v u : V) (A B : List Addr), ρ[i]? = some s → ρ[j]? = some t → σ[i]? = some (some v) → σ[j]? = some (some u) → OwnAd H v s A → OwnAd H u t B → i ≠ j → ∀ b ∈ A, b ∉ B
  lst : LstS H S
section
variable {P : Program} {w : World} {K : Fg} {ρ : Ro} {σ : L2.St} {H H' : Hp} {S S' : List Addr}
theorem mapRef {bs cs : List Addr} (h : bs.map V.ref = cs.map V.ref) : bs = cs := by
  induction bs generalizing cs with
  | nil => cases cs with
    | nil => rfl
    | cons _ _ => cases h
  | cons b bs ih => cases cs with
    | nil => cases h
    | cons c cs => simp at h; rw [h.1, ih (by simpa using h.2)]
theorem Rep.sepO (r : Rep P w K ρ σ H S) (i j : Nat) (xs ys : List PyData) (a : Addr) (e1 : ρ[i]? = some (.ow xs)) (e2 : ρ[j]? = some (.ow ys)) (e3 : σ[i]? = some (some (.ref a))) (e4 : σ[j]? = some (some (.ref a))) : i = j := by
  by_cases h : i = j
  · exact h
  · exact absurd List.mem_cons_self (r.sep i j _ _ _ _ [a] [a] e1 e2 e3 e4 ⟨a, rfl, rfl⟩ ⟨a, rfl, rfl⟩ h a List.mem_cons_self)
theorem Rep.own (r : Rep P w K ρ σ H S) {i : Nat} {s : Sl} {v : V} {A : List Addr} (e : ρ[i]? = some s) (ev : σ[i]? = some (some v)) (o : OwnAd H v s A) : ∀ a ∈ A, a ∈ S := by
  cases s with
  | no => cases o; intro a h; cases h
  | ar x => cases o; intro a h; cases h
  | ow xs =>
    obtain ⟨a, rfl, rfl⟩ := o
    obtain ⟨b, us, e1, m, _⟩ := r.ow i xs e
    rw [ev] at e1; cases e1
    intro a h; rw [List.mem_singleton.mp h]; exact m
  | ow2 xss =>
    obtain ⟨a, bs, rfl, h, rfl⟩ := o
    obtain ⟨b, cs, e1, m, _, h2, _⟩ := r.ow2 i xss e
    rw [ev] at e1; cases e1
    rw [h] at h2; cases mapRef (by simpa using h2)
    exact m
theorem Rep.repE {c : Nat} (r : Rep P w K ρ σ H S) (b : Bud P w H c) : RepE P w K ρ σ H c := ⟨fun i x e => by
  cases x with
  | no => trivial
  | ar x => 
    obtain ⟨v, a, b⟩ := r.ar i x e
    refine ⟨v, a, ?_⟩
    cases x with
    | d x => exact Dp.mono (hid_le _ _) b
    | sta => obtain ⟨a, e, q⟩ := b; exact ⟨a, e, q.to hidB⟩
    | net n ts => obtain ⟨a, dx, tv, e, h1, h2⟩ := b; exact ⟨a, dx, tv, e, (hid_some h1).2, Dp.mono (hid_le _ _) h2⟩
  | ow xs => obtain ⟨a, us, e1, _, e2, d⟩ := r.ow i xs e; exact ⟨_, e1, .lst (.inl (.inl e2)) (DpAll.mono (hid_le _ _) d)⟩
  | ow2 xss => obtain ⟨a, bs, e1, _, _, e2, d⟩ := r.ow2 i xss e; exact ⟨_, e1, .lst (.inl (.inl e2)) (Rows.up (hid_le _ _) (fun _ _ _ z => z) d)⟩, b⟩
theorem noOw_get {ρ : Ro} {i : Nat} {x : Sl} (h : (noOw ρ)[i]? = some x) : x = .no ∨ ∃ y, x = .ar y ∧ ρ[i]? = some (.ar y) := by
  unfold noOw at h
  rw [List.getElem?_map, Option.map_eq_some_iff] at h
  obtain ⟨y, e, z⟩ := h
  cases y with
  | no => exact .inl z.symm
  | ar y => exact .inr ⟨y, z.symm, e⟩
  | ow xs => exact .inl z.symm
  | ow2 xs => exact .inl z.symm
theorem Rep.repF {c : Nat} (r : Rep P w K ρ σ H S) (b : Bud P w (hid H S) c) : RepE P w K (noOw ρ) σ (hid H S) c := ⟨fun i x e => by
  rcases noOw_get e with rfl | ⟨y, rfl, e1⟩
  · trivial
  · exact r.ar i y e1, b⟩
/-- the heap goes on: more is tracked, more own lists -/
structure Ext (P : Program) (w : World) (c : Nat) (H : Hp) (S : List Addr) (H' : Hp) (S' : List Addr) : Prop where
  same : Sm P w c H H'
  sub : ∀ a ∈ S, a ∈ S'
  new : ∀ a ∈ S', a ∉ S → H a = none
  lst : LstS H' S'
  lst0 : LstS H S
theorem Ext.refl (l : LstS H S) : Ext P w 0 H S H S := ⟨Sm.refl H, fun _ h => h, fun _ h n => absurd h n, l, l⟩
theorem Ext.hids {c : Nat} (e : Ext P w c H S H' S') : Sm P w c (hid H S) (hid H' S') := by
  have out : ∀ {b : Addr} {o : HO}, hid H S b = some o → H b = some o ∧ b ∉ S' := fun {b o} q => by
    obtain ⟨hb, q⟩ := hid_some q
    exact ⟨q, fun z => by rw [e.new b z hb] at q; cases q⟩
  refine ⟨⟨fun q x => ?_, fun q => ?_⟩, fun q => ?_, fun q => (e.same.cnt (q.unhid e.lst0)).hid e.lst⟩
  · obtain ⟨q, hb⟩ := out q
    rw [hid_out hb]; exact e.same.k q x
  · obtain ⟨q, hb⟩ := out q
    rw [hid_out hb]; exact e.same.th q
  · exact (e.same.sta (q.to hidB)).hid e.lst
theorem Ext.trans {c d : Nat} {H2 : Hp} {S2 : List Addr} (e : Ext P w c H S H' S') (f : Ext P w d H' S' H2 S2) : Ext P w (c + d) H S H2 S2 := by
  refine ⟨e.same.trans f.same, fun a h => f.sub a (e.sub a h), fun a h n => ?_, f.lst, e.lst0⟩
  by_cases ha : a ∈ S'
  · exact e.new a ha n
  · exact e.same.toSame.free (f.new a h ha)
theorem Ext.le {c d : Nat} (e : Ext P w c H S H' S') (h : c ≤ d) : Ext P w d H S H' S' := ⟨e.same.le h, e.sub, e.new, e.lst, e.lst0⟩
theorem Ext.grow {c : Nat} (l : LstS H S) (s : Sm P w c H H') : Ext P w c H S H' S := ⟨s, fun _ h => h, fun _ h n => absurd h n, fun a h => let ⟨xs, q⟩ := l a h; ⟨xs, s.k q rfl⟩, l⟩
theorem Rows.to' {K : Fg} {H H' : Hp} {S S' : List Addr} (e : Same (hid H S) (hid H' S')) (k : Same H H') : ∀ {xss : List (List PyData)} {bs : List Addr}, Rows K H S bs xss → Rows K H' S' bs xss
  | [], _, .nil => .nil
  | _ :: _, _, .cons h d r => .cons (k.k h rfl) (DpAll.mono e d) (Rows.to' e k r)
theorem Own2.ext {c : Nat} {a : Addr} {bs : List Addr} {xss : List (List PyData)} (e : Ext P w c H S H' S') (q : Own2 K H S a bs xss) : Own2 K H' S' a bs xss := ⟨fun b hb => e.sub b (q.1 b hb), q.2.1, e.same.k q.2.2.1 rfl, Rows.to' e.hids.toSame e.same.toSame q.2.2.2⟩
/-- what a slot owns is told by an older heap -/
theorem OwnAd.back (r : Rep P w K ρ σ H S) (e : Same H H') {i : Nat} {s : Sl} {v : V} {A : List Addr} (es : ρ[i]? = some s) (ev : σ[i]? = some (some v)) (o : OwnAd H' v s A) : OwnAd H v s A := by
  cases s with
  | no => exact o
  | ar x => exact o
  | ow xs => exact o
  | ow2 xss =>
    obtain ⟨a, bs, rfl, h, rfl⟩ := o
    obtain ⟨b, cs, e1, m, _, h2, _⟩ := r.ow2 i xss es
    rw [ev] at e1; cases e1
    have h3 := e.k h2 rfl
    rw [h] at h3; cases mapRef (by simpa using h3)
    exact ⟨a, bs, rfl, h2, rfl⟩
theorem Rep.ext {c : Nat} (r : Rep P w K ρ σ H S) (e : Ext P w c H S H' S') : Rep P w K ρ σ H' S' where
  ar := fun i x q => let ⟨v, a, b⟩ := r.ar i x q; ⟨v, a, Ra.mono e.hids b⟩
  ow := fun i xs q => let ⟨a, us, e1, m, e2, d⟩ := r.ow i xs q; ⟨a, us, e1, e.sub a m, e.same.k e2 rfl, DpAll.mono e.hids.toSame d⟩
  ow2 := fun i xs q => let ⟨a, bs, e1, q⟩ := r.ow2 i xs q; ⟨a, bs, e1, q.ext e⟩
  sep := fun i j s t v u A B e1 e2 e3 e4 o1 o2 n => r.sep i j s t v u A B e1 e2 e3 e4 (OwnAd.back r e.same.toSame e1 e3 o1) (OwnAd.back r e.same.toSame e2 e4 o2) n
  lst := e.lst
def SlOk (P : Program) (w : World) (K : Fg) (H : Hp) (S : List Addr) (v : V) : Sl → Prop
  | .no => True
  | .ar x => Ra P w K (hid H S) v x
  | .ow ds => ∃ a us, v = .ref a ∧ a ∈ S ∧ H a = some (.lst us) ∧ DpAll K (hid H S) us ds
  | .ow2 xss => ∃ a bs, v = .ref a ∧ Own2 K H S a bs xss
theorem SlOk.ext {c : Nat} {v : V} (e : Ext P w c H S H' S') : ∀ {s : Sl}, SlOk P w K H S v s → SlOk P w K H' S' v s
  | .no, _ => trivial
  | .ar x, r => Ra.mono e.hids r
  | .ow ds, ⟨a, us, e1, m, e2, d⟩ => ⟨a, us, e1, e.sub a m, e.same.k e2 rfl, DpAll.mono e.hids.toSame d⟩
  | .ow2 ds, ⟨a, us, e1, q⟩ => ⟨a, us, e1, q.ext e⟩
/-- what it owns no slot holds -/
def FreshV (H : Hp) (S : List Addr) (v : V) (s : Sl) : Prop := ∀ A, OwnAd H v s A → ∀ a ∈ A, a ∉ S
theorem FreshV.ar {v : V} {x : Ar} : FreshV H S v (.ar x) := fun A o a h => by cases o; cases h
theorem FreshV.ow {a : Addr} {ds : List PyData} (n : a ∉ S) : FreshV H S (.ref a) (.ow ds) := fun A o b h => by
  obtain ⟨c, e, rfl⟩ := o
  cases e
  rw [List.mem_singleton.mp h]; exact n
theorem FreshV.ow2 {a : Addr} {bs : List Addr} {xss : List (List PyData)} (h : H a = some (.lst (bs.map V.ref))) (n : ∀ b ∈ a :: bs, b ∉ S) : FreshV H S (.ref a) (.ow2 xss) := fun A o b hb => by
  obtain ⟨c, cs, e, h2, rfl⟩ := o
  cases e
  rw [h] at h2; cases mapRef (by simpa using h2)
  exact n b hb
theorem getSet {α : Type} {l : List α} {i j : Nat} {x y : α} (h : (l.set i x)[j]? = some y) : (i = j ∧ y = x) ∨ (i ≠ j ∧ l[j]? = some y) := by
  by_cases e : i = j
  · subst e
    by_cases hl : i < l.length
    · rw [List.getElem?_set_self hl] at h; cases h; exact .inl ⟨rfl, rfl⟩
    · rw [List.getElem?_eq_none (by simpa using hl)] at h; cases h
  · rw [List.getElem?_set_ne e] at h; exact .inr ⟨e, h⟩
/-- a slot is stored: what it gets is data, or own lists that no slot holds -/
theorem Rep.set (r : Rep P w K ρ σ H S) {i : Nat} {v : V} {s : Sl} (hi : i < σ.length) (ok : SlOk P w K H S v s) (fr : ∀ A, OwnAd H v s A → ∀ (j : Nat) (t : Sl) (u : V) (B : List Addr), ρ[j]? = some t → σ[j]? = some (some u) → OwnAd H u t B → ∀ b ∈ A, b ∉ B) : Rep P w K (ρ.set i s) (σ.set i (some v)) H S := by
  refine ⟨fun j x e => ?_, fun j xs e => ?_, fun j xs e => ?_, fun j k s' t v' u A B e1 e2 e3 e4 o1 o2 n => ?_, r.lst⟩
  · rcases getSet e with ⟨rfl, rfl⟩ | ⟨n, e⟩
    · exact ⟨v, by rw [List.getElem?_set_self hi], ok⟩
    · obtain ⟨u, a, b⟩ := r.ar j x e
      exact ⟨u, by rw [List.getElem?_set_ne n]; exact a, b⟩
  · rcases getSet e with ⟨rfl, rfl⟩ | ⟨n, e⟩
    · obtain ⟨a, us, rfl, m, e2, d⟩ := ok
      exact ⟨a, us, by rw [List.getElem?_set_self hi], m, e2, d⟩
    · obtain ⟨a, us, e1, m, e2, d⟩ := r.ow j xs e
      exact ⟨a, us, by rw [List.getElem?_set_ne n]; exact e1, m, e2, d⟩
  · rcases getSet e with ⟨rfl, rfl⟩ | ⟨n, e⟩
    · obtain ⟨a, us, rfl, q⟩ := ok
      exact ⟨a, us, by rw [List.getElem?_set_self hi], q⟩
    · obtain ⟨a, us, e1, q⟩ := r.ow2 j xs e
      exact ⟨a, us, by rw [List.getElem?_set_ne n]; exact e1, q⟩
  · rcases getSet e1 with ⟨rfl, h1⟩ | ⟨n1, f1⟩
    · rcases getSet e2 with ⟨rfl, h2⟩ | ⟨n2, f2⟩
      · exact absurd rfl n
      · rw [List.getElem?_set_self hi] at e3
        rw [List.getElem?_set_ne n2] at e4
        cases e3
        rw [h1] at o1
        exact fr A o1 k t u B f2 e4 o2
    · rw [List.getElem?_set_ne n1] at e3
      rcases getSet e2 with ⟨rfl, h2⟩ | ⟨n2, f2⟩
      · rw [List.getElem?_set_self hi] at e4
        cases e4
        rw [h2] at o2
        exact fun b hb hB => fr B o2 j s' v' A f1 e3 o1 b hB hb
      · rw [List.getElem?_set_ne n2] at e4
        exact r.sep j k s' t v' u A B f1 f2 e3 e4 o1 o2 n
theorem Rep.setF {c : Nat} (r : Rep P w K ρ σ H S) {H1 : Hp} {S1 : List Addr} (e : Ext P w c H S H1 S1) {i : Nat} {v : V} {s : Sl} (hi : i < σ.length) (ok : SlOk P w K H1 S1 v s) (fr : FreshV H1 S v s) : Rep P w K (ρ.set i s) (σ.set i (some v)) H1 S1 := by
  refine (r.ext e).set hi ok fun A o j t u B e1 e2 o2 b hb hB => ?_
  exact fr A o b hb (r.own e1 e2 (OwnAd.back r e.same.toSame e1 e2 o2) b hB)
theorem Rep.setD (r : Rep P w K ρ σ H S) {i : Nat} {v : V} {x : Ar} (hi : i < σ.length) (ok : Ra P w K (hid H S) v x) : Rep P w K (ρ.set i (.ar x)) (σ.set i (some v)) H S :=
  r.set hi ok fun A o j t u B _ _ _ b hb => by cases o; cases hb
theorem Rep.setV {bs : Bd} : ∀ {vs : List V} {ρ : Ro} {σ : L2.St}, Rep P w K ρ σ H S → BAll K (hid H S) vs bs → (∀ b ∈ bs, b.1 < σ.length) → Rep P w K (setR ρ bs) (DW.setV σ vs bs) H S := by
  induction bs with
  | nil => intro vs ρ σ r h _; cases h; exact r
  | cons b bs ih =>
    intro vs ρ σ r h hl
    cases h with
    | cons a q => exact ih (r.setD (x := .d b.2) (hl b List.mem_cons_self) a) q (fun c hc => by rw [List.length_set]; exact hl c (List.mem_cons_of_mem _ hc))
end

/-! ### a part of a statement: data or a new list -/
abbrev WC := Ro → (Sl → Prop) → Prop
abbrev ExtX (X : Cx) (c : Nat) (H : Hp) (S : List Addr) (H' : Hp) (S' : List Addr) : Prop := Ext X.prog X.w c H S H' S'
def tDC (X : Cx) (w : WC) (c : Nat) : TE := fun σ H Q => ∃ ρ S, Rep X.prog X.w X.K ρ σ H S ∧ Bud X.prog X.w (hid H S) c ∧ w ρ fun s => ∀ v H' S', ExtX X c H S H' S' → SlOk X.prog X.w X.K H' S' v s → FreshV H' S v s → Q v H'
structure DC (X : Cx) (e : Expr) (w : WC) (c : Nat) : Prop where
  mono : ∀ ρ (Q Q' : Sl → Prop), (∀ x, Q x → Q' x) → w ρ Q → w ρ Q'
  run : PE X e (tDC X w c)
def immA : Ar → Bool
  | .d x => imm x
  | _ => false
def cFr (a : WE) : WC := fun ρ Q => a (noOw ρ) fun x => Q (.ar x)
def cIm (a : WE) : WC := fun ρ Q => a ρ fun x => immA x = true ∧ Q (.ar x)
def cNw (a : WN) : WC := fun ρ Q => a (noOw ρ) fun ds => Q (.ow ds)
def cNi (a : WN) : WC := fun ρ Q => a ρ fun ds => immAll ds = true ∧ Q (.ow ds)
section
variable {X : Cx} {c d c2 : Nat}
theorem dc_fr {e : Expr} {a : WE} (h : DE X e a c) : DC X e (cFr a) c := by
  refine ⟨fun ρ Q Q' k q => h.mono _ _ _ (fun x q => k _ q) q, pe_imp (pe_fr h.run) fun σ H Q ⟨ρ, S, r, b, q⟩ => ⟨S, r.lst, ?_⟩⟩
  refine tD_then h.mono (r.repF b) q fun x v H1 q1 e1 z1 no => ?_
  exact q1 v _ S (Ext.grow r.lst (sm_rest r.lst e1 no)) (by show Ra _ _ _ (hid _ _) _ _; rw [hid_rest no]; exact z1) .ar
theorem Ra.hide {P : Program} {w : World} {K : Fg} {H : Hp} {S : List Addr} (l : LstS H S) {v : V} : ∀ {x : Ar}, immA x = true → Ra P w K H v x → Ra P w K (hid H S) v x
  | .d x, h, r => Dp.hide l h r
theorem dc_im {e : Expr} {a : WE} (h : DE X e a c) : DC X e (cIm a) c := by
  refine ⟨fun ρ Q Q' k q => h.mono _ _ _ (fun x q => ⟨q.1, k _ q.2⟩) q, pe_imp h.run fun σ H Q ⟨ρ, S, r, b, q⟩ => ?_⟩
  refine tD_then h.mono (r.repE (b.unhid r.lst)) q fun x v H1 q1 e1 z1 => ?_
  have ex := Ext.grow r.lst e1
  exact q1.2 v _ S ex (Ra.hide ex.lst q1.1 z1) .ar
/-- a new list, made beside what is hidden -/
theorem ext_list {H H1 : Hp} {S : List Addr} {a : Addr} {us : List V} (l : LstS H S) (e2 : SmX X c H H1) (hn : H a = none) (ha : H1 a = some (.lst us)) : ExtX X c H S H1 (a :: S) :=
  ⟨e2, fun b hb => List.mem_cons_of_mem _ hb, fun b hb hs => by
    rcases List.mem_cons.mp hb with z | hb
    · rw [z]; exact hn
    · exact absurd hb hs, fun b hb => by
    rcases List.mem_cons.mp hb with z | hb
    · rw [z]; exact ⟨us, ha⟩
    · obtain ⟨xs, q⟩ := l b hb
      exact ⟨xs, e2.k q rfl⟩, l⟩
theorem hid_list {H H1 : Hp} {S : List Addr} {a : Addr} (no : ∀ b ∈ S, H1 b = none) : hid (rest H S H1) (a :: S) = hid H1 [a] := by
  funext b
  by_cases h1 : b = a
  · subst h1; rw [hid_in List.mem_cons_self, hid_in List.mem_cons_self]
  · by_cases h2 : b ∈ S
    · rw [hid_in (List.mem_cons_of_mem _ h2), hid_out (by simpa using h1), no b h2]
    · rw [hid_out (by simp [h1, h2]), hid_out (by simpa using h1), rest_out h2]
theorem dc_nw {e : Expr} {a : WN} (h : DN X e a c) : DC X e (cNw a) c := by
  refine ⟨fun ρ Q Q' k q => h.mono _ _ _ (fun x q => k _ q) q, pe_imp (pe_fr h.run) fun σ H Q ⟨ρ, S, r, b, q⟩ => ⟨S, r.lst, ?_⟩⟩
  refine ⟨noOw ρ, r.repF b, h.mono _ _ _ (fun ds q1 a us H1 e1 hn ha hd no => ?_) q⟩
  have haS : a ∉ S := fun z => by rw [no a z] at ha; cases ha
  have ha2 : rest H S H1 a = some (.lst us) := by rw [rest_out haS]; exact ha
  rw [hid_out haS] at hn
  exact q1 (.ref a) _ (a :: S) (ext_list r.lst (sm_rest r.lst e1 no) hn ha2) ⟨a, us, rfl, List.mem_cons_self, ha2, by rw [hid_list no]; exact hd⟩ (.ow haS)
theorem dc_ni {e : Expr} {a : WN} (h : DN X e a c) : DC X e (cNi a) c := by
  refine ⟨fun ρ Q Q' k q => h.mono _ _ _ (fun x q => ⟨q.1, k _ q.2⟩) q, pe_imp h.run fun σ H Q ⟨ρ, S, r, b, q⟩ => ?_⟩
  refine ⟨ρ, r.repE (b.unhid r.lst), h.mono _ _ _ (fun ds q1 a us H1 e2 hn2 ha2 hd => ?_) q⟩
  have haS : a ∉ S := fun z => by obtain ⟨xs, q⟩ := r.lst a z; rw [hn2] at q; cases q
  have ex := ext_list r.lst e2 hn2 ha2
  exact q1.2 (.ref a) _ (a :: S) ex ⟨a, us, rfl, List.mem_cons_self, ha2, DpAll.hide ex.lst q1.1 (DpAll.mono (hid_le _ _) hd)⟩ (.ow haS)
def cN2 (a : WN2) : WC := fun ρ Q => a (noOw ρ) fun xss => Q (.ow2 xss)
theorem dc_n2 {e : Expr} {a : WN2} (h : DN2 X e a c) : DC X e (cN2 a) c := by
  refine ⟨fun ρ Q Q' k q => h.mono _ _ _ (fun x q => k _ q) q, pe_imp (pe_fr h.run) fun σ H Q ⟨ρ, S, r, b, q⟩ => ⟨S, r.lst, ?_⟩⟩
  refine ⟨noOw ρ, r.repF b, h.mono _ _ _ (fun xss q1 a bs H1 e1 hn nd ha hd no => ?_) q⟩
  have e2 := sm_rest r.lst e1 no
  have rows : ∀ (xss : List (List PyData)) (cs : List Addr), Rows X.K H1 (a :: bs) cs xss → ∀ c ∈ cs, ∃ us, H1 c = some (.lst us) := fun xss => by
    induction xss with
    | nil => intro cs r c hc; cases r; cases hc
    | cons _ _ ih => intro cs r c hc; cases r with
      | cons h d r => rcases List.mem_cons.mp hc with z | hc
                      · rw [z]; exact ⟨_, h⟩
                      · exact ih _ r c hc
  have th : ∀ b ∈ a :: bs, ∃ us, H1 b = some (.lst us) := fun b hb => by
    rcases List.mem_cons.mp hb with z | hb
    · rw [z]; exact ⟨_, ha⟩
    · exact rows xss bs hd b hb
  have nS : ∀ b ∈ a :: bs, b ∉ S := fun b hb z => by obtain ⟨us, q⟩ := th b hb; rw [no b z] at q; cases q
  have on : ∀ b ∈ a :: bs, ∀ o, H1 b = some o → rest H S H1 b = some o := fun b hb o q => by rw [rest_out (nS b hb)]; exact q
  have hh : Same (hid H1 (a :: bs)) (hid (rest H S H1) (a :: bs ++ S)) := .of fun b o q => by
    obtain ⟨hb, q⟩ := hid_some q
    have hb2 : b ∉ S := fun z => by rw [no b z] at q; cases q
    rw [hid_out (fun z => (List.mem_append.mp z).elim hb hb2), rest_out hb2]; exact q
  have ha2 := on a List.mem_cons_self _ ha
  refine q1 (.ref a) _ (a :: bs ++ S) ⟨e2, fun b hb => List.mem_append_right _ hb, fun b hb hs => ?_, fun b hb => ?_, r.lst⟩ ⟨a, bs, rfl, fun b hb => List.mem_append_left _ hb, nd, ha2, Rows.to hh (fun b hb o q => on b (List.mem_cons_of_mem _ hb) o q) hd⟩ (.ow2 ha2 nS)
  · rcases List.mem_append.mp hb with hb | hb
    · have := hn b hb
      rw [hid_out hs] at this; exact this
    · exact absurd hb hs
  · rcases List.mem_append.mp hb with hb | hb
    · obtain ⟨us, q⟩ := th b hb
      exact ⟨us, on b hb _ q⟩
    · obtain ⟨xs, q⟩ := r.lst b hb
      exact ⟨xs, e2.k q rfl⟩
end

/-! ### statements -/
structure En where
  nx : Ro → Prop
  rt : Rv → Prop
  bk : Ro → Prop := fun _ => False
  ct : Ro → Prop := fun _ => False
structure EndsOk (X : Cx) (H0 : Hp) (e : Nat) (D : Ends) (E : En) : Prop where
  nx : ∀ (ρ : Ro) (σ : L2.St) H S, E.nx ρ → Rep X.prog X.w X.K ρ σ H S → SmX X e H0 (hid H S) → σ.length = X.N.length → D.nx σ H
  bk : ∀ (ρ : Ro) (σ : L2.St) H S, E.bk ρ → Rep X.prog X.w X.K ρ σ H S → SmX X e H0 (hid H S) → σ.length = X.N.length → D.bk σ H
  ct : ∀ (ρ : Ro) (σ : L2.St) H S, E.ct ρ → Rep X.prog X.w X.K ρ σ H S → SmX X e H0 (hid H S) → σ.length = X.N.length → D.ct σ H
  ar : ∀ x v H S, E.rt (.ar x) → LstS H S → SmX X e H0 (hid H S) → Ra X.prog X.w X.K (hid H S) v x → D.rt v H
  ow : ∀ xs a us H S, E.rt (.ow xs) → LstS H S → SmX X e H0 (hid H S) → a ∈ S → H a = some (.lst us) → DpAll X.K (hid H S) us xs → D.rt (.ref a) H
  ow2 : ∀ xss a bs H S, E.rt (.ow2 xss) → LstS H S → SmX X e H0 (hid H S) → Own2 X.K H S a bs xss → D.rt (.ref a) H
abbrev WS := Ro → En → Prop
/-- what a statement starts with: the heap since H0, k fillings since then, e in all; c of them its own -/
structure Go (X : Cx) (H0 : Hp) (k e c : Nat) (ρ : Ro) (σ : L2.St) (H : Hp) (S : List Addr) : Prop where
  rep : Rep X.prog X.w X.K ρ σ H S
  sm : SmX X k H0 (hid H S)
  bud : Bud X.prog X.w H0 e
  le : k + c ≤ e
theorem Go.b {X : Cx} {H0 : Hp} {k e c : Nat} {ρ : Ro} {σ : L2.St} {H : Hp} {S : List Addr} (g : Go X H0 k e c ρ σ H S) : Bud X.prog X.w (hid H S) c := g.bud.after g.le g.sm
theorem Go.lst {X : Cx} {H0 : Hp} {k e c : Nat} {ρ : Ro} {σ : L2.St} {H : Hp} {S : List Addr} (g : Go X H0 k e c ρ σ H S) : LstS H S := g.rep.lst
theorem Go.repE {X : Cx} {H0 : Hp} {k e c : Nat} {ρ : Ro} {σ : L2.St} {H : Hp} {S : List Addr} (g : Go X H0 k e c ρ σ H S) : RepX X ρ σ H c := g.rep.repE (g.b.unhid g.lst)
theorem Go.repF {X : Cx} {H0 : Hp} {k e c : Nat} {ρ : Ro} {σ : L2.St} {H : Hp} {S : List Addr} (g : Go X H0 k e c ρ σ H S) : RepX X (noOw ρ) σ (hid H S) c := g.rep.repF g.b
theorem Go.ext {X : Cx} {H0 : Hp} {k e c d : Nat} {ρ : Ro} {σ : L2.St} {H H' : Hp} {S S' : List Addr} (g : Go X H0 k e (c + d) ρ σ H S) (x : ExtX X c H S H' S') : Go X H0 (k + c) e d ρ σ H' S' := ⟨g.rep.ext x, g.sm.trans x.hids, g.bud, by have := g.le; omega⟩
theorem Go.less {X : Cx} {H0 : Hp} {k e c d : Nat} {ρ : Ro} {σ : L2.St} {H : Hp} {S : List Addr} (g : Go X H0 k e c ρ σ H S) (h : d ≤ c) : Go X H0 k e d ρ σ H S := ⟨g.rep, g.sm, g.bud, by have := g.le; omega⟩
theorem Go.fin {X : Cx} {H0 : Hp} {k e c : Nat} {ρ : Ro} {σ : L2.St} {H H' : Hp} {S S' : List Addr} (g : Go X H0 k e c ρ σ H S) (x : ExtX X c H S H' S') : SmX X e H0 (hid H' S') := (g.sm.trans x.hids).le g.le
theorem Go.end_ {X : Cx} {H0 : Hp} {k e c : Nat} {ρ : Ro} {σ : L2.St} {H : Hp} {S : List Addr} (g : Go X H0 k e c ρ σ H S) : SmX X e H0 (hid H S) := g.sm.le (by have := g.le; omega)
def tS (X : Cx) (w : WS) (c : Nat) : TS := fun D σ H => ∃ H0 k e ρ S E, Go X H0 k e c ρ σ H S ∧ EndsOk X H0 e D E ∧ w ρ E
structure DS (X : Cx) (st : Stmt) (w : WS) (c : Nat) : Prop where
  run : PS X st (tS X w c)
structure DSs (X : Cx) (st : List Stmt) (w : WS) (c : Nat) : Prop where
  run : PSs X st (tS X w c)
section
variable {X : Cx} {pos : Pos} {c d c2 : Nat}
theorem ps_impI {e : Stmt} {t t' : TS} (h : PS X e t) (i : ∀ pins s σ H D, Inv X pins σ H s → t' D σ H → t D σ H) : PS X e t' := ⟨fun pins s σ H D I q => h.run pins s σ H D I (i _ _ _ _ _ I q)⟩
theorem pss_imp {e : List Stmt} {t t' : TS} (h : PSs X e t) (i : ∀ D σ H, t' D σ H → t D σ H) : PSs X e t' := ⟨fun pins s σ H D I q => h.run pins s σ H D I (i _ _ _ q)⟩
theorem pss_impI {e : List Stmt} {t t' : TS} (h : PSs X e t) (i : ∀ pins s σ H D, Inv X pins σ H s → t' D σ H → t D σ H) : PSs X e t' := ⟨fun pins s σ H D I q => h.run pins s σ H D I (i _ _ _ _ _ I q)⟩
theorem DS.le {st : Stmt} {w : WS} (h : DS X st w c) (l : c ≤ d) : DS X st w d := ⟨ps_imp h.run fun D σ H ⟨H0, k, e, ρ, S, E, g, ok, q⟩ => ⟨H0, k, e, ρ, S, E, g.less l, ok, q⟩⟩
theorem DSs.le {st : List Stmt} {w : WS} (h : DSs X st w c) (l : c ≤ d) : DSs X st w d := ⟨pss_imp h.run fun D σ H ⟨H0, k, e, ρ, S, E, g, ok, q⟩ => ⟨H0, k, e, ρ, S, E, g.less l, ok, q⟩⟩
theorem EndsOk.low {H0 : Hp} {e f : Nat} {D : Ends} {E : En} (ok : EndsOk X H0 e D E) (h : f ≤ e) : EndsOk X H0 f D E :=
  ⟨fun ρ σ H S n r s l => ok.nx ρ σ H S n r (s.le h) l, fun ρ σ H S n r s l => ok.bk ρ σ H S n r (s.le h) l, fun ρ σ H S n r s l => ok.ct ρ σ H S n r (s.le h) l, fun x v H S n l s => ok.ar x v H S n l (s.le h), fun xs a us H S n l s => ok.ow xs a us H S n l (s.le h), fun xs a us H S n l s => ok.ow2 xs a us H S n l (s.le h)⟩
def wNext : WS := fun ρ E => E.nx ρ
def wSeqS (a b : WS) : WS := fun ρ E => a ρ { E with nx := fun ρ' => b ρ' E }
theorem dss_nil : DSs X [] wNext 0 := ⟨pss_impI pss_nil fun _ _ σ H D I ⟨H0, k, e, ρ, S, E, g, ok, q⟩ => ok.nx ρ σ H S q g.rep g.end_ I.len⟩
theorem dss_cons {st : Stmt} {sts : List Stmt} {a b : WS} (h1 : DS X st a c) (h2 : DSs X sts b d) : DSs X (st :: sts) (wSeqS a b) (c + d) :=
  ⟨pss_imp (pss_cons h1.run h2.run) fun D σ H ⟨H0, k, e, ρ, S, E, g, ok, q⟩ =>
    have ke : k + c ≤ e := by have := g.le; omega
    ⟨H0, k, k + c, ρ, S, { E with nx := fun ρ' => b ρ' E }, ⟨g.rep, g.sm, g.bud.le ke, Nat.le_refl _⟩,
      let ol := ok.low ke
      ⟨fun ρ' σ' H' S' n r' s' _ => ⟨H0, k + c, e, ρ', S', E, ⟨r', s', g.bud, by have := g.le; omega⟩, ok, n⟩, ol.bk, ol.ct, ol.ar, ol.ow, ol.ow2⟩, q⟩⟩
theorem dss_one {st : Stmt} {a : WS} (h1 : DS X st a c) : DSs X [st] a c := ⟨pss_one h1.run⟩
theorem ds_pass : DS X (.Pass pos) wNext 0 := ⟨ps_impI ps_pass fun _ _ σ H D I ⟨H0, k, e, ρ, S, E, g, ok, q⟩ => ok.nx ρ σ H S q g.rep g.end_ I.len⟩
def wBreak : WS := fun ρ E => E.bk ρ
def wCont : WS := fun ρ E => E.ct ρ
theorem ds_break : DS X (.Break pos) wBreak 0 := ⟨ps_impI ps_break fun _ _ σ H D I ⟨H0, k, e, ρ, S, E, g, ok, q⟩ => ok.bk ρ σ H S q g.rep g.end_ I.len⟩
theorem ds_continue : DS X (.Continue pos) wCont 0 := ⟨ps_impI ps_continue fun _ _ σ H D I ⟨H0, k, e, ρ, S, E, g, ok, q⟩ => ok.ct ρ σ H S q g.rep g.end_ I.len⟩
/-- return of a part -/
def wRet (c : WC) : WS := fun ρ E => c ρ fun s => match s with
  | .ar x => E.rt (.ar x)
  | .ow ds => E.rt (.ow ds)
  | .ow2 xss => E.rt (.ow2 xss)
  | .no => False
theorem ds_ret {e : Expr} {a : WC} (h : DC X e a c) : DS X (.Return (some e) pos) (wRet a) c := by
  refine ⟨ps_imp (ps_ret h.run) fun D σ H ⟨H0, k, n, ρ, S, E, g, ok, q⟩ => ?_⟩
  refine ⟨ρ, S, g.rep, g.b, h.mono ρ _ _ (fun x q v H' S' e z f => ?_) q⟩
  have s2 := g.fin e
  cases x with
  | no => exact q.elim
  | ar x => exact ok.ar x v H' S' q e.lst s2 z
  | ow ds =>
    obtain ⟨a, us, rfl, m, e2, d⟩ := z
    exact ok.ow ds a us H' S' q e.lst s2 m e2 d
  | ow2 xss =>
    obtain ⟨a, bs, rfl, z⟩ := z
    exact ok.ow2 xss a bs H' S' q e.lst s2 z
def wRetN : WS := fun _ E => E.rt (.d .none)
theorem ds_retN : DS X (.Return none pos) wRetN 0 := ⟨ps_imp ps_retN fun D σ H ⟨H0, k, e, ρ, S, E, g, ok, q⟩ => ok.ar _ _ H S q g.lst g.end_ Dp.non⟩
/-- return of a name -/
def wRetV (i : Nat) : WS := fun ρ E => match ρ[i]? with
  | some (.ar x) => E.rt (.ar x)
  | some (.ow ds) => E.rt (.ow ds)
  | some (.ow2 ds) => E.rt (.ow2 ds)
  | _ => False
theorem ds_retV (i : Nat) {x : Str} {p : Pos} (hN : X.N[i]? = some x := by rfl) (hv : Vis X.env.scope x := by first | exact Or.inl rfl | exact Or.inr (Or.inl rfl) | exact Or.inr (Or.inr rfl)) (hd : (x == ("__debug__" : Str)) = false := by decide) (hcd : (x == ("__classdict__" : Str)) = false := by decide) : DS X (.Return (some (.Name x p)) pos) (wRetV i) 0 := by
  refine ⟨ps_imp (ps_ret (pe_var hN hv hd hcd)) fun D σ H ⟨H0, k, n, ρ, S, E, g, ok, q⟩ => ?_⟩
  have r := g.rep
  have s := g.end_
  unfold wRetV at q
  split at q
  · rename_i x e
    obtain ⟨v, e1, z⟩ := r.ar i x e
    exact ⟨v, e1, ok.ar x v H S q r.lst s z⟩
  · rename_i ds e
    obtain ⟨a, us, e1, m, e2, d⟩ := r.ow i ds e
    exact ⟨_, e1, ok.ow ds a us H S q r.lst s m e2 d⟩
  · rename_i ds e
    obtain ⟨a, us, e1, z⟩ := r.ow2 i ds e
    exact ⟨_, e1, ok.ow2 ds a us H S q r.lst s z⟩
  · exact q.elim
/-- name = part -/
def wSet (i : Nat) (c : WC) : WS := fun ρ E => c ρ fun s => E.nx (ρ.set i s)
theorem ds_set (i : Nat) {x : Str} {e : Expr} {a : WC} {p : Pos} (hN : X.N.Nodup) (h : DC X e a c) (hi : X.N[i]? = some x := by rfl) (hx : Loc X.env.scope x := by first | exact Or.inl rfl | exact Or.inr rfl) (hs : swapsWith e (some (.Name x p)) pos.line X.env = pure false := by rfl)
    (hf : X.fn x = true ∨ X.env.scope.names.lookup x = some .local := by first | exact .inl rfl | exact .inr rfl | assumption) : DS X (.Assign [.Name x p] e pos) (wSet i a) c := by
  refine ⟨ps_impI (ps_set hN hi hx h.run hs hf) fun pins s0 σ H D I ⟨H0, k, n, ρ, S, E, g, ok, q⟩ => ?_⟩
  have hl : i < σ.length := by rw [I.len]; exact (List.getElem?_eq_some_iff.mp hi).1
  refine ⟨ρ, S, g.rep, g.b, h.mono ρ _ _ (fun x q v H' S' e z f => ?_) q⟩
  exact ok.nx _ _ H' S' q (g.rep.setF e hl z f) (g.fin e) (by rw [List.length_set]; exact I.len)
/-- name = a comprehension on one line, the name a local -/
theorem ds_setLc (i : Nat) {a b d : Nat} {y : Str} {py : Pos} {elt tg iter : Expr} {ifs : List Expr} {scope : Scope} {own : List (Str × Nat)} {lpos : Pos} {wi : WI} {is : List Nat} {tf : TF} {tt : WT} {te : WE} (hN : X.N.Nodup)
    (hsw : swapsWith (.ListComp elt [⟨tg, iter, ifs, 0⟩] scope lpos) (some (.Name y py)) pos.line X.env = pure true) (hi : DI X tg iter wi a) (ok : BlkOk X.N X.env.scope scope own)
    (hg : ∀ (s : Shared) (H : Hp) (C : Addr) (cl : List (Str × Addr)) (fp : List Addr), DG (X.blk s H scope (compEnvC scope cl C X.env) fp) tg is tf) (ht : ∀ (s : Shared) (H : Hp) (C : Addr) (cl : List (Str × Addr)) (fp : List Addr), DTs (X.blk s H scope (compEnvC scope cl C X.env) fp) ifs tt b)
    (he : ∀ (s : Shared) (H : Hp) (C : Addr) (cl : List (Str × Addr)) (fp : List Addr), DE (X.blk s H scope (compEnvC scope cl C X.env) fp) elt te d) (hv : ∀ i ∈ is, i ∈ own.map (·.2) := by decide) (hy : X.N[i]? = some y := by rfl) (hyl : X.env.scope.names.lookup y = some .local := by rfl) (hc : X.calm = true := by rfl)
    (hs : ∀ x, foldedSetIterable iter X.env x = pure x := by intro _; rfl) : DS X (.Assign [.Name y py] (.ListComp elt [⟨tg, iter, ifs, 0⟩] scope lpos) pos) (wSet i (cNi (wLc wi tf tt te (own.map (·.2))))) (a + 100000 * (b + d)) := by
  have s0 : Shared := {}
  have G0 := hg s0 (fun _ => none) 0 [] []
  have T0 := ht s0 (fun _ => none) 0 [] []
  have E0' := he s0 (fun _ => none) 0 [] []
  refine ⟨ps_impI (ps_setLc hc hN hy hyl hsw hi.run ok (g := tDG X.K tf) (tt := tFrT (tDT X tt b)) (te := tFr (tD X te d)) (fun s H C cl fp => (hg s H C cl fp).run) (fun s H C cl fp => pts_fr (t := tDT X tt b) (ht s H C cl fp).run) (fun s H C cl fp => pe_fr (t := tD X te d) (he s H C cl fp).run) hs) fun pins s1 σ H D I ⟨H0, k, n, ρ, S, E, g, eo, q⟩ => ?_⟩
  have hl : i < σ.length := by rw [I.len]; exact (List.getElem?_eq_some_iff.mp hy).1
  refine lc_run hi.mono G0.ix G0.lt hv T0.mono E0'.mono I.len ⟨ρ, g.repE, ?_⟩
  have q : wLc wi tf tt te (own.map (·.2)) ρ fun ds => immAll ds = true ∧ E.nx (ρ.set i (.ow ds)) := q
  refine hi.mono ρ _ _ (fun ds q => ⟨q.1, compW_mono (fun d acc k k' h q => lcStep_mono T0.mono E0'.mono d acc k k' h q) ds [] _ _ (fun acc q1 a us H1 e2 hn2 ha2 hd => ?_) q.2⟩) q
  have haS : a ∉ S := fun z => by obtain ⟨xs, q⟩ := g.lst a z; rw [hn2] at q; cases q
  have ex := ext_list g.lst e2 hn2 ha2
  exact eo.nx _ _ H1 (a :: S) q1.2 (g.rep.setF ex hl (s := .ow acc) ⟨a, us, rfl, List.mem_cons_self, ha2, DpAll.hide ex.lst q1.1 (DpAll.mono (hid_le _ _) hd)⟩ (.ow haS)) (g.fin ex) (by rw [List.length_set]; exact I.len)
/-- a target of several names = data -/
def wAsg (tf : TF) (c : WC) : WS := fun ρ E => c ρ fun s => match s with
  | .ar (.d d) => match tf d with
    | some bs => E.nx (setR ρ bs)
    | none => False
  | _ => False
theorem ds_asg {tg e : Expr} {a : WC} {is : List Nat} {tf : TF} (h : DC X e a c) (g : DG X tg is tf) (hs : swapsWithSole [tg] e pos.line X.env = pure false := by rfl) (hw : swappedStores [tg] e X.env = pure none := by rfl)
    (h1 : (assignEach [tg] X.env).map (·.2) = [assign tg X.env] := by rfl) : DS X (.Assign [tg] e pos) (wAsg tf a) c := by
  refine ⟨ps_impI (ps_asg h.run g.run hs hw h1) fun pins s0 σ H D I ⟨H0, k, n, ρ, S, E, go, ok, q⟩ => ?_⟩
  refine ⟨ρ, S, go.rep, go.b, h.mono ρ _ _ (fun x q v H' S' e z f => ?_) q⟩
  revert q
  split
  · rename_i d
    split
    · rename_i bs eb
      intro q
      refine ⟨hid H' S', d, bs, hid_le _ _, z, eb, fun us hu => ?_⟩
      exact ok.nx _ _ H' S' q ((go.rep.ext e).setV hu fun b hb => by rw [I.len]; exact g.lt _ (g.ix _ _ eb b hb)) (go.fin e) (by rw [setV_length]; exact I.len)
    · exact False.elim
  · exact False.elim
/-- a, b = e1, e2, plain locals -/
def wPar (i j : Nat) (c d : WC) : WS := fun ρ E => c ρ fun s => d ρ fun t => E.nx ((ρ.set i s).set j t)
theorem ds_par (i j : Nat) {x y : Str} {a b : Expr} {wa wb : WC} {px py pt pt2 : Pos} {kt k2 : Nat} (hN : X.N.Nodup) (ha : DC X a wa c) (hb : DC X b wb d) (hw : swappedStores [.Tuple [.Name x px, .Name y py] kt pt] (.Tuple [a, b] k2 pt2) X.env = pure (some [x, y])) (hij : i ≠ j := by decide) (hi : X.N[i]? = some x := by rfl) (hj : X.N[j]? = some y := by rfl)
    (hx : X.env.scope.names.lookup x = some .local := by rfl) (hy : X.env.scope.names.lookup y = some .local := by rfl) (hc : X.calm = true := by rfl) (hs1 : starEach [a, b] X.env = (false, eval a X.env) :: starEach [b] X.env := by rfl) (hs2 : starEach [b] X.env = (false, eval b X.env) :: starEach [] X.env := by rfl)
    (hs : swapsWithSole [.Tuple [.Name x px, .Name y py] kt pt] (.Tuple [a, b] k2 pt2) pos.line X.env = pure false := by rfl) : DS X (.Assign [.Tuple [.Name x px, .Name y py] kt pt] (.Tuple [a, b] k2 pt2) pos) (wPar i j wa wb) (c + d) := by
  refine ⟨ps_impI (ps_par hc hN hi hj hij hx hy (pa_cons ha.run (pa_cons hb.run pa_nil hs2) hs1) hw hs) fun pins s0 σ H D I ⟨H0, k, n, ρ, S, E, g, ok, q⟩ => ?_⟩
  have li : i < σ.length := by rw [I.len]; exact (List.getElem?_eq_some_iff.mp hi).1
  have lj : j < σ.length := by rw [I.len]; exact (List.getElem?_eq_some_iff.mp hj).1
  refine ⟨ρ, S, g.rep, g.b.le (Nat.le_add_right _ _), ha.mono ρ _ _ (fun u q v H1 S1 e1 z1 f1 => ?_) q⟩
  have g1 := g.ext e1
  refine ⟨ρ, S1, g1.rep, g1.b, hb.mono ρ _ _ (fun t q v2 H2 S2 e2 z2 f2 => ?_) q⟩
  refine ⟨v, v2, rfl, ?_⟩
  have r1 : Rep X.prog X.w X.K (ρ.set i u) (σ.set i (some v)) H1 S1 := g.rep.setF e1 li z1 f1
  exact ok.nx _ _ H2 S2 q (r1.setF e2 (by rw [List.length_set]; exact lj) z2 f2) (g1.fin e2) (by rw [List.length_set, List.length_set]; exact I.len)
def wIfS (t : WT) (a b : WS) : WS := fun ρ E => t ρ fun c => match c with
  | true => a ρ E
  | false => b ρ E
theorem ds_if {g : Expr} {s1 s2 : List Stmt} {t : WT} {a b : WS} (hc : DT X g t c) (ha : DSs X s1 a d) (hb : DSs X s2 b c2) : DS X (.If g s1 s2 pos) (wIfS t a b) (c + (d + c2)) := by
  refine ⟨ps_imp (ps_if hc.run ha.run hb.run) fun D σ H ⟨H0, k, n, ρ, S, E, g, ok, q⟩ => ?_⟩
  refine tDT_then hc.mono g.repE.l q fun b H1 q1 e1 => ?_
  have g1 := g.ext (Ext.grow g.lst e1)
  cases b with
  | true => exact iteT ⟨H0, _, _, ρ, S, E, g1.less (by omega), ok, q1⟩
  | false => exact iteF ⟨H0, _, _, ρ, S, E, g1.less (by omega), ok, q1⟩
/-! for -/
def forW (tf : TF) (body : WS) : List PyData → WS
  | [], ρ, E => E.nx ρ
  | d :: ds, ρ, E => match tf d with
    | some bs => body (setR ρ bs) { E with nx := fun ρ' => forW tf body ds ρ' E, ct := fun ρ' => forW tf body ds ρ' E, bk := E.nx }
    | none => False
def wFor (wi : WI) (tf : TF) (body : WS) : WS := fun ρ E => wi (noOw ρ) fun ds => ds.length ≤ 100000 ∧ forW tf body ds ρ E
theorem ds_for {tg iter : Expr} {body : List Stmt} {wi : WI} {is : List Nat} {tf : TF} {wb : WS} (hi : DI X tg iter wi c) (hg : DG X tg is tf) (hb : DSs X body wb d) (hp : PassesOwn (model X.prog X.w) X.A X.env X.xe := by exact PassesOwn.never) (hc : X.calm = true := by rfl) (hs : ∀ x, foldedSetIterable iter X.env x = pure x := by intro _; rfl) :
    DS X (.For tg iter body [] pos) (wFor wi tf wb) (c + 100000 * d) := by
  refine ⟨ps_impI (ps_for hp hc hi.run hg.run hb.run hs) fun pins s0 σ H D I ⟨H0, k, n, ρ, S, E, g, ok, q⟩ => ?_⟩
  have hN := I.len
  refine ⟨noOw ρ, S, g.lst, g.repF.l, hi.mono _ _ _ (fun ds ⟨hlen, q⟩ J H1 e1 ik => ?_) q⟩
  have g1 := g.ext (Ext.grow g.lst e1)
  refine ⟨fun i m σ' H' => m = ds.length - i ∧ i ≤ ds.length ∧ σ'.length = X.N.length ∧ ∃ ρ' S', Rep X.prog X.w X.K ρ' σ' H' S' ∧ SmX X (k + c + i * d) H0 (hid H' S') ∧ Same (hid H1 S) (hid H' S') ∧ forW tf wb (ds.drop i) ρ' E, ⟨ds.length, rfl, Nat.zero_le _, hN, ρ, S, g1.rep, by rw [Nat.zero_mul]; exact g1.sm, Same.refl _, q⟩, ?_⟩
  rintro i m σ' H' ⟨rfl, hi2, hl, ρ', S', r', s', t', q'⟩
  have okc := ik H' S' r'.lst t'
  have kn := g.le
  by_cases hlt : i < ds.length
  · have step : (i + 1) * d = i * d + d := Nat.succ_mul _ _
    have room : (i + 1) * d ≤ 100000 * d := Nat.mul_le_mul_right _ (by omega)
    obtain ⟨go, yl⟩ := okc.1 i ds[i] (List.getElem?_eq_getElem hlt)
    rw [List.drop_eq_getElem_cons hlt] at q'
    unfold forW at q'
    cases ht : tf ds[i] with
    | none => rw [ht] at q'; exact q'.elim
    | some bs =>
      rw [ht] at q'
      refine .inr ⟨go, fun σ2 H2 => σ2.length = X.N.length ∧ ∃ ρ2 S2, Rep X.prog X.w X.K ρ2 σ2 H2 S2 ∧ SmX X (k + c + (i + 1) * d) H0 (hid H2 S2) ∧ Same (hid H1 S) (hid H2 S2) ∧ forW tf wb (ds.drop (i + 1)) ρ2 E, fun σ2 H2 n => ⟨ds.length - (i + 1), by omega, rfl, hlt, n.1, n.2⟩, fun x H2 hy => ?_⟩
      obtain ⟨e3, hx⟩ := yl x H2 hy
      have ex2 : ExtX X 0 H' S' H2 S' := Ext.grow r'.lst (e3 _ _)
      refine ⟨hid H2 S', ds[i], bs, hid_le _ _, hx, ht, fun us hu => ?_⟩
      have r2 : Rep X.prog X.w X.K (setR ρ' bs) (setV σ' us bs) H2 S' := (r'.ext ex2).setV hu fun b hb => by rw [hl]; exact hg.lt _ (hg.ix _ _ ht b hb)
      have hl2 : (setV σ' us bs).length = X.N.length := by rw [setV_length]; exact hl
      have s2 : SmX X (k + c + i * d) H0 (hid H2 S') := s'.trans ex2.hids
      have t2 := t'.trans ex2.hids.toSame
      have b2 : Bud X.prog X.w (hid H2 S') d := g.bud.after (by omega) s2
      refine ⟨hid H2 S', 0, d, setR ρ' bs, S', { E with nx := fun ρ' => forW tf wb (ds.drop (i + 1)) ρ' E, ct := fun ρ' => forW tf wb (ds.drop (i + 1)) ρ' E, bk := E.nx }, ⟨r2, Sm.refl _, b2, by omega⟩, ?_, q'⟩
      have up : ∀ {G : Hp}, SmX X d (hid H2 S') G → SmX X n H0 G := fun h => (s2.trans h).le (by omega)
      have nxt : ∀ (ρ2 : Ro) (σ2 : L2.St) H3 S3, forW tf wb (ds.drop (i + 1)) ρ2 E → Rep X.prog X.w X.K ρ2 σ2 H3 S3 → SmX X d (hid H2 S') (hid H3 S3) → σ2.length = X.N.length → σ2.length = X.N.length ∧ ∃ ρ2 S2, Rep X.prog X.w X.K ρ2 σ2 H3 S2 ∧ SmX X (k + c + (i + 1) * d) H0 (hid H3 S2) ∧ Same (hid H1 S) (hid H3 S2) ∧ forW tf wb (ds.drop (i + 1)) ρ2 E :=
        fun ρ2 σ2 H3 S3 f r3 s3 l3 => ⟨l3, ρ2, S3, r3, (s2.trans s3).le (by omega), t2.trans s3.toSame, f⟩
      exact ⟨nxt, fun ρ2 σ2 H3 S3 f r3 s3 l3 => ok.nx ρ2 σ2 H3 S3 f r3 (up s3) l3, nxt, fun x v H S n l s => ok.ar x v H S n l (up s), fun xs a us H S n l s => ok.ow xs a us H S n l (up s), fun xs a us H S n l s => ok.ow2 xs a us H S n l (up s)⟩
  · have hi3 : i = ds.length := by omega
    subst hi3
    rw [List.drop_length] at q'
    have room : ds.length * d ≤ 100000 * d := Nat.mul_le_mul_right _ hlen
    exact .inl ⟨okc.2, ok.nx ρ' σ' H' S' q' r' (s'.le (by omega)) hl⟩
end
end DW
set_option Elab.async false
set_option linter.all false
set_option maxRecDepth 100000
set_option maxHeartbeats 1000000
/-! DwFn: while, own lists changed, defs. -/
namespace DW
open PySem PySem.Spec PyProof.Rows L2
section
variable {X : Cx} {pos : Pos}
def wWhile (t : WT) (b : WS) : WS := fun ρ E => ∃ I : Nat → Ro → Prop, (∃ m, I m ρ) ∧ ∀ m ρ, I m ρ → t ρ fun c => match c with
  | true => b ρ { E with nx := fun ρ' => ∃ m', m' < m ∧ I m' ρ', ct := fun ρ' => ∃ m', m' < m ∧ I m' ρ', bk := E.nx }
  | false => E.nx ρ
theorem ds_while {g : Expr} {body : List Stmt} {t : WT} {wb : WS} (hc : DT X g t 0) (hb : DSs X body wb 0) (hp : PassesOwn (model X.prog X.w) X.A X.env X.xe := by exact PassesOwn.never) : DS X (.While g body [] pos) (wWhile t wb) 0 := by
  refine ⟨ps_impI (ps_while hp hc.run hb.run) fun pins s0 σ H D In ⟨H0, k, n, ρ, S, E, g, ok, q⟩ => ?_⟩
  obtain ⟨I, ⟨m0, i0⟩, turn⟩ := q
  refine ⟨fun m σ' H' => σ'.length = X.N.length ∧ ∃ ρ' S', Go X H0 k n 0 ρ' σ' H' S' ∧ I m ρ', ⟨m0, In.len, ρ, S, g, i0⟩, ?_⟩
  rintro m σ' H' ⟨hl, ρ', S', g', i'⟩
  refine tDT_then hc.mono g'.repE (turn m ρ' i') fun b H1 q1 e1 => ?_
  have g1 : Go X H0 k n 0 ρ' σ' H1 S' := g'.ext (c := 0) (d := 0) (Ext.grow g'.lst e1)
  cases b with
  | false => exact iteF (ok.nx ρ' σ' H1 S' q1 g1.rep g1.end_ hl)
  | true =>
    refine iteT ⟨fun σ2 H2 => ∃ m', m' < m ∧ (σ2.length = X.N.length ∧ ∃ ρ2 S2, Go X H0 k n 0 ρ2 σ2 H2 S2 ∧ I m' ρ2), fun _ _ h => h, ?_⟩
    have kn : k ≤ n := by have := g.le; omega
    refine ⟨H0, k, k, ρ', S', _, ⟨g1.rep, g1.sm, g1.bud.le kn, Nat.le_refl _⟩, ?_, q1⟩
    have ol := ok.low kn
    exact ⟨fun ρ2 σ2 H2 S2 ⟨m', hm, im⟩ r2 s2 l2 => ⟨m', hm, l2, ρ2, S2, ⟨r2, s2, g.bud, g.le⟩, im⟩, ol.nx, fun ρ2 σ2 H2 S2 ⟨m', hm, im⟩ r2 s2 l2 => ⟨m', hm, l2, ρ2, S2, ⟨r2, s2, g.bud, g.le⟩, im⟩, ol.ar, ol.ow, ol.ow2⟩

/-! ### own lists changed -/
theorem Rep.upd {P : Program} {w : World} {K : Fg} {ρ : Ro} {σ : L2.St} {H : Hp} {S : List Addr} (r : Rep P w K ρ σ H S) {i : Nat} {xs ds : List PyData} {a : Addr} {us : List V} (e : ρ[i]? = some (.ow xs)) (ea : σ[i]? = some (some (.ref a))) (d : DpAll K (hid H S) us ds) :
    Rep P w K (ρ.set i (.ow ds)) σ (upd H a (.lst us)) S := by
  obtain ⟨a', us', e1, m, e2, _⟩ := r.ow i xs e
  rw [ea] at e1
  cases e1
  have hh : hid (L2.upd H a (.lst us)) S = hid H S := hid_upd_in m
  have hi : i < ρ.length := (List.getElem?_eq_some_iff.mp e).1
  -- what another slot owns has not a
  have na : ∀ j t u B, ρ[j]? = some t → σ[j]? = some (some u) → OwnAd H u t B → i ≠ j → a ∉ B := fun j t u B e1 e2 o n => r.sep i j _ t _ u [a] B e e1 ea e2 ⟨a, rfl, rfl⟩ o n a List.mem_cons_self
  -- told back
  have bk : ∀ j t u B, ρ[j]? = some t → σ[j]? = some (some u) → OwnAd (L2.upd H a (.lst us)) u t B → i ≠ j → OwnAd H u t B := fun j t u B e1 e2 o n => by
    cases t with
    | no => exact o
    | ar x => exact o
    | ow xs => exact o
    | ow2 xss =>
      obtain ⟨b, bs, rfl, h, rfl⟩ := o
      obtain ⟨c, cs, f1, m, nd, f2, f3⟩ := r.ow2 j xss e1
      rw [e2] at f1; cases f1
      have hab : a ∉ b :: cs := na j _ _ _ e1 e2 ⟨b, cs, rfl, f2, rfl⟩ n
      rw [upd_ne (fun z => hab (by rw [z]; exact List.mem_cons_self))] at h
      exact ⟨b, bs, rfl, h, rfl⟩
  refine ⟨fun j x q => ?_, fun j ys q => ?_, fun j yss q => ?_, fun j k s t v u A B q1 q2 q3 q4 o1 o2 n => ?_, fun b hb => ?_⟩
  · rw [hh]
    rcases getSet q with ⟨_, h⟩ | ⟨_, q⟩
    · cases h
    · exact r.ar j x q
  · rw [hh]
    rcases getSet q with ⟨rfl, h⟩ | ⟨n, q⟩
    · cases h
      exact ⟨a, us, ea, m, upd_same, d⟩
    · obtain ⟨b, vs, f1, f2, f3, f4⟩ := r.ow j ys q
      refine ⟨b, vs, f1, f2, ?_, f4⟩
      rw [upd_ne]
      · exact f3
      · rintro rfl
        exact n (r.sepO i j xs ys b e q ea f1)
  · rcases getSet q with ⟨rfl, h⟩ | ⟨n, q⟩
    · cases h
    · obtain ⟨b, bs, f1, f2, nd, f3, f4⟩ := r.ow2 j yss q
      have hab := na j _ _ _ q f1 ⟨b, bs, rfl, f3, rfl⟩ n
      refine ⟨b, bs, f1, f2, nd, ?_, Rows.to (by rw [hh]; exact Same.refl _) (fun c hc o z => ?_) f4⟩
      · rw [upd_ne (fun z => hab (by rw [z]; exact List.mem_cons_self))]; exact f3
      · rw [upd_ne (fun z => hab (by rw [← z]; exact List.mem_cons_of_mem _ hc))]; exact z
  · rcases getSet q1 with ⟨rfl, h1⟩ | ⟨n1, p1⟩
    · rcases getSet q2 with ⟨rfl, h2⟩ | ⟨n2, p2⟩
      · exact absurd rfl n
      · subst h1
        obtain ⟨b, e3, rfl⟩ := o1
        rw [ea] at q3; cases q3
        cases e3
        intro c hc
        rw [List.mem_singleton.mp hc]
        exact na k t u B p2 q4 (bk k t u B p2 q4 o2 n2) n2
    · rcases getSet q2 with ⟨rfl, h2⟩ | ⟨n2, p2⟩
      · subst h2
        obtain ⟨b, e3, rfl⟩ := o2
        rw [ea] at q4; cases q4
        cases e3
        intro c hc hb
        rw [List.mem_singleton.mp hb] at hc
        exact na j s v A p1 q3 (bk j s v A p1 q3 o1 n1) n1 hc
      · exact r.sep j k s t v u A B p1 p2 q3 q4 (bk j s v A p1 q3 o1 n1) (bk k t u B p2 q4 o2 n2) n
  · by_cases z : b = a
    · rw [z]; exact ⟨us, upd_same⟩
    · obtain ⟨ws, q⟩ := r.lst b hb
      exact ⟨ws, by rw [upd_ne z]; exact q⟩
theorem sm0_upd {c : Nat} {H0 H : Hp} {S : List Addr} {a : Addr} {o : HO} (m : a ∈ S) (s : SmX X c H0 (hid H S)) : SmX X c H0 (hid (upd H a o) S) := by rw [hid_upd_in m]; exact s
/-- x.append(e), x an own list -/
def wApp (i : Nat) (c : WC) : WS := fun ρ E => match ρ[i]? with
  | some (.ow xs) => c ρ fun s => match s with
    | .ar (.d d) => xs.length < 100000 ∧ E.nx (ρ.set i (.ow (xs ++ [d])))
    | _ => False
  | _ => False
theorem line5' {n : Nat} (h : n < 100000) : n < sizeLine := by rw [sizeLine_eq]; omega
theorem ds_app (i : Nat) {x : Str} {e : Expr} {b : WC} {p apos cpos : Pos} (h : DC X e b c) (hN : X.N[i]? = some x := by rfl) (hv : Vis X.env.scope x := by first | exact Or.inl rfl | exact Or.inr (Or.inl rfl) | exact Or.inr (Or.inr rfl)) (hd : (x == ("__debug__" : Str)) = false := by decide) (hcd : (x == ("__classdict__" : Str)) = false := by decide)
    (hpe : ∀ (to : TE) (t : TA), PE X (.Name x p) to → PA X [e] t → PS X (.Expr (.Call (.Attribute (.Name x p) "append" apos) [e] [] cpos) pos) (tDrop (tBM X.K "list" rAppend to t)) := by
      exact fun to t h1 h2 => ps_expr (pe_bm PySem.F.plainAttrs_list PySem.F.slot_list_append PySem.F.type_list_append mt_append h1 h2)) (hs1 : starEach [e] X.env = (false, eval e X.env) :: starEach [] X.env := by rfl) :
    DS X (.Expr (.Call (.Attribute (.Name x p) "append" apos) [e] [] cpos) pos) (wApp i b) c := by
  refine ⟨ps_impI (hpe _ _ (pe_var hN hv hd hcd) (pa_cons h.run pa_nil hs1)) fun pins s0 σ H D In ⟨H0, k0, n0, ρ, S, E, g, ok, q⟩ => ?_⟩
  have r := g.rep
  unfold wApp at q
  split at q
  · rename_i xs ew
    obtain ⟨a, us, ea, m, e2, d0⟩ := r.ow i xs ew
    refine ⟨_, ea, .inl ⟨rfl, us, .inl (.inl e2)⟩, ?_⟩
    refine ⟨ρ, S, r, g.b, h.mono ρ _ _ (fun x q v H' S' ex z f => ?_) q⟩
    revert q
    split
    · intro q
      have r' := r.ext ex
      refine ⟨a, us, v, rfl, rfl, ex.same.k e2 rfl, by rw [DpAll.length d0]; exact line5' q.1, ?_⟩
      exact ok.nx _ _ _ S' q.2 (r'.upd ew ea (DpAll.app (DpAll.mono ex.hids.toSame d0) (.cons z .nil))) (sm0_upd (ex.sub a m) (g.fin ex)) In.len
    · exact False.elim
  · exact q.elim
/-- x.extend(e), x an own list, e a new list -/
def wExt (i : Nat) (c : WC) : WS := fun ρ E => match ρ[i]? with
  | some (.ow xs) => c ρ fun s => match s with
    | .ow ds => xs.length + ds.length ≤ 100000 ∧ E.nx (ρ.set i (.ow (xs ++ ds)))
    | _ => False
  | _ => False
theorem ds_ext (i : Nat) {x : Str} {e : Expr} {b : WC} {p apos cpos : Pos} (h : DC X e b c) (hN : X.N[i]? = some x := by rfl) (hv : Vis X.env.scope x := by first | exact Or.inl rfl | exact Or.inr (Or.inl rfl) | exact Or.inr (Or.inr rfl)) (hd : (x == ("__debug__" : Str)) = false := by decide) (hcd : (x == ("__classdict__" : Str)) = false := by decide)
    (hpe : ∀ (to : TE) (t : TA), PE X (.Name x p) to → PA X [e] t → PS X (.Expr (.Call (.Attribute (.Name x p) "extend" apos) [e] [] cpos) pos) (tDrop (tBM X.K "list" rExtend to t)) := by
      exact fun to t h1 h2 => ps_expr (pe_bm PySem.F.plainAttrs_list PySem.F.slot_list_extend PySem.F.type_list_extend mt_extend h1 h2)) (hs1 : starEach [e] X.env = (false, eval e X.env) :: starEach [] X.env := by rfl) :
    DS X (.Expr (.Call (.Attribute (.Name x p) "extend" apos) [e] [] cpos) pos) (wExt i b) c := by
  refine ⟨ps_impI (hpe _ _ (pe_var hN hv hd hcd) (pa_cons h.run pa_nil hs1)) fun pins s0 σ H D In ⟨H0, k0, n0, ρ, S, E, g, ok, q⟩ => ?_⟩
  have r := g.rep
  unfold wExt at q
  split at q
  · rename_i xs ew
    obtain ⟨a, us, ea, m, e2, d0⟩ := r.ow i xs ew
    refine ⟨_, ea, .inl ⟨rfl, us, .inl (.inl e2)⟩, ?_⟩
    refine ⟨ρ, S, r, g.b, h.mono ρ _ _ (fun x q v H' S' ex z f => ?_) q⟩
    revert q
    split
    · intro q
      have r' := r.ext ex
      obtain ⟨b, vs, rfl, mb, eb, db⟩ := z
      refine ⟨a, b, us, vs, rfl, rfl, ex.same.k e2 rfl, eb, by rw [DpAll.length d0, DpAll.length db]; exact line5 q.1, ?_⟩
      exact ok.nx _ _ _ S' q.2 (r'.upd ew ea (DpAll.app (DpAll.mono ex.hids.toSame d0) db)) (sm0_upd (ex.sub a m) (g.fin ex)) In.len
    · exact False.elim
  · exact q.elim
/-- x[k] = e, x an own list -/
def wSetIx (i : Nat) (c : WC) (k : WE) : WS := fun ρ E => c ρ fun s => match s with
  | .ar (.d d) => match ρ[i]? with
    | some (.ow xs) => k ρ fun y => match y with
      | .d (.int z) => ∃ j, ixN xs.length z = some j ∧ E.nx (ρ.set i (.ow (xs.set j d)))
      | _ => False
    | _ => False
  | _ => False
theorem ds_setIx (i : Nat) {x : Str} {e ek : Expr} {a : WC} {k : WE} {p apos : Pos} (h : DC X e a c) (hk : DE X ek k d) (hN : X.N[i]? = some x := by rfl) (hv : Vis X.env.scope x := by first | exact Or.inl rfl | exact Or.inr (Or.inl rfl) | exact Or.inr (Or.inr rfl)) (hd : (x == ("__debug__" : Str)) = false := by decide) (hcd : (x == ("__classdict__" : Str)) = false := by decide)
    (hpe : ∀ (to ti te : TE), PE X (.Name x p) to → PE X ek ti → PE X e te → PS X (.Assign [.Subscript (.Name x p) ek apos] e pos) (tAsg te (gSub to ti rSetL)) := by
      exact fun to ti te h1 h2 h3 => ps_asg h3 (pg_sub h1 h2 set_list)) :
    DS X (.Assign [.Subscript (.Name x p) ek apos] e pos) (wSetIx i a k) (c + d) := by
  refine ⟨ps_impI (hpe _ _ _ (pe_var hN hv hd hcd) hk.run h.run) fun pins s0 σ H D In ⟨H0, k0, n0, ρ, S, E, g, ok, q⟩ => ?_⟩
  refine ⟨ρ, S, g.rep, g.b.le (Nat.le_add_right _ _), h.mono ρ _ _ (fun x q v H' S' ex z f => ?_) q⟩
  have g' := g.ext ex
  have r' := g'.rep
  revert q
  split
  · split
    · rename_i xs ew
      intro q
      obtain ⟨a, us, ea, m, e2, d0⟩ := r'.ow i xs ew
      refine ⟨_, ea, ?_⟩
      refine tD_then hk.mono g'.repE q fun y u H2 q2 e3 z2 => ?_
      revert q2
      split
      · intro q2
        obtain ⟨j, hj, q2⟩ := q2
        cases z2
        have ex2 := Ext.grow r'.lst e3
        refine ⟨a, us, _, j, rfl, rfl, e3.k e2 rfl, by rw [DpAll.length d0]; exact hj, ?_⟩
        exact ok.nx _ _ _ S' q2 ((r'.ext ex2).upd ew ea (DpAll.set (Dp.mono ex2.hids.toSame z) j (DpAll.mono ex2.hids.toSame d0))) (sm0_upd m (g'.fin ex2)) In.len
      · exact False.elim
    · exact False.elim
  · exact False.elim
/-- x + e, x an own list, e a new list: a new list -/
def cCat (i : Nat) (a : WN) : WC := fun ρ Q => match ρ[i]? with
  | some (.ow xs) => a (noOw ρ) fun ds => xs.length + ds.length ≤ 100000 ∧ Q (.ow (xs ++ ds))
  | _ => False
theorem dc_cat (i : Nat) {x : Str} {e : Expr} {a : WN} {p bpos : Pos} (h : DN X e a c) (hN : X.N[i]? = some x := by rfl) (hv : Vis X.env.scope x := by first | exact Or.inl rfl | exact Or.inr (Or.inl rfl) | exact Or.inr (Or.inr rfl)) (hd : (x == ("__debug__" : Str)) = false := by decide) (hcd : (x == ("__classdict__" : Str)) = false := by decide) :
    DC X (.BinOp (.Name x p) .Add e bpos) (cCat i a) c := by
  refine ⟨fun ρ Q Q' k q => ?_, pe_imp (pe_op op_cat (pe_var hN hv hd hcd) (pe_fr h.run)) fun σ H Q ⟨ρ, S, r, b, q⟩ => ?_⟩
  · unfold cCat at q ⊢
    split at q
    · exact h.mono _ _ _ (fun ds q => ⟨q.1, k _ q.2⟩) q
    · exact q.elim
  · unfold cCat at q
    split at q
    · rename_i xs ew
      obtain ⟨b0, us, ea, m, e2, d0⟩ := r.ow i xs ew
      refine ⟨_, ea, S, r.lst, noOw ρ, r.repF b, h.mono _ _ _ (fun ds q1 a zs H1 e1 hn ha hdp no => ?_) q⟩
      have e3 := sm_rest r.lst e1 no
      have haS : a ∉ S := fun z => by rw [no a z] at ha; cases ha
      have ha2 : rest H S H1 a = some (.lst zs) := by rw [rest_out haS]; exact ha
      refine ⟨b0, a, us, zs, rfl, rfl, e3.k e2 rfl, ha2, by rw [DpAll.length d0, DpAll.length hdp]; exact line5 q1.1, fun p hp => ?_⟩
      have hn2 : H p = none := e3.toSame.free hp
      have hpS : p ∉ S := fun z => by obtain ⟨ws, q⟩ := r.lst p z; rw [hn2] at q; cases q
      have ex : ExtX X c H S (upd (rest H S H1) p (.lst (us ++ zs))) (p :: S) := ext_list r.lst (e3.trans (Sm.new hp)) hn2 upd_same
      refine q1.2 _ _ (p :: S) ex ⟨p, _, rfl, List.mem_cons_self, upd_same, ?_⟩ (.ow hpS)
      refine DpAll.app (DpAll.mono ex.hids.toSame d0) (DpAll.mono (.of ?_) hdp)
      intro b o q
      obtain ⟨hb1, q⟩ := hid_some q
      have hbS : b ∉ S := fun z => by rw [no b z] at q; cases q
      have hbp : b ≠ p := fun z => by
        have : rest H S H1 b = some o := by rw [rest_out hbS]; exact q
        rw [z, hp] at this; cases this
      rw [hid_out (by simp [hbp, hbS]), upd_ne hbp, rest_out hbS]
      exact q
    · exact q.elim
/-! ### a def -/
def startR (n : Nat) (xs : List Ar) : Ro := xs.map .ar ++ List.replicate (n - xs.length) .no
theorem start_rep {P : Program} {w : World} {K : Fg} {H : Hp} {N : List Str} : ∀ {xs : List Ar} {vs : List V}, RaAll P w K H vs xs → Rep P w K (startR N.length xs) (L2.start N vs) H [] := fun {xs vs} h => by
  have hlen := h.length
  have get : ∀ {xs : List Ar} {vs : List V}, RaAll P w K H vs xs → ∀ (i : Nat) (x : Ar), xs[i]? = some x → ∃ v, vs[i]? = some v ∧ Ra P w K H v x := by
    intro xs vs h
    induction h with
    | nil => intro i x e; simp at e
    | cons a b ih =>
      intro i x e
      cases i with
      | zero => simp at e; subst e; exact ⟨_, rfl, a⟩
      | succ i =>
        obtain ⟨v, h1, h2⟩ := ih i x (by simpa using e)
        exact ⟨v, by simpa using h1, h2⟩
  have low : ∀ (i : Nat) (y : Sl), (startR N.length xs)[i]? = some y → y = .no ∨ ∃ x, y = .ar x ∧ xs[i]? = some x := fun i y e => by
    unfold startR at e
    by_cases hi : i < xs.length
    · rw [List.getElem?_append_left (by simpa using hi), List.getElem?_map, Option.map_eq_some_iff] at e
      obtain ⟨x, e1, e2⟩ := e
      exact .inr ⟨x, e2.symm, e1⟩
    · rw [List.getElem?_append_right (by simpa using hi), List.getElem?_replicate] at e
      split at e
      · cases e; exact .inl rfl
      · cases e
  refine ⟨fun i x e => ?_, fun i ys e => ?_, fun i ys e => ?_, fun i j s t v u A B e1 _ _ _ o1 _ _ b hb => ?_, fun _ z => nomatch z⟩
  · rcases low i _ e with z | ⟨y, z, e1⟩
    · cases z
    · cases z
      obtain ⟨v, hv, hr⟩ := get h i x e1
      refine ⟨v, ?_, by rw [hid_nil]; exact hr⟩
      have hi : i < vs.length := (List.getElem?_eq_some_iff.mp hv).1
      unfold L2.start
      rw [List.getElem?_append_left (by simpa using hi), List.getElem?_map, hv]; rfl
  · rcases low i _ e with z | ⟨y, z, _⟩ <;> cases z
  · rcases low i _ e with z | ⟨y, z, _⟩ <;> cases z
  · rcases low i _ e1 with z | ⟨y, z, _⟩ <;> subst z <;> cases o1 <;> cases hb
section
variable {P : Program} {w : World} {K : Fg} {mg : Str → Option Value} {base : Heap}
/-- a def whose body is read over data -/
theorem fn_ok {c : Nat} {x qual : Str} {params : Arguments} {body : List Stmt} {scope : Scope} {f : Addr} {fd : FuncData} {N ps : List Str} {k : Nat} {ws : WF} {wb : WS} (F : FunD K x qual params body scope [] [] f fd) (S : FnScope N ps scope) (hl : ∀ xs R, ws xs R → xs.length = ps.length)
    (hb : ∀ (cdv : Value) (A : Around) (outer : List Env) (s : Shared) (H : Hp) (E : XK), Room k (A.deeper (envOfC qual scope s.heap.objs.size f cdv)) → DSs (cxOf CX0 P w K mg base N qual scope f cdv A outer s H E).nox body wb c)
    (hw : ∀ xs R, ws xs R → wb (startR N.length xs) { nx := fun _ => R (.d .none), rt := R }) : FnOk P w K mg base CX0 (k + 1) f fd ps (spF P w K ws c) := by
  refine FunD.ok F S (fun vs H Q E ⟨xs, r, _, q⟩ => by rw [r.length]; exact hl xs _ q) fun cdv A outer s H vs Q E hr ⟨xs, r, b, q⟩ => ⟨_, PSs.nox (hb cdv A outer s H E hr).run, ?_⟩
  refine ⟨H, 0, c, _, [], _, ⟨start_rep r, by rw [hid_nil]; exact Sm.refl H, b, by omega⟩, ?_, hw xs _ q⟩
  have out : ∀ {a : Addr} {H' : Hp} {S' : List Addr}, Same H (hid H' S') → a ∈ S' → H a = none := fun {a H' S'} s' m => by
    cases q : H a with
    | none => rfl
    | some o =>
      obtain ⟨o', z⟩ := s'.th q
      rw [hid_in m] at z; cases z
  have up : ∀ {H' : Hp} {S' : List Addr}, LstS H' S' → Sm P w c H (hid H' S') → Sm P w c H H' := fun {H' S'} l s => sm_unhid l s
  have upR : ∀ {H' : Hp} {S' : List Addr} {v : V} {x : Ar}, Ra P w K (hid H' S') v x → Ra P w K H' v x := fun {H' S' v x} z => by
    cases x with
    | d x => exact Dp.mono (hid_le _ _) z
    | sta => obtain ⟨a, e, q⟩ := z; exact ⟨a, e, q.to hidB⟩
    | net n ts => obtain ⟨a, dx, tv, e, h1, h2⟩ := z; exact ⟨a, dx, tv, e, (hid_some h1).2, Dp.mono (hid_le _ _) h2⟩
  refine ⟨fun ρ σ H' S' n r' s' _ => n .non H' (up r'.lst s') Dp.non, fun _ _ _ _ n => n.elim, fun _ _ _ _ n => n.elim, fun y v H' S' n l s' z => ?_, fun ys a us H' S' n l s' m e d => ?_, fun yss a bs H' S' n l s' ⟨m, nd, e, d⟩ => ?_⟩
  · exact n v H' (up l s') (upR z)
  · refine n a us H' (up l s') (out s'.toSame m) e (DpAll.mono (.of fun b o q => ?_) d)
    obtain ⟨hb, q⟩ := hid_some q
    rw [hid_out (fun z => hb (by have e : b = a := by simpa using z
                                 rw [e]; exact m))]
    exact q
  · refine n a bs H' (up l s') (fun b hb => out s'.toSame (m b hb)) nd e (Rows.to (.of fun b o q => ?_) (fun _ _ _ z => z) d)
    obtain ⟨hb, q⟩ := hid_some q
    rw [hid_out (fun z => hb (m b z))]
    exact q
end
end
end DW
set_option Elab.async false
set_option linter.all false
set_option maxRecDepth 100000
set_option maxHeartbeats 1000000
/-! DwMore: -e, never, the frame rule of statements, comprehensions kept with what is not plain, an own list let go, enumerate of tuples, zip, two-clause comprehensions. -/
namespace DW
open PySem PySem.Spec PyProof.Rows L2 RZ
section
variable {X : Cx} {pos : Pos}
def wNeg (a : WE) : WE := fun ρ Q => a ρ fun x => match x with
  | .d (.int i) => Q (.d (.int (-i)))
  | _ => False
theorem de_neg {e : Expr} {a : WE} (h : DE X e a c) : DE X (.UnaryOp .USub e pos) (wNeg a) c := by
  refine ⟨fun ρ Q Q' k q => h.mono ρ _ _ (fun x q => ?_) q, pe_imp (pe_un un_neg h.run) fun σ H Q ⟨ρ, r, q⟩ => ?_⟩
  · revert q
    split
    · exact k _
    · exact id
  · refine tD_then h.mono r q fun x v H1 q1 e1 z1 => ?_
    revert q1
    split
    · intro q1
      cases z1
      exact ⟨_, rfl, q1 _ H1 e1 (Dp.int _)⟩
    · exact False.elim
def wNever : WS := fun _ _ => False
theorem ds_never {st : Stmt} : DS X st wNever 0 := ⟨ps_imp ps_never fun D σ H ⟨_, _, _, _, _, _, _, _, q⟩ => q⟩
theorem dss_never {st : List Stmt} : DSs X st wNever 0 := ⟨pss_imp pss_never fun D σ H ⟨_, _, _, _, _, _, _, _, q⟩ => q⟩
/-! the frame rule of statements -/
def frEnds (H : Hp) (S : List Addr) (D : Ends) : Ends where
  nx := fun σ H1 => (∀ a ∈ S, H1 a = none) → D.nx σ (rest H S H1)
  rt := fun v H1 => (∀ a ∈ S, H1 a = none) → D.rt v (rest H S H1)
  bk := fun σ H1 => (∀ a ∈ S, H1 a = none) → D.bk σ (rest H S H1)
  ct := fun σ H1 => (∀ a ∈ S, H1 a = none) → D.ct σ (rest H S H1)
theorem ps_fr {st : Stmt} {t : TS} (h : PS X st t) : PS X st (fun D σ H => ∃ S, LstS H S ∧ t (frEnds H S D) σ (hid H S)) := by
  refine ⟨fun pins s σ H D I ⟨S, hS, q⟩ => ?_⟩
  refine thn (h.run _ s σ _ _ (Inv.hideL I hS) q) fun f s1 q1 => ?_
  cases f with
  | next => obtain ⟨σ', H1, I1, q2⟩ := q1; obtain ⟨J, no⟩ := Inv.unhide I hS I1; exact ⟨σ', _, J, q2 no⟩
  | brk => obtain ⟨σ', H1, I1, q2⟩ := q1; obtain ⟨J, no⟩ := Inv.unhide I hS I1; exact ⟨σ', _, J, q2 no⟩
  | cont => obtain ⟨σ', H1, I1, q2⟩ := q1; obtain ⟨J, no⟩ := Inv.unhide I hS I1; exact ⟨σ', _, J, q2 no⟩
  | ret u => obtain ⟨v, σ', H1, I1, r, q2⟩ := q1; obtain ⟨J, no⟩ := Inv.unhide I hS I1; exact ⟨v, σ', _, J, r, q2 no⟩
/-- name = a comprehension on one line, whatever its items are; it reads no own list -/
theorem ds_setLcF (i : Nat) {a b d : Nat} {y : Str} {py : Pos} {elt tg iter : Expr} {ifs : List Expr} {scope : Scope} {own : List (Str × Nat)} {lpos : Pos} {wi : WI} {is : List Nat} {tf : TF} {tt : WT} {te : WE} (hN : X.N.Nodup)
    (hsw : swapsWith (.ListComp elt [⟨tg, iter, ifs, 0⟩] scope lpos) (some (.Name y py)) pos.line X.env = pure true) (hi : DI X tg iter wi a) (ok : BlkOk X.N X.env.scope scope own)
    (hg : ∀ (s : Shared) (H : Hp) (C : Addr) (cl : List (Str × Addr)) (fp : List Addr), DG (X.blk s H scope (compEnvC scope cl C X.env) fp) tg is tf) (ht : ∀ (s : Shared) (H : Hp) (C : Addr) (cl : List (Str × Addr)) (fp : List Addr), DTs (X.blk s H scope (compEnvC scope cl C X.env) fp) ifs tt b)
    (he : ∀ (s : Shared) (H : Hp) (C : Addr) (cl : List (Str × Addr)) (fp : List Addr), DE (X.blk s H scope (compEnvC scope cl C X.env) fp) elt te d) (hv : ∀ i ∈ is, i ∈ own.map (·.2) := by decide) (hy : X.N[i]? = some y := by rfl) (hyl : X.env.scope.names.lookup y = some .local := by rfl) (hc : X.calm = true := by rfl)
    (hs : ∀ x, foldedSetIterable iter X.env x = pure x := by intro _; rfl) : DS X (.Assign [.Name y py] (.ListComp elt [⟨tg, iter, ifs, 0⟩] scope lpos) pos) (wSet i (cNw (wLc wi tf tt te (own.map (·.2))))) (a + 100000 * (b + d)) := by
  have s0 : Shared := {}
  have G0 := hg s0 (fun _ => none) 0 [] []
  have T0 := ht s0 (fun _ => none) 0 [] []
  have E0' := he s0 (fun _ => none) 0 [] []
  refine ⟨ps_impI (ps_fr (ps_setLc hc hN hy hyl hsw hi.run ok (g := tDG X.K tf) (tt := tFrT (tDT X tt b)) (te := tFr (tD X te d)) (fun s H C cl fp => (hg s H C cl fp).run) (fun s H C cl fp => pts_fr (t := tDT X tt b) (ht s H C cl fp).run) (fun s H C cl fp => pe_fr (t := tD X te d) (he s H C cl fp).run) hs)) fun pins s1 σ H D I ⟨H0, k, n, ρ, S, E, g, eo, q⟩ => ⟨S, g.lst, ?_⟩⟩
  have hl : i < σ.length := by rw [I.len]; exact (List.getElem?_eq_some_iff.mp hy).1
  refine lc_run hi.mono G0.ix G0.lt hv T0.mono E0'.mono I.len ⟨noOw ρ, g.repF, ?_⟩
  have q : wLc wi tf tt te (own.map (·.2)) (noOw ρ) fun ds => E.nx (ρ.set i (.ow ds)) := q
  refine hi.mono _ _ _ (fun ds q => ⟨q.1, compW_mono (fun d acc k k' h q => lcStep_mono T0.mono E0'.mono d acc k k' h q) ds [] _ _ (fun acc q1 a us H1 e1 hn ha hd no => ?_) q.2⟩) q
  have haS : a ∉ S := fun z => by rw [no a z] at ha; cases ha
  have ha2 : rest H S H1 a = some (.lst us) := by rw [rest_out haS]; exact ha
  rw [hid_out haS] at hn
  have ex := ext_list g.lst (sm_rest g.lst e1 no) hn ha2
  exact eo.nx _ _ _ (a :: S) q1 (g.rep.setF ex hl (s := .ow acc) ⟨a, us, rfl, List.mem_cons_self, ha2, by rw [hid_list no]; exact hd⟩ (.ow haS)) (g.fin ex) (by rw [List.length_set]; exact I.len)
/-- an own list is let go: from here on it is data -/
def wFreeze (i : Nat) (w : WS) : WS := fun ρ E => match ρ[i]? with
  | some (.ow xs) => w (ρ.set i (.d (.list xs))) E
  | _ => False
theorem Rep.freeze {P : Program} {w : World} {K : Fg} {ρ : Ro} {σ : L2.St} {H : Hp} {S : List Addr} (r : Rep P w K ρ σ H S) {i : Nat} {xs : List PyData} (e : ρ[i]? = some (.ow xs)) : ∃ S', Rep P w K (ρ.set i (.d (.list xs))) σ H S' ∧ Sm P w 0 (hid H S) (hid H S') := by
  obtain ⟨a, us, ea, m, e2, d⟩ := r.ow i xs e
  have mem : ∀ b, b ∈ S.filter (fun b => decide (b ≠ a)) ↔ b ∈ S ∧ b ≠ a := fun b => by simp
  have sm1 : Same (hid H S) (hid H (S.filter fun b => decide (b ≠ a))) := .of fun b o q => by
    obtain ⟨hb, q⟩ := hid_some q
    rw [hid_out fun z => hb ((mem b).mp z).1]; exact q
  have l2 : LstS H (S.filter fun b => decide (b ≠ a)) := fun b hb => r.lst b ((mem b).mp hb).1
  have sm : Sm P w 0 (hid H S) (hid H (S.filter fun b => decide (b ≠ a))) := (Sm.refl _).up sm1 (fun b u x q => hidK l2 b u x (hid_some q).2) fun b u x q => hidK r.lst b u x (hid_some q).2
  have ha : hid H (S.filter fun b => decide (b ≠ a)) a = some (.lst us) := by rw [hid_out fun z => ((mem a).mp z).2 rfl]; exact e2
  have na : ∀ j t u B, ρ[j]? = some t → σ[j]? = some (some u) → OwnAd H u t B → i ≠ j → a ∉ B := fun j t u B e1 e2 o n => r.sep i j _ t _ u [a] B e e1 ea e2 ⟨a, rfl, rfl⟩ o n a List.mem_cons_self
  refine ⟨S.filter fun b => decide (b ≠ a), ⟨fun j x q => ?_, fun j ys q => ?_, fun j ys q => ?_, fun j k s t v u A B q1 q2 q3 q4 o1 o2 n => ?_, fun b hb => r.lst b ((mem b).mp hb).1⟩, sm⟩
  · rcases getSet q with ⟨rfl, h⟩ | ⟨_, q⟩
    · cases h
      exact ⟨_, ea, Dp.lst (.inl (.inl ha)) (DpAll.mono sm1 d)⟩
    · obtain ⟨v, h1, h2⟩ := r.ar j x q
      exact ⟨v, h1, Ra.mono sm h2⟩
  · rcases getSet q with ⟨_, h⟩ | ⟨n, q⟩
    · cases h
    · obtain ⟨b, vs, f1, f2, f3, f4⟩ := r.ow j ys q
      refine ⟨b, vs, f1, (mem b).mpr ⟨f2, ?_⟩, f3, DpAll.mono sm1 f4⟩
      rintro rfl
      exact n (r.sepO i j xs ys b e q ea f1)
  · rcases getSet q with ⟨_, h⟩ | ⟨n, q⟩
    · cases h
    · obtain ⟨b, bs, f1, f2, nd, f3, f4⟩ := r.ow2 j ys q
      have hab := na j _ _ _ q f1 ⟨b, bs, rfl, f3, rfl⟩ n
      exact ⟨b, bs, f1, fun c hc => (mem c).mpr ⟨f2 c hc, fun z => hab (by rw [← z]; exact hc)⟩, nd, f3, Rows.to sm1 (fun _ _ _ z => z) f4⟩
  · have key : ∀ (j : Nat) (s : Sl) (v : V) (A : List Addr), (ρ.set i (.d (.list xs)))[j]? = some s → OwnAd H v s A → A = [] ∨ ρ[j]? = some s := fun j s v A q o => by
      rcases getSet q with ⟨_, h⟩ | ⟨_, q⟩
      · subst h; exact .inl o
      · exact .inr q
    rcases key j s v A q1 o1 with rfl | p1
    · exact fun b hb => nomatch hb
    · rcases key k t u B q2 o2 with rfl | p2
      · exact fun b _ hb => nomatch hb
      · exact r.sep j k s t v u A B p1 p2 q3 q4 o1 o2 n
theorem ds_freeze (i : Nat) {st : Stmt} {w : WS} (h : DS X st w c) : DS X st (wFreeze i w) c := by
  refine ⟨ps_imp h.run fun D σ H ⟨H0, k, n, ρ, S, E, g, ok, q⟩ => ?_⟩
  unfold wFreeze at q
  split at q
  · rename_i xs e
    obtain ⟨S', r', s'⟩ := g.rep.freeze e
    exact ⟨H0, k, n, _, S', E, ⟨r', g.sm.trans s', g.bud, g.le⟩, ok, q⟩
  · exact q.elim
end
/-! ### zip of two lists or two tuples -/
section
variable {X : Cx}
theorem itz_ok {K : Fg} {a b : Addr} {ds es : List PyData} {Hs : Hp} {vs us : List V} (s1 : SqL K Hs a vs) (d1 : DpAll K Hs vs ds) (s2 : SqL K Hs b us) (d2 : DpAll K Hs us es) : ItOk K (Itz K a b) ((ds.zip es).map fun p => .tuple [p.1, p.2]) Hs := fun H S l e => by
  have t1 : SqL K H a vs := Same.sqL (e.trans (hid_le H S)) s1
  have t2 : SqL K H b us := Same.sqL (e.trans (hid_le H S)) s2
  refine ⟨fun i x hx => ?_, ⟨vs, us, t1, t2, ?_⟩⟩
  · rw [List.getElem?_map, Option.map_eq_some_iff] at hx
    obtain ⟨p, hp, rfl⟩ := hx
    obtain ⟨p1, p2⟩ := p
    have hz := List.getElem?_zip_eq_some.mp hp
    obtain ⟨v, hv, zv⟩ := DpAll.get d1 hz.1
    obtain ⟨u, hu, zu⟩ := DpAll.get d2 hz.2
    refine ⟨⟨vs, us, v, u, t1, t2, hv, hu⟩, fun y H' hy => ?_⟩
    obtain ⟨T, x1, x2, rfl, hT, rfl, f1, f2⟩ := hy
    have e1 := f1 vs t1
    rw [hv] at e1; cases e1
    have e2 := f2 us t2
    rw [hu] at e2; cases e2
    have hTS : T ∉ S := fun z => by obtain ⟨ws, q⟩ := l T z; rw [hT] at q; cases q
    have sm : Same (hid H S) (hid (upd H T (.tup [v, u])) S) := hid_mono S (same_new hT)
    exact ⟨fun _ _ => Sm.new hT, .tup (.inl (.inl (by rw [hid_out hTS]; exact upd_same))) (.cons (Dp.mono (e.trans sm) zv) (.cons (Dp.mono (e.trans sm) zu) .nil))⟩
  · rw [List.length_map, List.length_zip, DpAll.length d1, DpAll.length d2]; omega
theorem itzT_ok {K : Fg} {a b : Addr} {ds es : List PyData} {Hs : Hp} {vs us : List V} (s1 : SqT K Hs a vs) (d1 : DpAll K Hs vs ds) (s2 : SqT K Hs b us) (d2 : DpAll K Hs us es) : ItOk K (ItzT K a b) ((ds.zip es).map fun p => .tuple [p.1, p.2]) Hs := fun H S l e => by
  have t1 : SqT K H a vs := Same.sqT (e.trans (hid_le H S)) s1
  have t2 : SqT K H b us := Same.sqT (e.trans (hid_le H S)) s2
  refine ⟨fun i x hx => ?_, ⟨vs, us, t1, t2, ?_⟩⟩
  · rw [List.getElem?_map, Option.map_eq_some_iff] at hx
    obtain ⟨p, hp, rfl⟩ := hx
    obtain ⟨p1, p2⟩ := p
    have hz := List.getElem?_zip_eq_some.mp hp
    obtain ⟨v, hv, zv⟩ := DpAll.get d1 hz.1
    obtain ⟨u, hu, zu⟩ := DpAll.get d2 hz.2
    refine ⟨⟨vs, us, v, u, t1, t2, hv, hu⟩, fun y H' hy => ?_⟩
    obtain ⟨T, x1, x2, rfl, hT, rfl, f1, f2⟩ := hy
    have e1 := f1 vs t1
    rw [hv] at e1; cases e1
    have e2 := f2 us t2
    rw [hu] at e2; cases e2
    have hTS : T ∉ S := fun z => by obtain ⟨ws, q⟩ := l T z; rw [hT] at q; cases q
    have sm : Same (hid H S) (hid (upd H T (.tup [v, u])) S) := hid_mono S (same_new hT)
    exact ⟨fun _ _ => Sm.new hT, .tup (.inl (.inl (by rw [hid_out hTS]; exact upd_same))) (.cons (Dp.mono (e.trans sm) zv) (.cons (Dp.mono (e.trans sm) zu) .nil))⟩
  · rw [List.length_map, List.length_zip, DpAll.length d1, DpAll.length d2]; omega
def zipD (ds es : List PyData) : List PyData := (ds.zip es).map fun p => .tuple [p.1, p.2]
def wZip (a b : WE) : WI := fun ρ Q => a ρ fun x => b ρ fun y => match x, y with
  | .d (.list ds), .d (.list es) => Q (zipD ds es)
  | .d (.tuple ds), .d (.tuple es) => Q (zipD ds es)
  | _, _ => False
theorem di_zip {e f : Expr} {a b : WE} {p pos tpos : Pos} {elts : List Expr} {kk : Nat} (hm : X.mg "zip" = none) (h : DE X e a c) (h2 : DE X f b d) (hg : Gl X "zip" := by rfl) (hs : starEach [e, f] X.env = (false, eval e X.env) :: starEach [f] X.env := by rfl) (hs2 : starEach [f] X.env = (false, eval f X.env) :: starEach [] X.env := by rfl) (hpl : (backTo pos (starEach [f] X.env)).any (·.1) = false := by rfl) :
    DI X (.Tuple elts kk tpos) (.Call (.Name "zip" p) [e, f] [] pos) (wZip a b) (c + d) := by
  refine ⟨fun ρ Q Q' k q => h.mono ρ _ _ (fun x q => h2.mono ρ _ _ (fun y q => ?_) q) q, pi_imp (pi_zipA hg hm (pa_fr (pa_cons h.run (pa_cons h2.run pa_nil hs2) hs)) hs hpl) fun σ H R ⟨ρ, S, l, r, q⟩ => ?_⟩
  · revert q
    dsimp only
    split
    · exact k _
    · exact k _
    · exact id
  · refine ⟨S, l, ?_⟩
    refine tD_then h.mono r.l q fun x v H1 q1 e1 z1 => ?_
    refine tD_then h2.mono (r.go e1) q1 fun y u H2 q2 e2 z2 no => ?_
    have z3 := Ra.mono e2 z1
    have up := same_no no (H := H)
    have e3 := sm_rest l (e1.trans e2) no
    revert q2
    split
    · intro q2
      cases z3 with
      | lst s1 d1 =>
        cases z2 with
        | lst s2 d2 => exact ⟨_, _, _, _, rfl, .inl ⟨Same.sqL up s1, Same.sqL up s2, q2 _ _ e3 (by rw [hid_rest no]; exact itz_ok s1 d1 s2 d2)⟩⟩
    · intro q2
      cases z3 with
      | tup s1 d1 =>
        cases z2 with
        | tup s2 d2 => exact ⟨_, _, _, _, rfl, .inr ⟨Same.sqT up s1, Same.sqT up s2, q2 _ _ e3 (by rw [hid_rest no]; exact itzT_ok s1 d1 s2 d2)⟩⟩
    · exact False.elim
/-! ### enumerate of a list, a tuple -/
def enumD (ds : List PyData) : List PyData := ds.mapIdx fun i d => .tuple [.int (i : Nat), d]
theorem ite_ok {K : Fg} {a : Addr} {ds : List PyData} {Hs : Hp} {vs : List V} (s1 : SqL K Hs a vs) (d1 : DpAll K Hs vs ds) : ItOk K (Ite K a) (enumD ds) Hs := fun H S l e => by
  have t1 : SqL K H a vs := Same.sqL (e.trans (hid_le H S)) s1
  refine ⟨fun i x hx => ?_, ⟨vs, t1, ?_⟩⟩
  · unfold enumD at hx
    rw [List.getElem?_mapIdx, Option.map_eq_some_iff] at hx
    obtain ⟨p, hp, rfl⟩ := hx
    obtain ⟨v, hv, zv⟩ := DpAll.get d1 hp
    refine ⟨⟨vs, v, t1, hv⟩, fun y H' hy => ?_⟩
    obtain ⟨T, x1, rfl, hT, rfl, f1⟩ := hy
    have e1 := f1 vs t1
    rw [hv] at e1; cases e1
    have hTS : T ∉ S := fun z => by obtain ⟨ws, q⟩ := l T z; rw [hT] at q; cases q
    exact ⟨fun _ _ => Sm.new hT, .tup (.inl (.inl (by rw [hid_out hTS]; exact upd_same))) (.cons (.int _) (.cons (Dp.mono (e.trans (hid_mono S (same_new hT))) zv) .nil))⟩
  · unfold enumD
    rw [List.length_mapIdx, DpAll.length d1]; exact Nat.le_refl _
def IteT (K : PySem.W.Frag) (a : Addr) : It :=
  ⟨fun i H => ∃ (xs : List V) (x : V), SqT K H a xs ∧ xs[i]? = some x, fun i H v H' => ∃ T x, v = .ref T ∧ H T = none ∧ H' = upd H T (.tup [.int (i : Nat), x]) ∧ ∀ xs, SqT K H a xs → xs[i]? = some x, fun i H => ∃ xs : List V, SqT K H a xs ∧ xs.length ≤ i⟩
theorem iteT_ok {K : Fg} {a : Addr} {ds : List PyData} {Hs : Hp} {vs : List V} (s1 : SqT K Hs a vs) (d1 : DpAll K Hs vs ds) : ItOk K (IteT K a) (enumD ds) Hs := fun H S l e => by
  have t1 : SqT K H a vs := Same.sqT (e.trans (hid_le H S)) s1
  refine ⟨fun i x hx => ?_, ⟨vs, t1, ?_⟩⟩
  · unfold enumD at hx
    rw [List.getElem?_mapIdx, Option.map_eq_some_iff] at hx
    obtain ⟨p, hp, rfl⟩ := hx
    obtain ⟨v, hv, zv⟩ := DpAll.get d1 hp
    refine ⟨⟨vs, v, t1, hv⟩, fun y H' hy => ?_⟩
    obtain ⟨T, x1, rfl, hT, rfl, f1⟩ := hy
    have e1 := f1 vs t1
    rw [hv] at e1; cases e1
    have hTS : T ∉ S := fun z => by obtain ⟨ws, q⟩ := l T z; rw [hT] at q; cases q
    exact ⟨fun _ _ => Sm.new hT, .tup (.inl (.inl (by rw [hid_out hTS]; exact upd_same))) (.cons (.int _) (.cons (Dp.mono (e.trans (hid_mono S (same_new hT))) zv) .nil))⟩
  · unfold enumD
    rw [List.length_mapIdx, DpAll.length d1]; exact Nat.le_refl _
end
end DW
set_option Elab.async false
set_option linter.all false
set_option maxRecDepth 100000
set_option maxHeartbeats 1000000
/-! DwSeq: t[::-1], t * k, xs * k, range downwards, enumerate of tuples. -/
namespace DW
open PySem PySem.Spec PyProof.Rows L2 RZ
section
variable {prog : Program} {w : World} {A : Around} {E : Value → Shared → Prop} {s : Shared}
theorem places_rev (n : Nat) : Builtin.Slice.slicePlaces ((n : Int) - 1) (-1) (-1) = n := by
  unfold Builtin.Slice.slicePlaces
  have h1 : ¬ ((-1 : Int) > 0) := by omega
  rw [if_neg h1]
  by_cases h : (n : Int) - 1 > -1
  · rw [if_pos h]
    have : (n : Int) - 1 - -1 - 1 = (n : Int) - 1 := by omega
    rw [this, show -(-1 : Int) = 1 from rfl, Int.ediv_one]; omega
  · rw [if_neg h]; omega
theorem sliceApplied_rev {sl : Addr} {vs : Value} {n : Nat} {Q : Int × Int × Nat → Shared → Prop} (hs : s.heap.IsSliceOf sl .none .none vs) (ps : IsPart vs (some (-1)))
    (h : Q ((n : Int) - 1, -1, n) s) : wpAny (model prog w) A (Builtin.Slice.sliceApplied (.ref sl) (pure (n : Int))) Q E s := by
  obtain ⟨os, hos, hcs, hds⟩ := id hs
  unfold Builtin.Slice.sliceApplied Builtin.Slice.sliceFields
  refine wpAny_bind (wpAny_bind (wpAny_field hos hds (x := .none) rfl (wpAny_bind (wpAny_field hos hds (x := .none) rfl (wpAny_bind (wpAny_field hos hds (x := vs) rfl (wpAny_pure ?_)))))))
  refine wpAny_bind (HT.slicePart_ ps ?_)
  show wpAny _ _ (if ((-1 : Int) == 0) = true then _ else _) _ _ s
  rw [if_neg (by decide)]
  refine wpAny_bind (slicePart_none (wpAny_bind (slicePart_none (wpAny_bind (wpAny_pure ?_)))))
  show wpAny _ _ (pure ((n : Int) - 1, (-1 : Int), Builtin.Slice.slicePlaces ((n : Int) - 1) (-1) (-1))) _ _ s
  rw [places_rev]
  exact wpAny_pure h
theorem pick_rev (xs : Array Value) : ((List.range xs.size).filterMap fun (m : Nat) => xs[(((xs.size : Nat) : Int) - 1 + (m : Int) * -1).toNat]?).toArray = xs.toList.reverse.toArray := by
  have h := PySem.W.krv_all xs
  have e : (List.range xs.size).filterMap (fun (m : Nat) => xs[(((xs.size : Nat) : Int) - 1 + (m : Int) * -1).toNat]?) = ((List.range xs.size).map fun k => xs.size - 1 - k).filterMap (xs[·]?) := by
    rw [List.filterMap_map]
    refine congrArg (fun f => List.filterMap f (List.range xs.size)) (funext fun m => ?_)
    have : (((xs.size : Nat) : Int) - 1 + (m : Int) * -1).toNat = xs.size - 1 - m := by omega
    show xs[_]? = xs[_]?
    rw [this]
  rw [e, PySem.W.krv_range, List.filterMap_reverse, h]
theorem getItem_tuple_rev {t sl : Addr} {items : Array Value} {vs : Value} {Q : Value → Shared → Prop} (ht : IsTup s.heap t items) (hs : s.heap.IsSliceOf sl .none .none vs) (ps : IsPart vs (some (-1)))
    (h : Q (.ref s.heap.objs.size) { s with heap := s.heap.push { cls := .type "tuple", data := .seq items.toList.reverse.toArray } })
    (hsz : items.size ≤ sizeLine) : wpAny (model prog w) A (getItem (.ref t) (.ref sl)) Q E s := by
  have htake : sizeOk (.seq items.toList.reverse.toArray) := by
    show items.toList.reverse.toArray.size ≤ sizeLine
    rw [List.size_toArray, List.length_reverse, Array.length_toList]; exact hsz
  obtain ⟨os, hos, hcs, hds⟩ := id hs
  have hTs : s.TypeIs (.ref sl) "slice" := ⟨os, hos, hcs⟩
  unfold getItem
  try with_reducible refine wpAny_holding ?_
  first | refine wpAny_bind (wpAny_pure ?_) | skip
  refine wpAny_bind (wpAny_sequenceKey ht.typeIs (by decide) ?_)
  refine wpAny_bind (wpAny_callSpecial?_slot (name := Str.ofString "__getitem__") ht.typeIs PyProof.Rows.slot_tuple_getitem
    (wpAny_call_entry PyProof.Rows.slot_tuple_getitem ht.typeIs entry_tuple_getitem ?_ (args_tuple_getitem _ _)))
  show wpAny _ _ (Builtin.Tuple.tupleItemsOf (.ref t) >>= _) _ _ s
  refine wpAny_bind (tupleItemsOf_ ht ?_)
  refine wpAny_bind (wpAny_typeOf hTs ?_)
  rw [if_pos (by decide)]
  refine wpAny_bind (sliceApplied_rev hs ps ?_)
  have hno : ¬ (((((items.size : Nat) : Int) - 1) == 0 && (-1 : Int) == 1 && items.size == items.size) = true) := by simp
  show wpAny _ _ (if ((((items.size : Nat) : Int) - 1) == 0 && (-1 : Int) == 1 && items.size == items.size) = true then _ else _) _ _ s
  rw [if_neg hno, pick_rev]
  first
    | exact wpAny_bind (m := Builtin.Tuple.tupleExact _) (wpAny_newObj_type (wpAny_pure ⟨_, rfl, wpAny_pure h⟩) htake)
    | exact wpAny_bind (m := Builtin.Tuple.tupleExact _) (wpAny_newObj_type (wpAny_bind (wpAny_pure (wpAny_pure ⟨_, rfl, wpAny_pure h⟩))) htake)
    | exact wpAny_bind (wpAny_bind (m := Builtin.Tuple.tupleExact _) (wpAny_newObj_type (wpAny_pure (wpAny_pure ⟨_, rfl, wpAny_pure h⟩)) htake))
    | exact wpAny_bind (wpAny_bind (m := Builtin.Tuple.tupleExact _) (wpAny_newObj_type (wpAny_pure ⟨_, rfl, wpAny_pure h⟩) htake))
end
section
variable {X : Cx}
def tRevT (K : Fg) (te : TE) : TE := fun σ H Q => te σ H fun x H1 => ∃ a xs, x = .ref a ∧ SqT K H1 a xs ∧ ∀ p, H1 p = none → Q (.ref p) (upd H1 p (.tup xs.reverse))
theorem pe_revT {e : Expr} {te : TE} {k : Nat} {p1 p2 p3 pos : Pos} (he : PE X e te) : PE X (.Subscript e (.Slice none none (some (.UnaryOp .USub (.Constant (.int 1) k p1) p2)) p3) pos) (tRevT X.K te) := by
  refine ⟨fun pins s σ H Q I h => ?_⟩
  refine Subscript_ (thn (he.run pins s σ H _ I h) fun v s1 ⟨x, H1, I1, r1, q1⟩ => ?_)
  obtain ⟨a, xs, ex, hx, q⟩ := q1
  subst ex
  cases r1
  have hst : PO X (some (.UnaryOp .USub (.Constant (.int 1) k p1) p2)) (tPart (tUn (rU fun i => .int (-i)) (tC (.int 1)))) := po_some (pe_un un_neg pe_int)
  refine wpAny_Slice (thn (po_none.run pins s1 σ H1 (fun o H2 => o = none ∧ H2 = H1) I1 ⟨rfl, rfl⟩) fun vl s2 ⟨l, H2, I2, pl, el, e2⟩ => ?_)
  subst el e2
  refine thn (po_none.run pins s2 σ H2 (fun o H3 => o = none ∧ H3 = H2) I2 ⟨rfl, rfl⟩) fun vu s3 ⟨u, H3, I3, pu, eu, e3⟩ => ?_
  subst eu e3
  refine thn (hst.run pins s3 σ H3 (fun o H4 => o = some (-1) ∧ H4 = H3) I3 ⟨1, rfl, -1, rfl, rfl, rfl⟩) fun vs s4 ⟨o, H4, I4, ps, eo, e4⟩ => ?_
  subst eo e4
  cases pl
  cases pu
  have I5 : Inv X pins σ H4 { s4 with heap := s4.heap.push { cls := .type "slice", data := .fields #[.none, .none, vs] } } := I4.kept (t' := s4.toks) fun b ob q => Heap.get?_push_of_some _ q
  obtain ⟨its, r, ht, hz⟩ := I5.tuple hx
  have hlen := r.length
  show wpAny (model X.prog X.w) X.A (subscriptTail e (.Slice none none (some (.UnaryOp .USub (.Constant (.int 1) k p1) p2)) p3) (.ref a) (.ref s4.heap.objs.size)) (EP X pins σ Q) X.xe { s4 with heap := s4.heap.push { cls := .type "slice", data := .fields #[.none, .none, vs] } }
  refine tail_any (ops := [.ref a, .ref s4.heap.objs.size]) ht.typeIs (PyProof.Rows.slot_tuple_getitem.lookup) ?_ (by with_unfolding_all rfl)
  refine getItem_tuple_rev ht (Heap.IsSliceOf.new _ .none .none vs) ps ?_ (by rw [List.size_toArray]; omega)
  refine ⟨.ref _, _, I5.laid (t' := s4.toks) (o := .tup xs.reverse) (fun b ob q => Heap.get?_push_of_some _ q) (Nat.le_refl _) ?_, rfl, q _ (I5.hok.fresh (Nat.le_refl _))⟩
  exact ⟨by rw [List.length_reverse]; exact hz, _, r.reverse, IsTup.new _ _⟩
def wRevT (a : WE) : WE := fun ρ Q => a ρ fun x => match x with
  | .d (.tuple ds) => Q (.d (.tuple ds.reverse))
  | _ => False
theorem de_revT {e : Expr} {a : WE} {k : Nat} {p1 p2 p3 pos : Pos} (h : DE X e a c) : DE X (.Subscript e (.Slice none none (some (.UnaryOp .USub (.Constant (.int 1) k p1) p2)) p3) pos) (wRevT a) c := by
  refine ⟨fun ρ Q Q' k q => h.mono ρ _ _ (fun x q => ?_) q, pe_imp (pe_revT h.run) fun σ H Q ⟨ρ, r, q⟩ => ?_⟩
  · revert q
    split
    · exact k _
    · exact id
  · refine tD_then h.mono r q fun x v H1 q1 e1 z1 => ?_
    revert q1
    split
    · intro q1
      cases z1 with
      | tup s d => exact ⟨_, _, rfl, s, fun p hp => q1 _ _ (e1.trans (Sm.new hp)) (.tup (.inl (.inl upd_same)) (DpAll.mono (same_new hp) (DpAll.rev d)))⟩
    · exact False.elim
/-! t * k, k = 0, 1 -/
end
theorem tuple_mul0 (l : Addr) (items : Array Value) (n : Nat) (dd : Option Addr) (sl : Array (Option Value)) (u : Tok) (c1 : items.isEmpty = false) :
    Meets (Builtin.«tuple.__mul__» ⟨[.ref l, .int 0 u], []⟩) (fun _ R s => s.heap.get? l = some { cls := .type "tuple", dict := dd, data := .seq items n, slots := sl } ∧
      R (.ok (.ret (Value.ref s.heap.objs.size))) { s with heap := s.heap.push { cls := Value.type "tuple", data := Data.seq #[] }, toks := s.toks }) :=
  .of_wp fun prog w A R s h => by
    obtain ⟨hp, g, d, tk, os⟩ := s
    obtain ⟨hl, h⟩ := h
    have f1 := AutoSeq1.idx_int
    wp_walk using wpAny_loadPart' hl
    repeat (first
      | (refine wpAny_ite_false (decide_eq_false (by rw [c1]; exact Bool.false_ne_true)) ?_; wp_walk using wpAny_loadPart' hl)
      | (refine wpAny_ite_true (decide_eq_true (by rfl)) ?_; wp_walk using wpAny_loadPart' hl))
    exact ⟨_, rfl, h⟩
theorem tuple_mul1 (l : Addr) (items : Array Value) (n : Nat) (dd : Option Addr) (sl : Array (Option Value)) (u : Tok) :
    Meets (Builtin.«tuple.__mul__» ⟨[.ref l, .int 1 u], []⟩) (fun _ R s => s.heap.get? l = some { cls := .type "tuple", dict := dd, data := .seq items n, slots := sl } ∧
      R (.ok (.ret (Value.ref l))) s) :=
  .of_wp fun prog w A R s h => by
    obtain ⟨hp, g, d, tk, os⟩ := s
    obtain ⟨hl, h⟩ := h
    have f1 := AutoSeq1.idx_int
    have c1 : (items.isEmpty || (1 : Int) == 1) = true := by simp
    wp_walk using wpAny_loadPart' hl
    repeat (first
      | (refine wpAny_ite_true (decide_eq_true c1) ?_; wp_walk using wpAny_loadPart' hl))
    exact ⟨_, rfl, h⟩
def rRepS (K : Fg) : R2 := fun x y H Q => ∃ l k xs, x = .ref l ∧ y = .int k ∧ SqT K H l xs ∧ xs ≠ [] ∧ ((k = 0 ∧ ∀ p, H p = none → Q (.ref p) (upd H p (.tup []))) ∨ (k = 1 ∧ Q (.ref l) H))
section
variable {X : Cx}
theorem op_repS : OpR X (binaryOp .Mult) (rRepS X.K) := by
  intro pins s σ H x y v u Q I rx ry h
  obtain ⟨l, k, xs, rfl, rfl, hT, hne, hk⟩ := h
  cases rx
  obtain ⟨t, rfl⟩ := ry
  obtain ⟨its, r, ⟨⟨cls, dd, data, sl⟩, ho, hc, n, hd⟩, hs⟩ := I.tuple hT
  simp only at hc hd
  subst hc hd
  have hle : its.length = xs.length := r.length.symm
  have hi : its.toArray.isEmpty = false := by
    cases its with
    | nil => exact absurd (List.eq_nil_of_length_eq_zero (by rw [← hle]; rfl)) hne
    | cons a b => rfl
  rcases hk with ⟨rfl, q⟩ | ⟨rfl, q⟩
  · refine wpAny_binaryOp_repeat_ref (T := "tuple") (U := "int") (by decide) ⟨_, ho, rfl⟩ (fun s' => typeIs_int s' 0 t) noFill_tuple_mul F.fills_int_mul F.slot_int_rmul repeat_tuple F.slot_int_index.lookup
      (call_meets F.slot_int_rmul (typeIs_int s 0 t) F.entry_int_rmul (F.args_int_rmul_2 _ _) (int_rmul_tuple 0 t l its.toArray n dd sl)
        ⟨ho, rfl, ⟨_, ho, rfl⟩, call_meets F.slot_tuple_mul ⟨_, ho, rfl⟩ F.entry_tuple_mul (F.args_tuple_mul_2 _ _) (tuple_mul0 l its.toArray n dd sl t hi) ⟨ho, ?_⟩⟩)
    refine ⟨.ref s.heap.objs.size, _, I.laid (t' := s.toks) (o := .tup []) (fun b ob q => Heap.get?_push_of_some _ q) (Nat.le_refl _) ?_, rfl, q _ (I.hok.fresh (Nat.le_refl _))⟩
    exact ⟨by rw [sizeLine_eq]; decide, _, .nil, IsTup.new _ _⟩
  · refine wpAny_binaryOp_repeat_ref (T := "tuple") (U := "int") (by decide) ⟨_, ho, rfl⟩ (fun s' => typeIs_int s' 1 t) noFill_tuple_mul F.fills_int_mul F.slot_int_rmul repeat_tuple F.slot_int_index.lookup
      (call_meets F.slot_int_rmul (typeIs_int s 1 t) F.entry_int_rmul (F.args_int_rmul_2 _ _) (int_rmul_tuple 1 t l its.toArray n dd sl)
        ⟨ho, rfl, ⟨_, ho, rfl⟩, call_meets F.slot_tuple_mul ⟨_, ho, rfl⟩ F.entry_tuple_mul (F.args_tuple_mul_2 _ _) (tuple_mul1 l its.toArray n dd sl t) ⟨ho, ?_⟩⟩)
    exact ⟨.ref l, H, I, rfl, q⟩
/-- a tuple, not empty, or a list times an int of 0 to 1000 -/
def fRep : FB := fun x y Q => match x, y with
  | .tuple ds, .int k => (ds ≠ [] ∧ 0 ≤ k ∧ k ≤ 1000 ∧ ds.length ≤ 1000) ∧ Q (.tuple (List.replicate k.toNat ds).flatten)
  | _, _ => False
theorem fRep_mono : MonoB fRep := fun x y Q Q' h q => by
  unfold fRep at q ⊢
  split at q
  · exact ⟨q.1, h _ q.2⟩
  · exact q.elim
theorem rb_rep : RB X (fun x y H Q => rRepT X.K x y H Q ∨ rRepS X.K x y H Q) fRep := fun H x y a b Q ra rb q => by
  unfold fRep at q
  split at q
  · rename_i ds k
    obtain ⟨⟨h1, h2, h3, h4⟩, q⟩ := q
    cases ra with
    | tup s d =>
      cases rb
      have hv : _ ≠ [] := fun e => h1 (DpAll.nil_of d |>.mp e)
      by_cases e0 : k = 0
      · subst e0
        exact .inr ⟨_, _, _, rfl, rfl, s, hv, .inl ⟨rfl, fun p hp => q _ _ (Sm.new hp) (.tup (.inl (.inl upd_same)) (by simpa using DpAll.nil))⟩⟩
      · by_cases e1 : k = 1
        · subst e1
          exact .inr ⟨_, _, _, rfl, rfl, s, hv, .inr ⟨rfl, q _ _ (Sm.refl H) (.tup s (by simpa using d))⟩⟩
        · exact .inl ⟨_, _, _, rfl, rfl, s, hv, by omega, h3, by rw [DpAll.length d]; exact h4, fun p hp => q _ _ (Sm.new hp) (.tup (.inl (.inl upd_same)) (DpAll.mono (same_new hp) (DpAll.rep d _)))⟩
  · exact q.elim
theorem de_rep {ea eb : Expr} {a b : WE} {pos : Pos} (ha : DE X ea a c) (hb : DE X eb b d) : DE X (.BinOp ea .Mult eb pos) (wBin fRep a b) (c + d) := de_op (op_repT.or op_repS) rb_rep fRep_mono ha hb
/-- [x, ..] * k: a new list -/
def wNRep (l : WL) (b : WE) : WN := fun ρ Q => l ρ fun xs => match allD xs with
  | some ds => b ρ fun y => match y with
    | .d (.int k) => (0 ≤ k ∧ k ≤ 1000 ∧ ds.length ≤ 1000) ∧ Q (List.replicate k.toNat ds).flatten
    | _ => False
  | none => False
theorem dn_rep {es : List Expr} {l : WL} {eb : Expr} {b : WE} {lpos pos : Pos} (hl : DL X es l c) (hb : DE X eb b d) (hz : es.length ≤ sizeLine := by decide) : DN X (.BinOp (.List es lpos) .Mult eb pos) (wNRep l b) (c + d) := by
  refine ⟨fun ρ Q Q' k q => hl.mono ρ _ _ (fun xs q => ?_) q, pe_imp (pe_op op_rep (pe_lst hl.run) (pe_fr hb.run)) fun σ H Q ⟨ρ, r, q⟩ => ?_⟩
  · revert q
    split
    · refine fun q => hb.mono _ _ _ (fun y q => ?_) q
      revert q
      split
      · exact fun q => ⟨q.1, k _ q.2⟩
      · exact id
    · exact id
  · refine tDL_then hl.mono r.l (hl.len ρ _ q) fun xs vs H1 ⟨hlen, q1⟩ e1 z1 => ?_
    revert q1
    split
    · rename_i ds e
      intro q1
      have d1 : DpAll X.K H1 vs ds := z1.dps e
      refine ⟨by rw [z1.length, hlen]; exact hz, fun p hp => ?_⟩
      have lp : LstS (upd H1 p (.lst vs)) [p] := fun b hb => by rw [List.mem_singleton.mp hb]; exact ⟨_, upd_same⟩
      refine ⟨[p], lp, ?_⟩
      rw [hid_new hp]
      refine tD_then hb.mono (r.go e1) q1 fun y u H2 q2 e2 z2 no => ?_
      revert q2
      split
      · rename_i k
        intro q2
        obtain ⟨⟨h0, h1, h2⟩, q2⟩ := q2
        cases z2
        have hl2 : vs.length = ds.length := DpAll.length d1
        have ep : rest (upd H1 p (.lst vs)) [p] H2 p = some (.lst vs) := by rw [rest_in List.mem_cons_self]; exact upd_same
        refine ⟨p, k, vs, rfl, rfl, ep, by omega, by omega, ?_, fun c' hc => ?_⟩
        · rw [sizeLine_eq, hl2]
          have a1 : ds.length * k.toNat ≤ 1000 * 1000 := Nat.mul_le_mul h2 (by omega)
          omega
        · have s12 : SmX X d H1 (rest (upd H1 p (.lst vs)) [p] H2) := by
            have z := (Sm.new (P := X.prog) (w := X.w) (o := .lst vs) hp).trans (sm_rest lp (by rw [hid_new hp]; exact e2) no)
            exact z.le (by omega)
          refine q2 c' _ _ (e1.trans (s12.trans (Sm.new hc))) ((e1.toSame.trans s12.toSame).free hc) upd_same ?_
          rw [hid_new hc]
          exact DpAll.rep (DpAll.mono s12.toSame d1) _
      · exact False.elim
    · exact False.elim
/-! range(i, j, -1) -/
theorem itc_ok {K : Fg} {lo c : Int} {n : Nat} {Hs : Hp} : ItOk K (Itc lo c n) (rngC lo c n) Hs := fun H S l e => by
  refine ⟨fun i x hx => ?_, ?_⟩
  · unfold rngC at hx
    rw [List.getElem?_map, Option.map_eq_some_iff] at hx
    obtain ⟨j, hj, rfl⟩ := hx
    obtain ⟨h1, h2⟩ := List.getElem?_eq_some_iff.mp hj
    rw [List.length_range] at h1
    rw [List.getElem_range] at h2
    subst h2
    refine ⟨h1, fun y H' hy => ?_⟩
    obtain ⟨e1, e2⟩ := hy
    rw [e1, e2]
    exact ⟨fun _ _ => Sm.refl H, .int _⟩
  · show n ≤ _
    unfold rngC
    rw [List.length_map, List.length_range]; exact Nat.le_refl _
theorem di_rngD {tg e f : Expr} {a b : WE} {p p2 p3 pos : Pos} {k : Nat} (hm : X.mg "range" = none) (h : DE X e a c) (h2 : DE X f b d) (hg : Gl X "range" := by rfl)
    (hs : starEach [e, f, .UnaryOp .USub (.Constant (.int 1) k p2) p3] X.env = (false, eval e X.env) :: starEach [f, .UnaryOp .USub (.Constant (.int 1) k p2) p3] X.env := by rfl) (hs2 : starEach [f, .UnaryOp .USub (.Constant (.int 1) k p2) p3] X.env = (false, eval f X.env) :: starEach [.UnaryOp .USub (.Constant (.int 1) k p2) p3] X.env := by rfl)
    (hs3 : starEach [.UnaryOp .USub (.Constant (.int 1) k p2) p3] X.env = (false, eval (.UnaryOp .USub (.Constant (.int 1) k p2) p3) X.env) :: starEach [] X.env := by rfl) (hpl : (backTo pos (starEach [f, .UnaryOp .USub (.Constant (.int 1) k p2) p3] X.env)).any (·.1) = false := by rfl) : DI X tg (.Call (.Name "range" p) [e, f, .UnaryOp .USub (.Constant (.int 1) k p2) p3] [] pos) (wRngDown a b) (c + d) := by
  refine ⟨fun ρ Q Q' k q => h.mono ρ _ _ (fun x q => h2.mono ρ _ _ (fun y q => ?_) q) q, pi_imp (pi_range3 hg hm (pa_fr (pa_cons h.run (pa_cons h2.run (pa_cons (pe_un un_neg pe_int) pa_nil hs3) hs2) hs)) hs hpl) fun σ H R ⟨ρ, S, l, r, q⟩ => ?_⟩
  · revert q
    dsimp only
    split
    · exact fun q => ⟨q.1, k _ q.2⟩
    · exact id
  · refine ⟨S, l, ?_⟩
    refine tD_then h.mono r.l q fun x v H1 q1 e1 z1 => ?_
    refine tD_then h2.mono (r.go e1) q1 fun y u H2 q2 e2 z2 => ?_
    revert q2
    split
    · intro q2
      cases z1
      cases z2
      obtain ⟨⟨c1, c2, c3, c4⟩, q2⟩ := q2
      exact ⟨1, rfl, fun no => ⟨_, _, _, _, rfl, RgC.neg c1 c2 c3 c4, q2 _ _ (sm_rest l (e1.trans e2) no) itc_ok⟩⟩
    · exact False.elim
end
/-! enumerate of a tuple -/
theorem meets_enumerate_newT (l : Addr) (items : Array Value) (n : Nat) (dct : Option Addr) (sl : Array (Option Value)) :
    Meets (Builtin.«enumerate.__new__» ⟨[.type "enumerate", .ref l], []⟩) (fun _ R s => s.heap.get? l = some { cls := .type "tuple", dict := dct, data := .seq items n, slots := sl } ∧
      R (.ok (.ret (.ref (s.heap.push { cls := .type "tuple_iterator", data := .fields #[.ref l, .int 0 0] }).objs.size)))
        { s with heap := (s.heap.push { cls := .type "tuple_iterator", data := .fields #[.ref l, .int 0 0] }).push { cls := .type "enumerate", data := .fields #[.none, .bool false, .ref s.heap.objs.size, rawInt 0, .none, .none] } }) :=
  .of_wp fun prog w A R s h => by
    obtain ⟨hp, g, d, tk, os⟩ := s; obtain ⟨hl, h⟩ := h
    have hsub := sub_enumerate
    have hL : Heap.IsTuple (Shared.heap ⟨hp, g, d, tk, os⟩) l items := ⟨_, hl, rfl, n, rfl⟩
    wp_walk using AutoSeq1.wpAny_loadPart' hl
    refine wpAny_stack_any fun st => wpAny_pure ?_
    split
    · rename_i c _ _ _ _ _
      cases (c == Value.type "enumerate")
      · wp_walk using AutoSeq1.wpAny_loadPart' hl, wpAny_pyIter_tuple hL
        exact ⟨_, rfl, h⟩
      · wp_walk using AutoSeq1.wpAny_loadPart' hl, wpAny_pyIter_tuple hL
        exact ⟨_, rfl, h⟩
    · wp_walk using AutoSeq1.wpAny_loadPart' hl, wpAny_pyIter_tuple hL
      exact ⟨_, rfl, h⟩
theorem call_enumerate_tuple {prog : Program} {w : World} {A : Around} {E : Value → Shared → Prop} {s : Shared} {l : Addr} {items : Array Value} {Q : Value → Shared → Prop} (hL : s.heap.IsTuple l items)
    (h : ∀ h', IsEnum h' (s.heap.objs.size + 1) s.heap.objs.size 0 .none → h'.IsTupleIter s.heap.objs.size l 0 → h'.objs.size = s.heap.objs.size + 2 →
      (∀ b o, s.heap.get? b = some o → h'.get? b = some o) → Q (.ref (s.heap.objs.size + 1)) { s with heap := h' }) :
    wpAny (model prog w) A (call (.type "enumerate") [.ref l]) Q E s := by
  obtain ⟨⟨c, dct, dt, sl⟩, hl, hc, n, hd⟩ := hL
  replace hc : c = .type "tuple" := hc
  replace hd : dt = .seq items n := hd
  subst hc hd
  refine callType_new F.called_enumerate (by decide) (F.typeCall_enumerate_1 _) (F.newCall_enumerate_1 _) (fun obj => F.args_object_init_2 obj _) F.entry_enumerate_new
    (meets_enumerate_newT l items n dct sl) ⟨hl, ?_⟩
  have hz : (s.heap.push { cls := .type "tuple_iterator", data := .fields #[.ref l, .int 0 0] }).objs.size = s.heap.objs.size + 1 := Heap.size_push ..
  show _ ∧ _
  rw [hz]
  have he : IsEnum ((s.heap.push { cls := .type "tuple_iterator", data := .fields #[.ref l, .int 0 0] }).push
      { cls := .type "enumerate", data := .fields #[.none, .bool false, .ref s.heap.objs.size, rawInt 0, .none, .none] }) (s.heap.objs.size + 1) s.heap.objs.size 0 .none := by
    have := Heap.get?_push_size (s.heap.push { cls := .type "tuple_iterator", data := .fields #[.ref l, .int 0 0] })
      (o := { cls := .type "enumerate", data := .fields #[.none, .bool false, .ref s.heap.objs.size, rawInt 0, .none, .none] }) rfl
    rw [hz] at this; exact this
  refine ⟨⟨_, he, rfl⟩, h _ he ⟨_, Heap.get?_push_of_some _ (Heap.get?_push_size _ rfl), rfl, rfl⟩ (by rw [Heap.size_push, hz]) fun b o x => Heap.get?_push_of_some _ (Heap.get?_push_of_some _ x)⟩
theorem pyNext_enumT_end {prog : Program} {w : World} {A : Around} {E : Value → Shared → Prop} {s : Shared} {e it l : Addr} {i : Nat} {items : Array Value} {old : Value} {Q : Option Value → Shared → Prop} (hh : A.handled = none)
    (he : IsEnum s.heap e it i old) (hit : s.heap.IsTupleIter it l i) (hl : s.heap.IsTuple l items) (hx : items[i]? = none)
    (hQ : ∀ h', Heap.ExtBut it s.heap h' → Q none { s with heap := h' }) : wpAny (model prog w) A (pyNext (.ref e)) Q E s := by
  have hT : s.TypeIs (.ref e) "enumerate" := ⟨_, he, rfl⟩
  unfold pyNext
  refine wpAny_bind (wpAny_attempt (wpAny_callSpecial?_slot (name := Str.ofString "__next__") hT F.slot_enumerate_next
    (wpAny_call_entry F.slot_enumerate_next hT F.entry_enumerate_next ?_ (F.args_enumerate_next_1 _))))
  show wpAny _ _ (field (.ref e) 2 >>= _) _ _ _
  refine wpAny_bind (wpAny_field he rfl (x := .ref it) rfl ?_)
  refine wpAny_bind (wpAny_nextOf_tuple_end hh hit hl hx fun h' x he' hx' => ?_)
  obtain ⟨o, ho, hc⟩ := hx'
  refine wpAny_bind (wpAny_isInstance (T := "StopIteration") (b := true) ⟨o, ho, hc⟩ isSubtype_stop ?_)
  exact wpAny_pure (hQ _ he')
theorem turn_enumT {P : Program} {w : World} {K : PySem.W.Frag} {elts : List Expr} {kk : Nat} {tpos : Pos} (a e it : Addr) :
    Turn P w K (.Tuple elts kk tpos) (IteT K a) [e, it] e (fun i h => (∃ old, IsEnum h e it ((i : Nat) : Int) old) ∧ h.IsTupleIter it a i ∧ e ≠ it) where
  mem := by simp
  obj := fun i h st b hb => by
    obtain ⟨⟨old, he⟩, ⟨o, ho, hc, hd⟩, _⟩ := st
    have e' : b = e ∨ b = it := by simpa using hb
    rcases e' with z | z
    · rw [z]; exact ⟨_, he, fun v q => nomatch q⟩
    · rw [z]; exact ⟨o, ho, fun v q => by rw [hd] at q; cases q⟩
  keep := fun i h h' st k => let ⟨⟨old, he⟩, hi, hne⟩ := st; ⟨⟨old, k e (by simp) _ he⟩, hi.at fun o q => k it (by simp) o q, hne⟩
  item := by
    intro X hP hw hK hc i pins s σ H E I hf st hg
    subst hP hw hK
    obtain ⟨⟨old, he⟩, hit, hne⟩ := st
    obtain ⟨xs, x, hq, hx⟩ := hg
    obtain ⟨its, rv, p, hz⟩ := I.tuple hq
    obtain ⟨u, hu, ru⟩ := rv.get hx
    have hel : e < s.heap.objs.size := Heap.lt_size he
    have hil : it < s.heap.objs.size := by obtain ⟨_, q, _⟩ := hit; exact Heap.lt_size q
    have hu2 : its.toArray[i]? = some u := by simpa using hu
    have hlt : i < its.toArray.size := by
      have := (Array.getElem?_eq_some_iff.mp hu2).1; exact this
    have hai : a ≠ it := fun z => by
      obtain ⟨o, q, c, _⟩ := hit
      obtain ⟨o2, q2, c2, _⟩ := p
      rw [z, q] at q2; cases q2
      rw [c] at c2
      exact absurd c2 (by decide)
    have hea : e ∉ [it, a] := by
      intro z
      have z : e = it ∨ e = a := by simpa using z
      rcases z with z | z
      · exact hne z
      · obtain ⟨o2, q2, c2, _⟩ := p
        rw [← z, he] at q2; cases q2
        have c3 : Value.type "enumerate" = Value.type "tuple" := c2
        exact absurd c3 (by decide)
    refine wpAny_pyNext_enum_itemD (Draws.tuple (A := X.A.in1) (I.ok.hd hc) it a hai its.toArray) he ⟨hit, p⟩ hlt hne hea fun x' h' tk hx' ho st' hT hsz hk => ?_
    have e0 : x' = u := by rw [hu2] at hx'; exact (Option.some.inj hx').symm
    subst e0
    have hit' := st'.1
    refine ⟨_, rfl, wpAny_letOwnedTupleGo_enum (s := { s with heap := h', toks := tk + 1 }) ho fun h'' he' sb => ?_⟩
    have hT2 : h''.get? s.heap.objs.size = some { cls := .type "tuple", data := .seq #[.int i tk, x'] } := (sb.2 _ (Nat.ne_of_gt hel)).trans hT
    have new : ObjOk X.prog X.w (upd H s.heap.objs.size (.tup [.int (i : Nat), x])) h'' s.heap.objs.size (.tup [.int (i : Nat), x]) :=
      ⟨by show 2 ≤ sizeLine; decide, [.int i tk, x'], .cons ⟨_, rfl⟩ (.cons ru .nil), ⟨_, hT2, rfl, _, rfl⟩⟩
    have I1 : Inv X pins σ (upd H s.heap.objs.size (.tup [.int (i : Nat), x])) { s with heap := h'', toks := tk + 1 } :=
      I.turnedNew (ch := [e, it]) (fun b ob hb q => (sb.2 b (fun z => hb (by simp [z]))).trans (hk b ob (fun z => hb (by simp [z])) (fun z => hb (by simp [z])) q)) hf (Nat.le_refl _) new
    refine ⟨.ref s.heap.objs.size, _, I1, rfl, ⟨_, x, rfl, I.hok.fresh (Nat.le_refl _), rfl, fun ys hy => ?_⟩, ⟨⟨x', ?_⟩, hit'.at fun o q => (sb.2 it (Ne.symm hne)).trans q, hne⟩, fun b hb => ?_⟩
    · rw [I.tuple_inj hy hq]; exact hx
    · have e1 : ((i + 1 : Nat) : Int) = (i : Int) + 1 := by omega
      rw [e1]; exact he'
    · have hb' : b < s.heap.objs.size := by
        have e' : b = e ∨ b = it := by simpa using hb
        rcases e' with z | z
        · rw [z]; exact hel
        · rw [z]; exact hil
      rw [upd_ne (Nat.ne_of_lt hb')]
      exact (hf b hb).1
  done := by
    intro X hP hw hK hc i pins s σ H E I hf st hg
    subst hP hw hK
    obtain ⟨⟨old, he⟩, hit, hne⟩ := st
    obtain ⟨xs, hq, hx⟩ := hg
    obtain ⟨its, rv, p, hz⟩ := I.tuple hq
    obtain ⟨f0, f1, f2, f3, f4, f5⟩ := hf it (by simp)
    have hl := rv.length
    exact pyNext_enumT_end (I.ok.hd hc) he hit p (by simp; omega) fun h' eb => ⟨rfl, I.turned (t' := s.toks) (fun b o hb q => eb b o hb q) f0 f1 f3 f4 f5⟩
  self := fun A i s Q E st h => let ⟨⟨_, he⟩, _⟩ := st; wpAny_pyIter_enum he h
section
variable {X : Cx}
def iEnumA (K : Fg) (ta : TA) : TI := fun σ H R => ta σ H fun vs H1 => ∃ a xs, vs = [.ref a] ∧ ((SqL K H1 a xs ∧ R (Ite K a) H1) ∨ (SqT K H1 a xs ∧ R (IteT K a) H1))
theorem pi_enumA {e : Expr} {ta : TA} {p pos tpos : Pos} {elts : List Expr} {kk : Nat} (hg : Gl X "enumerate") (hm : X.mg "enumerate" = none) (ha : PA X [e] ta) (hs : starEach [e] X.env = [(false, eval e X.env)] := by rfl) :
    PI X (.Tuple elts kk tpos) (.Call (.Name "enumerate" p) [e] [] pos) (iEnumA X.K ta) := by
  refine ⟨fun pins s σ H R I h => ?_⟩
  refine Call_ (ld_blt I hg hm boot_enumerate (PyProof.Rows.callWith_type1 (thn (ha.run pos pins s σ H _ I h) fun us s1 ⟨vs, H1, I1, r1, q1⟩ => ?_) hs rfl))
  obtain ⟨a, xs, ex, q⟩ := q1
  subst ex
  cases r1 with
  | cons r rr =>
    cases rr
    cases r
    have fp : ∀ b ∈ [s1.heap.objs.size + 1, s1.heap.objs.size], FpOk X pins H1 b := fun b hb => by
      have e' : b = s1.heap.objs.size + 1 ∨ b = s1.heap.objs.size := by simpa using hb
      have hle : s1.heap.objs.size ≤ b := by
        rcases e' with z | z
        · rw [z]; exact Nat.le_add_right _ _
        · rw [z]; exact Nat.le_refl _
      exact I1.fpOk hle (I1.hok.fresh hle)
    rcases q with ⟨hq, q⟩ | ⟨hq, q⟩
    · obtain ⟨its, rv, p', hz⟩ := I1.list hq
      refine call_enumerate_list p'.isList fun h' he hit hsz hk => wpAny_pyIter_enum he ?_
      have I2 : Inv X pins σ H1 { s1 with heap := h' } := I1.kept (t' := s1.toks) hk
      exact ⟨s1.heap.objs.size + 1, [s1.heap.objs.size + 1, s1.heap.objs.size], _, _, H1, rfl, I2, turn_enum a (s1.heap.objs.size + 1) s1.heap.objs.size, ⟨⟨.none, he⟩, hit, Nat.succ_ne_self _⟩, fp, q⟩
    · obtain ⟨its, rv, p', hz⟩ := I1.tuple hq
      refine call_enumerate_tuple (show s1.heap.IsTuple a its.toArray from p') fun h' he hit hsz hk => wpAny_pyIter_enum he ?_
      have I2 : Inv X pins σ H1 { s1 with heap := h' } := I1.kept (t' := s1.toks) hk
      exact ⟨s1.heap.objs.size + 1, [s1.heap.objs.size + 1, s1.heap.objs.size], _, _, H1, rfl, I2, turn_enumT a (s1.heap.objs.size + 1) s1.heap.objs.size, ⟨⟨.none, he⟩, hit, Nat.succ_ne_self _⟩, fp, q⟩
def wEnum (a : WE) : WI := fun ρ Q => a ρ fun x => match x with
  | .d (.list ds) => Q (enumD ds)
  | .d (.tuple ds) => Q (enumD ds)
  | _ => False
theorem di_enum {e : Expr} {a : WE} {p pos tpos : Pos} {elts : List Expr} {kk : Nat} (hm : X.mg "enumerate" = none) (h : DE X e a c) (hg : Gl X "enumerate" := by rfl) (hs : starEach [e] X.env = [(false, eval e X.env)] := by rfl) : DI X (.Tuple elts kk tpos) (.Call (.Name "enumerate" p) [e] [] pos) (wEnum a) c := by
  refine ⟨fun ρ Q Q' k q => h.mono ρ _ _ (fun x q => ?_) q, pi_imp (pi_enumA hg hm (pa_fr (pa_cons h.run pa_nil hs)) hs) fun σ H R ⟨ρ, S, l, r, q⟩ => ?_⟩
  · revert q
    split
    · exact k _
    · exact k _
    · exact id
  · refine ⟨S, l, ?_⟩
    refine tD_then h.mono r q fun x v H1 q1 e1 z1 => ?_
    revert q1
    split
    · intro q1
      cases z1 with
      | lst s1 d1 => exact fun no => ⟨_, _, rfl, .inl ⟨Same.sqL (same_no no) s1, q1 _ _ (sm_rest l e1 no) (by rw [hid_rest no]; exact ite_ok s1 d1)⟩⟩
    · intro q1
      cases z1 with
      | tup s1 d1 => exact fun no => ⟨_, _, rfl, .inr ⟨Same.sqT (same_no no) s1, q1 _ _ (sm_rest l e1 no) (by rw [hid_rest no]; exact iteT_ok s1 d1)⟩⟩
    · exact False.elim
end
end DW
set_option Elab.async false
set_option linter.all false
set_option maxRecDepth 100000
set_option maxHeartbeats 1000000
/-! DwNest: several names at once; own lists of own lists; comprehensions of two clauses. -/
namespace DW
open PySem PySem.Spec PyProof.Rows L2 RZ
/-! ### a, b, c, .. = e1, e2, e3, .. -/
inductive Chain (P : Program) (w : World) (K : Fg) : Nat → Hp → List Addr → List V → List Sl → Hp → List Addr → Prop
  | nil {H : Hp} {S : List Addr} : LstS H S → Chain P w K 0 H S [] [] H S
  | cons {c d : Nat} {H H1 H2 : Hp} {S S1 S2 : List Addr} {v : V} {vs : List V} {s : Sl} {ss : List Sl} : Ext P w c H S H1 S1 → SlOk P w K H1 S1 v s → FreshV H1 S v s → Chain P w K d H1 S1 vs ss H2 S2 → Chain P w K (c + d) H S (v :: vs) (s :: ss) H2 S2
theorem Chain.ext {P : Program} {w : World} {K : Fg} {n : Nat} {H H2 : Hp} {S S2 : List Addr} {vs : List V} {ss : List Sl} (c : Chain P w K n H S vs ss H2 S2) : Ext P w n H S H2 S2 := by
  induction c with
  | nil l => exact Ext.refl l
  | cons e _ _ _ ih => exact e.trans ih
theorem Chain.length {P : Program} {w : World} {K : Fg} {n : Nat} {H H2 : Hp} {S S2 : List Addr} {vs : List V} {ss : List Sl} (c : Chain P w K n H S vs ss H2 S2) : vs.length = ss.length := by
  induction c with
  | nil l => rfl
  | cons e _ _ _ ih => rw [List.length_cons, List.length_cons, ih]
def setsV (σ : L2.St) : List Nat → List V → L2.St
  | i :: is, v :: vs => setsV (σ.set i (some v)) is vs
  | _, _ => σ
def setsR (ρ : Ro) : List Nat → List Sl → Ro
  | i :: is, s :: ss => setsR (ρ.set i s) is ss
  | _, _ => ρ
theorem setsV_length : ∀ (is : List Nat) (vs : List V) (σ : L2.St), (setsV σ is vs).length = σ.length
  | [], vs, σ => by cases vs <;> rfl
  | i :: is, [], σ => rfl
  | i :: is, v :: vs, σ => by
    show (setsV (σ.set i (some v)) is vs).length = _
    rw [setsV_length is vs, List.length_set]
theorem Rep.chain {P : Program} {w : World} {K : Fg} {n : Nat} {H H2 : Hp} {S S2 : List Addr} {vs : List V} {ss : List Sl} (c : Chain P w K n H S vs ss H2 S2) : ∀ {is : List Nat} {ρ : Ro} {σ : L2.St}, Rep P w K ρ σ H S → is.length = ss.length → (∀ i ∈ is, i < σ.length) → Rep P w K (setsR ρ is ss) (setsV σ is vs) H2 S2 := by
  induction c with
  | nil l => intro is ρ σ r hl _; cases is with
    | nil => exact r
    | cons _ _ => cases hl
  | cons e ok fr _ ih =>
    intro is ρ σ r hl hi
    cases is with
    | nil => cases hl
    | cons i is =>
      refine ih (r.setF e (hi i List.mem_cons_self) ok fr) (by simpa using hl) fun j hj => ?_
      rw [List.length_set]; exact hi j (List.mem_cons_of_mem _ hj)
abbrev WCs := Ro → (List Sl → Prop) → Prop
def tDCs (X : Cx) (w : WCs) (c : Nat) : TA := fun σ H Q => ∃ ρ S, Rep X.prog X.w X.K ρ σ H S ∧ Bud X.prog X.w (hid H S) c ∧ w ρ fun ss => ∀ vs H' S', Chain X.prog X.w X.K c H S vs ss H' S' → Q vs H'
structure DCs (X : Cx) (es : List Expr) (w : WCs) (c : Nat) : Prop where
  mono : ∀ ρ (Q Q' : List Sl → Prop), (∀ x, Q x → Q' x) → w ρ Q → w ρ Q'
  len : ∀ ρ Q, w ρ Q → w ρ fun ss => ss.length = es.length ∧ Q ss
  run : PA X es (tDCs X w c)
section
variable {X : Cx} {pos : Pos}
def cNil : WCs := fun _ Q => Q []
def cCons (c : WC) (d : WCs) : WCs := fun ρ Q => c ρ fun s => d ρ fun ss => Q (s :: ss)
theorem dcs_nil : DCs X [] cNil 0 := ⟨fun _ _ _ k q => k _ q, fun _ _ q => ⟨rfl, q⟩, pa_imp pa_nil fun σ H Q ⟨ρ, S, r, _, q⟩ => q [] H S (.nil r.lst)⟩
theorem dcs_cons {e : Expr} {es : List Expr} {a : WC} {b : WCs} (h1 : DC X e a c) (h2 : DCs X es b d) (hs : starEach (e :: es) X.env = (false, eval e X.env) :: starEach es X.env := by rfl) : DCs X (e :: es) (cCons a b) (c + d) := by
  refine ⟨fun ρ Q Q' k q => h1.mono ρ _ _ (fun s q => h2.mono ρ _ _ (fun ss q => k _ q) q) q, fun ρ Q q => h1.mono ρ _ _ (fun s q => h2.mono ρ _ _ (fun ss q => ⟨by rw [List.length_cons, List.length_cons, q.1], q.2⟩) (h2.len ρ _ q)) q, ?_⟩
  refine pa_imp (pa_cons h1.run h2.run hs) fun σ H Q ⟨ρ, S, r, b, q⟩ => ?_
  refine ⟨ρ, S, r, b.le (Nat.le_add_right _ _), h1.mono ρ _ _ (fun s q v H1 S1 e1 z1 f1 => ?_) q⟩
  exact ⟨ρ, S1, r.ext e1, b.after (Nat.le_refl _) e1.hids, h2.mono ρ _ _ (fun ss q vs H2 S2 c2 => q (v :: vs) H2 S2 (.cons e1 z1 f1 c2)) q⟩
structure DNms (X : Cx) (ts : List Expr) (is : List Nat) : Prop where
  lt : ∀ i ∈ is, i < X.N.length
  len : is.length = ts.length
  run : PGs X ts (fun vs σ H Q => vs.length = is.length ∧ Q (setsV σ is vs) H)
theorem dnm_nil : DNms X [] [] := ⟨(fun _ z => nomatch z), rfl, pgs_imp pgs_nil fun vs σ H Q ⟨l, q⟩ => by
  cases vs with
  | nil => exact ⟨rfl, q⟩
  | cons _ _ => cases l⟩
theorem dnm_cons (i : Nat) {x : Str} {ts : List Expr} {is : List Nat} (hN : X.N.Nodup) (h : DNms X ts is) (hi : X.N[i]? = some x := by rfl) (hx : Loc X.env.scope x := by first | exact Or.inl rfl | exact Or.inr rfl) (hf : X.fn x = true ∨ X.env.scope.names.lookup x = some .local := by first | exact .inl rfl | exact .inr rfl | assumption)
    (hs : (assignEach (.Name x pos :: ts) X.env).map (·.2) = assign (.Name x pos) X.env :: (assignEach ts X.env).map (·.2) := by rfl) : DNms X (.Name x pos :: ts) (i :: is) := by
  refine ⟨fun j hj => ?_, by rw [List.length_cons, List.length_cons, h.len], pgs_imp (pgs_cons (pg_name hN hi hx hf) h.run hs) fun vs σ H Q ⟨l, q⟩ => ?_⟩
  · rcases List.mem_cons.mp hj with rfl | hj
    · exact (List.getElem?_eq_some_iff.mp hi).1
    · exact h.lt j hj
  · cases vs with
    | nil => cases l
    | cons v vs => exact ⟨v, vs, rfl, by simpa using l, q⟩
def wParN (is : List Nat) (c : WCs) : WS := fun ρ E => c ρ fun ss => E.nx (setsR ρ is ss)
theorem ds_parN {ts es : List Expr} {is : List Nat} {a : WCs} {kt k2 : Nat} {pt pt2 : Pos} (ha : DCs X es a c) (hg : DNms X ts is) (hl : es.length = ts.length := by rfl) (hz : es.length ≤ sizeLine := by decide) (hn : (assignEach ts X.env).length = ts.length := by rfl) (hst : (assignEach ts X.env).findIdx? (·.1) = none := by rfl)
    (hc : X.calm = true := by rfl) (hs : swapsWithSole [.Tuple ts kt pt] (.Tuple es k2 pt2) pos.line X.env = pure false := by rfl) (hw : swappedStores [.Tuple ts kt pt] (.Tuple es k2 pt2) X.env = pure none := by rfl) (h1 : (assignEach [.Tuple ts kt pt] X.env).map (·.2) = [assign (.Tuple ts kt pt) X.env] := by rfl) :
    DS X (.Assign [.Tuple ts kt pt] (.Tuple es k2 pt2) pos) (wParN is a) c := by
  refine ⟨ps_impI (ps_asg (pe_tup ha.run) (pg_tup hc hg.run hn hst) hs hw h1) fun pins s0 σ H D I ⟨H0, k, n, ρ, S, E, g, ok, q⟩ => ?_⟩
  have r := g.rep
  refine ⟨ρ, S, r, g.b, ha.mono ρ _ _ (fun ss ⟨hls, q⟩ vs H' S' ch => ?_) (ha.len ρ _ q)⟩
  have hvs : vs.length = es.length := by rw [ch.length, hls]
  refine ⟨by rw [hvs]; exact hz, fun p hp => ⟨p, vs, rfl, .inl (.inl upd_same), by rw [hvs]; exact hl, by rw [hvs, hl, hg.len], ?_⟩⟩
  have r2 := r.chain ch (is := is) (by rw [hls, hl]; exact hg.len) (fun i hi => by rw [I.len]; exact hg.lt i hi)
  have e2 : ExtX X 0 H' S' (upd H' p (.tup vs)) S' := Ext.grow r2.lst (Sm.new (o := .tup vs) hp)
  exact ok.nx _ _ _ _ q (r2.ext e2) (g.fin (ch.ext.trans e2)) (by rw [setsV_length]; exact I.len)
end
/-! ### x[k][l] = e -/
theorem Rows.mem {K : Fg} {H : Hp} {S : List Addr} {xss : List (List PyData)} : ∀ {bs : List Addr} {b : Addr}, Rows K H S bs xss → b ∈ bs → ∃ us, H b = some (.lst us) := by
  induction xss with
  | nil => intro bs b r h; cases r; cases h
  | cons _ _ ih => intro bs b r h; cases r with
    | cons e d r => rcases List.mem_cons.mp h with rfl | h
                    · exact ⟨_, e⟩
                    · exact ih r h
theorem Rows.set {K : Fg} {H : Hp} {S : List Addr} {b : Addr} {us : List V} {ys : List PyData} (hb : b ∈ S) (d : DpAll K (hid H S) us ys) : ∀ {xss : List (List PyData)} {bs : List Addr} {j : Nat}, bs.Nodup → bs[j]? = some b → Rows K H S bs xss → Rows K (upd H b (.lst us)) S bs (xss.set j ys)
  | [], _, j, _, e, .nil => by cases e
  | xs :: xss, c :: bs, j, nd, e, .cons h d1 r => by
    have hh : hid (upd H b (.lst us)) S = hid H S := hid_upd_in hb
    have nd2 := List.nodup_cons.mp nd
    cases j with
    | zero =>
      have e : c = b := by simpa using e
      subst e
      refine .cons upd_same (by rw [hh]; exact d) (Rows.to (by rw [hh]; exact Same.refl _) (fun z hz o q => ?_) r)
      rw [upd_ne (fun y => nd2.1 (by rw [← y]; exact hz))]; exact q
    | succ j =>
      have e : bs[j]? = some b := by simpa using e
      have hm : b ∈ bs := List.mem_of_getElem? e
      refine .cons (by rw [upd_ne (fun y => nd2.1 (by rw [y]; exact hm))]; exact h) (by rw [hh]; exact d1) (Rows.set hb d nd2.2 e r)
theorem Rep.upd2 {P : Program} {w : World} {K : Fg} {ρ : Ro} {σ : L2.St} {H : Hp} {S : List Addr} (r : Rep P w K ρ σ H S) {i j : Nat} {xss : List (List PyData)} {ds : List PyData} {a b : Addr} {bs : List Addr} {us : List V} (e : ρ[i]? = some (.ow2 xss)) (ea : σ[i]? = some (some (.ref a))) (eb : H a = some (.lst (bs.map V.ref))) (ej : bs[j]? = some b) (d : DpAll K (hid H S) us ds) :
    Rep P w K (ρ.set i (.ow2 (xss.set j ds))) σ (L2.upd H b (.lst us)) S ∧ b ∈ S := by
  obtain ⟨a', bs', e1, m, nd, e2, rows⟩ := r.ow2 i xss e
  rw [ea] at e1; cases e1
  rw [eb] at e2; cases mapRef (by simpa using e2)
  have hbm : b ∈ bs := List.mem_of_getElem? ej
  have hb : b ∈ S := m b (List.mem_cons_of_mem _ hbm)
  have nd2 := List.nodup_cons.mp nd
  have hab : a ≠ b := fun z => nd2.1 (by rw [z]; exact hbm)
  have hh : hid (L2.upd H b (.lst us)) S = hid H S := hid_upd_in hb
  have na : ∀ j t u B, ρ[j]? = some t → σ[j]? = some (some u) → OwnAd H u t B → i ≠ j → b ∉ B := fun j t u B e1 e2 o n => r.sep i j _ t _ u (a :: bs) B e e1 ea e2 ⟨a, bs, rfl, eb, rfl⟩ o n b (List.mem_cons_of_mem _ hbm)
  have bk : ∀ j t u B, ρ[j]? = some t → σ[j]? = some (some u) → OwnAd (L2.upd H b (.lst us)) u t B → i ≠ j → OwnAd H u t B := fun j t u B e1 e2 o n => by
    cases t with
    | no => exact o
    | ar x => exact o
    | ow xs => exact o
    | ow2 yss =>
      obtain ⟨c, cs, rfl, h, rfl⟩ := o
      obtain ⟨c', cs', f1, m, nd, f2, f3⟩ := r.ow2 j yss e1
      rw [e2] at f1; cases f1
      have hcb : b ∉ c :: cs' := na j _ _ _ e1 e2 ⟨c, cs', rfl, f2, rfl⟩ n
      rw [upd_ne (fun z => hcb (by rw [z]; exact List.mem_cons_self))] at h
      exact ⟨c, cs, rfl, h, rfl⟩
  have eb' : L2.upd H b (.lst us) a = some (.lst (bs.map V.ref)) := by rw [upd_ne hab]; exact eb
  refine ⟨⟨fun j x q => ?_, fun j ys q => ?_, fun j yss q => ?_, fun j k s t v u A B q1 q2 q3 q4 o1 o2 n => ?_, fun c hc => ?_⟩, hb⟩
  · rw [hh]
    rcases getSet q with ⟨_, h⟩ | ⟨_, q⟩
    · cases h
    · exact r.ar j x q
  · rw [hh]
    rcases getSet q with ⟨_, h⟩ | ⟨n, q⟩
    · cases h
    · obtain ⟨c, vs, f1, f2, f3, f4⟩ := r.ow j ys q
      have : b ∉ [c] := na j _ _ _ q f1 ⟨c, rfl, rfl⟩ n
      exact ⟨c, vs, f1, f2, by rw [upd_ne (fun z => this (by rw [z]; exact List.mem_cons_self))]; exact f3, f4⟩
  · rcases getSet q with ⟨rfl, h⟩ | ⟨n, q⟩
    · cases h
      exact ⟨a, bs, ea, m, nd, eb', Rows.set hb d nd2.2 ej rows⟩
    · obtain ⟨c, cs, f1, f2, ndc, f3, f4⟩ := r.ow2 j yss q
      have hcb : b ∉ c :: cs := na j _ _ _ q f1 ⟨c, cs, rfl, f3, rfl⟩ n
      refine ⟨c, cs, f1, f2, ndc, ?_, Rows.to (by rw [hh]; exact Same.refl _) (fun z hz o y => ?_) f4⟩
      · rw [upd_ne (fun z => hcb (by rw [z]; exact List.mem_cons_self))]; exact f3
      · rw [upd_ne (fun z => hcb (by rw [← z]; exact List.mem_cons_of_mem _ hz))]; exact y
  · have own : ∀ (zss : List (List PyData)) (v : V) (A : List Addr), σ[i]? = some (some v) → OwnAd (L2.upd H b (.lst us)) v (.ow2 zss) A → OwnAd H v (.ow2 xss) A := fun zss v A q o => by
      obtain ⟨c, cs, rfl, h, rfl⟩ := o
      rw [ea] at q; cases q
      rw [eb'] at h; cases mapRef (by simpa using h)
      exact ⟨a, bs, rfl, eb, rfl⟩
    rcases getSet q1 with ⟨rfl, h1⟩ | ⟨n1, p1⟩
    · rcases getSet q2 with ⟨rfl, h2⟩ | ⟨n2, p2⟩
      · exact absurd rfl n
      · subst h1
        exact r.sep i k _ t v u A B e p2 q3 q4 (own _ v A q3 o1) (bk k t u B p2 q4 o2 n2) n
    · rcases getSet q2 with ⟨rfl, h2⟩ | ⟨n2, p2⟩
      · subst h2
        exact r.sep j i s _ v u A B p1 e q3 q4 (bk j s v A p1 q3 o1 n1) (own _ u B q4 o2) n
      · exact r.sep j k s t v u A B p1 p2 q3 q4 (bk j s v A p1 q3 o1 n1) (bk k t u B p2 q4 o2 n2) n
  · by_cases z : c = b
    · rw [z]; exact ⟨us, upd_same⟩
    · obtain ⟨ws, q⟩ := r.lst c hc
      exact ⟨ws, by rw [upd_ne z]; exact q⟩
section
variable {X : Cx} {pos : Pos}
def wSetIx2 (i : Nat) (c : WC) (k l : WE) : WS := fun ρ E => c ρ fun s => match s with
  | .ar (.d d) => match ρ[i]? with
    | some (.ow2 xss) => k ρ fun y => match y with
      | .d (.int z) => ∃ (j : Nat) (xs : List PyData), ixN xss.length z = some j ∧ xss[j]? = some xs ∧ l ρ fun y2 => match y2 with
        | .d (.int z2) => ∃ m, ixN xs.length z2 = some m ∧ E.nx (ρ.set i (.ow2 (xss.set j (xs.set m d))))
        | _ => False
      | _ => False
    | _ => False
  | _ => False
theorem ds_setIx2 (i : Nat) {x : Str} {e ek el : Expr} {a : WC} {k l : WE} {p p1 p2 : Pos} (h : DC X e a c) (hk : DE X ek k d) (hl : DE X el l c2) (hN : X.N[i]? = some x := by rfl) (hv : Vis X.env.scope x := by first | exact Or.inl rfl | exact Or.inr (Or.inl rfl) | exact Or.inr (Or.inr rfl)) (hd : (x == ("__debug__" : Str)) = false := by decide) (hcd : (x == ("__classdict__" : Str)) = false := by decide)
    (hs : PlainIx ek := by exact fun _ _ => rfl)
    (hpe : ∀ (to ti te : TE), PE X (.Subscript (.Name x p) ek p1) to → PE X el ti → PE X e te → PS X (.Assign [.Subscript (.Subscript (.Name x p) ek p1) el p2] e pos) (tAsg te (gSub to ti rSetL)) := by
      exact fun to ti te h1 h2 h3 => ps_asg h3 (pg_sub h1 h2 set_list)) :
    DS X (.Assign [.Subscript (.Subscript (.Name x p) ek p1) el p2] e pos) (wSetIx2 i a k l) (c + (d + c2)) := by
  refine ⟨ps_impI (hpe _ _ _ (pe_ix ix_seq (pe_var hN hv hd hcd) hk.run hs) hl.run h.run) fun pins s0 σ H D In ⟨H0, k0, n0, ρ, S, E, g, ok, q⟩ => ?_⟩
  refine ⟨ρ, S, g.rep, g.b.le (Nat.le_add_right _ _), h.mono ρ _ _ (fun x q v H' S' ex z f => ?_) q⟩
  have g' := g.ext ex
  have r' := g'.rep
  revert q
  split
  · split
    · rename_i xss ew
      intro q
      obtain ⟨a, bs, ea, m, nd, e2, rows⟩ := r'.ow2 i xss ew
      refine ⟨_, ea, ?_⟩
      refine tD_then hk.mono g'.repE.l q fun y u H2 q2 e3 z2 => ?_
      revert q2
      split
      · intro q2
        obtain ⟨j, xs, hj, hx, q2⟩ := q2
        cases z2
        have ex2 := Ext.grow r'.lst e3
        have g2 := g'.ext ex2
        have r2 := g2.rep
        obtain ⟨b, us, hb1, hb2, hb3⟩ := Rows.get rows hx
        have e2' := e3.k e2 rfl
        refine .inl ⟨a, bs.map V.ref, _, V.ref b, rfl, rfl, .inl (.inl e2'), ?_, ?_⟩
        · unfold L2.atI
          rw [List.length_map, Rows.length rows, hj]
          show (bs.map V.ref)[j]? = _
          rw [List.getElem?_map, hb1]; rfl
        · refine tD_then hl.mono g2.repE q2 fun y3 u3 H3 q3 e4 z3 => ?_
          revert q3
          split
          · intro q3
            obtain ⟨m3, hm3, q3⟩ := q3
            cases z3
            have ex3 := Ext.grow r2.lst e4
            have r3 := r2.ext ex3
            have d0 : DpAll X.K (hid H3 S') us xs := DpAll.mono (ex2.trans ex3).hids.toSame hb3
            have hb4 : H3 b = some (.lst us) := e4.k (e3.k hb2 rfl) rfl
            refine ⟨b, us, _, m3, rfl, rfl, hb4, by rw [DpAll.length d0]; exact hm3, ?_⟩
            obtain ⟨r4, mb⟩ := r3.upd2 ew ea (e4.k e2' rfl) hb1 (DpAll.set (Dp.mono (ex2.trans ex3).hids.toSame z) m3 d0)
            exact ok.nx _ _ _ S' q3 r4 (sm0_upd mb (g2.fin ex3)) In.len
          · exact False.elim
      · exact False.elim
    · exact False.elim
  · exact False.elim
/-! ### comprehensions of new lists -/
theorem Rows.toL {K : Fg} {H H' : Hp} {S S' : List Addr} (e : Same (hid H S) (hid H' S')) : ∀ {xss : List (List PyData)} {bs : List Addr}, (∀ b ∈ bs, ∀ xs, H b = some (.lst xs) → H' b = some (.lst xs)) → Rows K H S bs xss → Rows K H' S' bs xss
  | [], _, _, .nil => .nil
  | _ :: _, _, k, .cons h d r => .cons (k _ List.mem_cons_self _ h) (DpAll.mono e d) (Rows.toL e (fun b hb => k b (List.mem_cons_of_mem _ hb)) r)
def lcStep2 (ρ : Ro) (vs : List Nat) (tf : TF) (tt : WT) (tn : WN) : PyData → List (List PyData) → (List (List PyData) → Prop) → Prop := fun d acc k => match tf d with
  | some bs => tt (setR (wipeR ρ vs) bs) fun b => match b with
    | true => tn (setR (wipeR ρ vs) bs) fun ys => k (acc ++ [ys])
    | false => k acc
  | none => False
def compW2 (step : PyData → List (List PyData) → (List (List PyData) → Prop) → Prop) : List PyData → List (List PyData) → (List (List PyData) → Prop) → Prop
  | [], acc, Q => Q acc
  | d :: ds, acc, Q => step d acc fun acc' => compW2 step ds acc' Q
def wLcN (wi : WI) (tf : TF) (tt : WT) (tn : WN) (vs : List Nat) : WN2 := fun ρ Q => wi ρ fun ds => ds.length ≤ 100000 ∧ compW2 (lcStep2 ρ vs tf tt tn) ds [] Q
theorem lcStep2_mono {ρ : Ro} {vs : List Nat} {tf : TF} {tt : WT} {tn : WN} (ht : MonoT tt) (he : MonoN tn) (d : PyData) (acc : List (List PyData)) (k k' : List (List PyData) → Prop) (h : ∀ a, k a → k' a) (q : lcStep2 ρ vs tf tt tn d acc k) : lcStep2 ρ vs tf tt tn d acc k' := by
  unfold lcStep2 at q ⊢
  split at q
  · refine ht _ _ _ (fun b q => ?_) q
    cases b with
    | true => exact he _ _ _ (fun y q => h _ q) q
    | false => exact h _ q
  · exact q
theorem compW2_mono {step : PyData → List (List PyData) → (List (List PyData) → Prop) → Prop} (hs : ∀ d acc k k', (∀ a, k a → k' a) → step d acc k → step d acc k') : ∀ ds acc (Q Q' : List (List PyData) → Prop), (∀ a, Q a → Q' a) → compW2 step ds acc Q → compW2 step ds acc Q'
  | [], acc, _, _, h, q => h _ q
  | d :: ds, acc, Q, Q', h, q => hs d acc _ _ (fun a => compW2_mono hs ds a Q Q' h) q
theorem lcN_run {a b d : Nat} {wi : WI} {is : List Nat} {tf : TF} {tt : WT} {tn : WN} {vs : List Nat} (hwi : MonoN wi) (hix : ∀ d bs, tf d = some bs → ∀ b ∈ bs, b.1 ∈ is) (hlt : ∀ i ∈ is, i < X.N.length) (hv : ∀ i ∈ is, i ∈ vs) (htt : MonoT tt) (hte : MonoN tn)
    {σ : L2.St} {H : Hp} {Q : VK} (hσ : σ.length = X.N.length) (h : ∃ ρ, RepX X ρ σ H (a + 100000 * (b + d)) ∧ wLcN wi tf tt tn vs ρ (Nend2 X (a + 100000 * (b + d)) H Q)) : tLc (tDI X wi a) (tDG X.K tf) (tFrT (tDT X tt b)) (tFr (tDN X tn d)) vs σ H Q := by
  obtain ⟨ρ, r, q⟩ := h
  refine ⟨ρ, [], (fun _ z => nomatch z), by rw [hid_nil]; exact r.l, hwi ρ _ _ (fun ds ⟨hlen, q⟩ J H1 e1 ok D hD => ?_) q⟩
  rw [hid_nil] at ok
  have r1 : RepX X ρ σ H1 (100000 * (b + d)) := r.go e1
  refine ⟨fun i m Hc => m = ds.length - i ∧ i ≤ ds.length ∧ ∃ bs acc, Hc D = some (.lst (bs.map V.ref)) ∧ (D :: bs).Nodup ∧ (∀ b ∈ D :: bs, H1 b = none) ∧ Rows X.K Hc (D :: bs) bs acc ∧ SmX X (i * (b + d)) H1 (hid Hc (D :: bs)) ∧ acc.length ≤ i ∧ compW2 (lcStep2 ρ vs tf tt tn) (ds.drop i) acc (Nend2 X (a + 100000 * (b + d)) H Q),
    ⟨ds.length, rfl, Nat.zero_le _, [], [], upd_same, List.nodup_cons.mpr ⟨(fun z => nomatch z), List.nodup_nil⟩, (fun b hb => by rw [List.mem_singleton.mp hb]; exact hD), .nil, by rw [hid_new hD, Nat.zero_mul]; exact Sm.refl _, Nat.le_refl _, q⟩, ?_⟩
  rintro i m Hc ⟨rfl, hi, cs, acc, hDc, nd, fr, rows, e2, hal, qi⟩
  have lD : LstS Hc (D :: cs) := fun a ha => by
    rcases List.mem_cons.mp ha with z | ha
    · rw [z]; exact ⟨_, hDc⟩
    · exact rows.mem ha
  have okc := ok Hc (D :: cs) lD e2.toSame
  by_cases hlt2 : i < ds.length
  · have step : (i + 1) * (b + d) = i * (b + d) + (b + d) := Nat.succ_mul _ _
    have room : i * (b + d) + (b + d) ≤ 100000 * (b + d) := by rw [← step]; exact Nat.mul_le_mul_right _ (by omega)
    obtain ⟨go, yl⟩ := okc.1 i ds[i] (List.getElem?_eq_getElem hlt2)
    refine .inr ⟨go, fun H' => ∃ bs acc, H' D = some (.lst (bs.map V.ref)) ∧ (D :: bs).Nodup ∧ (∀ b ∈ D :: bs, H1 b = none) ∧ Rows X.K H' (D :: bs) bs acc ∧ SmX X ((i + 1) * (b + d)) H1 (hid H' (D :: bs)) ∧ acc.length ≤ i + 1 ∧ compW2 (lcStep2 ρ vs tf tt tn) (ds.drop (i + 1)) acc (Nend2 X (a + 100000 * (b + d)) H Q), fun H' nx => ⟨ds.length - (i + 1), by omega, rfl, hlt2, nx⟩, fun x H' hy => ?_⟩
    obtain ⟨e3, hx⟩ := yl x H' hy
    have e3 : SmX X 0 Hc H' := e3 _ _
    rw [List.drop_eq_getElem_cons hlt2] at qi
    have qi : lcStep2 ρ vs tf tt tn ds[i] acc fun acc' => compW2 (lcStep2 ρ vs tf tt tn) (ds.drop (i + 1)) acc' (Nend2 X (a + 100000 * (b + d)) H Q) := qi
    unfold lcStep2 at qi
    have hD' : H' D = some (.lst (cs.map V.ref)) := e3.k hDc rfl
    have e4 : SmX X 0 (hid Hc (D :: cs)) (hid H' (D :: cs)) := sm_hid lD e3
    have e24 : SmX X (i * (b + d)) H1 (hid H' (D :: cs)) := e2.trans e4
    have rows' : Rows X.K H' (D :: cs) cs acc := Rows.to' e4.toSame e3.toSame rows
    have lD' : LstS H' (D :: cs) := fun a ha => by
      obtain ⟨xs, q⟩ := lD a ha
      exact ⟨xs, e3.k q rfl⟩
    cases ht : tf ds[i] with
    | none => rw [ht] at qi; exact qi.elim
    | some bs =>
      rw [ht] at qi
      refine ⟨hid H' (D :: cs), ds[i], bs, hid_le _ _, hx, ht, fun ws hw => ?_⟩
      have hsl : (setV (L2.wipe σ vs) ws bs).length = (L2.wipe σ vs).length := setV_length _ _ _
      have ivs : ∀ b ∈ bs, b.1 ∈ vs := fun b hb => hv _ (hix _ _ ht b hb)
      refine ⟨?_, ?_⟩
      · have h1 : L2.wipe (setV (L2.wipe σ vs) ws bs) vs = L2.wipe (L2.wipe σ vs) vs := wipe_eq hsl fun j hj => setV_out hw fun b hb e => hj (e ▸ ivs b hb)
        rw [h1]
        exact wipe_eq (wipe_length σ vs) fun j hj => wipe_out hj
      · have rep : RepX X (setR (wipeR ρ vs) bs) (setV (L2.wipe σ vs) ws bs) (hid H' (D :: cs)) (b + d) :=
          RepE.setV (RepE.wipe ((r1.le room).go e24) vs) hw fun b hb => by rw [wipe_length, hσ]; exact hlt _ (hix _ _ ht b hb)
        refine ⟨D :: cs, lD', tDT_then htt rep.l qi fun k H3 q3 e5 no3 => ?_⟩
        have e6 : SmX X b H' (rest H' (D :: cs) H3) := sm_rest lD' e5 no3
        have hD3 : rest H' (D :: cs) H3 D = some (.lst (cs.map V.ref)) := e6.k hD' rfl
        have hh3 : hid (rest H' (D :: cs) H3) (D :: cs) = H3 := hid_rest no3
        have rows3 : Rows X.K (rest H' (D :: cs) H3) (D :: cs) cs acc := Rows.to' (by rw [hh3]; exact e5.toSame) e6.toSame rows'
        have e25 : SmX X (i * (b + d) + b) H1 H3 := e24.trans e5
        cases k with
        | false =>
          refine iteF ⟨cs, acc, hD3, nd, fr, rows3, ?_, Nat.le_succ_of_le hal, q3⟩
          rw [hh3]; exact e25.le (by omega)
        | true =>
          refine iteT ?_
          have lD3 : LstS (rest H' (D :: cs) H3) (D :: cs) := fun a ha => by
            obtain ⟨xs, q⟩ := lD' a ha
            exact ⟨xs, e6.k q rfl⟩
          have rep3 : RepX X (setR (wipeR ρ vs) bs) (setV (L2.wipe σ vs) ws bs) (hid (rest H' (D :: cs) H3) (D :: cs)) d := by rw [hh3]; exact rep.go e5
          refine ⟨D :: cs, lD3, _, rep3, hte _ _ _ (fun ys q4 a us H4 e7 hn7 ha7 hd7 no4 => ?_) q3⟩
          have e8 : SmX X d (rest H' (D :: cs) H3) (rest (rest H' (D :: cs) H3) (D :: cs) H4) := sm_rest lD3 e7 no4
          have hD4 := e8.k hD3 rfl
          have hh4 : hid (rest (rest H' (D :: cs) H3) (D :: cs) H4) (D :: cs) = H4 := hid_rest no4
          have haS : a ∉ D :: cs := fun z => by rw [no4 a z] at ha7; cases ha7
          have ha8 : rest (rest H' (D :: cs) H3) (D :: cs) H4 a = some (.lst us) := by rw [rest_out haS]; exact ha7
          rw [hh3] at e7 hn7
          have e9 : SmX X ((i + 1) * (b + d)) H1 H4 := (e25.trans e7).le (by omega)
          refine ⟨cs.map V.ref, hD4, ?_, ?_⟩
          · have hz := sizeLine_eq
            rw [List.length_map, Rows.length rows]; omega
          · have hmap : cs.map V.ref ++ [V.ref a] = (cs ++ [a]).map V.ref := by simp
            rw [hmap]
            have hfr : H1 a = none := e25.toSame.free hn7
            have nd' : (D :: (cs ++ [a])).Nodup := by
              rw [← List.cons_append]
              refine List.nodup_append.mpr ⟨nd, List.nodup_cons.mpr ⟨(fun z => nomatch z), List.nodup_nil⟩, fun x hx y hy z => ?_⟩
              rw [List.mem_singleton.mp hy] at z
              exact haS (by rw [← z]; exact hx)
            -- the new heap, without the lists
            have sub : Same (hid H4 [a]) (hid (L2.upd (rest (rest H' (D :: cs) H3) (D :: cs) H4) D (.lst ((cs ++ [a]).map V.ref))) (D :: (cs ++ [a]))) := .of fun b o q => by
              obtain ⟨hb1, q⟩ := hid_some q
              have hb2 : b ∉ D :: cs := fun z => by rw [no4 b z] at q; cases q
              have hb3 : b ∉ D :: (cs ++ [a]) := fun z => by
                rw [← List.cons_append] at z
                rcases List.mem_append.mp z with z | z
                · exact hb2 z
                · exact hb1 z
              rw [hid_out hb3, upd_ne (fun z => hb2 (by rw [z]; exact List.mem_cons_self)), rest_out hb2]; exact q
            have sm : SmX X ((i + 1) * (b + d)) H1 (hid (L2.upd (rest (rest H' (D :: cs) H3) (D :: cs) H4) D (.lst ((cs ++ [a]).map V.ref))) (D :: (cs ++ [a]))) := by
              have la : LstS H4 [a] := fun b hb => by rw [List.mem_singleton.mp hb]; exact ⟨us, ha7⟩
              have e9a : SmX X ((i + 1) * (b + d)) H1 (hid H4 [a]) := by
                have keepN : ∀ b o, H1 b = some o → b ∉ [a] := fun b o q z => by rw [List.mem_singleton.mp z, hfr] at q; cases q
                exact ⟨⟨fun {b o} q x => by rw [hid_out (keepN b o q)]; exact e9.k q x, fun {b o} q => by rw [hid_out (keepN b o q)]; exact e9.th q⟩, fun q => (e9.sta q).to (hidK la), fun q => (e9.cnt q).hid la⟩
              refine e9a.up sub (fun b u x q => ?_) fun b u x q => ?_
              · obtain ⟨hb1, q⟩ := hid_some q
                have hb2 : b ∉ D :: cs := fun z => by rw [no4 b z] at q; cases q
                have hb3 : b ∉ D :: (cs ++ [a]) := fun z => by
                  rw [← List.cons_append] at z
                  rcases List.mem_append.mp z with z | z
                  · exact hb2 z
                  · exact hb1 z
                rw [hid_out hb3, upd_ne (fun z => hb2 (by rw [z]; exact List.mem_cons_self)), rest_out hb2]; exact q
              · obtain ⟨hb, q⟩ := hid_some q
                rw [← List.cons_append] at hb
                have hb2 : b ∉ D :: cs := fun z => hb (List.mem_append_left _ z)
                have hb1 : b ∉ [a] := fun z => hb (List.mem_append_right _ z)
                rw [upd_ne (fun z => hb2 (by rw [z]; exact List.mem_cons_self)), rest_out hb2] at q
                rw [hid_out hb1]; exact q
            have s34 : Same H3 (hid H4 [a]) := ⟨fun {b o} q x => by
              have hb1 : b ∉ [a] := fun z => by rw [List.mem_singleton.mp z, hn7] at q; cases q
              rw [hid_out hb1]; exact e7.k q x, fun {b o} q => by
              have hb1 : b ∉ [a] := fun z => by rw [List.mem_singleton.mp z, hn7] at q; cases q
              rw [hid_out hb1]; exact e7.th q⟩
            refine ⟨cs ++ [a], acc ++ [ys], upd_same, nd', fun b hb => ?_, ?_, sm, ?_, q4⟩
            · rw [← List.cons_append] at hb
              rcases List.mem_append.mp hb with hb | hb
              · exact fr b hb
              · rw [List.mem_singleton.mp hb]; exact hfr
            · refine Rows.app (Rows.toL (by rw [hh3]; exact s34.trans sub) (fun b hb xs q => ?_) rows3) (.cons ?_ (DpAll.mono sub hd7) .nil)
              · rw [upd_ne (fun z => (List.nodup_cons.mp nd).1 (by rw [← z]; exact hb))]
                exact e8.k q rfl
              · rw [upd_ne (fun z => haS (by rw [z]; exact List.mem_cons_self))]; exact ha8
            · rw [List.length_append, List.length_singleton]; omega
  · have hi2 : i = ds.length := by omega
    subst hi2
    rw [List.drop_length] at qi
    have qi : Nend2 X (a + 100000 * (b + d)) H Q acc := qi
    refine .inl ⟨okc.2, qi D cs Hc ?_ (fun b hb => e1.toSame.free (fr b hb)) nd hDc rows⟩
    have up : SmX X (ds.length * (b + d)) H1 Hc := sm_unhid lD e2
    exact (e1.trans up).le (Nat.add_le_add_left (Nat.mul_le_mul_right _ hlen) _)
theorem dn2_lc {a b d : Nat} {elt tg iter : Expr} {ifs : List Expr} {scope : Scope} {own : List (Str × Nat)} {pos : Pos} {wi : WI} {is : List Nat} {tf : TF} {tt : WT} {tn : WN} (hN : X.N.Nodup) (hi : DI X tg iter wi a) (ok : BlkOk X.N X.env.scope scope own)
    (hg : ∀ (s : Shared) (H : Hp) (C : Addr) (cl : List (Str × Addr)) (fp : List Addr), DG (X.blk s H scope (compEnvC scope cl C X.env) fp) tg is tf) (ht : ∀ (s : Shared) (H : Hp) (C : Addr) (cl : List (Str × Addr)) (fp : List Addr), DTs (X.blk s H scope (compEnvC scope cl C X.env) fp) ifs tt b)
    (he : ∀ (s : Shared) (H : Hp) (C : Addr) (cl : List (Str × Addr)) (fp : List Addr), DN (X.blk s H scope (compEnvC scope cl C X.env) fp) elt tn d) (hv : ∀ i ∈ is, i ∈ own.map (·.2) := by decide) (hc : X.calm = true := by rfl) (hs : ∀ x, foldedSetIterable iter X.env x = pure x := by intro _; rfl) :
    DN2 X (.ListComp elt [⟨tg, iter, ifs, 0⟩] scope pos) (wLcN wi tf tt tn (own.map (·.2))) (a + 100000 * (b + d)) := by
  have s0 : Shared := {}
  have G0 := hg s0 (fun _ => none) 0 [] []
  have T0 := ht s0 (fun _ => none) 0 [] []
  have E0' := he s0 (fun _ => none) 0 [] []
  refine ⟨fun ρ Q Q' k q => hi.mono ρ _ _ (fun ds q => ⟨q.1, compW2_mono (fun d acc k k' h q => lcStep2_mono T0.mono E0'.mono d acc k k' h q) ds [] Q Q' k q.2⟩) q, pe_impI (pe_lc hc hN hi.run ok (g := tDG X.K tf) (tt := tFrT (tDT X tt b)) (te := tFr (tDN X tn d)) (fun s H C cl fp => (hg s H C cl fp).run) (fun s H C cl fp => pts_fr (t := tDT X tt b) (ht s H C cl fp).run) (fun s H C cl fp => pe_fr (t := tDN X tn d) (he s H C cl fp).run) hs) fun pins s σ H Q I h => ?_⟩
  exact lcN_run hi.mono G0.ix G0.lt hv T0.mono E0'.mono I.len h
end
end DW
set_option Elab.async false
set_option linter.all false
set_option maxRecDepth 100000
set_option maxHeartbeats 1000000
/-! DwLc2: comprehensions of two clauses. -/
namespace DW
open PySem PySem.Spec PyProof.Rows L2 RZ
section
variable {X : Cx}
def lc2Step (ρ : Ro) (vs vs1 : List Nat) (tf : TF) (tt : WT) (wi1 : WI) (tf1 : TF) (tt1 : WT) (te : WE) : PyData → List PyData → (List PyData → Prop) → Prop := fun d acc k => match tf d with
  | some bs => tt (setR (wipeR ρ vs) bs) fun b => match b with
    | true => wi1 (setR (wipeR ρ vs) bs) fun ds1 => ds1.length ≤ 300 ∧ compW (lcStep (setR (wipeR ρ vs) bs) vs1 tf1 tt1 te) ds1 acc k
    | false => k acc
  | none => False
def wLc2 (wi : WI) (tf : TF) (tt : WT) (wi1 : WI) (tf1 : TF) (tt1 : WT) (te : WE) (vs vs1 : List Nat) : WN := fun ρ Q => wi ρ fun ds => ds.length ≤ 300 ∧ compW (lc2Step ρ vs vs1 tf tt wi1 tf1 tt1 te) ds [] Q
theorem lc2Step_mono {ρ : Ro} {vs vs1 : List Nat} {tf tf1 : TF} {tt tt1 : WT} {wi1 : WI} {te : WE} (ht : MonoT tt) (hi : MonoN wi1) (ht1 : MonoT tt1) (he : MonoE te) (d : PyData) (acc : List PyData) (k k' : List PyData → Prop) (h : ∀ a, k a → k' a) (q : lc2Step ρ vs vs1 tf tt wi1 tf1 tt1 te d acc k) : lc2Step ρ vs vs1 tf tt wi1 tf1 tt1 te d acc k' := by
  unfold lc2Step at q ⊢
  split at q
  · refine ht _ _ _ (fun b q => ?_) q
    cases b with
    | true => exact hi _ _ _ (fun ds q => ⟨q.1, compW_mono (fun d acc k k' h q => lcStep_mono ht1 he d acc k k' h q) ds acc _ _ h q.2⟩) q
    | false => exact h _ q
  · exact q
theorem lc2_run {a b a1 b1 d : Nat} {wi wi1 : WI} {is is1 : List Nat} {tf tf1 : TF} {tt tt1 : WT} {te : WE} {vs vs1 : List Nat} (hwi : MonoN wi) (hwi1 : MonoN wi1) (hix : ∀ d bs, tf d = some bs → ∀ b ∈ bs, b.1 ∈ is) (hlt : ∀ i ∈ is, i < X.N.length) (hv : ∀ i ∈ is, i ∈ vs)
    (hix1 : ∀ d bs, tf1 d = some bs → ∀ b ∈ bs, b.1 ∈ is1) (hlt1 : ∀ i ∈ is1, i < X.N.length) (hv1 : ∀ i ∈ is1, i ∈ vs1) (htt : MonoT tt) (htt1 : MonoT tt1) (hte : MonoE te)
    {σ : L2.St} {H : Hp} {Q : VK} (hσ : σ.length = X.N.length) (h : ∃ ρ, RepX X ρ σ H (a + 300 * (b + (a1 + 300 * (b1 + d)))) ∧ wLc2 wi tf tt wi1 tf1 tt1 te vs vs1 ρ (Nend X (a + 300 * (b + (a1 + 300 * (b1 + d)))) H Q)) : tLc2 (tDI X wi a) (tDG X.K tf) (tFrT (tDT X tt b)) (tDI X wi1 a1) (tDG X.K tf1) (tFrT (tDT X tt1 b1)) (tFr (tD X te d)) vs vs1 σ H Q := by
  generalize hu : b1 + d = u at h
  generalize hn : a1 + 300 * u = n at h
  obtain ⟨ρ, r, q⟩ := h
  refine ⟨ρ, [], (fun _ z => nomatch z), by rw [hid_nil]; exact r.l, hwi ρ _ _ (fun ds ⟨hlen, q⟩ J H1 e1 ok D hD => ?_) q⟩
  rw [hid_nil] at ok
  have r1 : RepX X ρ σ H1 (300 * (b + n)) := r.go e1
  refine ⟨fun i m Hc => m = ds.length - i ∧ i ≤ ds.length ∧ ∃ us acc, Hc D = some (.lst us) ∧ DpAll X.K (hid Hc [D]) us acc ∧ SmX X (i * (b + n)) H1 (hid Hc [D]) ∧ acc.length ≤ i * 300 ∧ compW (lc2Step ρ vs vs1 tf tt wi1 tf1 tt1 te) (ds.drop i) acc (Nend X (a + 300 * (b + n)) H Q),
    ⟨ds.length, rfl, Nat.zero_le _, [], [], upd_same, .nil, by rw [hid_new hD, Nat.zero_mul]; exact Sm.refl _, Nat.le_refl _, q⟩, ?_⟩
  rintro i m Hc ⟨rfl, hi, us, acc, hDc, hacc, e2, hal, qi⟩
  have lst : ∀ {H' : Hp} {us : List V}, H' D = some (.lst us) → LstS H' [D] := fun h a ha => by
    rw [List.mem_singleton.mp ha]; exact ⟨_, h⟩
  have okc := ok Hc [D] (lst hDc) e2.toSame
  by_cases hlt2 : i < ds.length
  · have step : (i + 1) * (b + n) = i * (b + n) + (b + n) := Nat.succ_mul _ _
    have room : i * (b + n) + (b + n) ≤ 300 * (b + n) := by rw [← step]; exact Nat.mul_le_mul_right _ (by omega)
    obtain ⟨go, yl⟩ := okc.1 i ds[i] (List.getElem?_eq_getElem hlt2)
    refine .inr ⟨go, fun H' => ∃ us acc, H' D = some (.lst us) ∧ DpAll X.K (hid H' [D]) us acc ∧ SmX X ((i + 1) * (b + n)) H1 (hid H' [D]) ∧ acc.length ≤ (i + 1) * 300 ∧ compW (lc2Step ρ vs vs1 tf tt wi1 tf1 tt1 te) (ds.drop (i + 1)) acc (Nend X (a + 300 * (b + n)) H Q), fun H' nx => ⟨ds.length - (i + 1), by omega, rfl, hlt2, nx⟩, fun x H' hy => ?_⟩
    obtain ⟨e3, hx⟩ := yl x H' hy
    have e3 : SmX X 0 Hc H' := e3 _ _
    rw [List.drop_eq_getElem_cons hlt2] at qi
    have qi : lc2Step ρ vs vs1 tf tt wi1 tf1 tt1 te ds[i] acc fun acc' => compW (lc2Step ρ vs vs1 tf tt wi1 tf1 tt1 te) (ds.drop (i + 1)) acc' (Nend X (a + 300 * (b + n)) H Q) := qi
    unfold lc2Step at qi
    have hD' : H' D = some (.lst us) := e3.k hDc rfl
    have e4 : SmX X 0 (hid Hc [D]) (hid H' [D]) := sm_hid (lst hDc) e3
    have e24 : SmX X (i * (b + n)) H1 (hid H' [D]) := e2.trans e4
    cases ht : tf ds[i] with
    | none => rw [ht] at qi; exact qi.elim
    | some bs =>
      rw [ht] at qi
      refine ⟨hid H' [D], ds[i], bs, hid_le _ _, hx, ht, fun ws hw => ?_⟩
      have hsl : (setV (L2.wipe σ vs) ws bs).length = (L2.wipe σ vs).length := setV_length _ _ _
      have hslN : (setV (L2.wipe σ vs) ws bs).length = X.N.length := by rw [hsl, wipe_length, hσ]
      have ivs : ∀ b ∈ bs, b.1 ∈ vs := fun b hb => hv _ (hix _ _ ht b hb)
      refine ⟨?_, ?_⟩
      · have h1 : L2.wipe (setV (L2.wipe σ vs) ws bs) vs = L2.wipe (L2.wipe σ vs) vs := wipe_eq hsl fun j hj => setV_out hw fun b hb e => hj (e ▸ ivs b hb)
        rw [h1]
        exact wipe_eq (wipe_length σ vs) fun j hj => wipe_out hj
      · have rep : RepX X (setR (wipeR ρ vs) bs) (setV (L2.wipe σ vs) ws bs) (hid H' [D]) (b + n) :=
          RepE.setV (RepE.wipe ((r1.le room).go e24) vs) hw fun b hb => by rw [wipe_length, hσ]; exact hlt _ (hix _ _ ht b hb)
        refine ⟨[D], lst hD', tDT_then htt rep.l qi fun k H3 q3 e5 no3 => ?_⟩
        have hD3 : rest H' [D] H3 D = some (.lst us) := (same_rest e5.toSame).k hD' rfl
        have hh3 : hid (rest H' [D] H3) [D] = H3 := hid_rest no3
        have hacc3 : DpAll X.K (hid (rest H' [D] H3) [D]) us acc := by rw [hh3]; exact DpAll.mono (e4.toSame.trans e5.toSame) hacc
        have e13 : SmX X (i * (b + n) + b) H1 (hid (rest H' [D] H3) [D]) := by rw [hh3]; exact e24.trans e5
        have rep3 : RepX X (setR (wipeR ρ vs) bs) (setV (L2.wipe σ vs) ws bs) (hid (rest H' [D] H3) [D]) n := by rw [hh3]; exact rep.go e5
        generalize hG : rest H' [D] H3 = G at hD3 hacc3 e13 rep3 ⊢
        cases k with
        | false => exact iteF ⟨us, acc, hD3, hacc3, e13.le (by omega), by omega, q3⟩
        | true =>
          refine iteT ?_
          have rep4 : RepX X (setR (wipeR ρ vs) bs) (setV (L2.wipe σ vs) ws bs) (hid G [D]) (a1 + 300 * u) := by rw [hn]; exact rep3
          refine ⟨_, [D], lst hD3, rep4.l, hwi1 _ _ _ (fun ds1 ⟨hlen1, q4⟩ J1 H4 e6 ok1 => ?_) q3⟩
          have hD4 : H4 D = some (.lst us) := e6.k hD3 rfl
          have e7 : SmX X a1 (hid G [D]) (hid H4 [D]) := sm_hid (lst hD3) e6
          have rep5 : RepX X (setR (wipeR ρ vs) bs) (setV (L2.wipe σ vs) ws bs) (hid H4 [D]) (300 * u) := rep4.go e7
          refine ⟨fun j m Hd => m = ds1.length - j ∧ j ≤ ds1.length ∧ ∃ us acc, Hd D = some (.lst us) ∧ DpAll X.K (hid Hd [D]) us acc ∧ SmX X (j * u) (hid H4 [D]) (hid Hd [D]) ∧ acc.length ≤ i * 300 + j ∧ compW (lcStep (setR (wipeR ρ vs) bs) vs1 tf1 tt1 te) (ds1.drop j) acc (fun acc' => compW (lc2Step ρ vs vs1 tf tt wi1 tf1 tt1 te) (ds.drop (i + 1)) acc' (Nend X (a + 300 * (b + n)) H Q)),
            ⟨ds1.length, rfl, Nat.zero_le _, us, acc, hD4, DpAll.mono e7.toSame hacc3, by rw [Nat.zero_mul]; exact Sm.refl _, by omega, q4⟩, ?_⟩
          rintro j k Hd ⟨rfl, hj, us1, acc1, hDd, hacc1, e8, hal1, qj⟩
          have okd := ok1 Hd [D] (lst hDd) e8.toSame
          by_cases hlt3 : j < ds1.length
          · have step1 : (j + 1) * u = j * u + u := Nat.succ_mul _ _
            have room1 : j * u + u ≤ 300 * u := by rw [← step1]; exact Nat.mul_le_mul_right _ (by omega)
            obtain ⟨go1, yl1⟩ := okd.1 j ds1[j] (List.getElem?_eq_getElem hlt3)
            refine .inr ⟨go1, fun Hd => ∃ us acc, Hd D = some (.lst us) ∧ DpAll X.K (hid Hd [D]) us acc ∧ SmX X ((j + 1) * u) (hid H4 [D]) (hid Hd [D]) ∧ acc.length ≤ i * 300 + (j + 1) ∧ compW (lcStep (setR (wipeR ρ vs) bs) vs1 tf1 tt1 te) (ds1.drop (j + 1)) acc (fun acc' => compW (lc2Step ρ vs vs1 tf tt wi1 tf1 tt1 te) (ds.drop (i + 1)) acc' (Nend X (a + 300 * (b + n)) H Q)),
              fun H' nx => ⟨ds1.length - (j + 1), by omega, rfl, hlt3, nx⟩, fun x1 H5 hy1 => ?_⟩
            obtain ⟨e9, hx1⟩ := yl1 x1 H5 hy1
            have e9 : SmX X 0 Hd H5 := e9 _ _
            rw [List.drop_eq_getElem_cons hlt3] at qj
            have qj : lcStep (setR (wipeR ρ vs) bs) vs1 tf1 tt1 te ds1[j] acc1 fun acc' => compW (lcStep (setR (wipeR ρ vs) bs) vs1 tf1 tt1 te) (ds1.drop (j + 1)) acc' (fun acc' => compW (lc2Step ρ vs vs1 tf tt wi1 tf1 tt1 te) (ds.drop (i + 1)) acc' (Nend X (a + 300 * (b + n)) H Q)) := qj
            unfold lcStep at qj
            have hD5 : H5 D = some (.lst us1) := e9.k hDd rfl
            have e10 : SmX X 0 (hid Hd [D]) (hid H5 [D]) := sm_hid (lst hDd) e9
            have e810 : SmX X (j * u) (hid H4 [D]) (hid H5 [D]) := e8.trans e10
            cases ht1 : tf1 ds1[j] with
            | none => rw [ht1] at qj; exact qj.elim
            | some bs1 =>
              rw [ht1] at qj
              refine ⟨hid H5 [D], ds1[j], bs1, hid_le _ _, hx1, ht1, fun ws1 hw1 => ?_⟩
              have hsl1 : (setV (L2.wipe (setV (L2.wipe σ vs) ws bs) vs1) ws1 bs1).length = (L2.wipe (setV (L2.wipe σ vs) ws bs) vs1).length := setV_length _ _ _
              have ivs1 : ∀ b ∈ bs1, b.1 ∈ vs1 := fun b hb => hv1 _ (hix1 _ _ ht1 b hb)
              refine ⟨?_, ?_⟩
              · have h1 : L2.wipe (setV (L2.wipe (setV (L2.wipe σ vs) ws bs) vs1) ws1 bs1) vs1 = L2.wipe (L2.wipe (setV (L2.wipe σ vs) ws bs) vs1) vs1 := wipe_eq hsl1 fun j hj => setV_out hw1 fun b hb e => hj (e ▸ ivs1 b hb)
                rw [h1]
                exact wipe_eq (wipe_length _ vs1) fun j hj => wipe_out hj
              · have rep6 : RepX X (setR (wipeR (setR (wipeR ρ vs) bs) vs1) bs1) (setV (L2.wipe (setV (L2.wipe σ vs) ws bs) vs1) ws1 bs1) (hid H5 [D]) (b1 + d) := by
                  rw [hu]
                  exact RepE.setV (RepE.wipe ((rep5.le room1).go e810) vs1) hw1 fun b hb => by rw [wipe_length, hslN]; exact hlt1 _ (hix1 _ _ ht1 b hb)
                refine ⟨[D], lst hD5, tDT_then htt1 rep6.l qj fun k H6 q6 e11 no6 => ?_⟩
                have hD6 : rest H5 [D] H6 D = some (.lst us1) := (same_rest e11.toSame).k hD5 rfl
                have hh6 : hid (rest H5 [D] H6) [D] = H6 := hid_rest no6
                have e811 : SmX X (j * u + b1) (hid H4 [D]) H6 := e810.trans e11
                have a6 : DpAll X.K H6 us1 acc1 := DpAll.mono (e10.toSame.trans e11.toSame) hacc1
                cases k with
                | false => exact iteF ⟨us1, acc1, hD6, by rw [hh6]; exact a6, by rw [hh6]; exact e811.le (by omega), by omega, q6⟩
                | true =>
                  refine iteT ?_
                  have rep7 : RepX X (setR (wipeR (setR (wipeR ρ vs) bs) vs1) bs1) (setV (L2.wipe (setV (L2.wipe σ vs) ws bs) vs1) ws1 bs1) (hid (rest H5 [D] H6) [D]) d := by rw [hh6]; exact rep6.go e11
                  refine ⟨[D], lst hD6, tD_then hte rep7 q6 fun y v H7 q7 e12 z7 no7 => ?_⟩
                  have hD7 := (same_rest e12.toSame).k hD6 rfl
                  have hh7 : hid (rest (rest H5 [D] H6) [D] H7) [D] = H7 := hid_rest no7
                  rw [hh6] at e12
                  refine ⟨us1, hD7, ?_, ?_⟩
                  · have hz := sizeLine_eq
                    rw [DpAll.length hacc1]
                    have : i * 300 ≤ 300 * 300 := Nat.mul_le_mul_right _ (by omega)
                    omega
                  · cases y with
                    | d y =>
                      have q7 : compW (lcStep (setR (wipeR ρ vs) bs) vs1 tf1 tt1 te) (ds1.drop (j + 1)) (acc1 ++ [y]) (fun acc' => compW (lc2Step ρ vs vs1 tf tt wi1 tf1 tt1 te) (ds.drop (i + 1)) acc' (Nend X (a + 300 * (b + n)) H Q)) := q7
                      refine ⟨us1 ++ [v], acc1 ++ [y], upd_same, ?_, ?_, ?_, q7⟩
                      · rw [hid_upd_in (by simp), hh7]
                        exact DpAll.app (DpAll.mono e12.toSame a6) (.cons z7 .nil)
                      · rw [hid_upd_in (by simp), hh7]
                        exact (e811.trans e12).le (by omega)
                      · rw [List.length_append, List.length_singleton]; omega
                    | sta => exact q7.elim
                    | net _ _ => exact q7.elim
          · have hj2 : j = ds1.length := by omega
            subst hj2
            rw [List.drop_length] at qj
            have room2 : ds1.length * u ≤ 300 * u := Nat.mul_le_mul_right _ hlen1
            refine .inl ⟨okd.2, us1, acc1, hDd, hacc1, ((e13.trans e7).trans e8).le (by omega), ?_, qj⟩
            have : (i + 1) * 300 = i * 300 + 300 := by omega
            omega
  · have hi2 : i = ds.length := by omega
    subst hi2
    rw [List.drop_length] at qi
    have qi : Nend X (a + 300 * (b + n)) H Q acc := qi
    refine .inl ⟨okc.2, qi D us Hc ?_ (e1.free hD) hDc hacc⟩
    have up : SmX X (ds.length * (b + n)) H1 Hc := sm_unhid (lst hDc) e2
    exact (e1.trans up).le (Nat.add_le_add_left (Nat.mul_le_mul_right _ hlen) _)
theorem dn_lc2 {a b a1 b1 d : Nat} {elt tg iter tg1 iter1 : Expr} {ifs ifs1 : List Expr} {scope : Scope} {own : List (Str × Nat)} {vs1 : List Nat} {pos : Pos} {wi wi1 : WI} {is is1 : List Nat} {tf tf1 : TF} {tt tt1 : WT} {te : WE} (hN : X.N.Nodup) (hi : DI X tg iter wi a) (ok : BlkOk X.N X.env.scope scope own) (hvs : ∀ i ∈ vs1, i ∈ own.map (·.2))
    (hg : ∀ (s : Shared) (H : Hp) (C : Addr) (cl : List (Str × Addr)) (fp : List Addr), DG (X.blk s H scope (compEnvC scope cl C X.env) fp) tg is tf) (ht : ∀ (s : Shared) (H : Hp) (C : Addr) (cl : List (Str × Addr)) (fp : List Addr), DTs (X.blk s H scope (compEnvC scope cl C X.env) fp) ifs tt b)
    (hi1 : ∀ (s : Shared) (H : Hp) (C : Addr) (cl : List (Str × Addr)) (fp : List Addr), DI (X.blk s H scope (compEnvC scope cl C X.env) fp) tg1 iter1 wi1 a1)
    (hg1 : ∀ (s : Shared) (H : Hp) (C : Addr) (cl : List (Str × Addr)) (fp : List Addr), DG (X.blk s H scope (compEnvC scope cl C X.env) fp) tg1 is1 tf1) (ht1 : ∀ (s : Shared) (H : Hp) (C : Addr) (cl : List (Str × Addr)) (fp : List Addr), DTs (X.blk s H scope (compEnvC scope cl C X.env) fp) ifs1 tt1 b1)
    (he : ∀ (s : Shared) (H : Hp) (C : Addr) (cl : List (Str × Addr)) (fp : List Addr), DE (X.blk s H scope (compEnvC scope cl C X.env) fp) elt te d) (hv : ∀ i ∈ is, i ∈ own.map (·.2) := by decide) (hv1 : ∀ i ∈ is1, i ∈ vs1 := by decide) (hc : X.calm = true := by rfl)
    (hs : ∀ x, foldedSetIterable iter X.env x = pure x := by intro _; rfl) (hs1 : ∀ env x, foldedSetIterable iter1 env x = pure x := by intro _ _; rfl) :
    DN X (.ListComp elt [⟨tg, iter, ifs, 0⟩, ⟨tg1, iter1, ifs1, 0⟩] scope pos) (wLc2 wi tf tt wi1 tf1 tt1 te (own.map (·.2)) vs1) (a + 300 * (b + (a1 + 300 * (b1 + d)))) := by
  have s0 : Shared := {}
  have G0 := hg s0 (fun _ => none) 0 [] []
  have G1 := hg1 s0 (fun _ => none) 0 [] []
  have T0 := ht s0 (fun _ => none) 0 [] []
  have T1 := ht1 s0 (fun _ => none) 0 [] []
  have I1 := hi1 s0 (fun _ => none) 0 [] []
  have E0' := he s0 (fun _ => none) 0 [] []
  refine ⟨fun ρ Q Q' k q => hi.mono ρ _ _ (fun ds q => ⟨q.1, compW_mono (fun d acc k k' h q => lc2Step_mono T0.mono I1.mono T1.mono E0'.mono d acc k k' h q) ds [] Q Q' k q.2⟩) q, pe_impI (pe_lc2 hc hN hi.run ok hvs (g := tDG X.K tf) (g1 := tDG X.K tf1) (tt := tFrT (tDT X tt b)) (tt1 := tFrT (tDT X tt1 b1)) (wi1 := tDI X wi1 a1) (te := tFr (tD X te d)) (fun s H C cl fp => (hg s H C cl fp).run) (fun s H C cl fp => pts_fr (t := tDT X tt b) (ht s H C cl fp).run) (fun s H C cl fp => (hi1 s H C cl fp).run) (fun s H C cl fp => (hg1 s H C cl fp).run) (fun s H C cl fp => pts_fr (t := tDT X tt1 b1) (ht1 s H C cl fp).run) (fun s H C cl fp => pe_fr (t := tD X te d) (he s H C cl fp).run) hs hs1) fun pins s σ H Q I h => ?_⟩
  exact lc2_run hi.mono I1.mono G0.ix G0.lt hv G1.ix G1.lt hv1 T0.mono T1.mono E0'.mono I.len h
end
end DW
set_option Elab.async false
set_option linter.all false
set_option maxRecDepth 100000
set_option maxHeartbeats 1000000
/-! DwEnd: a def that is known, called; expression statements. -/
namespace DW
open PySem PySem.Spec PyProof.Rows L2 RZ
/-- a def of the module that keeps ws -/
structure Kn (P : Program) (w : World) (K : Fg) (mg : Str → Option Value) (base : Heap) (k : Nat) (x : Str) (ps : List Str) (ws : WF) (c : Nat) : Prop where
  ex : ∃ (f : Addr) (fd : FuncData), FnOk P w K mg base CX0 k f fd ps (spF P w K ws c) ∧ mg x = some (.ref f) ∧ PySem.W.keepIn K (.ref f) = true ∧ Binds K fd ps []
  mono : MonoF ws
section
variable {X : Cx} {c d : Nat} {k : Nat} {x : Str} {ps : List Str} {ws : WF} {p pos : Pos} {e : Expr} {es : List Expr} {l : WL}
theorem de_callK (h : Kn X.prog X.w X.K X.mg X.base k x ps ws d) (hr : Room k X.A) (hl : DL X (e :: es) l c) (hg : Gl X x := by rfl) (hdb : (x == ("__debug__" : Str)) = false := by decide) (he : starEach (e :: es) X.env = (false, eval e X.env) :: starEach es X.env := by rfl) (hpl : (backTo pos (starEach es X.env)).any (·.1) = false := by rfl) :
    DE X (.Call (.Name x p) (e :: es) [] pos) (wCall ws l) (c + d) := by
  obtain ⟨f, fd, F, hm, hk, hb⟩ := h.ex
  exact de_call F h.mono hr hm hk hb hl hg hdb he hpl
theorem dn_callK (h : Kn X.prog X.w X.K X.mg X.base k x ps ws d) (hr : Room k X.A) (hl : DL X (e :: es) l c) (hg : Gl X x := by rfl) (hdb : (x == ("__debug__" : Str)) = false := by decide) (he : starEach (e :: es) X.env = (false, eval e X.env) :: starEach es X.env := by rfl) (hpl : (backTo pos (starEach es X.env)).any (·.1) = false := by rfl) :
    DN X (.Call (.Name x p) (e :: es) [] pos) (wNCall ws l) (c + d) := by
  obtain ⟨f, fd, F, hm, hk, hb⟩ := h.ex
  exact dn_call F h.mono hr hm hk hb hl hg hdb he hpl
theorem dn2_callK (h : Kn X.prog X.w X.K X.mg X.base k x ps ws d) (hr : Room k X.A) (hl : DL X (e :: es) l c) (hg : Gl X x := by rfl) (hdb : (x == ("__debug__" : Str)) = false := by decide) (he : starEach (e :: es) X.env = (false, eval e X.env) :: starEach es X.env := by rfl) (hpl : (backTo pos (starEach es X.env)).any (·.1) = false := by rfl) :
    DN2 X (.Call (.Name x p) (e :: es) [] pos) (wN2Call ws l) (c + d) := by
  obtain ⟨f, fd, F, hm, hk, hb⟩ := h.ex
  exact dn2_call F h.mono hr hm hk hb hl hg hdb he hpl
end
theorem kn_of {P : Program} {w : World} {K : Fg} {mg : Str → Option Value} {base : Heap} {x qual : Str} {params : Arguments} {body : List Stmt} {scope : Scope} {f : Addr} {fd : FuncData} {N ps : List Str} {k : Nat} {ws : WF} {wb : WS} {c : Nat} (F : FunD K x qual params body scope [] [] f fd) (g : mg x = some (.ref f)) (S : FnScope N ps scope)
    (hbi : ∀ (kV doc pm : Value) (an : Option Addr) (cdv ct : Value) (us : List Value), us.length = ps.length → bindArgs (PySem.W.fnOf x qual params body scope .none kV doc pm an cdv ct) ⟨us, []⟩ = pure (ps.zip us)) (hm : MonoF ws) (hl : ∀ xs R, ws xs R → xs.length = ps.length)
    (hb : ∀ (cdv : Value) (A : Around) (outer : List Env) (s : Shared) (H : Hp) (E : XK), Room k (A.deeper (envOfC qual scope s.heap.objs.size f cdv)) → DSs (cxOf CX0 P w K mg base N qual scope f cdv A outer s H E).nox body wb c)
    (hw : ∀ xs R, ws xs R → wb (startR N.length xs) { nx := fun _ => R (.d .none), rt := R }) : Kn P w K mg base (k + 1) x ps ws c :=
  ⟨⟨f, fd, fn_ok F S hl hb hw, g, F.kp, F.bindsN hbi⟩, hm⟩
/-- a constant of the module -/
def Cst (K : Fg) (mg : Str → Option Value) (x : Str) (d : PyData) : Prop := ∃ u v, mg x = some u ∧ RelV v u ∧ ∀ H, Dp K H v d
theorem de_cst {X : Cx} {x : Str} {d : PyData} {pos : Pos} (h : Cst X.K X.mg x d) (hg : Gl X x := by rfl) (hd : (x == ("__debug__" : Str)) = false := by decide) : DE X (.Name x pos) (wC d) 0 := by
  obtain ⟨u, v, hm, r, hx⟩ := h
  exact de_glob hg hm r hx hd
section
variable {X : Cx} {pos : Pos}
def wExpr (a : WE) : WS := fun ρ E => a ρ fun _ => E.nx ρ
theorem ds_expr {e : Expr} {a : WE} (h : DE X e a c) (hs : swapsWith e none pos.line X.env = pure false := by rfl) : DS X (.Expr e pos) (wExpr a) c := by
  refine ⟨ps_impI (ps_expr h.run hs) fun pins s0 σ H D I ⟨H0, k, n, ρ, S, E, g, ok, q⟩ => ?_⟩
  refine tD_then h.mono g.repE q fun x v H1 q1 e1 z1 => ?_
  have ex := Ext.grow g.lst e1
  exact ok.nx ρ σ H1 S q1 (g.rep.ext ex) (g.fin ex) I.len
/-- a new list of plain items, as data -/
def cNd (a : WN) : WC := fun ρ Q => a ρ fun ds => immAll ds = true ∧ Q (.d (.list ds))
theorem dc_nd {e : Expr} {a : WN} (h : DN X e a c) : DC X e (cNd a) c := by
  refine ⟨fun ρ Q Q' k q => h.mono _ _ _ (fun x q => ⟨q.1, k _ q.2⟩) q, pe_imp h.run fun σ H Q ⟨ρ, S, r, b, q⟩ => ?_⟩
  refine ⟨ρ, r.repE (b.unhid r.lst), h.mono _ _ _ (fun ds q1 a us H1 e2 hn2 ha2 hd => ?_) q⟩
  have haS : a ∉ S := fun z => by obtain ⟨xs, q⟩ := r.lst a z; rw [hn2] at q; cases q
  have ex := Ext.grow r.lst e2
  exact q1.2 (.ref a) H1 S ex (Dp.lst (.inl (.inl (by rw [hid_out haS]; exact ha2))) (DpAll.hide ex.lst q1.1 (DpAll.mono (hid_le _ _) hd))) .ar
end
end DW
set_option Elab.async false
set_option linter.all false
set_option maxRecDepth 100000
set_option maxHeartbeats 1000000
/-! DwState: the source of draws, read, drawn from, filled. -/
namespace DW
open PySem PySem.Spec PyProof.Rows L2 RZ
def stKv (g c : Addr) (l t : Int) : List (Key × V) := [((.inr "great" : Key), V.ref g), (.inr "cells", .ref c), (.inr "left", .int l), (.inr "turn", .int t)]
section
variable {X : Cx} {pins : List (Addr × Obj)} {σ : L2.St} {H : Hp} {s : Shared}
theorem Inv.see (I : Inv X pins σ H s) {a : Addr} {u o : HO} (h : H a = some u) (mu : Mut (some u)) (hx : ∃ ob, s.heap.get? a = some ob) (new : ObjOk X.prog X.w (upd H a o) s.heap a o) : Inv X pins σ (upd H a o) s :=
  I.write (x := a) (e := a) (t' := s.toks) (h' := s.heap) (by rw [h]; exact mu) (.inl rfl) (fun b v _ q => q) hx new
theorem upd_self {H : Hp} {a : Addr} {o : HO} (h : H a = some o) : upd H a o = H := by
  funext b
  by_cases hb : b = a
  · rw [hb, upd_same, h]
  · rw [upd_ne hb]
theorem st_ok {P : Program} {w : World} {H : Hp} {h : Heap} {a g c : Addr} {n : Nat} {l t : Int} (x : ObjOk P w H h a (.dK (stKv g c l t))) (h0 : 0 ≤ l) (h1 : 0 ≤ t) (h2 : t ≤ n) {H' : Hp} : ObjOk P w H' h a (stE P w a g c n) := by
  obtain ⟨z, y, vs, r, ob, es, ep, e, q⟩ := x
  refine ⟨⟨l, t, h0, h1, h2, y, vs, r, ob, es, ep, e, q⟩, ⟨ob, e⟩, fun k1 k2 ⟨l, t, h0, h1, h2, y, vs, r, ob, es, ep, e, q⟩ k => ⟨l, t, h0, h1, h2, y, vs, r, ob, es, ep, k _ e, q⟩⟩
theorem Inv.openS (I : Inv X pins σ H s) {a g c : Addr} {n : Nat} (h : H a = some (stE X.prog X.w a g c n)) : ∃ l t : Int, 0 ≤ l ∧ 0 ≤ t ∧ t ≤ n ∧ Inv X pins σ (upd H a (.dK (stKv g c l t))) s := by
  obtain ⟨⟨l, t, h0, h1, h2, y, vs, r, d⟩, hx, _⟩ := I.hok a _ h
  exact ⟨l, t, h0, h1, h2, Inv.see I h trivial hx ⟨by show 4 ≤ sizeLine; rw [sizeLine_eq]; decide, y, vs, r, d⟩⟩
theorem Inv.shutS (I : Inv X pins σ H s) {a g c : Addr} {n : Nat} {l t : Int} (h : H a = some (.dK (stKv g c l t))) (h0 : 0 ≤ l) (h1 : 0 ≤ t) (h2 : t ≤ n) : Inv X pins σ (upd H a (stE X.prog X.w a g c n)) s := by
  have x := I.hok a _ h
  have hx : ∃ ob, s.heap.get? a = some ob := by obtain ⟨z, y, vs, r, ob, es, ep, e, q⟩ := x; exact ⟨ob, e⟩
  exact Inv.see I h trivial hx (st_ok x h0 h1 h2)
end
section
variable {X : Cx}
/-- state['key'] -/
def tStGet (X : Cx) (i : Nat) (key : Str) : TE := fun σ H Q => ∃ a g c n, σ[i]? = some (some (.ref a)) ∧ H a = some (stE X.prog X.w a g c n) ∧ ∀ (l t : Int), 0 ≤ l → 0 ≤ t → t ≤ n → ∃ v, valV (stKv g c l t) (.inr key) = some v ∧ Q v H
theorem pe_stget (hu : X.A.units + 64 < cLine) (i : Nat) {x key : Str} {j : Nat} {p p2 pos : Pos} (hN : X.N[i]? = some x := by rfl) (hv : Vis X.env.scope x := by first | exact Or.inl rfl | exact Or.inr (Or.inl rfl) | exact Or.inr (Or.inr rfl)) (hd : (x == ("__debug__" : Str)) = false := by decide) (hcd : (x == ("__classdict__" : Str)) = false := by decide)
    (hs : NoSl (.Constant (.str key) j p2) := by intro _ _; rfl) : PE X (.Subscript (.Name x p) (.Constant (.str key) j p2) pos) (tStGet X i key) := by
  refine ⟨fun pins s σ H Q I ⟨a, g, c, n, ea, h, q⟩ => ?_⟩
  obtain ⟨l, t, h0, h1, h2, J⟩ := Inv.openS I h
  obtain ⟨v, hv2, q⟩ := q l t h0 h1 h2
  have hu1 : X.A.units + 1 < cLine := by omega
  refine thn ((pe_dget hu1 (pe_var hN hv hd hcd) pe_str hs).run pins s σ (upd H a (.dK (stKv g c l t))) (fun y H' => y = v ∧ H' = upd H a (.dK (stKv g c l t))) J ⟨.ref a, ea, a, v, rfl, ?_, rfl, rfl⟩) fun u s1 ⟨y, H1, I1, r1, ey, eH⟩ => ?_
  · rw [← hv2]
    exact DGet.k (k := .inr key) upd_same
  · subst ey eH
    have K := Inv.shutS (n := n) I1 upd_same h0 h1 h2
    rw [upd_upd, upd_self h] at K
    exact ⟨y, H, K, r1, q⟩
def wStLeft (i : Nat) : WE := fun ρ Q => match ρ[i]? with
  | some (.ar .sta) => ∀ l : Int, 0 ≤ l → Q (.d (.int l))
  | _ => False
theorem de_stLeft (hu : X.A.units + 64 < cLine) (i : Nat) {x : Str} {j : Nat} {p p2 pos : Pos} (hN : X.N[i]? = some x := by rfl) (hv : Vis X.env.scope x := by first | exact Or.inl rfl | exact Or.inr (Or.inl rfl) | exact Or.inr (Or.inr rfl)) (hd : (x == ("__debug__" : Str)) = false := by decide) (hcd : (x == ("__classdict__" : Str)) = false := by decide) :
    DE X (.Subscript (.Name x p) (.Constant (.str "left") j p2) pos) (wStLeft i) 0 := by
  refine ⟨fun ρ Q Q' k q => ?_, pe_imp (pe_stget hu i hN hv hd hcd) fun σ H Q ⟨ρ, r, q⟩ => ?_⟩
  · unfold wStLeft at q ⊢
    split at q
    · exact fun l h => k _ (q l h)
    · exact q.elim
  · unfold wStLeft at q
    split at q
    · rename_i e
      obtain ⟨v, e1, a, rfl, n, m, g, c, u, hm, hu2, h1, h2, h3⟩ := r.sl i _ e
      exact ⟨a, g, c, m, e1, h1, fun l t l0 t0 tn => ⟨.int l, rfl, q l l0 _ H (Sm.refl H) (.int l)⟩⟩
    · exact q.elim
def wStCells (i : Nat) : WE := fun ρ Q => match ρ[i]? with
  | some (.ar .sta) => ∀ cells : List Int, cells.length ≤ 1000 → (∀ k ∈ cells, 0 ≤ k) → Q (.d (.list (cells.map .int)))
  | _ => False
theorem de_stCells (hu : X.A.units + 64 < cLine) (i : Nat) {x : Str} {j : Nat} {p p2 pos : Pos} (hN : X.N[i]? = some x := by rfl) (hv : Vis X.env.scope x := by first | exact Or.inl rfl | exact Or.inr (Or.inl rfl) | exact Or.inr (Or.inr rfl)) (hd : (x == ("__debug__" : Str)) = false := by decide) (hcd : (x == ("__classdict__" : Str)) = false := by decide) :
    DE X (.Subscript (.Name x p) (.Constant (.str "cells") j p2) pos) (wStCells i) 0 := by
  refine ⟨fun ρ Q Q' k q => ?_, pe_imp (pe_stget hu i hN hv hd hcd) fun σ H Q ⟨ρ, r, q⟩ => ?_⟩
  · unfold wStCells at q ⊢
    split at q
    · exact fun l h h' => k _ (q l h h')
    · exact q.elim
  · unfold wStCells at q
    split at q
    · rename_i e
      obtain ⟨v, e1, a, rfl, n, m, g, c, u, hm, ⟨o, cells, rfl, hl, hk⟩, h1, h2, h3⟩ := r.sl i _ e
      exact ⟨a, g, c, m, e1, h1, fun l t l0 t0 tn => ⟨.ref c, rfl, q cells hl hk _ H (Sm.refl H) (.lst (.inl (.inr ⟨o, h3⟩)) (DpAll.ofInts cells))⟩⟩
    · exact q.elim
/-- state['left'] = value -/
def sLeft (X : Cx) (i : Nat) (tv : TE) : TS := fun D σ H => tv σ H fun v H1 => ∃ (a g c : Addr) (n : Nat) (z : Int), v = .int z ∧ σ[i]? = some (some (.ref a)) ∧ H1 a = some (stE X.prog X.w a g c n) ∧ 0 ≤ z ∧ D.nx σ H1
theorem ps_left (hu : X.A.units + 64 < cLine) (i : Nat) {x : Str} {value : Expr} {tv : TE} {j : Nat} {p p2 pos' pos : Pos} (hvl : PE X value tv) (hsw : swapsWith value (some (.Subscript (.Name x p) (.Constant (.str "left") j p2) pos')) pos.line X.env = pure false)
    (hN : X.N[i]? = some x := by rfl) (hv : Vis X.env.scope x := by first | exact Or.inl rfl | exact Or.inr (Or.inl rfl) | exact Or.inr (Or.inr rfl)) (hd : (x == ("__debug__" : Str)) = false := by decide) (hcd : (x == ("__classdict__" : Str)) = false := by decide) :
    PS X (.Assign [.Subscript (.Name x p) (.Constant (.str "left") j p2) pos'] value pos) (sLeft X i tv) := by
  refine ⟨fun pins s σ H D I h => ?_⟩
  have hu1 : X.A.units + 1 < cLine := by omega
  refine wpAny_Assign_Subscript (thn (hvl.run pins s σ H _ I h) fun r s1 ⟨v, H1, I1, rv, a, g, c, n, z, ev, ea, h1, hz, q⟩ => ?_) hsw
  subst ev
  refine thn ((pe_var hN hv hd hcd).run pins s1 σ H1 (fun y H' => y = .ref a ∧ H' = H1) I1 ⟨.ref a, ea, rfl, rfl⟩) fun u s2 ⟨y, H2, I2, r2, ey, e2⟩ => ?_
  subst ey e2
  refine thn (pe_str.run pins s2 σ H2 (fun y H' => y = .str "left" ∧ H' = H2) I2 ⟨rfl, rfl⟩) fun u2 s3 ⟨y, H3, I3, r3, ey, e3⟩ => ?_
  subst ey e3
  obtain ⟨l, t, h0, ht0, ht, J⟩ := Inv.openS I3 h1
  obtain rfl : u = Value.ref a := r2
  refine d_setItem hu1 J (DPut.k (k := .inr "left") (v := .int z) upd_same (by show 4 < sizeLine; rw [sizeLine_eq]; decide)) r3 rv fun s4 I4 => ?_
  rw [upd_upd] at I4
  have K := Inv.shutS (l := z) (t := t) (n := n) (g := g) (c := c) I4 (by rw [upd_same]; rfl) hz ht0 ht
  rw [upd_upd, upd_self h1] at K
  exact ⟨σ, H3, K, q⟩
def wLeft (i : Nat) (a : WE) : WS := fun ρ E => match ρ[i]? with
  | some (.ar .sta) => a ρ fun x => match x with
    | .d (.int z) => 0 ≤ z ∧ E.nx ρ
    | _ => False
  | _ => False
theorem ds_left (hu : X.A.units + 64 < cLine) (i : Nat) {x : Str} {value : Expr} {a : WE} {j : Nat} {p p2 pos' pos : Pos} (h : DE X value a c) (hsw : swapsWith value (some (.Subscript (.Name x p) (.Constant (.str "left") j p2) pos')) pos.line X.env = pure false := by rfl)
    (hN : X.N[i]? = some x := by rfl) (hv : Vis X.env.scope x := by first | exact Or.inl rfl | exact Or.inr (Or.inl rfl) | exact Or.inr (Or.inr rfl)) (hd : (x == ("__debug__" : Str)) = false := by decide) (hcd : (x == ("__classdict__" : Str)) = false := by decide) :
    DS X (.Assign [.Subscript (.Name x p) (.Constant (.str "left") j p2) pos'] value pos) (wLeft i a) c := by
  refine ⟨ps_impI (ps_left hu i h.run hsw hN hv hd hcd) fun pins s0 σ H D I ⟨H0, k, n, ρ, S, E, g, ok, q⟩ => ?_⟩
  unfold wLeft at q
  split at q
  · rename_i e
    refine tD_then h.mono g.repE q fun x v H1 q1 e1 z1 => ?_
    have ex := Ext.grow g.lst e1
    have r1 := g.rep.ext ex
    revert q1
    split
    · intro q1
      cases z1
      obtain ⟨u, eu, a, rfl, n', m, g', c', u', hm, hu2, h1, h2, h3⟩ := r1.ar i _ e
      exact ⟨a, g', c', m, _, rfl, eu, (hid_some h1).2, q1.1, ok.nx _ _ _ S q1.2 r1 (g.fin ex) I.len⟩
    · exact False.elim
  · exact q.elim
/-! a filling is counted -/
theorem noGr {pins : List (Addr × Obj)} {σ : L2.St} {H : Hp} {s : Shared} (I : Inv X pins σ H s) {a g c : Addr} {n : Nat} (h : H a = some (stE X.prog X.w a g c n)) (h2 : H a = some (grE a)) : False := by
  obtain ⟨⟨l, t, h0, h1, hn, y, vs, r, ob, es, ep, e, q⟩, _, _⟩ := I.hok a _ h
  obtain ⟨⟨ns, its, k, _, _, _, e2⟩, _, _⟩ := I.hok a _ h2
  rw [e] at e2; cases e2
  obtain ⟨c1, _⟩ := q
  exact absurd (show Value.type "list" = Value.type "dict" from c1.1) (by decide)
theorem pairs_vals {P : Program} {w : World} {es : List DictEntry} {vs : List (Key × Value)} (h : PySem.Pairs (mixKind P w) es vs) : vs.map (·.2) = es.map (·.val) := by
  induction h with
  | nil => rfl
  | cons _ e _ ih => rw [List.map_cons, List.map_cons, ih, e]
theorem stE_inj {P : Program} {w : World} {H : Hp} {h : Heap} {a g c g' c' : Addr} {n n' : Nat} (x : ObjOk P w H h a (stE P w a g c n)) (e : stE P w a g c n = stE P w a g' c' n') : g = g' ∧ c = c' := by
  have y := x
  rw [e] at y
  obtain ⟨⟨l, t, _, _, _, _, vs, r, ob, es, ep, e1, _, e2, _, e3, _⟩, _, _⟩ := x
  obtain ⟨⟨l', t', _, _, _, _, vs', r', ob', es', ep', e1', _, e2', _, e3', _⟩, _, _⟩ := y
  rw [e1] at e1'; cases e1'
  rw [e2] at e2'
  injection e2' with e4 _
  subst e4
  have hv : vs.map (·.2) = vs'.map (·.2) := by rw [pairs_vals e3, pairs_vals e3']
  cases r with
  | cons p1 r => cases r with
    | cons p2 r => cases r' with
      | cons q1 r' => cases r' with
        | cons q2 r' =>
          simp only [List.map_cons, List.cons.injEq] at hv
          have k1 := p1.2
          have k2 := q1.2
          have k3 := p2.2
          have k4 := q2.2
          rw [← hv.1] at k2
          rw [← hv.2.1] at k4
          have a1 : _ = Value.ref g := k1
          have a2 : _ = Value.ref g' := k2
          have a3 : _ = Value.ref c := k3
          have a4 : _ = Value.ref c' := k4
          rw [a1] at a2
          rw [a3] at a4
          exact ⟨by cases a2; rfl, by cases a4; rfl⟩
theorem bump {pins : List (Addr × Obj)} {σ : L2.St} {H : Hp} {s : Shared} {a g c : Addr} {n : Nat} {u : HO} (I : Inv X pins σ H s) (h1 : H a = some (stE X.prog X.w a g c n)) (h2 : H g = some (grE g)) (hu : CeE u) (h3 : H c = some u) (mn : ∀ m, Cn X.prog X.w H m → n ≤ m) :
    SmX X 1 H (upd H a (stE X.prog X.w a g c (n + 1))) := by
  have ga : ∀ g, H g = some (grE g) → g ≠ a := fun g h z => by subst z; exact noGr I h1 h
  have ca : ∀ c u, CeE u → H c = some u → c ≠ a := fun c u hu h z => by
    obtain ⟨o, cells, rfl, _⟩ := hu
    rw [z, h1] at h; cases h
  refine ⟨⟨fun {b o} e x => ?_, fun {b o} e => ?_⟩, fun {b} q => ?_, fun {m} q b g' c' k z => ?_⟩
  · rw [upd_ne (fun z => by rw [z, h1] at e; cases e; cases x)]; exact e
  · by_cases hb : b = a
    · exact ⟨_, by rw [hb]; exact upd_same⟩
    · exact ⟨o, by rw [upd_ne hb]; exact e⟩
  · by_cases hb : b = a
    · rw [hb]; exact ⟨n + 1, n + 1, g, c, u, Nat.le_refl _, hu, upd_same, by rw [upd_ne (ga g h2)]; exact h2, by rw [upd_ne (ca c u hu h3)]; exact h3⟩
    · obtain ⟨m, k, g', c', u', hm, hu', e1, e2, e3⟩ := q
      exact ⟨m, k, g', c', u', hm, hu', by rw [upd_ne hb]; exact e1, by rw [upd_ne (ga g' e2)]; exact e2, by rw [upd_ne (ca c' u' hu' e3)]; exact e3⟩
  · by_cases hb : b = a
    · rw [hb]
      exact ⟨g, c, n + 1, by have := mn m q; omega, upd_same⟩
    · rw [upd_ne hb] at z ⊢
      obtain ⟨g2, c2, m', h4, h5⟩ := q b g' c' k z
      exact ⟨g2, c2, m', by omega, h5⟩
/-- the least count -/
theorem StOK.least {pins : List (Addr × Obj)} {σ : L2.St} {H : Hp} {s : Shared} (I : Inv X pins σ H s) {a : Addr} (h : StOK X.prog X.w H a) : ∃ (n : Nat) (g c : Addr) (u : HO), CeE u ∧ H a = some (stE X.prog X.w a g c n) ∧ H g = some (grE g) ∧ H c = some u ∧ ∀ m, Cn X.prog X.w H m → n ≤ m := by
  obtain ⟨n, h⟩ := h
  induction n using Nat.strongRecOn with
  | _ n ih =>
    by_cases ex : ∃ m, m < n ∧ StOKn X.prog X.w H a m
    · obtain ⟨m, hm, q⟩ := ex
      exact ih m hm q
    · obtain ⟨m, g, c, u, hm, hu, h1, h2, h3⟩ := h
      refine ⟨m, g, c, u, hu, h1, h2, h3, fun k q => ?_⟩
      obtain ⟨g', c', m', h4, h5⟩ := q a g c m h1
      by_cases hk : m' < n
      · have e := h1
        rw [h5] at e
        obtain ⟨rfl, rfl⟩ := stE_inj (I.hok a _ h1) (Option.some.inj e).symm
        exact absurd ⟨m', hk, m', g, c, u, Nat.le_refl _, hu, h5, h2, h3⟩ ex
      · omega
/-- state['turn'] = name -/
def sTurn (X : Cx) (i k : Nat) : TS := fun D σ H => ∃ (a g c : Addr) (n : Nat) (u : HO) (z : Int), σ[i]? = some (some (.ref a)) ∧ σ[k]? = some (some (.int z)) ∧ H a = some (stE X.prog X.w a g c n) ∧ H g = some (grE g) ∧ CeE u ∧ H c = some u ∧ (∀ m, Cn X.prog X.w H m → n ≤ m) ∧ 0 ≤ z ∧ z ≤ n + 1 ∧ ∀ H', SmX X 1 H H' → D.nx σ H'
theorem ps_turn (hu : X.A.units + 64 < cLine) (i k : Nat) {x y : Str} {j : Nat} {p p2 p3 pos' pos : Pos} (hsw : swapsWith (.Name y p3) (some (.Subscript (.Name x p) (.Constant (.str "turn") j p2) pos')) pos.line X.env = pure false := by rfl)
    (hN : X.N[i]? = some x := by rfl) (hv : Vis X.env.scope x := by first | exact Or.inl rfl | exact Or.inr (Or.inl rfl) | exact Or.inr (Or.inr rfl)) (hd : (x == ("__debug__" : Str)) = false := by decide) (hcd : (x == ("__classdict__" : Str)) = false := by decide)
    (hN2 : X.N[k]? = some y := by rfl) (hv2 : Vis X.env.scope y := by first | exact Or.inl rfl | exact Or.inr (Or.inl rfl) | exact Or.inr (Or.inr rfl)) (hd2 : (y == ("__debug__" : Str)) = false := by decide) (hcd2 : (y == ("__classdict__" : Str)) = false := by decide) :
    PS X (.Assign [.Subscript (.Name x p) (.Constant (.str "turn") j p2) pos'] (.Name y p3) pos) (sTurn X i k) := by
  refine ⟨fun pins s σ H D I ⟨a, g, c, n, uu, z, ea, ek, h1, hg, hcu, hc, mn, hz, hz2, q⟩ => ?_⟩
  have hu1 : X.A.units + 1 < cLine := by omega
  refine wpAny_Assign_Subscript (thn ((pe_var hN2 hv2 hd2 hcd2).run pins s σ H (fun y H' => y = .int z ∧ H' = H) I ⟨.int z, ek, rfl, rfl⟩) fun r s1 ⟨v, H1, I1, rv, ev, e1⟩ => ?_) hsw
  subst ev e1
  refine thn ((pe_var hN hv hd hcd).run pins s1 σ H1 (fun y H' => y = .ref a ∧ H' = H1) I1 ⟨.ref a, ea, rfl, rfl⟩) fun u s2 ⟨y, H2, I2, r2, ey, e2⟩ => ?_
  subst ey e2
  refine thn (pe_str.run pins s2 σ H2 (fun y H' => y = .str "turn" ∧ H' = H2) I2 ⟨rfl, rfl⟩) fun u2 s3 ⟨y, H3, I3, r3, ey, e3⟩ => ?_
  subst ey e3
  obtain ⟨l, t, h0, ht0, ht, J⟩ := Inv.openS I3 h1
  obtain rfl : u = Value.ref a := r2
  refine d_setItem hu1 J (DPut.k (k := .inr "turn") (v := .int z) upd_same (by show 4 < sizeLine; rw [sizeLine_eq]; decide)) r3 rv fun s4 I4 => ?_
  rw [upd_upd] at I4
  have K := Inv.shutS (l := l) (t := z) (n := n + 1) (g := g) (c := c) I4 (by rw [upd_same]; rfl) h0 hz (by omega)
  rw [upd_upd] at K
  exact ⟨σ, _, K, q _ (bump I3 h1 hg hcu hc mn)⟩
/-- turn, found = state['turn'] + 1, 0; state['turn'] = turn; and on -/
def wFill (i k l : Nat) (b : WS) : WS := fun ρ E => match ρ[i]? with
  | some (.ar .sta) => ∀ t : Int, 0 ≤ t → t ≤ 2 ^ 4000 → b ((ρ.set k (.d (.int (t + 1)))).set l (.d (.int 0))) E
  | _ => False
theorem dss_fill (hu : X.A.units + 64 < cLine) (i k l : Nat) {x y z : Str} {rest : List Stmt} {b : WS} {j0 j1 j2 j3 kt k2 : Nat} {px py pt pt2 p1 p2 p3 p4 p5 p6 pos q1 q2 q3 q4 pos2 : Pos} (hNd : X.N.Nodup) (h : DSs X rest b c)
    (hw : swappedStores [.Tuple [.Name y px, .Name z py] kt pt] (.Tuple [.BinOp (.Subscript (.Name x p1) (.Constant (.str "turn") j0 p2) p3) .Add (.Constant (.int 1) j1 p4) p5, .Constant (.int 0) j2 p6] k2 pt2) X.env = pure (some [y, z]) := by rfl)
    (hs : swapsWithSole [.Tuple [.Name y px, .Name z py] kt pt] (.Tuple [.BinOp (.Subscript (.Name x p1) (.Constant (.str "turn") j0 p2) p3) .Add (.Constant (.int 1) j1 p4) p5, .Constant (.int 0) j2 p6] k2 pt2) pos.line X.env = pure false := by rfl)
    (hsw : swapsWith (.Name y q4) (some (.Subscript (.Name x q1) (.Constant (.str "turn") j3 q2) q3)) pos2.line X.env = pure false := by rfl)
    (hN : X.N[i]? = some x := by rfl) (hN2 : X.N[k]? = some y := by rfl) (hN3 : X.N[l]? = some z := by rfl) (hv : Vis X.env.scope x := by first | exact Or.inl rfl | exact Or.inr (Or.inl rfl) | exact Or.inr (Or.inr rfl)) (hy : X.env.scope.names.lookup y = some .local := by rfl) (hz : X.env.scope.names.lookup z = some .local := by rfl)
    (hd : (x == ("__debug__" : Str)) = false := by decide) (hcd : (x == ("__classdict__" : Str)) = false := by decide) (hd2 : (y == ("__debug__" : Str)) = false := by decide) (hcd2 : (y == ("__classdict__" : Str)) = false := by decide) (hkl : k ≠ l := by decide) (hik : i ≠ k := by decide) (hil : i ≠ l := by decide) (hc : X.calm = true := by rfl)
    (hs1 : starEach [.BinOp (.Subscript (.Name x p1) (.Constant (.str "turn") j0 p2) p3) .Add (.Constant (.int 1) j1 p4) p5, .Constant (.int 0) j2 p6] X.env = (false, eval (.BinOp (.Subscript (.Name x p1) (.Constant (.str "turn") j0 p2) p3) .Add (.Constant (.int 1) j1 p4) p5) X.env) :: starEach [.Constant (.int 0) j2 p6] X.env := by rfl)
    (hs2 : starEach [.Constant (.int 0) j2 p6] X.env = (false, eval (.Constant (.int 0) j2 p6) X.env) :: starEach [] X.env := by rfl) :
    DSs X (.Assign [.Tuple [.Name y px, .Name z py] kt pt] (.Tuple [.BinOp (.Subscript (.Name x p1) (.Constant (.str "turn") j0 p2) p3) .Add (.Constant (.int 1) j1 p4) p5, .Constant (.int 0) j2 p6] k2 pt2) pos ::
      .Assign [.Subscript (.Name x q1) (.Constant (.str "turn") j3 q2) q3] (.Name y q4) pos2 :: rest) (wFill i k l b) (1 + c) := by
  refine ⟨pss_impI (pss_cons (ps_par hc hNd hN2 hN3 hkl hy hz (pa_cons (pe_op op_add (pe_stget hu i hN hv hd hcd) pe_int) (pa_cons pe_int pa_nil hs2) hs1) hw hs) (pss_cons (ps_turn hu i k hsw hN hv hd hcd hN2 (.inl hy) hd2 hcd2) h.run)) fun pins s0 σ H D I ⟨H0, k0, n, ρ, S, E, g, ok, q⟩ => ?_⟩
  unfold wFill at q
  split at q
  · rename_i e
    have lk : k < σ.length := by rw [I.len]; exact (List.getElem?_eq_some_iff.mp hN2).1
    have ll : l < σ.length := by rw [I.len]; exact (List.getElem?_eq_some_iff.mp hN3).1
    obtain ⟨v, e1, a, rfl, hst⟩ := g.repE.sl i _ e
    obtain ⟨m, gg, cc, u, hcu, h1, h2, h3, mn⟩ := StOK.least I hst
    have hm : (m : Int) ≤ 2 ^ 4000 := by
      obtain ⟨N, hN, hle⟩ := g.repE.bud
      have := mn N hN
      have h4 : m ≤ 2 ^ 4000 := by omega
      exact_mod_cast h4
    refine ⟨a, gg, cc, m, e1, h1, fun l' t l0 t0 tm => ⟨.int t, rfl, ?_⟩⟩
    refine ⟨t, 1, rfl, rfl, _, _, rfl, ?_⟩
    have r1 : Rep X.prog X.w X.K ((ρ.set k (.d (.int (t + 1)))).set l (.d (.int 0))) ((σ.set k (some (.int (t + 1)))).set l (some (.int 0))) H S :=
      (g.rep.setD (x := .d (.int (t + 1))) lk (Dp.int _)).setD (x := .d (.int 0)) (by rw [List.length_set]; exact ll) (Dp.int _)
    refine ⟨a, gg, cc, m, u, t + 1, ?_, ?_, h1, h2, hcu, h3, mn, by omega, by omega, fun H' sm => ?_⟩
    · rw [List.getElem?_set_ne (Ne.symm hil), List.getElem?_set_ne (Ne.symm hik)]; exact e1
    · rw [List.getElem?_set_ne (Ne.symm hkl), List.getElem?_set_self lk]
    · have ex : ExtX X 1 H S H' S := Ext.grow g.lst sm
      exact ⟨H0, k0 + 1, n, _, S, E, ⟨r1.ext ex, g.sm.trans ex.hids, g.bud, by have := g.le; omega⟩, ok, q t t0 (by omega)⟩
  · exact q.elim
/-! the great numbers -/
theorem gr_ok {P : Program} {w : World} {H H' : Hp} {h : Heap} {g : Addr} {ns : List Int} (x : ObjOk P w H h g (.lst (ns.map V.int))) (h0 : ∀ k ∈ ns, (0 : Int) ≤ k) (hl : ns.length ≤ 1000) : ObjOk P w H' h g (grE g) := by
  obtain ⟨z, its, n, r, e⟩ := x
  exact ⟨⟨ns, its, n, h0, hl, r, e⟩, ⟨_, e⟩, fun k1 k2 ⟨ns, its, n, h0, hl, r, e⟩ k => ⟨ns, its, n, h0, hl, r, k _ e⟩⟩
theorem pe_openG {e : Expr} {t : TE} (i : Nat) (h : PE X e t) : PE X e (fun σ H Q => ∃ (a g c : Addr) (n : Nat), σ[i]? = some (some (.ref a)) ∧ H a = some (stE X.prog X.w a g c n) ∧ H g = some (grE g) ∧ (a ≠ g → ∀ ns : List Int, (∀ k ∈ ns, 0 ≤ k) → ns.length ≤ 1000 → t σ (upd H g (.lst (ns.map V.int))) Q)) := by
  refine ⟨fun pins s σ H Q I ⟨a, g, c, n, ea, h1, h2, q⟩ => ?_⟩
  obtain ⟨⟨ns, its, k, hk, hl, hv, e2⟩, hx, _⟩ := I.hok g _ h2
  have ag : a ≠ g := fun z => by subst z; exact noGr I h1 h2
  exact h.run pins s σ _ Q (Inv.see (o := .lst (ns.map V.int)) I h2 trivial hx ⟨by rw [List.length_map, sizeLine_eq]; omega, its, k, hv, e2⟩) (q ag ns hk hl)
theorem pe_shutG {e : Expr} {t : TE} (h : PE X e t) : PE X e (fun σ H Q => ∃ (g : Addr) (ns : List Int), H g = some (.lst (ns.map V.int)) ∧ (∀ k ∈ ns, 0 ≤ k) ∧ ns.length ≤ 1000 ∧ t σ (upd H g (grE g)) Q) := by
  refine ⟨fun pins s σ H Q I ⟨g, ns, h1, hk, hl, q⟩ => ?_⟩
  have x := I.hok g _ h1
  have hx : ∃ ob, s.heap.get? g = some ob := by obtain ⟨z, its, n, r, e⟩ := x; exact ⟨_, e⟩
  exact h.run pins s σ _ Q (Inv.see I h1 trivial hx (gr_ok x hk hl)) q
theorem pe_postG {e : Expr} {t : TE} (h : PE X e t) : PE X e (fun σ H Q => t σ H fun v H1 => ∃ (g : Addr) (ns : List Int), H1 g = some (.lst (ns.map V.int)) ∧ (∀ k ∈ ns, 0 ≤ k) ∧ ns.length ≤ 1000 ∧ Q v (upd H1 g (grE g))) := by
  refine ⟨fun pins s σ H Q I q => thn (h.run pins s σ H _ I q) fun v s1 ⟨y, H1, I1, r1, g, ns, h1, hk, hl, q⟩ => ?_⟩
  have x := I1.hok g _ h1
  have hx : ∃ ob, s1.heap.get? g = some ob := by obtain ⟨z, its, n, r, e⟩ := x; exact ⟨_, e⟩
  exact ⟨y, _, Inv.see I1 h1 trivial hx (gr_ok x hk hl), r1, q⟩
def wGreat (i : Nat) (b : WE) : WE := fun ρ Q => match ρ[i]? with
  | some (.ar .sta) => (∀ l : Int, 0 ≤ l → Q (.d (.int l))) ∧ b ρ Q
  | _ => False
theorem de_great (hu : X.A.units + 64 < cLine) (i : Nat) {x : Str} {call : Expr} {b : WE} {j1 j2 j3 : Nat} {p1 p2 p3 p4 p5 q1 q2 q3 q4 q5 q6 pos : Pos} (hb : DE X call b d)
    (hm : behindInMarks .NotEq (.List [] p4) = false := by rfl)
    (hN : X.N[i]? = some x := by rfl) (hv : Vis X.env.scope x := by first | exact Or.inl rfl | exact Or.inr (Or.inl rfl) | exact Or.inr (Or.inr rfl)) (hd : (x == ("__debug__" : Str)) = false := by decide) (hcd : (x == ("__classdict__" : Str)) = false := by decide)
    (hpe : ∀ (to : TE) (t : TA), PE X (.Subscript (.Name x q1) (.Constant (.str "great") j2 q2) q3) to → PA X [.Constant (.int 0) j3 q5] t → PE X (.Call (.Attribute (.Subscript (.Name x q1) (.Constant (.str "great") j2 q2) q3) "pop" q4) [.Constant (.int 0) j3 q5] [] q6) (tBM X.K "list" rPopAt to t) := by
      exact fun to t h1 h2 => pe_bm PySem.F.plainAttrs_list PySem.F.slot_list_pop PySem.F.type_list_pop mt_popAt h1 h2) (hs1 : starEach [.Constant (.int 0) j3 q5] X.env = (false, eval (.Constant (.int 0) j3 q5) X.env) :: starEach [] X.env := by rfl) :
    DE X (.IfExp (.Compare (.Subscript (.Name x p1) (.Constant (.str "great") j1 p2) p3) [.NotEq] [.List [] p4] p5) (.Call (.Attribute (.Subscript (.Name x q1) (.Constant (.str "great") j2 q2) q3) "pop" q4) [.Constant (.int 0) j3 q5] [] q6) call pos) (wGreat i b) d := by
  refine ⟨fun ρ Q Q' k q => ?_, ?_⟩
  · unfold wGreat at q ⊢
    split at q
    · exact ⟨fun l h => k _ (q.1 l h), hb.mono ρ _ _ k q.2⟩
    · exact q.elim
  refine pe_imp (pe_openG i (pe_ifExp (pt_cmpR (op_neD hu) (pe_stget hu i hN hv hd hcd) (pe_lst pa_nil) hm) (pe_postG (hpe _ _ (pe_stget hu i hN hv hd hcd) (pa_cons pe_int pa_nil hs1))) (pe_shutG hb.run))) fun σ H Q ⟨ρ, r, q⟩ => ?_
  unfold wGreat at q
  split at q
  · rename_i e
    obtain ⟨v, e1, a, rfl, n, m, g, c, u, hm, hcu, h1, h2, h3⟩ := r.sl i _ e
    refine ⟨a, g, c, m, e1, h1, h2, fun ag ns hk hl => ?_⟩
    have ha : upd H g (.lst (ns.map V.int)) a = some (stE X.prog X.w a g c m) := by rw [upd_ne ag]; exact h1
    refine ⟨a, g, c, m, e1, ha, fun l t l0 t0 tm => ⟨.ref g, rfl, ?_⟩⟩
    refine ⟨by rw [sizeLine_eq]; decide, fun p hp => ?_⟩
    have gp : g ≠ p := fun z => by rw [← z, upd_same] at hp; cases hp
    have hHp : H p = none := by rw [upd_ne (Ne.symm gp)] at hp; exact hp
    have ap : a ≠ p := fun z => by rw [z, hHp] at h1; cases h1
    have hg2 : upd (upd H g (.lst (ns.map V.int))) p (.lst []) g = some (.lst (ns.map V.int)) := by rw [upd_ne gp]; exact upd_same
    have ha2 : upd (upd H g (.lst (ns.map V.int))) p (.lst []) a = some (stE X.prog X.w a g c m) := by rw [upd_ne ap]; exact ha
    have back : ∀ o, upd (upd (upd H g o) p (.lst [])) g (grE g) = upd H p (.lst []) := fun o => by
      funext b
      by_cases hb : b = g
      · rw [hb, upd_same, upd_ne gp, h2]
      · rw [upd_ne hb]
        by_cases hp : b = p
        · rw [hp, upd_same, upd_same]
        · rw [upd_ne hp, upd_ne hp, upd_ne hb]
    have shN : SeqAt.shaped (.list (ns.map .int)) = true := by
      have c1 : PyData.canLayAll0 (ns.map .int) = true := by
        clear hl hk ha hp hHp hg2 ha2 back
        induction ns with
        | nil => rfl
        | cons k ks ih => simp [PyData.canLayAll0, PyData.canLay0, ih]
      have c2 : PyData.depthAll (ns.map .int) ≤ 1 := by
        clear hl hk ha hp hHp hg2 ha2 back c1
        induction ns with
        | nil => simp [PyData.depthAll]
        | cons k ks ih => simp [PyData.depthAll, PyData.depth]; omega
      unfold SeqAt.shaped
      rw [Bool.and_eq_true]
      exact ⟨by simpa [PyData.canLay0] using c1, decide_eq_true (by simp [PyData.depth]; omega)⟩
    refine ⟨.list (ns.map .int), .list [], .lst (.inl (.inl hg2)) (DpAll.ofInts ns), .lst (.inl (.inl upd_same)) .nil, shN, rfl, ?_⟩
    cases ns with
    | nil =>
      refine ⟨false, rfl, iteF ?_⟩
      refine ⟨g, [], hg2, hk, hl, ?_⟩
      rw [back]
      exact tD_then hb.mono (RepE.go (c := 0) (d := d) (by simpa using r) (Sm.new hHp)) q.2 fun y v H1 q1 e1 z1 => q1 v H1 (by simpa using (Sm.new (P := X.prog) (w := X.w) (o := .lst []) hHp).trans e1) z1
    | cons k0 ks =>
      refine ⟨true, rfl, iteT ?_⟩
      refine ⟨a, g, c, m, e1, ha2, fun l t l0 t0 tm => ⟨.ref g, rfl, ?_⟩⟩
      refine ⟨.inl ⟨rfl, _, .inl (.inl hg2)⟩, ?_⟩
      refine ⟨g, _, 0, 0, .int k0, rfl, rfl, hg2, by decide, by decide, by simp [seqIndex?], rfl, ?_⟩
      refine ⟨g, ks, upd_same, fun k h => hk k (List.mem_cons_of_mem _ h), by simp at hl; omega, ?_⟩
      rw [upd_upd, back]
      exact q.1 k0 (hk k0 List.mem_cons_self) _ _ ((Sm.new hHp).le (Nat.zero_le _)) (Dp.int _)
  · exact q.elim
/-! a source is born -/
def bornH (P : Program) (w : World) (H : Hp) (p g c : Addr) (od : Obj) (cells : List Int) : Hp := upd (upd (upd H c (.frz od (.lst (cells.map V.int)))) g (grE g)) p (stE P w p g c 0)
theorem pe_born {e : Expr} {t : TE} (h : PE X e t) : PE X e (fun σ H Q => t σ H fun v H3 => ∃ (p g c : Addr) (ns cells : List Int), v = .ref p ∧ g ≠ c ∧ p ≠ g ∧ p ≠ c ∧ H3 p = some (.dK (stKv g c 0 0)) ∧ H3 g = some (.lst (ns.map V.int)) ∧ H3 c = some (.lst (cells.map V.int)) ∧ (∀ k ∈ ns, 0 ≤ k) ∧ ns.length ≤ 1000 ∧
    ∀ od, (∃ pins s, Inv X pins σ (bornH X.prog X.w H3 p g c od cells) s) → Q v (bornH X.prog X.w H3 p g c od cells)) := by
  refine ⟨fun pins s σ H Q I q => thn (h.run pins s σ H _ I q) fun v s1 ⟨y, H3, I1, r1, p, g, c, ns, cells, ey, gc, pg, pc, hp, hg, hcl, hk, hl, q⟩ => ?_⟩
  subst ey
  obtain ⟨od, I2⟩ := I1.lock hcl trivial
  have hg2 : upd H3 c (.frz od (.lst (cells.map V.int))) g = some (.lst (ns.map V.int)) := by rw [upd_ne gc]; exact hg
  have x := I2.hok g _ hg2
  have hx : ∃ ob, s1.heap.get? g = some ob := by obtain ⟨z, its, n, r, e⟩ := x; exact ⟨_, e⟩
  have I3 := Inv.see I2 hg2 trivial hx (gr_ok x hk hl)
  have hp3 : upd (upd H3 c (.frz od (.lst (cells.map V.int)))) g (grE g) p = some (.dK (stKv g c 0 0)) := by rw [upd_ne pg, upd_ne pc]; exact hp
  have I4 := Inv.shutS (n := 0) I3 hp3 (by omega) (by omega) (by omega)
  exact ⟨.ref p, _, I4, r1, q od ⟨_, _, I4⟩⟩
theorem born_sm {σ : L2.St} {H0 H1 H4 : Hp} {m : Nat} {p g c : Addr} {od : Obj} {cells ns : List Int} {kvs : List (Key × V)} (sm : SmX X m H0 H1) (p0 : H0 p = none) (g0 : H0 g = none) (c0 : H0 c = none) (p1 : H1 p = some (.dK kvs)) (g1 : H1 g = none) (c1 : H1 c = some (.lst (cells.map V.int)))
    (hb : ∀ b, b ≠ p → b ≠ g → b ≠ c → H4 b = H1 b) (hp : H4 p = some (stE X.prog X.w p g c 0)) (hg : H4 g = some (grE g)) (hc : H4 c = some (.frz od (.lst (cells.map V.int)))) (no : ∀ g' c' n, grE g ≠ stE X.prog X.w g g' c' n) : SmX X m H0 H4 := by
  have ne0 : ∀ {b : Addr} {o : HO}, H0 b = some o → b ≠ p ∧ b ≠ g ∧ b ≠ c := fun {b o} e => ⟨(fun z => by rw [z, p0] at e; cases e), (fun z => by rw [z, g0] at e; cases e), (fun z => by rw [z, c0] at e; cases e)⟩
  have up : ∀ b u, stU u = true → H1 b = some u → H4 b = some u := fun b u x e => by
    rw [hb b (fun z => by rw [z, p1] at e; cases e; cases x) (fun z => by rw [z, g1] at e; cases e) (fun z => by rw [z, c1] at e; cases e; cases x)]; exact e
  refine ⟨⟨fun {b o} e x => ?_, fun {b o} e => ?_⟩, fun q => (sm.sta q).to up, fun {n} q b g' c' k e => ?_⟩
  · obtain ⟨n1, n2, n3⟩ := ne0 e
    rw [hb b n1 n2 n3]; exact sm.k e x
  · obtain ⟨n1, n2, n3⟩ := ne0 e
    rw [hb b n1 n2 n3]; exact sm.th e
  · by_cases n1 : b = p
    · rw [n1]; exact ⟨g, c, 0, Nat.zero_le _, hp⟩
    · by_cases n2 : b = g
      · rw [n2, hg] at e
        exact absurd (Option.some.inj e) (no _ _ _)
      · by_cases n3 : b = c
        · rw [n3, hc] at e
          cases e
        · rw [hb b n1 n2 n3] at e
          obtain ⟨g2, c2, m', h4, h5⟩ := sm.cnt q b g' c' k e
          exact ⟨g2, c2, m', h4, up _ _ rfl h5⟩
def wBegun (gi : Nat) (wc : WN) : WS := fun ρ E => match ρ[gi]? with
  | some (.ow ds) => (∃ ns : List Int, ds = ns.map .int ∧ (∀ k ∈ ns, 0 ≤ k) ∧ ns.length ≤ 1000) ∧ wc (noOw ρ) fun cs => (∃ ms : List Int, cs = ms.map .int ∧ (∀ k ∈ ms, 0 ≤ k) ∧ ms.length ≤ 1000) ∧ E.rt (.ar .sta)
  | _ => False
theorem ds_begun (gi : Nat) {x : Str} {ce : Expr} {wc : WN} {j1 j2 j3 j4 j5 j6 : Nat} {p1 p2 p3 p4 p5 p6 p7 pos1 pos : Pos} (hce : DN X ce wc d)
    (hN : X.N[gi]? = some x := by rfl) (hv : Vis X.env.scope x := by first | exact Or.inl rfl | exact Or.inr (Or.inl rfl) | exact Or.inr (Or.inr rfl)) (hd : (x == ("__debug__" : Str)) = false := by decide) (hcd : (x == ("__classdict__" : Str)) = false := by decide) :
    DS X (.Return (some (.Dict [some (.Constant (.str "great") j1 p1), some (.Constant (.str "cells") j2 p2), some (.Constant (.str "left") j3 p3), some (.Constant (.str "turn") j4 p4)] [.Name x p5, ce, .Constant (.int 0) j5 p6, .Constant (.int 0) j6 p7] pos1)) pos) (wBegun gi wc) d := by
  refine ⟨ps_imp (ps_ret (pe_born (pe_disp (pps_cons pe_str (pe_var hN hv hd hcd) (pps_cons pe_str (pe_fr hce.run) (pps_cons pe_str pe_int (pps_cons pe_str pe_int pps_nil)))) rfl rfl (by intro z; cases z) (by show 4 ≤ 15; decide)))) fun D σ H ⟨H0, k, n, ρ, S, E, g, ok, q⟩ => ?_⟩
  unfold wBegun at q
  split at q
  · rename_i ds e
    obtain ⟨⟨ns, rfl, hns, hnl⟩, q⟩ := q
    obtain ⟨ga, us, eg, gS, hga, dg⟩ := g.rep.ow gi _ e
    have dg := DpAll.ints dg
    subst dg
    intro p hp
    have hpS : p ∉ S := fun z => by obtain ⟨xs, y⟩ := g.lst p z; rw [hp] at y; cases y
    have lp : LstS (upd H p (.dK [])) S := fun b hb => by
      obtain ⟨xs, y⟩ := g.lst b hb
      exact ⟨xs, by rw [upd_ne (fun z => hpS (by rw [← z]; exact hb))]; exact y⟩
    have eh : hid (upd H p (.dK [])) S = upd (hid H S) p (.dK []) := by
      funext b
      by_cases hb : b = p
      · rw [hb, upd_same, hid_out hpS, upd_same]
      · rw [upd_ne hb]
        by_cases hs : b ∈ S
        · rw [hid_in hs, hid_in hs]
        · rw [hid_out hs, hid_out hs, upd_ne hb]
    have hpn : hid H S p = none := by rw [hid_out hpS]; exact hp
    have sm0 : SmX X 0 (hid H S) (hid (upd H p (.dK [])) S) := by rw [eh]; exact Sm.new hpn
    refine ⟨.ref ga, eg, S, lp, noOw ρ, RepE.go (c := 0) (d := d) (by simpa using g.repF) sm0, hce.mono _ _ _ (fun cs q1 ca vs H1 e1 hn hca hd no => ?_) q⟩
    obtain ⟨⟨ms, rfl, hms, hml⟩, q1⟩ := q1
    have dm := DpAll.ints hd
    subst dm
    have caS : ca ∉ S := fun z => by rw [no ca z] at hca; cases hca
    have hn2 : upd H p (.dK []) ca = none := by rw [hid_out caS] at hn; exact hn
    have cap : ca ≠ p := fun z => by rw [z, upd_same] at hn2; cases hn2
    have hn3 : H ca = none := by rw [upd_ne cap] at hn2; exact hn2
    have gap : ga ≠ p := fun z => hpS (by rw [← z]; exact gS)
    have gac : ga ≠ ca := fun z => caS (by rw [← z]; exact gS)
    have p1 : H1 p = some (.dK []) := e1.k (by rw [eh]; exact upd_same) rfl
    have g1 : H1 ga = none := no ga gS
    refine ⟨by rw [rest_out hpS]; exact p1, [((.inr "great" : Key), V.ref ga), (.inr "cells", .ref ca), (.inr "left", .int 0), (.inr "turn", .int 0)], rfl, by show 4 ≤ 15; decide, ?_⟩
    refine ⟨p, ga, ca, ns, ms, rfl, gac, Ne.symm gap, Ne.symm cap, by rw [upd_same]; rfl, ?_, ?_, hns, hnl, fun od hI => ?_⟩
    · rw [upd_ne gap, rest_in gS, upd_ne gap]; exact hga
    · rw [upd_ne cap, rest_out caS]; exact hca
    · have H0n : ∀ {b : Addr}, hid H S b = none → H0 b = none := fun h => g.sm.toSame.free h
      have sm1 : SmX X n H0 H1 := ((g.sm.trans sm0).trans e1).le (by have := g.le; omega)
      generalize hH4 : bornH X.prog X.w _ p ga ca od ms = H4 at hI ⊢
      have b4 : ∀ b, b ≠ p → b ≠ ga → b ≠ ca → H4 b = rest (upd H p (.dK [])) S H1 b := fun b n1 n2 n3 => by
        rw [← hH4]; unfold bornH; rw [upd_ne n1, upd_ne n2, upd_ne n3, upd_ne n1]
      have p4 : H4 p = some (stE X.prog X.w p ga ca 0) := by rw [← hH4]; exact upd_same
      have g4 : H4 ga = some (grE ga) := by rw [← hH4]; unfold bornH; rw [upd_ne gap]; exact upd_same
      have c4 : H4 ca = some (.frz od (.lst (ms.map V.int))) := by rw [← hH4]; unfold bornH; rw [upd_ne cap, upd_ne (Ne.symm gac)]; exact upd_same
      have mem : ∀ b, b ∈ S.filter (fun b => decide (b ≠ ga)) ↔ b ∈ S ∧ b ≠ ga := fun b => by simp
      have nS : ∀ b, b ∈ S → b ≠ p ∧ b ≠ ca := fun b hb => ⟨fun z => hpS (by rw [← z]; exact hb), fun z => caS (by rw [← z]; exact hb)⟩
      have l4 : LstS H4 (S.filter fun b => decide (b ≠ ga)) := fun b hb => by
        obtain ⟨hb, hg⟩ := (mem b).mp hb
        obtain ⟨xs, y⟩ := lp b hb
        exact ⟨xs, by rw [b4 b (nS b hb).1 hg (nS b hb).2, rest_in hb]; exact y⟩
      have out : ∀ b, b ∉ S.filter (fun b => decide (b ≠ ga)) → hid H4 (S.filter fun b => decide (b ≠ ga)) b = H4 b := fun b h => hid_out h
      have pO : p ∉ S.filter (fun b => decide (b ≠ ga)) := fun z => hpS ((mem p).mp z).1
      have gO : ga ∉ S.filter (fun b => decide (b ≠ ga)) := fun z => ((mem ga).mp z).2 rfl
      have cO : ca ∉ S.filter (fun b => decide (b ≠ ga)) := fun z => caS ((mem ca).mp z).1
      have sm4 : SmX X n H0 (hid H4 (S.filter fun b => decide (b ≠ ga))) := by
        refine born_sm (σ := σ) (p := p) (g := ga) (c := ca) (od := od) (cells := ms) (ns := ns) (kvs := []) sm1 (H0n hpn) (H0n (hid_in gS)) (H0n (by rw [hid_out caS]; exact hn3)) p1 g1 hca (fun b n1 n2 n3 => ?_) (by rw [out _ pO]; exact p4) (by rw [out _ gO]; exact g4) (by rw [out _ cO]; exact c4) fun g' c' m z => ?_
        · by_cases hb : b ∈ S
          · rw [hid_in ((mem b).mpr ⟨hb, n2⟩), no b hb]
          · rw [out b (fun z => hb ((mem b).mp z).1), b4 b n1 n2 n3, rest_out hb]
        · obtain ⟨pins, s, I⟩ := hI
          exact noGr I (by rw [g4, z]) g4
      refine ok.ar .sta (.ref p) H4 _ q1 l4 sm4 ⟨p, rfl, 0, 0, ga, ca, _, Nat.le_refl _, ⟨od, ms, rfl, hml, hms⟩, ?_, ?_, ?_⟩
      · rw [out _ pO]; exact p4
      · rw [out _ gO]; exact g4
      · rw [out _ cO]; exact c4
  · exact q.elim
end
end DW
set_option Elab.async false
set_option linter.all false
set_option maxRecDepth 100000
set_option maxHeartbeats 1000000
/-! DwHead: the head's facts with constants of any shape; the end of a law over data. -/
namespace DW
open PySem PySem.Spec PyProof.Rows L2
/-! ### constants -/
def all2 (f : Value → PyData → Bool) : List Value → List PyData → Bool
  | [], [] => true
  | u :: us, d :: ds => f u d && all2 f us ds
  | _, _ => false
def cdB (K : Fg) : Nat → Value → PyData → Bool
  | 0, _, _ => false
  | n + 1, u, d => match u, d with
    | .none, .none => true
    | .bool a, .bool b => decide (a = b)
    | .int i _, .int j => decide (i = j)
    | .str x _, .str y => decide (x = y)
    | .ref a, .tuple ds => match K.lookup a with
      | some ⟨.type c, _, .seq its _, _⟩ => decide (c = "tuple") && (Nat.ble its.size 1000 && all2 (cdB K n) its.toList ds)
      | _ => false
    | _, _ => false
def cV : Value → V
  | .bool b => .bl b
  | .int i _ => .int i
  | .str x _ => .str x
  | .ref a => .ref a
  | _ => .non
theorem all2_ok {K : Fg} {f : Value → PyData → Bool} (h : ∀ u d, f u d = true → RelV (cV u) u ∧ ∀ H, Dp K H (cV u) d) : ∀ {us : List Value} {ds : List PyData}, all2 f us ds = true → Vals (us.map cV) us ∧ ∀ H, DpAll K H (us.map cV) ds
  | [], [], _ => ⟨.nil, fun _ => .nil⟩
  | u :: us, d :: ds, e => by
    have e2 := Bool.and_eq_true_iff.mp (show (f u d && all2 f us ds) = true from e)
    have a := h u d e2.1
    have b := all2_ok h e2.2
    exact ⟨.cons a.1 b.1, fun H => .cons (a.2 H) (b.2 H)⟩
  | [], _ :: _, e => nomatch e
  | _ :: _, [], e => nomatch e
theorem cdB_ok {K : Fg} : ∀ (n : Nat) (u : Value) (d : PyData), cdB K n u d = true → RelV (cV u) u ∧ ∀ H, Dp K H (cV u) d
  | 0, _, _, e => nomatch e
  | n + 1, u, d, e => by
    unfold cdB at e
    split at e
    · exact ⟨rfl, fun _ => .non⟩
    · rename_i a b
      have := of_decide_eq_true e
      subst this
      exact ⟨rfl, fun _ => .bl _⟩
    · rename_i i _ j
      have := of_decide_eq_true e
      subst this
      exact ⟨⟨_, rfl⟩, fun _ => .int _⟩
    · rename_i x _ y
      have := of_decide_eq_true e
      subst this
      exact ⟨⟨_, rfl⟩, fun _ => .str _⟩
    · rename_i a ds
      split at e
      · rename_i c od its m osl lk
        obtain ⟨e1, e⟩ := Bool.and_eq_true_iff.mp e
        obtain ⟨e2, e3⟩ := Bool.and_eq_true_iff.mp e
        have hc := of_decide_eq_true e1
        subst hc
        obtain ⟨a1, a2⟩ := all2_ok (cdB_ok n) e3
        exact ⟨rfl, fun H => .tup (.inr ⟨_, its, m, lk, rfl, rfl, Nat.le_trans (Nat.le_of_ble_eq_true e2) (by rw [sizeLine_eq]; decide), a1⟩) (a2 H)⟩
      · cases e
    · cases e
def cstB (K : Fg) (x : Str) (d : PyData) : Bool := match PySem.W.nsIn K mainGlobals x with
  | some (some u) => cdB K 8 u d
  | _ => false
def bltB (K : Fg) (x : Str) (b : String) : Bool := He.eqO (PySem.W.nsIn K mainGlobals x) (some (some (.builtin b)))
section
variable {K : Fg} {h : Heap} {mg : Str → Option Value} {x : Str}
theorem cstB_ok (X : K.In h) (G : h.Ns mainGlobals mg) {d : PyData} (e : cstB K x d = true) : Cst K mg x d := by
  unfold cstB at e
  split at e
  · rename_i u q
    obtain ⟨a, b⟩ := cdB_ok 8 u d e
    exact ⟨u, cV u, PySem.W.mg_of X G q, a, b⟩
  · cases e
theorem bltB_ok (X : K.In h) (G : h.Ns mainGlobals mg) {b : String} (e : bltB K x b = true) : mg x = some (.builtin b) := PySem.W.mg_of X G (He.eqO_ok e)
end
/-! ### the hook -/
structure SaysM (fa : List He.Fa) (fn : List He.DefD) (ex : Fg → Bool) (K : Fg) : Prop where
  d : He.SaysD fa fn K
  more : ex K = true
abbrev AlM : Type := He.AlD × Bool
def obsM (n : Nat) (fa : List He.Fa) (fn : List He.DefD) (ex : Fg → Bool) (g : Addr → Option Obj) : AlM := (He.obsD fa fn (He.frG g (He.asD g n)), ex (He.frG g (He.asD g n)))
def valM (fn : List He.DefD) : AlM := (He.valD fn, true)
def hookM (n : Nat) (fa : List He.Fa) (fn : List He.DefD) (ex : Fg → Bool) : PySem.W.Hook where
  α := AlM
  obs := fun s => obsM n fa fn ex s.heap.get?
  val := fun _ => valM fn
  says := fun _ h => ∃ K : Fg, K.In h ∧ SaysM fa fn ex K
  of := fun _ _ e => ⟨_, He.frG_in, ⟨congrArg (fun z : AlM => z.1) e, congrArg (fun z : AlM => z.2) e⟩⟩
  keeps := fun _ _ _ ⟨K, hK, c⟩ k => ⟨K, PySem.W.Frag.In.keeps hK k, c⟩
theorem obsM_eq {n : Nat} {fa : List He.Fa} {fn : List He.DefD} {ex : Fg → Bool} {g : Addr → Option Obj} {s : Shared} (h : ∀ a, g a = s.heap.get? a) : obsM n fa fn ex g = (hookM n fa fn ex).obs s := by
  have e : g = s.heap.get? := funext h
  rw [e] <;> rfl
/-! ### the law itself, called over a heap with its script alone -/
theorem law_sp {P : Program} {w : World} {K : Fg} {ws : WF} {c : Nat} (hc : c ≤ 2 ^ 4000) (h : ∀ (ns : List Int) (R : Rv → Prop), ns.length ≤ 63 → R (.d (.bool true)) → ws [.d (.list (ns.map .int))] R) {H : Hp} {a : Addr} {ns : List Int} (hl : ns.length ≤ 63) (hO : Only H) (hS : SqL K H a (ns.map V.int)) (E : XK) : spF P w K ws c [.ref a] H (fun v _ => v = .bl true) E := by
  refine ⟨[.d (.list (ns.map .int))], .cons (Dp.lst hS (DpAll.ofInts ns)) .nil, ⟨0, fun b g e m q => ?_, by omega⟩, h ns _ hl ?_⟩
  · rcases hO b with z | ⟨o, xs, z⟩
    · rw [z] at q; cases q
    · rw [z] at q; cases q
  · intro v H' _ z
    cases z; rfl
end DW
/-! KxRat: fractions in lowest terms, sizes of fractions, sums. Plain Lean. -/
namespace Kx
/-- the pair that stands for a quotient -/
theorem ratPair {u l p q : Int} (hq : 0 < q) (hg : Int.gcd p q = 1) (hl : l ≠ 0) (h : p * l = u * q) : ((u : Rat) / (l : Rat)).num = p ∧ (((u : Rat) / (l : Rat)).den : Int) = q := by
  obtain ⟨n, rfl⟩ : ∃ n : Nat, q = n := ⟨q.toNat, by omega⟩
  have hn : n ≠ 0 := by omega
  have hc : p.natAbs.Coprime n := by simpa [Int.gcd, Nat.Coprime] using hg
  have e : (u : Rat) / (l : Rat) = Rat.mk' p n hn hc := by
    rw [← Rat.divInt_eq_div, Rat.mk_eq_divInt]
    exact (Rat.divInt_eq_divInt_iff hl (by omega)).mpr h.symm
  rw [e]
  exact ⟨rfl, rfl⟩
theorem fdiv_exact {a b c : Int} (hb : b ≠ 0) (h : a = c * b) : a.fdiv b = c := by
  rw [h]; exact Int.mul_fdiv_cancel _ hb
/-- u over l in lowest terms, by the gcd with l's sign -/
theorem lowPair {u l s : Int} (hl : l ≠ 0) (hs : s = if 0 < l then 1 else -1) :
    u.fdiv (s * ((Nat.gcd u.natAbs l.natAbs : Nat) : Int)) = ((u : Rat) / (l : Rat)).num ∧ l.fdiv (s * ((Nat.gcd u.natAbs l.natAbs : Nat) : Int)) = (((u : Rat) / (l : Rat)).den : Int) ∧ s * ((Nat.gcd u.natAbs l.natAbs : Nat) : Int) ≠ 0 := by
  have hgp : 0 < Nat.gcd u.natAbs l.natAbs := Nat.gcd_pos_of_pos_right _ (by omega)
  generalize hg : Nat.gcd u.natAbs l.natAbs = g at *
  have hs1 : s = 1 ∨ s = -1 := by rw [hs]; split <;> simp
  have hd1 : (g : Int) ∣ u := by rw [← hg]; exact Int.gcd_dvd_left ..
  have hd2 : (g : Int) ∣ l := by rw [← hg]; exact Int.gcd_dvd_right ..
  obtain ⟨a, ha⟩ := hd1
  obtain ⟨b, hb⟩ := hd2
  have hne : s * (g : Int) ≠ 0 := by
    rcases hs1 with h | h <;> rw [h] <;> omega
  have hcop : Int.gcd a b = 1 := by
    have h1 : Int.gcd u l = g := hg
    rw [ha, hb, Int.gcd_mul_left] at h1
    have h2 : (g : Int).natAbs = g := Int.natAbs_natCast g
    rw [h2] at h1
    exact Nat.eq_of_mul_eq_mul_left hgp (by omega)
  have ss : s * s = 1 := by rcases hs1 with h | h <;> rw [h] <;> rfl
  have e1 : u.fdiv (s * g) = a * s := fdiv_exact hne (by rw [ha]; grind)
  have e2 : l.fdiv (s * g) = b * s := fdiv_exact hne (by rw [hb]; grind)
  have hbs : 0 < b * s := by
    rw [hs]
    split
    · rename_i h
      rw [hb] at h
      have : 0 < b := Int.pos_of_mul_pos_right h (by omega) |> fun h => h
      omega
    · rename_i h
      have : l < 0 := by omega
      rw [hb] at this
      have : b < 0 := by
        rcases Int.lt_trichotomy b 0 with z | z | z
        · exact z
        · rw [z] at this; simp at this
        · have := Int.mul_pos (show (0 : Int) < g by omega) z; omega
      omega
  obtain ⟨h1, h2⟩ := ratPair (u := u) (l := l) (p := a * s) (q := b * s) hbs (by
    rcases hs1 with h | h <;> rw [h] <;> simpa using hcop) hl (by rw [ha, hb]; grind)
  exact ⟨by rw [e1, h1], by rw [e2, h2], hne⟩
/-! sizes -/
/-- x is a whole number over N, of K at most -/
def Fr (N K : Nat) (x : Rat) : Prop := 0 < N ∧ ∃ k : Int, x * (N : Rat) = (k : Rat) ∧ k.natAbs ≤ K
theorem Fr.eq {N K : Nat} {x : Rat} (h : Fr N K x) : ∃ k : Int, x = (k : Rat) / (N : Rat) ∧ k.natAbs ≤ K := by
  obtain ⟨hN, k, e, hk⟩ := h
  refine ⟨k, ?_, hk⟩
  have hn : (N : Rat) ≠ 0 := by simpa using Nat.ne_of_gt hN
  rw [← e, Rat.mul_div_cancel hn]
theorem Fr.size {N K : Nat} {x : Rat} (h : Fr N K x) : x.num.natAbs ≤ K ∧ x.den ≤ N := by
  obtain ⟨k, e, hk⟩ := h.eq
  have hN := h.1
  have e2 : x = mkRat k N := by rw [e, Rat.mkRat_eq_div]
  rw [e2, Rat.num_mkRat, Rat.den_mkRat, if_neg (by omega), if_neg (by omega)]
  refine ⟨?_, Nat.div_le_self _ _⟩
  have hd : ((N.gcd k.natAbs : Nat) : Int) ∣ k := by
    have := Nat.gcd_dvd_right N k.natAbs
    exact Int.ofNat_dvd_left.mpr this
  rw [Int.natAbs_ediv_of_dvd hd]
  exact Nat.le_trans (Nat.div_le_self _ _) hk
theorem Fr.mono {N K L : Nat} {x : Rat} (h : Fr N K x) (hL : K ≤ L) : Fr N L x := ⟨h.1, let ⟨k, e, hk⟩ := h.2; ⟨k, e, Nat.le_trans hk hL⟩⟩
theorem Fr.add {N K L : Nat} {x y : Rat} (h : Fr N K x) (g : Fr N L y) : Fr N (K + L) (x + y) := by
  obtain ⟨hN, k, e, hk⟩ := h
  obtain ⟨_, l, f, hl⟩ := g
  exact ⟨hN, k + l, by rw [Rat.intCast_add, ← e, ← f]; grind, by omega⟩
theorem Fr.neg {N K : Nat} {x : Rat} (h : Fr N K x) : Fr N K (-x) := by
  obtain ⟨hN, k, e, hk⟩ := h
  exact ⟨hN, -k, by rw [Rat.intCast_neg, ← e]; grind, by omega⟩
theorem Fr.sub {N K L : Nat} {x y : Rat} (h : Fr N K x) (g : Fr N L y) : Fr N (K + L) (x - y) := by
  have := h.add g.neg
  rwa [← Rat.sub_eq_add_neg] at this
theorem Fr.mul {N M K L : Nat} {x y : Rat} (h : Fr N K x) (g : Fr M L y) : Fr (N * M) (K * L) (x * y) := by
  obtain ⟨hN, k, e, hk⟩ := h
  obtain ⟨hM, l, f, hl⟩ := g
  refine ⟨Nat.mul_pos hN hM, k * l, by rw [Rat.intCast_mul, ← e, ← f, Rat.natCast_mul]; grind, ?_⟩
  rw [Int.natAbs_mul]; exact Nat.mul_le_mul hk hl
theorem Fr.zero {N : Nat} (h : 0 < N) : Fr N 0 0 := ⟨h, 0, by simp, by simp⟩
theorem Fr.up {N K : Nat} (M : Nat) {x : Rat} (h : Fr N K x) (hM : 0 < M) : Fr (N * M) (K * M) x := by
  obtain ⟨hN, k, e, hk⟩ := h
  refine ⟨Nat.mul_pos hN hM, k * M, by rw [Rat.intCast_mul, ← e, Rat.natCast_mul, Rat.intCast_natCast]; grind, ?_⟩
  rw [Int.natAbs_mul]; exact Nat.mul_le_mul hk (by omega)
/-! sums -/
def lsum : List Rat → Rat
  | [] => 0
  | x :: xs => x + lsum xs
theorem lsum_app (xs ys : List Rat) : lsum (xs ++ ys) = lsum xs + lsum ys := by
  induction xs with
  | nil => simp [lsum, Rat.zero_add]
  | cons x xs ih => simp [lsum, ih, Rat.add_assoc]
theorem foldl_lsum (xs : List Rat) : ∀ a : Rat, xs.foldl (· + ·) a = a + lsum xs := by
  induction xs with
  | nil => intro a; simp [lsum, Rat.add_zero]
  | cons x xs ih => intro a; simp [lsum, ih, Rat.add_assoc]
def sumN (n : Nat) (f : Nat → Rat) : Rat := match n with
  | 0 => 0
  | n + 1 => sumN n f + f n
theorem sumN_lsum (n : Nat) (f : Nat → Rat) : lsum ((List.range n).map f) = sumN n f := by
  induction n with
  | zero => rfl
  | succ n ih => rw [List.range_succ, List.map_append, lsum_app, ih]; simp [sumN, lsum, Rat.add_zero]
theorem sumN_congr {n : Nat} {f g : Nat → Rat} (h : ∀ i, i < n → f i = g i) : sumN n f = sumN n g := by
  induction n with
  | zero => rfl
  | succ n ih => simp [sumN]; rw [ih fun i hi => h i (by omega), h n (by omega)]
theorem sumN_zero {n : Nat} {f : Nat → Rat} (h : ∀ i, i < n → f i = 0) : sumN n f = 0 := by
  induction n with
  | zero => rfl
  | succ n ih => simp [sumN]; rw [ih fun i hi => h i (by omega), h n (by omega), Rat.add_zero]
theorem sumN_add (n : Nat) (f g : Nat → Rat) : sumN n (fun i => f i + g i) = sumN n f + sumN n g := by
  induction n with
  | zero => simp [sumN, Rat.add_zero]
  | succ n ih => simp only [sumN]; rw [ih]; grind
theorem sumN_mul (n : Nat) (a : Rat) (f : Nat → Rat) : sumN n (fun i => a * f i) = a * sumN n f := by
  induction n with
  | zero => simp [sumN, Rat.mul_zero]
  | succ n ih => simp only [sumN]; rw [ih]; grind
theorem sumN_mul' (n : Nat) (a : Rat) (f : Nat → Rat) : sumN n (fun i => f i * a) = sumN n f * a := by
  induction n with
  | zero => simp [sumN, Rat.zero_mul]
  | succ n ih => simp only [sumN]; rw [ih]; grind
theorem sumN_sub (n : Nat) (f g : Nat → Rat) : sumN n (fun i => f i - g i) = sumN n f - sumN n g := by
  induction n with
  | zero => simp [sumN]; grind
  | succ n ih => simp only [sumN]; rw [ih]; grind
theorem sumN_swap (n m : Nat) (f : Nat → Nat → Rat) : sumN n (fun i => sumN m (f i)) = sumN m (fun j => sumN n (fun i => f i j)) := by
  induction n with
  | zero => simp only [sumN]; exact (sumN_zero fun _ _ => rfl).symm
  | succ n ih => simp only [sumN]; rw [ih, ← sumN_add]
theorem sumN_one {n k : Nat} (hk : k < n) {f : Nat → Rat} (h : ∀ i, i < n → i ≠ k → f i = 0) : sumN n f = f k := by
  induction n with
  | zero => omega
  | succ n ih =>
    simp only [sumN]
    by_cases e : k = n
    · subst e
      rw [sumN_zero fun i hi => h i (by omega) (by omega), Rat.zero_add]
    · rw [ih (by omega) fun i hi hne => h i (by omega) hne, h n (by omega) (by omega), Rat.add_zero]
theorem Fr.sum {N K n : Nat} (hN : 0 < N) {f : Nat → Rat} (h : ∀ i, i < n → Fr N K (f i)) : Fr N (n * K) (sumN n f) := by
  induction n with
  | zero => exact (Fr.zero hN).mono (Nat.zero_le _)
  | succ n ih => exact ((ih fun i hi => h i (by omega)).add (h n (by omega))).mono (by rw [Nat.succ_mul]; omega)
theorem Fr.lsum {N K : Nat} (hN : 0 < N) {xs : List Rat} (h : ∀ x ∈ xs, Fr N K x) : Fr N (xs.length * K) (Kx.lsum xs) := by
  induction xs with
  | nil => exact (Fr.zero hN).mono (Nat.zero_le _)
  | cons x xs ih => exact ((h x List.mem_cons_self).add (ih fun y hy => h y (List.mem_cons_of_mem _ hy))).mono (by rw [List.length_cons, Nat.succ_mul]; omega)
end Kx
/-! KxMat: matrices L D Lᵀ, their elimination, worths. Plain Lean. -/
namespace Kx
structure Low (n : Nat) (L : Nat → Nat → Rat) : Prop where
  one : ∀ i, i < n → L i i = 1
  nul : ∀ i j, i < j → j < n → L i j = 0
section
variable {n : Nat} {L : Nat → Nat → Rat} {D : Nat → Rat}
def Mx (n : Nat) (L : Nat → Nat → Rat) (D : Nat → Rat) (i j : Nat) : Rat := sumN n fun m => L i m * D m * L j m
def Sx (n : Nat) (L : Nat → Nat → Rat) (D : Nat → Rat) (k i j : Nat) : Rat := sumN n fun m => if m < k then 0 else L i m * D m * L j m
def Tx (L : Nat → Nat → Rat) : Nat → Nat → Nat → Rat
  | 0, i, j => if i = j then 1 else 0
  | k + 1, i, j => if k < i then Tx L k i j - L i k * Tx L k k j else Tx L k i j
theorem Mx_sym (i j : Nat) : Mx n L D i j = Mx n L D j i := sumN_congr fun m _ => by grind
theorem Sx_zero (i j : Nat) : Sx n L D 0 i j = Mx n L D i j := sumN_congr fun m _ => by simp
theorem Sx_row (h : Low n L) {k : Nat} (hk : k < n) (j : Nat) : Sx n L D k k j = D k * L j k := by
  unfold Sx
  rw [sumN_one hk fun i hi hne => ?_]
  · rw [if_neg (Nat.lt_irrefl _), h.one k hk, Rat.one_mul]
  · by_cases c : i < k
    · rw [if_pos c]
    · rw [if_neg c, h.nul k i (by omega) hi]; grind
theorem Sx_sym (k i j : Nat) : Sx n L D k i j = Sx n L D k j i := sumN_congr fun m _ => by split <;> grind
theorem Sx_step {k : Nat} (hk : k < n) (i j : Nat) : Sx n L D (k + 1) i j = Sx n L D k i j - L i k * (D k * L j k) := by
  have e : sumN n (fun m => if m = k then L i k * (D k * L j k) else 0) = L i k * (D k * L j k) := by
    rw [sumN_one hk fun m _ hne => if_neg hne, if_pos rfl]
  rw [← e]
  unfold Sx
  rw [← sumN_sub]
  refine sumN_congr fun m _ => ?_
  by_cases c : m = k
  · subst c; rw [if_pos (by omega), if_neg (by omega), if_pos rfl]; grind
  · rw [if_neg c]
    by_cases c2 : m < k
    · rw [if_pos (by omega), if_pos c2]; grind
    · rw [if_neg (by omega), if_neg c2]; grind
theorem Tx_L (h : Low n L) {m : Nat} (hm : m < n) : ∀ (k i : Nat), k ≤ i → i < n → sumN n (fun j => Tx L k i j * L j m) = if m < k then 0 else L i m
  | 0, i, _, hi => by
    rw [sumN_one hi fun j _ hne => ?_]
    · simp [Tx]
    · simp [Tx, Ne.symm hne]
  | k + 1, i, hki, hi => by
    have a := Tx_L h hm k i (by omega) hi
    have b := Tx_L h hm k k (Nat.le_refl _) (by omega)
    have e : sumN n (fun j => Tx L (k + 1) i j * L j m) = sumN n (fun j => Tx L k i j * L j m) - L i k * sumN n (fun j => Tx L k k j * L j m) := by
      rw [← sumN_mul, ← sumN_sub]
      refine sumN_congr fun j _ => ?_
      simp only [Tx, if_pos (show k < i by omega)]; grind
    rw [e, a, b]
    by_cases c : m < k
    · rw [if_pos c, if_pos c, if_pos (by omega)]; grind
    · by_cases c2 : m = k
      · subst c2
        rw [if_neg c, if_neg c, if_pos (by omega), h.one m hm]; grind
      · rw [if_neg c, if_neg c, if_neg (by omega), h.nul k m (by omega) hm]; grind
/-- the worth of numbers x -/
def Wx (n : Nat) (M : Nat → Nat → Rat) (x : Nat → Rat) : Rat := sumN n fun i => x i * sumN n fun j => M i j * x j
theorem Wx_Mx (x : Nat → Rat) : Wx n (Mx n L D) x = sumN n fun m => D m * (sumN n (fun i => x i * L i m) * sumN n (fun i => x i * L i m)) := by
  have e1 : ∀ i, sumN n (fun j => Mx n L D i j * x j) = sumN n fun m => L i m * D m * sumN n (fun j => x j * L j m) := fun i => by
    have : sumN n (fun j => Mx n L D i j * x j) = sumN n fun j => sumN n fun m => L i m * D m * (x j * L j m) := sumN_congr fun j _ => by
      unfold Mx
      rw [← sumN_mul']
      exact sumN_congr fun m _ => by grind
    rw [this, sumN_swap]
    exact sumN_congr fun m _ => by rw [sumN_mul]
  unfold Wx
  have e2 : sumN n (fun i => x i * sumN n fun j => Mx n L D i j * x j) = sumN n fun i => sumN n fun m => (D m * sumN n (fun j => x j * L j m)) * (x i * L i m) := sumN_congr fun i _ => by
    rw [e1, ← sumN_mul]
    exact sumN_congr fun m _ => by grind
  rw [e2, sumN_swap]
  refine sumN_congr fun m _ => ?_
  rw [sumN_mul]; grind
theorem Wx_Tx (h : Low n L) {k : Nat} (hk : k < n) : Wx n (Mx n L D) (Tx L k k) = D k := by
  rw [Wx_Mx, sumN_one hk fun m hm hne => ?_]
  · rw [Tx_L h hk k k (Nat.le_refl _) hk, if_neg (Nat.lt_irrefl _), h.one k hk]; grind
  · rw [Tx_L h hm k k (Nat.le_refl _) hk]
    by_cases c : m < k
    · rw [if_pos c]; grind
    · rw [if_neg c, h.nul k m (by omega) hm]; grind
theorem Tx_ne (h : Low n L) {k : Nat} (hk : k < n) : ∃ j, j < n ∧ Tx L k k j ≠ 0 := by
  refine Classical.byContradiction fun z => ?_
  have z2 : ∀ j, j < n → Tx L k k j = 0 := fun j hj => Classical.byContradiction fun y => z ⟨j, hj, y⟩
  have e := Tx_L h hk k k (Nat.le_refl _) hk
  rw [sumN_zero fun j hj => by rw [z2 j hj, Rat.zero_mul], if_neg (Nat.lt_irrefl _), h.one k hk] at e
  exact absurd e (by decide)
/-- a worth of no negative pivots is none below 0, and more than 0 of what is not all 0 -/
theorem Wx_nonneg (x : Nat → Rat) (hD : ∀ m, m < n → 0 ≤ D m) : 0 ≤ Wx n (Mx n L D) x := by
  rw [Wx_Mx]
  have : ∀ k, k ≤ n → 0 ≤ sumN k fun m => D m * (sumN n (fun i => x i * L i m) * sumN n (fun i => x i * L i m)) := fun k => by
    induction k with
    | zero => intro _; exact Rat.le_refl
    | succ k ih =>
      intro hk
      simp only [sumN]
      refine Rat.add_nonneg (ih (by omega)) (Rat.mul_nonneg (hD k (by omega)) ?_)
      generalize sumN n (fun i => x i * L i k) = y
      by_cases c : 0 ≤ y
      · exact Rat.mul_nonneg c c
      · have : 0 ≤ -y := by
          have := Rat.le_total (a := 0) (b := y)
          grind
        have := Rat.mul_nonneg this this
        grind
  exact this n (Nat.le_refl _)
/-! sizes -/
theorem Mx_fr (hn : n ≤ 12) (hL : ∀ i j, i < n → j < n → Fr 6 12 (L i j)) (hD : ∀ i, i < n → Fr 6 18 (D i)) {i j : Nat} (hi : i < n) (hj : j < n) : Fr 216 31104 (Mx n L D i j) := by
  have := Fr.sum (N := 216) (K := 2592) (by decide) fun m hm => ((hL i m hi hm).mul (hD m hm)).mul (hL j m hj hm)
  exact this.mono (by omega)
theorem Sx_fr (hn : n ≤ 12) (hL : ∀ i j, i < n → j < n → Fr 6 12 (L i j)) (hD : ∀ i, i < n → Fr 6 18 (D i)) {k i j : Nat} (hi : i < n) (hj : j < n) : Fr 216 31104 (Sx n L D k i j) := by
  have := Fr.sum (N := 216) (K := 2592) (n := n) (f := fun m => if m < k then 0 else L i m * D m * L j m) (by decide) fun m hm => by
    split
    · exact (Fr.zero (by decide)).mono (Nat.zero_le _)
    · exact ((hL i m hi hm).mul (hD m hm)).mul (hL j m hj hm)
  exact this.mono (by omega)
theorem Tx_fr (hL : ∀ i j, i < n → j < n → Fr 6 12 (L i j)) : ∀ (k i j : Nat), k ≤ n → i < n → j < n → Fr (6 ^ k) (18 ^ k) (Tx L k i j)
  | 0, i, j, _, hi, hj => by
    simp only [Tx]
    split
    · exact ⟨by decide, 1, by simp, by decide⟩
    · exact (Fr.zero (by decide)).mono (Nat.zero_le _)
  | k + 1, i, j, hk, hi, hj => by
    have a := (Tx_fr hL k i j (by omega) hi hj).up 6 (by decide)
    have e6 : 6 ^ (k + 1) = 6 ^ k * 6 := Nat.pow_succ ..
    have e18 : 18 ^ (k + 1) = 18 ^ k * 18 := Nat.pow_succ ..
    simp only [Tx]
    split
    · have b := (hL i k hi (by omega)).mul (Tx_fr hL k k j (by omega) (by omega) hj)
      rw [Nat.mul_comm 6] at b
      rw [e6, e18]
      exact (a.sub b).mono (by omega)
    · rw [e6, e18]
      exact a.mono (by omega)
end
end Kx
set_option Elab.async false
set_option linter.all false
set_option maxRecDepth 100000
set_option maxHeartbeats 0
namespace K00
open PySem PySem.Spec PyProof.Rows L2 RZ DW
def top (i : Nat) : Stmt := PySem.Challenge.pw_treehung_k00_whole_factors_with_pivots_o.main.body.getD i (.Pass ⟨0, 0, 0, 0⟩)
abbrev s_common : Stmt := top 5
def d_common : He.DefD := ⟨("common", none), "common", "common", defArgs s_common, defBody s_common, defScope s_common, [], []⟩
abbrev s_lowest : Stmt := top 6
def d_lowest : He.DefD := ⟨("lowest", none), "lowest", "lowest", defArgs s_lowest, defBody s_lowest, defScope s_lowest, [], []⟩
abbrev s_whole : Stmt := top 7
def d_whole : He.DefD := ⟨("whole", none), "whole", "whole", defArgs s_whole, defBody s_whole, defScope s_whole, [], []⟩
abbrev s_summed : Stmt := top 8
def d_summed : He.DefD := ⟨("summed", none), "summed", "summed", defArgs s_summed, defBody s_summed, defScope s_summed, [], []⟩
abbrev s_lessened : Stmt := top 9
def d_lessened : He.DefD := ⟨("lessened", none), "lessened", "lessened", defArgs s_lessened, defBody s_lessened, defScope s_lessened, [], []⟩
abbrev s_multiplied : Stmt := top 10
def d_multiplied : He.DefD := ⟨("multiplied", none), "multiplied", "multiplied", defArgs s_multiplied, defBody s_multiplied, defScope s_multiplied, [], []⟩
abbrev s_divided : Stmt := top 11
def d_divided : He.DefD := ⟨("divided", none), "divided", "divided", defArgs s_divided, defBody s_divided, defScope s_divided, [], []⟩
abbrev s_total : Stmt := top 12
def d_total : He.DefD := ⟨("total", none), "total", "total", defArgs s_total, defBody s_total, defScope s_total, [], []⟩
abbrev s_is_ratio : Stmt := top 16
def d_is_ratio : He.DefD := ⟨("is_ratio", none), "is_ratio", "is_ratio", defArgs s_is_ratio, defBody s_is_ratio, defScope s_is_ratio, [], []⟩
abbrev s_are_ratios : Stmt := top 17
def d_are_ratios : He.DefD := ⟨("are_ratios", none), "are_ratios", "are_ratios", defArgs s_are_ratios, defBody s_are_ratios, defScope s_are_ratios, [], []⟩
abbrev s_is_matrix : Stmt := top 18
def d_is_matrix : He.DefD := ⟨("is_matrix", none), "is_matrix", "is_matrix", defArgs s_is_matrix, defBody s_is_matrix, defScope s_is_matrix, [], []⟩
abbrev s_need_matrix : Stmt := top 19
def d_need_matrix : He.DefD := ⟨("need_matrix", none), "need_matrix", "need_matrix", defArgs s_need_matrix, defBody s_need_matrix, defScope s_need_matrix, [], []⟩
abbrev s_unit_rows : Stmt := top 20
def d_unit_rows : He.DefD := ⟨("unit_rows", none), "unit_rows", "unit_rows", defArgs s_unit_rows, defBody s_unit_rows, defScope s_unit_rows, [], []⟩
abbrev s_less_times : Stmt := top 21
def d_less_times : He.DefD := ⟨("less_times", none), "less_times", "less_times", defArgs s_less_times, defBody s_less_times, defScope s_less_times, [], []⟩
abbrev s_paper_of : Stmt := top 22
def d_paper_of : He.DefD := ⟨("paper_of", none), "paper_of", "paper_of", defArgs s_paper_of, defBody s_paper_of, defScope s_paper_of, [], []⟩
abbrev s_sign_paper : Stmt := top 23
def d_sign_paper : He.DefD := ⟨("sign_paper", none), "sign_paper", "sign_paper", defArgs s_sign_paper, defBody s_sign_paper, defScope s_sign_paper, [], []⟩
abbrev s_worth_of : Stmt := top 24
def d_worth_of : He.DefD := ⟨("worth_of", none), "worth_of", "worth_of", defArgs s_worth_of, defBody s_worth_of, defScope s_worth_of, [], []⟩
abbrev s_is_low : Stmt := top 25
def d_is_low : He.DefD := ⟨("is_low", none), "is_low", "is_low", defArgs s_is_low, defBody s_is_low, defScope s_is_low, [], []⟩
abbrev s_are_factors : Stmt := top 26
def d_are_factors : He.DefD := ⟨("are_factors", none), "are_factors", "are_factors", defArgs s_are_factors, defBody s_are_factors, defScope s_are_factors, [], []⟩
abbrev s_is_sign_paper : Stmt := top 27
def d_is_sign_paper : He.DefD := ⟨("is_sign_paper", none), "is_sign_paper", "is_sign_paper", defArgs s_is_sign_paper, defBody s_is_sign_paper, defScope s_is_sign_paper, [], []⟩
abbrev s__law_begun : Stmt := top 29
def d__law_begun : He.DefD := ⟨("_law_begun", none), "_law_begun", "_law_begun", defArgs s__law_begun, defBody s__law_begun, defScope s__law_begun, [], []⟩
abbrev s__law_blended : Stmt := top 30
def d__law_blended : He.DefD := ⟨("_law_blended", none), "_law_blended", "_law_blended", defArgs s__law_blended, defBody s__law_blended, defScope s__law_blended, [], []⟩
abbrev s__law_draw : Stmt := top 31
def d__law_draw : He.DefD := ⟨("_law_draw", none), "_law_draw", "_law_draw", defArgs s__law_draw, defBody s__law_draw, defScope s__law_draw, [], []⟩
abbrev s__law_pick : Stmt := top 32
def d__law_pick : He.DefD := ⟨("_law_pick", none), "_law_pick", "_law_pick", defArgs s__law_pick, defBody s__law_pick, defScope s__law_pick, [], []⟩
abbrev s__law_is_truth : Stmt := top 33
def d__law_is_truth : He.DefD := ⟨("_law_is_truth", none), "_law_is_truth", "_law_is_truth", defArgs s__law_is_truth, defBody s__law_is_truth, defScope s__law_is_truth, [], []⟩
abbrev s__law_is_whole : Stmt := top 34
def d__law_is_whole : He.DefD := ⟨("_law_is_whole", none), "_law_is_whole", "_law_is_whole", defArgs s__law_is_whole, defBody s__law_is_whole, defScope s__law_is_whole, [], []⟩
abbrev s__law_fr_of : Stmt := top 35
def d__law_fr_of : He.DefD := ⟨("_law_fr_of", none), "_law_fr_of", "_law_fr_of", defArgs s__law_fr_of, defBody s__law_fr_of, defScope s__law_fr_of, [], []⟩
abbrev s__law_fr_less : Stmt := top 36
def d__law_fr_less : He.DefD := ⟨("_law_fr_less", none), "_law_fr_less", "_law_fr_less", defArgs s__law_fr_less, defBody s__law_fr_less, defScope s__law_fr_less, [], []⟩
abbrev s__law_fr_times : Stmt := top 37
def d__law_fr_times : He.DefD := ⟨("_law_fr_times", none), "_law_fr_times", "_law_fr_times", defArgs s__law_fr_times, defBody s__law_fr_times, defScope s__law_fr_times, [], []⟩
abbrev s__law_fr_sum : Stmt := top 38
def d__law_fr_sum : He.DefD := ⟨("_law_fr_sum", none), "_law_fr_sum", "_law_fr_sum", defArgs s__law_fr_sum, defBody s__law_fr_sum, defScope s__law_fr_sum, [], []⟩
abbrev s__law_fr_are : Stmt := top 39
def d__law_fr_are : He.DefD := ⟨("_law_fr_are", none), "_law_fr_are", "_law_fr_are", defArgs s__law_fr_are, defBody s__law_fr_are, defScope s__law_fr_are, [], []⟩
abbrev s__law_fr_product : Stmt := top 40
def d__law_fr_product : He.DefD := ⟨("_law_fr_product", none), "_law_fr_product", "_law_fr_product", defArgs s__law_fr_product, defBody s__law_fr_product, defScope s__law_fr_product, [], []⟩
abbrev s__law_fr_turned : Stmt := top 41
def d__law_fr_turned : He.DefD := ⟨("_law_fr_turned", none), "_law_fr_turned", "_law_fr_turned", defArgs s__law_fr_turned, defBody s__law_fr_turned, defScope s__law_fr_turned, [], []⟩
abbrev s__law_fr_lower : Stmt := top 42
def d__law_fr_lower : He.DefD := ⟨("_law_fr_lower", none), "_law_fr_lower", "_law_fr_lower", defArgs s__law_fr_lower, defBody s__law_fr_lower, defScope s__law_fr_lower, [], []⟩
abbrev s__law_fr_along : Stmt := top 43
def d__law_fr_along : He.DefD := ⟨("_law_fr_along", none), "_law_fr_along", "_law_fr_along", defArgs s__law_fr_along, defBody s__law_fr_along, defScope s__law_fr_along, [], []⟩
abbrev s__law_fr_worth : Stmt := top 44
def d__law_fr_worth : He.DefD := ⟨("_law_fr_worth", none), "_law_fr_worth", "_law_fr_worth", defArgs s__law_fr_worth, defBody s__law_fr_worth, defScope s__law_fr_worth, [], []⟩
abbrev s__law_k00_solved : Stmt := top 45
def d__law_k00_solved : He.DefD := ⟨("_law_k00_solved", none), "_law_k00_solved", "_law_k00_solved", defArgs s__law_k00_solved, defBody s__law_k00_solved, defScope s__law_k00_solved, [], []⟩
abbrev s__law_k00_is_paper : Stmt := top 46
def d__law_k00_is_paper : He.DefD := ⟨("_law_k00_is_paper", none), "_law_k00_is_paper", "_law_k00_is_paper", defArgs s__law_k00_is_paper, defBody s__law_k00_is_paper, defScope s__law_k00_is_paper, [], []⟩
abbrev s__law_k00_values : Stmt := top 47
def d__law_k00_values : He.DefD := ⟨("_law_k00_values", none), "_law_k00_values", "_law_k00_values", defArgs s__law_k00_values, defBody s__law_k00_values, defScope s__law_k00_values, [], []⟩
abbrev s_law : Stmt := top 48
def d_law : He.DefD := ⟨("law", none), "law", "law", defArgs s_law, defBody s_law, defScope s_law, [], []⟩
structure Mo (K : Fg) (mg : Str → Option Value) : Prop where
  f_abs : mg "abs" = none
  f_all : mg "all" = none
  f_any : mg "any" = none
  f_bool : mg "bool" = none
  f_enumerate : mg "enumerate" = none
  f_int : mg "int" = none
  f_isinstance : mg "isinstance" = none
  f_len : mg "len" = none
  f_list : mg "list" = none
  f_min : mg "min" = none
  f_range : mg "range" = none
  f_str : mg "str" = none
  f_tuple : mg "tuple" = none
  f_zip : mg "zip" = none
  gcd : mg "gcd" = some (.builtin "math.gcd")
  most : Cst K mg "MOST_SIZE" (.int 16)
  nought : Cst K mg "NOUGHT" (.tuple [.int 0, .int 1])
def N_common : List Str := ["one", "other"]
theorem sc_common : FnScope N_common ["one", "other"] (defScope s_common) := ⟨rfl, rfl, rfl, by decide +kernel, rfl, by decide +kernel, by decide +kernel⟩
def w_common : WS := (wRet (cFr (wCB (fI2 iGcd) (wCons (wVar 0) (wCons (wVar 1) wNil)))))
theorem b_common {P : Program} {w : World} {K : Fg} {mg : Str → Option Value} {base : Heap} (M : Mo K mg) (f : Addr) (cdv : Value) (A : Around) (outer : List Env) (s : Shared) (H : Hp) (E : XK) (hr : Room 0 (A.deeper (envOfC "common" (defScope s_common) s.heap.objs.size f cdv))) :
    DSs (cxOf CX0 P w K mg base N_common "common" (defScope s_common) f cdv A outer s H E).nox (defBody s_common) (w_common) 0 :=
  DSs.le (dss_one (ds_ret (dc_fr (de_gcd M.gcd (de_var 0) (de_var 1))))) (by decide +kernel)
def N_lowest : List Str := ["upper", "lower", "sign", "shared"]
theorem sc_lowest : FnScope N_lowest ["upper", "lower"] (defScope s_lowest) := ⟨rfl, rfl, rfl, by decide +kernel, rfl, by decide +kernel, by decide +kernel⟩
def w_lowest : WS := (wSeqS (wSet 2 (cFr (wIf (wBT fGt (wVar 1) (wC (.int 0))) (wC (.int 1)) (wNeg (wC (.int 1)))))) (wSeqS (wSet 3 (cFr (wBin fMul (wVar 2) (wCB (fI2 iGcd) (wCons (wVar 0) (wCons (wVar 1) wNil)))))) (wRet (cFr (wTup (wCons (wBin fDiv (wVar 0) (wVar 3)) (wCons (wBin fDiv (wVar 1) (wVar 3)) wNil)))))))
theorem b_lowest {P : Program} {w : World} {K : Fg} {mg : Str → Option Value} {base : Heap} (M : Mo K mg) (f : Addr) (cdv : Value) (A : Around) (outer : List Env) (s : Shared) (H : Hp) (E : XK) (hr : Room 0 (A.deeper (envOfC "lowest" (defScope s_lowest) s.heap.objs.size f cdv))) :
    DSs (cxOf CX0 P w K mg base N_lowest "lowest" (defScope s_lowest) f cdv A outer s H E).nox (defBody s_lowest) (w_lowest) 0 :=
  DSs.le (dss_cons (ds_set 2 sc_lowest.nd (dc_fr (de_if (dt_gt (de_var 1) de_int) de_int (de_neg de_int)))) (dss_cons (ds_set 3 sc_lowest.nd (dc_fr (de_mul (de_var 2) (de_gcd M.gcd (de_var 0) (de_var 1))))) (dss_one (ds_ret (dc_fr (de_tup (dl_cons (de_div (de_var 0) (de_var 3)) (dl_cons (de_div (de_var 1) (de_var 3)) dl_nil)))))))) (by decide +kernel)
def N_whole : List Str := ["number"]
theorem sc_whole : FnScope N_whole ["number"] (defScope s_whole) := ⟨rfl, rfl, rfl, by decide +kernel, rfl, by decide +kernel, by decide +kernel⟩
def w_whole : WS := (wRet (cFr (wTup (wCons (wVar 0) (wCons (wC (.int 1)) wNil)))))
theorem b_whole {P : Program} {w : World} {K : Fg} {mg : Str → Option Value} {base : Heap} (M : Mo K mg) (f : Addr) (cdv : Value) (A : Around) (outer : List Env) (s : Shared) (H : Hp) (E : XK) (hr : Room 0 (A.deeper (envOfC "whole" (defScope s_whole) s.heap.objs.size f cdv))) :
    DSs (cxOf CX0 P w K mg base N_whole "whole" (defScope s_whole) f cdv A outer s H E).nox (defBody s_whole) (w_whole) 0 :=
  DSs.le (dss_one (ds_ret (dc_fr (de_tup (dl_cons (de_var 0) (dl_cons de_int dl_nil)))))) (by decide +kernel)
def N_summed : List Str := ["one", "other", "upper", "lower", "more", "under"]
theorem sc_summed : FnScope N_summed ["one", "other"] (defScope s_summed) := ⟨rfl, rfl, rfl, by decide +kernel, rfl, by decide +kernel, by decide +kernel⟩
def w_summed (ws_lowest : WF) : WS := (wSeqS (wAsg (tfTup (tfCons (tfTup (tfCons (tfName 2) (tfCons (tfName 3) tfNil))) (tfCons (tfTup (tfCons (tfName 4) (tfCons (tfName 5) tfNil))) tfNil))) (cFr (wTup (wCons (wVar 0) (wCons (wVar 1) wNil))))) (wRet (cFr (wCall ws_lowest (wCons (wBin fAdd (wBin fMul (wVar 2) (wVar 5)) (wBin fMul (wVar 4) (wVar 3))) (wCons (wBin fMul (wVar 3) (wVar 5)) wNil))))))
theorem b_summed {P : Program} {w : World} {K : Fg} {mg : Str → Option Value} {base : Heap} (M : Mo K mg) {ws_lowest : WF} (c_lowest : Kn P w K mg base 1 "lowest" ["upper", "lower"] ws_lowest 0) (f : Addr) (cdv : Value) (A : Around) (outer : List Env) (s : Shared) (H : Hp) (E : XK) (hr : Room 1 (A.deeper (envOfC "summed" (defScope s_summed) s.heap.objs.size f cdv))) :
    DSs (cxOf CX0 P w K mg base N_summed "summed" (defScope s_summed) f cdv A outer s H E).nox (defBody s_summed) (w_summed ws_lowest) 0 :=
  DSs.le (dss_cons (ds_asg (dc_fr (de_tup (dl_cons (de_var 0) (dl_cons (de_var 1) dl_nil)))) (dg_tup (dgs_cons (dg_tup (dgs_cons (dg_name 2 sc_summed.nd) (dgs_cons (dg_name 3 sc_summed.nd) dgs_nil))) (dgs_cons (dg_tup (dgs_cons (dg_name 4 sc_summed.nd) (dgs_cons (dg_name 5 sc_summed.nd) dgs_nil))) dgs_nil)))) (dss_one (ds_ret (dc_fr (de_callK c_lowest (hr.mono (by decide)) (dl_cons (de_add (de_mul (de_var 2) (de_var 5)) (de_mul (de_var 4) (de_var 3))) (dl_cons (de_mul (de_var 3) (de_var 5)) dl_nil))))))) (by decide +kernel)
def N_lessened : List Str := ["one", "other", "upper", "lower", "less", "under"]
theorem sc_lessened : FnScope N_lessened ["one", "other"] (defScope s_lessened) := ⟨rfl, rfl, rfl, by decide +kernel, rfl, by decide +kernel, by decide +kernel⟩
def w_lessened (ws_lowest : WF) : WS := (wSeqS (wAsg (tfTup (tfCons (tfTup (tfCons (tfName 2) (tfCons (tfName 3) tfNil))) (tfCons (tfTup (tfCons (tfName 4) (tfCons (tfName 5) tfNil))) tfNil))) (cFr (wTup (wCons (wVar 0) (wCons (wVar 1) wNil))))) (wRet (cFr (wCall ws_lowest (wCons (wBin fSub (wBin fMul (wVar 2) (wVar 5)) (wBin fMul (wVar 4) (wVar 3))) (wCons (wBin fMul (wVar 3) (wVar 5)) wNil))))))
theorem b_lessened {P : Program} {w : World} {K : Fg} {mg : Str → Option Value} {base : Heap} (M : Mo K mg) {ws_lowest : WF} (c_lowest : Kn P w K mg base 1 "lowest" ["upper", "lower"] ws_lowest 0) (f : Addr) (cdv : Value) (A : Around) (outer : List Env) (s : Shared) (H : Hp) (E : XK) (hr : Room 1 (A.deeper (envOfC "lessened" (defScope s_lessened) s.heap.objs.size f cdv))) :
    DSs (cxOf CX0 P w K mg base N_lessened "lessened" (defScope s_lessened) f cdv A outer s H E).nox (defBody s_lessened) (w_lessened ws_lowest) 0 :=
  DSs.le (dss_cons (ds_asg (dc_fr (de_tup (dl_cons (de_var 0) (dl_cons (de_var 1) dl_nil)))) (dg_tup (dgs_cons (dg_tup (dgs_cons (dg_name 2 sc_lessened.nd) (dgs_cons (dg_name 3 sc_lessened.nd) dgs_nil))) (dgs_cons (dg_tup (dgs_cons (dg_name 4 sc_lessened.nd) (dgs_cons (dg_name 5 sc_lessened.nd) dgs_nil))) dgs_nil)))) (dss_one (ds_ret (dc_fr (de_callK c_lowest (hr.mono (by decide)) (dl_cons (de_sub (de_mul (de_var 2) (de_var 5)) (de_mul (de_var 4) (de_var 3))) (dl_cons (de_mul (de_var 3) (de_var 5)) dl_nil))))))) (by decide +kernel)
def N_multiplied : List Str := ["one", "other", "upper", "lower", "factor", "under"]
theorem sc_multiplied : FnScope N_multiplied ["one", "other"] (defScope s_multiplied) := ⟨rfl, rfl, rfl, by decide +kernel, rfl, by decide +kernel, by decide +kernel⟩
def w_multiplied (ws_lowest : WF) : WS := (wSeqS (wAsg (tfTup (tfCons (tfTup (tfCons (tfName 2) (tfCons (tfName 3) tfNil))) (tfCons (tfTup (tfCons (tfName 4) (tfCons (tfName 5) tfNil))) tfNil))) (cFr (wTup (wCons (wVar 0) (wCons (wVar 1) wNil))))) (wRet (cFr (wCall ws_lowest (wCons (wBin fMul (wVar 2) (wVar 4)) (wCons (wBin fMul (wVar 3) (wVar 5)) wNil))))))
theorem b_multiplied {P : Program} {w : World} {K : Fg} {mg : Str → Option Value} {base : Heap} (M : Mo K mg) {ws_lowest : WF} (c_lowest : Kn P w K mg base 1 "lowest" ["upper", "lower"] ws_lowest 0) (f : Addr) (cdv : Value) (A : Around) (outer : List Env) (s : Shared) (H : Hp) (E : XK) (hr : Room 1 (A.deeper (envOfC "multiplied" (defScope s_multiplied) s.heap.objs.size f cdv))) :
    DSs (cxOf CX0 P w K mg base N_multiplied "multiplied" (defScope s_multiplied) f cdv A outer s H E).nox (defBody s_multiplied) (w_multiplied ws_lowest) 0 :=
  DSs.le (dss_cons (ds_asg (dc_fr (de_tup (dl_cons (de_var 0) (dl_cons (de_var 1) dl_nil)))) (dg_tup (dgs_cons (dg_tup (dgs_cons (dg_name 2 sc_multiplied.nd) (dgs_cons (dg_name 3 sc_multiplied.nd) dgs_nil))) (dgs_cons (dg_tup (dgs_cons (dg_name 4 sc_multiplied.nd) (dgs_cons (dg_name 5 sc_multiplied.nd) dgs_nil))) dgs_nil)))) (dss_one (ds_ret (dc_fr (de_callK c_lowest (hr.mono (by decide)) (dl_cons (de_mul (de_var 2) (de_var 4)) (dl_cons (de_mul (de_var 3) (de_var 5)) dl_nil))))))) (by decide +kernel)
def N_divided : List Str := ["one", "other", "upper", "lower", "factor", "under"]
theorem sc_divided : FnScope N_divided ["one", "other"] (defScope s_divided) := ⟨rfl, rfl, rfl, by decide +kernel, rfl, by decide +kernel, by decide +kernel⟩
def w_divided (ws_lowest : WF) : WS := (wSeqS (wAsg (tfTup (tfCons (tfTup (tfCons (tfName 2) (tfCons (tfName 3) tfNil))) (tfCons (tfTup (tfCons (tfName 4) (tfCons (tfName 5) tfNil))) tfNil))) (cFr (wTup (wCons (wVar 0) (wCons (wVar 1) wNil))))) (wRet (cFr (wCall ws_lowest (wCons (wBin fMul (wVar 2) (wVar 5)) (wCons (wBin fMul (wVar 3) (wVar 4)) wNil))))))
theorem b_divided {P : Program} {w : World} {K : Fg} {mg : Str → Option Value} {base : Heap} (M : Mo K mg) {ws_lowest : WF} (c_lowest : Kn P w K mg base 1 "lowest" ["upper", "lower"] ws_lowest 0) (f : Addr) (cdv : Value) (A : Around) (outer : List Env) (s : Shared) (H : Hp) (E : XK) (hr : Room 1 (A.deeper (envOfC "divided" (defScope s_divided) s.heap.objs.size f cdv))) :
    DSs (cxOf CX0 P w K mg base N_divided "divided" (defScope s_divided) f cdv A outer s H E).nox (defBody s_divided) (w_divided ws_lowest) 0 :=
  DSs.le (dss_cons (ds_asg (dc_fr (de_tup (dl_cons (de_var 0) (dl_cons (de_var 1) dl_nil)))) (dg_tup (dgs_cons (dg_tup (dgs_cons (dg_name 2 sc_divided.nd) (dgs_cons (dg_name 3 sc_divided.nd) dgs_nil))) (dgs_cons (dg_tup (dgs_cons (dg_name 4 sc_divided.nd) (dgs_cons (dg_name 5 sc_divided.nd) dgs_nil))) dgs_nil)))) (dss_one (ds_ret (dc_fr (de_callK c_lowest (hr.mono (by decide)) (dl_cons (de_mul (de_var 2) (de_var 5)) (dl_cons (de_mul (de_var 3) (de_var 4)) dl_nil))))))) (by decide +kernel)
def N_total : List Str := ["several", "found", "one"]
theorem sc_total : FnScope N_total ["several"] (defScope s_total) := ⟨rfl, rfl, rfl, by decide +kernel, rfl, by decide +kernel, by decide +kernel⟩
def w_total (ws_whole ws_summed : WF) : WS := (wSeqS (wSet 1 (cFr (wCall ws_whole (wCons (wC (.int 0)) wNil)))) (wSeqS (wFor (wSeq (wVar 0)) (tfName 2) (wSet 1 (cFr (wCall ws_summed (wCons (wVar 1) (wCons (wVar 2) wNil)))))) (wRet (cFr (wVar 1)))))
theorem b_total {P : Program} {w : World} {K : Fg} {mg : Str → Option Value} {base : Heap} (M : Mo K mg) {ws_whole ws_summed : WF} (c_whole : Kn P w K mg base 1 "whole" ["number"] ws_whole 0) (c_summed : Kn P w K mg base 2 "summed" ["one", "other"] ws_summed 0) (f : Addr) (cdv : Value) (A : Around) (outer : List Env) (s : Shared) (H : Hp) (E : XK) (hr : Room 2 (A.deeper (envOfC "total" (defScope s_total) s.heap.objs.size f cdv))) :
    DSs (cxOf CX0 P w K mg base N_total "total" (defScope s_total) f cdv A outer s H E).nox (defBody s_total) (w_total ws_whole ws_summed) 0 :=
  DSs.le (dss_cons (ds_set 1 sc_total.nd (dc_fr (de_callK c_whole (hr.mono (by decide)) (dl_cons de_int dl_nil)))) (dss_cons (ds_for (di_seq (de_var 0)) (dg_name 2 sc_total.nd) (dss_one (ds_set 1 sc_total.nd (dc_fr (de_callK c_summed (hr.mono (by decide)) (dl_cons (de_var 1) (dl_cons (de_var 2) dl_nil))))))) (dss_one (ds_ret (dc_fr (de_var 1)))))) (by decide +kernel)
def N_is_ratio : List Str := ["value", "item"]
theorem sc_is_ratio : FnScope N_is_ratio ["value"] (defScope s_is_ratio) := ⟨rfl, rfl, rfl, by decide +kernel, rfl, by decide +kernel, by decide +kernel⟩
def w_is_ratio (ws_common : WF) : WS := (wSeqS (wIfS (wOrT (wNotT (wVT (wIsi "tuple" (wVar 0)))) (wBT fNe (wCB fLen (wCons (wVar 0) wNil)) (wC (.int 2)))) (wRet (cFr (wC (.bool false)))) wNext) (wSeqS (wIfS (wVT (wCB (fBools fun bs => bs.any id) (wCons (wOfN (wLc (wSeq (wVar 0)) (tfName 1) wYes (wOrV (wNotV (wIsi "int" (wVar 1))) (wIsi "bool" (wVar 1))) [1])) wNil))) (wRet (cFr (wC (.bool false)))) wNext) (wRet (cFr (wAndV (wBin fGt (wBin fIx (wVar 0) (wC (.int 1))) (wC (.int 0))) (wBin fEq (wCall ws_common (wCons (wBin fIx (wVar 0) (wC (.int 0))) (wCons (wBin fIx (wVar 0) (wC (.int 1))) wNil))) (wC (.int 1))))))))
theorem b_is_ratio {P : Program} {w : World} {K : Fg} {mg : Str → Option Value} {base : Heap} (M : Mo K mg) {ws_common : WF} (c_common : Kn P w K mg base 1 "common" ["one", "other"] ws_common 0) (f : Addr) (cdv : Value) (A : Around) (outer : List Env) (s : Shared) (H : Hp) (E : XK) (hr : Room 1 (A.deeper (envOfC "is_ratio" (defScope s_is_ratio) s.heap.objs.size f cdv))) :
    DSs (cxOf CX0 P w K mg base N_is_ratio "is_ratio" (defScope s_is_ratio) f cdv A outer s H E).nox (defBody s_is_ratio) (w_is_ratio ws_common) 0 :=
  DSs.le (dss_cons (ds_if (DW'.dt (dw_or (dt_not (dt_val (de_isi isi_tuple boot_tuple M.f_isinstance M.f_tuple (de_var 0)))) (dw_or1 (dt_ne hr.units (de_len M.f_len (de_var 0)) de_int)))) (dss_one (ds_ret (dc_fr de_bl))) dss_nil) (dss_cons (ds_if (dt_val (de_any M.f_any (DN.de (dn_lc sc_is_ratio.nd (di_seq (de_var 0)) (blkOk_by (own := [("item", 1)]) (by kernel_rfl)) (fun _ _ _ _ _ => (dg_name 1 sc_is_ratio.nd)) (fun _ _ _ _ _ => dts_nil) (fun _ _ _ _ _ => (de_or (de_not (de_isi isi_int boot_int M.f_isinstance M.f_int (de_var 1))) (de_one (de_isi isi_bool boot_bool M.f_isinstance M.f_bool (de_var 1))))))))) (dss_one (ds_ret (dc_fr de_bl))) dss_nil) (dss_one (ds_ret (dc_fr (de_and (de_gt (de_ix (de_var 0) de_int) de_int) (de_one (de_eq hr.units (de_callK c_common (hr.mono (by decide)) (dl_cons (de_ix (de_var 0) de_int) (dl_cons (de_ix (de_var 0) de_int) dl_nil))) de_int)))))))) (by decide +kernel)
def N_are_ratios : List Str := ["value", "many", "one"]
theorem sc_are_ratios : FnScope N_are_ratios ["value", "many"] (defScope s_are_ratios) := ⟨rfl, rfl, rfl, by decide +kernel, rfl, by decide +kernel, by decide +kernel⟩
def w_are_ratios (ws_is_ratio : WF) : WS := (wRet (cFr (wAndV (wIsi "tuple" (wVar 0)) (wAndV (wBin fEq (wCB fLen (wCons (wVar 0) wNil)) (wVar 1)) (wCB (fBools fun bs => bs.all id) (wCons (wOfN (wLc (wSeq (wVar 0)) (tfName 2) wYes (wCall ws_is_ratio (wCons (wVar 2) wNil)) [2])) wNil))))))
theorem b_are_ratios {P : Program} {w : World} {K : Fg} {mg : Str → Option Value} {base : Heap} (M : Mo K mg) {ws_is_ratio : WF} (c_is_ratio : Kn P w K mg base 2 "is_ratio" ["value"] ws_is_ratio 0) (f : Addr) (cdv : Value) (A : Around) (outer : List Env) (s : Shared) (H : Hp) (E : XK) (hr : Room 2 (A.deeper (envOfC "are_ratios" (defScope s_are_ratios) s.heap.objs.size f cdv))) :
    DSs (cxOf CX0 P w K mg base N_are_ratios "are_ratios" (defScope s_are_ratios) f cdv A outer s H E).nox (defBody s_are_ratios) (w_are_ratios ws_is_ratio) 0 :=
  DSs.le (dss_one (ds_ret (dc_fr (de_and (de_isi isi_tuple boot_tuple M.f_isinstance M.f_tuple (de_var 0)) (de_and (de_eq hr.units (de_len M.f_len (de_var 0)) (de_var 1)) (de_one (de_all M.f_all (DN.de (dn_lc sc_are_ratios.nd (di_seq (de_var 0)) (blkOk_by (own := [("one", 2)]) (by kernel_rfl)) (fun _ _ _ _ _ => (dg_name 2 sc_are_ratios.nd)) (fun _ _ _ _ _ => dts_nil) (fun _ _ _ _ _ => (de_callK c_is_ratio (hr.mono (by decide)) (dl_cons (de_var 2) dl_nil)))))))))))) (by decide +kernel)
def N_is_matrix : List Str := ["value", "row", "at", "to"]
theorem sc_is_matrix : FnScope N_is_matrix ["value"] (defScope s_is_matrix) := ⟨rfl, rfl, rfl, by decide +kernel, rfl, by decide +kernel, by decide +kernel⟩
def w_is_matrix (ws_are_ratios : WF) : WS := (wSeqS (wIfS (wOrT (wNotT (wVT (wIsi "tuple" (wVar 0)))) (wBT fGt (wCB fLen (wCons (wVar 0) wNil)) (wC (.int 16)))) (wRet (cFr (wC (.bool false)))) wNext) (wSeqS (wIfS (wNotT (wVT (wCB (fBools fun bs => bs.all id) (wCons (wOfN (wLc (wSeq (wVar 0)) (tfName 1) wYes (wCall ws_are_ratios (wCons (wVar 1) (wCons (wCB fLen (wCons (wVar 0) wNil)) wNil))) [1])) wNil)))) (wRet (cFr (wC (.bool false)))) wNext) (wRet (cFr (wCB (fBools fun bs => bs.all id) (wCons (wOfN (wLc2 (wRng1 (wCB fLen (wCons (wVar 0) wNil))) (tfName 2) wYes (wRng1 (wVar 2)) (tfName 3) wYes (wBin fEq (wBin fIx (wBin fIx (wVar 0) (wVar 2)) (wVar 3)) (wBin fIx (wBin fIx (wVar 0) (wVar 3)) (wVar 2))) [2, 3] [3])) wNil))))))
theorem b_is_matrix {P : Program} {w : World} {K : Fg} {mg : Str → Option Value} {base : Heap} (M : Mo K mg) {ws_are_ratios : WF} (c_are_ratios : Kn P w K mg base 3 "are_ratios" ["value", "many"] ws_are_ratios 0) (f : Addr) (cdv : Value) (A : Around) (outer : List Env) (s : Shared) (H : Hp) (E : XK) (hr : Room 3 (A.deeper (envOfC "is_matrix" (defScope s_is_matrix) s.heap.objs.size f cdv))) :
    DSs (cxOf CX0 P w K mg base N_is_matrix "is_matrix" (defScope s_is_matrix) f cdv A outer s H E).nox (defBody s_is_matrix) (w_is_matrix ws_are_ratios) 0 :=
  DSs.le (dss_cons (ds_if (DW'.dt (dw_or (dt_not (dt_val (de_isi isi_tuple boot_tuple M.f_isinstance M.f_tuple (de_var 0)))) (dw_or1 (dt_gt (de_len M.f_len (de_var 0)) (de_cst M.most))))) (dss_one (ds_ret (dc_fr de_bl))) dss_nil) (dss_cons (ds_if (dt_not (dt_val (de_all M.f_all (DN.de (dn_lc sc_is_matrix.nd (di_seq (de_var 0)) (blkOk_by (own := [("row", 1)]) (by kernel_rfl)) (fun _ _ _ _ _ => (dg_name 1 sc_is_matrix.nd)) (fun _ _ _ _ _ => dts_nil) (fun _ _ _ _ _ => (de_callK c_are_ratios (hr.mono (by decide)) (dl_cons (de_var 1) (dl_cons (de_len M.f_len (de_var 0)) dl_nil))))))))) (dss_one (ds_ret (dc_fr de_bl))) dss_nil) (dss_one (ds_ret (dc_fr (de_all M.f_all (DN.de (dn_lc2 sc_is_matrix.nd (di_rng1 M.f_range (de_len M.f_len (de_var 0))) (blkOk_by (own := [("at", 2), ("to", 3)]) (by kernel_rfl)) (vs1 := [3]) (by decide) (fun _ _ _ _ _ => (dg_name 2 sc_is_matrix.nd)) (fun _ _ _ _ _ => dts_nil) (fun _ _ _ _ _ => (di_rng1 M.f_range (de_var 2))) (fun _ _ _ _ _ => (dg_name 3 sc_is_matrix.nd)) (fun _ _ _ _ _ => dts_nil) (fun _ _ _ _ _ => (de_eq hr.units (de_ix (de_ix (de_var 0) (de_var 2)) (de_var 3)) (de_ix (de_ix (de_var 0) (de_var 3)) (de_var 2)))))))))))) (by decide +kernel)
def N_need_matrix : List Str := ["matrix"]
theorem sc_need_matrix : FnScope N_need_matrix ["matrix"] (defScope s_need_matrix) := ⟨rfl, rfl, rfl, by decide +kernel, rfl, by decide +kernel, by decide +kernel⟩
def w_need_matrix (ws_is_matrix : WF) : WS := (wIfS (wNotT (wVT (wCall ws_is_matrix (wCons (wVar 0) wNil)))) wNever wNext)
theorem b_need_matrix {P : Program} {w : World} {K : Fg} {mg : Str → Option Value} {base : Heap} (M : Mo K mg) {ws_is_matrix : WF} (c_is_matrix : Kn P w K mg base 4 "is_matrix" ["value"] ws_is_matrix 0) (f : Addr) (cdv : Value) (A : Around) (outer : List Env) (s : Shared) (H : Hp) (E : XK) (hr : Room 4 (A.deeper (envOfC "need_matrix" (defScope s_need_matrix) s.heap.objs.size f cdv))) :
    DSs (cxOf CX0 P w K mg base N_need_matrix "need_matrix" (defScope s_need_matrix) f cdv A outer s H E).nox (defBody s_need_matrix) (w_need_matrix ws_is_matrix) 0 :=
  DSs.le (dss_one (ds_if (dt_not (dt_val (de_callK c_is_matrix (hr.mono (by decide)) (dl_cons (de_var 0) dl_nil)))) dss_never dss_nil)) (by decide +kernel)
def N_unit_rows : List Str := ["many", "at", "to"]
theorem sc_unit_rows : FnScope N_unit_rows ["many"] (defScope s_unit_rows) := ⟨rfl, rfl, rfl, by decide +kernel, rfl, by decide +kernel, by decide +kernel⟩
def w_unit_rows : WS := (wRet (cN2 (wLcN (wRng1 (wVar 0)) (tfName 1) wYes (wLc (wRng1 (wVar 0)) (tfName 2) wYes (wTup (wCons (wCB fIntOf (wCons (wBin fEq (wVar 1) (wVar 2)) wNil)) (wCons (wC (.int 1)) wNil))) [2]) [1])))
theorem b_unit_rows {P : Program} {w : World} {K : Fg} {mg : Str → Option Value} {base : Heap} (M : Mo K mg) (f : Addr) (cdv : Value) (A : Around) (outer : List Env) (s : Shared) (H : Hp) (E : XK) (hr : Room 0 (A.deeper (envOfC "unit_rows" (defScope s_unit_rows) s.heap.objs.size f cdv))) :
    DSs (cxOf CX0 P w K mg base N_unit_rows "unit_rows" (defScope s_unit_rows) f cdv A outer s H E).nox (defBody s_unit_rows) (w_unit_rows) 0 :=
  DSs.le (dss_one (ds_ret (dc_n2 (dn2_lc sc_unit_rows.nd (di_rng1 M.f_range (de_var 0)) (blkOk_by (own := [("at", 1)]) (by kernel_rfl)) (fun _ _ _ _ _ => (dg_name 1 sc_unit_rows.nd)) (fun _ _ _ _ _ => dts_nil) (fun _ _ _ _ _ => (dn_lc sc_unit_rows.nd (di_rng1 M.f_range (de_var 0)) (blkOk_by (own := [("to", 2)]) (by kernel_rfl)) (fun _ _ _ _ _ => (dg_name 2 sc_unit_rows.nd)) (fun _ _ _ _ _ => dts_nil) (fun _ _ _ _ _ => (de_tup (dl_cons (de_intOf M.f_int (de_eq hr.units (de_var 1) (de_var 2))) (dl_cons de_int dl_nil)))))))))) (by decide +kernel)
def N_less_times : List Str := ["row", "factor", "other", "one", "more"]
theorem sc_less_times : FnScope N_less_times ["row", "factor", "other"] (defScope s_less_times) := ⟨rfl, rfl, rfl, by decide +kernel, rfl, by decide +kernel, by decide +kernel⟩
def w_less_times (ws_multiplied ws_lessened : WF) : WS := (wRet (cNw (wLc (wZip (wVar 0) (wVar 2)) (tfTup (tfCons (tfName 3) (tfCons (tfName 4) tfNil))) wYes (wCall ws_lessened (wCons (wVar 3) (wCons (wCall ws_multiplied (wCons (wVar 1) (wCons (wVar 4) wNil))) wNil))) [3, 4])))
theorem b_less_times {P : Program} {w : World} {K : Fg} {mg : Str → Option Value} {base : Heap} (M : Mo K mg) {ws_multiplied ws_lessened : WF} (c_multiplied : Kn P w K mg base 2 "multiplied" ["one", "other"] ws_multiplied 0) (c_lessened : Kn P w K mg base 2 "lessened" ["one", "other"] ws_lessened 0) (f : Addr) (cdv : Value) (A : Around) (outer : List Env) (s : Shared) (H : Hp) (E : XK) (hr : Room 2 (A.deeper (envOfC "less_times" (defScope s_less_times) s.heap.objs.size f cdv))) :
    DSs (cxOf CX0 P w K mg base N_less_times "less_times" (defScope s_less_times) f cdv A outer s H E).nox (defBody s_less_times) (w_less_times ws_multiplied ws_lessened) 0 :=
  DSs.le (dss_one (ds_ret (dc_nw (dn_lc sc_less_times.nd (di_zip M.f_zip (de_var 0) (de_var 2)) (blkOk_by (own := [("one", 3), ("more", 4)]) (by kernel_rfl)) (fun _ _ _ _ _ => (dg_tup (dgs_cons (dg_name 3 sc_less_times.nd) (dgs_cons (dg_name 4 sc_less_times.nd) dgs_nil)))) (fun _ _ _ _ _ => dts_nil) (fun _ _ _ _ _ => (de_callK c_lessened (hr.mono (by decide)) (dl_cons (de_var 3) (dl_cons (de_callK c_multiplied (hr.mono (by decide)) (dl_cons (de_var 1) (dl_cons (de_var 4) dl_nil))) dl_nil)))))))) (by decide +kernel)
def N_paper_of : List Str := ["matrix", "many", "left", "turned", "lower", "pivots", "at", "pivot", "to", "factor", "row"]
theorem sc_paper_of : FnScope N_paper_of ["matrix"] (defScope s_paper_of) := ⟨rfl, rfl, rfl, by decide +kernel, rfl, by decide +kernel, by decide +kernel⟩
def w_paper_of (ws_unit_rows ws_divided ws_less_times : WF) : WS := (wSeqS (wSet 1 (cFr (wCB fLen (wCons (wVar 0) wNil)))) (wSeqS (wParN [2, 3, 4, 5] (cCons (cNw (wLc (wSeq (wVar 0)) (tfName 10) wYes (wCB (fSeqTo .list) (wCons (wVar 10) wNil)) [10])) (cCons (cNw (wNCall ws_unit_rows (wCons (wVar 1) wNil))) (cCons (cN2 (wN2Call ws_unit_rows (wCons (wVar 1) wNil))) (cCons (cNw (wNLst wNil)) cNil))))) (wSeqS (wFor (wRng1 (wVar 1)) (tfName 6) (wSeqS (wSet 7 (cIm (wBin fIx (wBin fIx (wVar 2) (wVar 6)) (wVar 6)))) (wSeqS (wIfS (wBT fLe (wBin fIx (wVar 7) (wC (.int 0))) (wC (.int 0))) (wRet (cIm (wTup (wCons (wC (.str "other")) (wCons (wCB (fSeqTo .tuple) (wCons (wBin fIx (wVar 3) (wVar 6)) wNil)) wNil))))) wNext) (wSeqS (wApp 5 (cFr (wVar 7))) (wFor (wRng2 (wBin fAdd (wVar 6) (wC (.int 1))) (wVar 1)) (tfName 8) (wSeqS (wSet 9 (cIm (wCall ws_divided (wCons (wBin fIx (wBin fIx (wVar 2) (wVar 8)) (wVar 6)) (wCons (wVar 7) wNil))))) (wSeqS (wSetIx2 4 (cFr (wVar 9)) (wVar 8) (wVar 6)) (wSeqS (wSetIx 2 (cNd (wNCall ws_less_times (wCons (wBin fIx (wVar 2) (wVar 8)) (wCons (wVar 9) (wCons (wBin fIx (wVar 2) (wVar 6)) wNil))))) (wVar 8)) (wSetIx 3 (cNd (wNCall ws_less_times (wCons (wBin fIx (wVar 3) (wVar 8)) (wCons (wVar 9) (wCons (wBin fIx (wVar 3) (wVar 6)) wNil))))) (wVar 8)))))))))) (wRet (cIm (wTup (wCons (wC (.str "positive")) (wCons (wCB (fSeqTo .tuple) (wCons (wOfN (wLc (wSeq (wVar 4)) (tfName 10) wYes (wCB (fSeqTo .tuple) (wCons (wVar 10) wNil)) [10])) wNil)) (wCons (wCB (fSeqTo .tuple) (wCons (wVar 5) wNil)) wNil)))))))))
theorem b_paper_of {P : Program} {w : World} {K : Fg} {mg : Str → Option Value} {base : Heap} (M : Mo K mg) {ws_unit_rows ws_divided ws_less_times : WF} (c_unit_rows : Kn P w K mg base 1 "unit_rows" ["many"] ws_unit_rows 0) (c_divided : Kn P w K mg base 2 "divided" ["one", "other"] ws_divided 0) (c_less_times : Kn P w K mg base 3 "less_times" ["row", "factor", "other"] ws_less_times 0) (f : Addr) (cdv : Value) (A : Around) (outer : List Env) (s : Shared) (H : Hp) (E : XK) (hr : Room 3 (A.deeper (envOfC "paper_of" (defScope s_paper_of) s.heap.objs.size f cdv))) :
    DSs (cxOf CX0 P w K mg base N_paper_of "paper_of" (defScope s_paper_of) f cdv A outer s H E).nox (defBody s_paper_of) (w_paper_of ws_unit_rows ws_divided ws_less_times) 0 :=
  DSs.le (dss_cons (ds_set 1 sc_paper_of.nd (dc_fr (de_len M.f_len (de_var 0)))) (dss_cons (ds_parN (dcs_cons (dc_nw (dn_lc sc_paper_of.nd (di_seq (de_var 0)) (blkOk_by (own := [("row", 10)]) (by kernel_rfl)) (fun _ _ _ _ _ => (dg_name 10 sc_paper_of.nd)) (fun _ _ _ _ _ => dts_nil) (fun _ _ _ _ _ => (de_list M.f_list (de_var 10))))) (dcs_cons (dc_nw (dn_callK c_unit_rows (hr.mono (by decide)) (dl_cons (de_var 1) dl_nil))) (dcs_cons (dc_n2 (dn2_callK c_unit_rows (hr.mono (by decide)) (dl_cons (de_var 1) dl_nil))) (dcs_cons (dc_nw (dn_lst dl_nil)) dcs_nil)))) (dnm_cons 2 sc_paper_of.nd (dnm_cons 3 sc_paper_of.nd (dnm_cons 4 sc_paper_of.nd (dnm_cons 5 sc_paper_of.nd dnm_nil))))) (dss_cons (ds_for (di_rng1 M.f_range (de_var 1)) (dg_name 6 sc_paper_of.nd) (dss_cons (ds_set 7 sc_paper_of.nd (dc_im (de_ix (de_ix (de_var 2) (de_var 6)) (de_var 6)))) (dss_cons (ds_if (dt_le (de_ix (de_var 7) de_int) de_int) (dss_one (ds_ret (dc_im (de_tup (dl_cons de_str (dl_cons (de_tuple M.f_tuple (de_ix (de_var 3) (de_var 6))) dl_nil)))))) dss_nil) (dss_cons (ds_app 5 (dc_fr (de_var 7))) (dss_one (ds_for (di_rng2 M.f_range (de_add (de_var 6) de_int) (de_var 1)) (dg_name 8 sc_paper_of.nd) (dss_cons (ds_set 9 sc_paper_of.nd (dc_im (de_callK c_divided (hr.mono (by decide)) (dl_cons (de_ix (de_ix (de_var 2) (de_var 8)) (de_var 6)) (dl_cons (de_var 7) dl_nil))))) (dss_cons (ds_setIx2 4 (dc_fr (de_var 9)) (de_var 8) (de_var 6)) (dss_cons (ds_setIx 2 (dc_nd (dn_callK c_less_times (hr.mono (by decide)) (dl_cons (de_ix (de_var 2) (de_var 8)) (dl_cons (de_var 9) (dl_cons (de_ix (de_var 2) (de_var 6)) dl_nil))))) (de_var 8)) (dss_one (ds_setIx 3 (dc_nd (dn_callK c_less_times (hr.mono (by decide)) (dl_cons (de_ix (de_var 3) (de_var 8)) (dl_cons (de_var 9) (dl_cons (de_ix (de_var 3) (de_var 6)) dl_nil))))) (de_var 8)))))))))))) (dss_one (ds_ret (dc_im (de_tup (dl_cons de_str (dl_cons (de_tuple M.f_tuple (DN.de (dn_lc sc_paper_of.nd (di_seq (de_var 4)) (blkOk_by (own := [("row", 10)]) (by kernel_rfl)) (fun _ _ _ _ _ => (dg_name 10 sc_paper_of.nd)) (fun _ _ _ _ _ => dts_nil) (fun _ _ _ _ _ => (de_tuple M.f_tuple (de_var 10)))))) (dl_cons (de_tuple M.f_tuple (de_var 5)) dl_nil)))))))))) (by decide +kernel)
def N_sign_paper : List Str := ["matrix"]
theorem sc_sign_paper : FnScope N_sign_paper ["matrix"] (defScope s_sign_paper) := ⟨rfl, rfl, rfl, by decide +kernel, rfl, by decide +kernel, by decide +kernel⟩
def w_sign_paper (ws_need_matrix ws_paper_of : WF) : WS := (wSeqS (wExpr (wCall ws_need_matrix (wCons (wVar 0) wNil))) (wRet (cFr (wCall ws_paper_of (wCons (wVar 0) wNil)))))
theorem b_sign_paper {P : Program} {w : World} {K : Fg} {mg : Str → Option Value} {base : Heap} (M : Mo K mg) {ws_need_matrix ws_paper_of : WF} (c_need_matrix : Kn P w K mg base 5 "need_matrix" ["matrix"] ws_need_matrix 0) (c_paper_of : Kn P w K mg base 4 "paper_of" ["matrix"] ws_paper_of 0) (f : Addr) (cdv : Value) (A : Around) (outer : List Env) (s : Shared) (H : Hp) (E : XK) (hr : Room 5 (A.deeper (envOfC "sign_paper" (defScope s_sign_paper) s.heap.objs.size f cdv))) :
    DSs (cxOf CX0 P w K mg base N_sign_paper "sign_paper" (defScope s_sign_paper) f cdv A outer s H E).nox (defBody s_sign_paper) (w_sign_paper ws_need_matrix ws_paper_of) 0 :=
  DSs.le (dss_cons (ds_expr (de_callK c_need_matrix (hr.mono (by decide)) (dl_cons (de_var 0) dl_nil))) (dss_one (ds_ret (dc_fr (de_callK c_paper_of (hr.mono (by decide)) (dl_cons (de_var 0) dl_nil)))))) (by decide +kernel)
def N_worth_of : List Str := ["matrix", "x", "some", "one", "row", "entry", "other"]
theorem sc_worth_of : FnScope N_worth_of ["matrix", "x"] (defScope s_worth_of) := ⟨rfl, rfl, rfl, by decide +kernel, rfl, by decide +kernel, by decide +kernel⟩
def w_worth_of (ws_multiplied ws_total : WF) : WS := (wSeqS (wSet 2 (cNw (wNLst wNil))) (wSeqS (wFor (wZip (wVar 1) (wVar 0)) (tfTup (tfCons (tfName 3) (tfCons (tfName 4) tfNil))) (wApp 2 (cFr (wCall ws_multiplied (wCons (wVar 3) (wCons (wCall ws_total (wCons (wOfN (wLc (wZip (wVar 4) (wVar 1)) (tfTup (tfCons (tfName 5) (tfCons (tfName 6) tfNil))) wYes (wCall ws_multiplied (wCons (wVar 5) (wCons (wVar 6) wNil))) [5, 6])) wNil)) wNil)))))) (wRet (cIm (wCall ws_total (wCons (wVar 2) wNil))))))
theorem b_worth_of {P : Program} {w : World} {K : Fg} {mg : Str → Option Value} {base : Heap} (M : Mo K mg) {ws_multiplied ws_total : WF} (c_multiplied : Kn P w K mg base 2 "multiplied" ["one", "other"] ws_multiplied 0) (c_total : Kn P w K mg base 3 "total" ["several"] ws_total 0) (f : Addr) (cdv : Value) (A : Around) (outer : List Env) (s : Shared) (H : Hp) (E : XK) (hr : Room 3 (A.deeper (envOfC "worth_of" (defScope s_worth_of) s.heap.objs.size f cdv))) :
    DSs (cxOf CX0 P w K mg base N_worth_of "worth_of" (defScope s_worth_of) f cdv A outer s H E).nox (defBody s_worth_of) (w_worth_of ws_multiplied ws_total) 0 :=
  DSs.le (dss_cons (ds_set 2 sc_worth_of.nd (dc_nw (dn_lst dl_nil))) (dss_cons (ds_for (di_zip M.f_zip (de_var 1) (de_var 0)) (dg_tup (dgs_cons (dg_name 3 sc_worth_of.nd) (dgs_cons (dg_name 4 sc_worth_of.nd) dgs_nil))) (dss_one (ds_app 2 (dc_fr (de_callK c_multiplied (hr.mono (by decide)) (dl_cons (de_var 3) (dl_cons (de_callK c_total (hr.mono (by decide)) (dl_cons (DN.de (dn_lc sc_worth_of.nd (di_zip M.f_zip (de_var 4) (de_var 1)) (blkOk_by (own := [("entry", 5), ("other", 6)]) (by kernel_rfl)) (fun _ _ _ _ _ => (dg_tup (dgs_cons (dg_name 5 sc_worth_of.nd) (dgs_cons (dg_name 6 sc_worth_of.nd) dgs_nil)))) (fun _ _ _ _ _ => dts_nil) (fun _ _ _ _ _ => (de_callK c_multiplied (hr.mono (by decide)) (dl_cons (de_var 5) (dl_cons (de_var 6) dl_nil)))))) dl_nil)) dl_nil))))))) (dss_one (ds_ret (dc_im (de_callK c_total (hr.mono (by decide)) (dl_cons (de_var 2) dl_nil))))))) (by decide +kernel)
def N_is_low : List Str := ["matrix", "value"]
theorem sc_is_low : FnScope N_is_low ["matrix", "value"] (defScope s_is_low) := ⟨rfl, rfl, rfl, by decide +kernel, rfl, by decide +kernel, by decide +kernel⟩
def w_is_low (ws_are_ratios ws_worth_of : WF) : WS := (wSeqS (wIfS (wOrT (wNotT (wVT (wCall ws_are_ratios (wCons (wVar 1) (wCons (wCB fLen (wCons (wVar 0) wNil)) wNil))))) (wBT fEq (wVar 1) (wBin fRep (wTup (wCons (wC (.tuple [.int 0, .int 1])) wNil)) (wCB fLen (wCons (wVar 0) wNil))))) (wRet (cFr (wC (.bool false)))) wNext) (wRet (cFr (wBin fLe (wBin fIx (wCall ws_worth_of (wCons (wVar 0) (wCons (wVar 1) wNil))) (wC (.int 0))) (wC (.int 0))))))
theorem b_is_low {P : Program} {w : World} {K : Fg} {mg : Str → Option Value} {base : Heap} (M : Mo K mg) {ws_are_ratios ws_worth_of : WF} (c_are_ratios : Kn P w K mg base 3 "are_ratios" ["value", "many"] ws_are_ratios 0) (c_worth_of : Kn P w K mg base 4 "worth_of" ["matrix", "x"] ws_worth_of 0) (f : Addr) (cdv : Value) (A : Around) (outer : List Env) (s : Shared) (H : Hp) (E : XK) (hr : Room 4 (A.deeper (envOfC "is_low" (defScope s_is_low) s.heap.objs.size f cdv))) :
    DSs (cxOf CX0 P w K mg base N_is_low "is_low" (defScope s_is_low) f cdv A outer s H E).nox (defBody s_is_low) (w_is_low ws_are_ratios ws_worth_of) 0 :=
  DSs.le (dss_cons (ds_if (DW'.dt (dw_or (dt_not (dt_val (de_callK c_are_ratios (hr.mono (by decide)) (dl_cons (de_var 1) (dl_cons (de_len M.f_len (de_var 0)) dl_nil))))) (dw_or1 (dt_eq hr.units (de_var 1) (de_rep (de_tup (dl_cons (de_cst M.nought) dl_nil)) (de_len M.f_len (de_var 0))))))) (dss_one (ds_ret (dc_fr de_bl))) dss_nil) (dss_one (ds_ret (dc_fr (de_le (de_ix (de_callK c_worth_of (hr.mono (by decide)) (dl_cons (de_var 0) (dl_cons (de_var 1) dl_nil))) de_int) de_int))))) (by decide +kernel)
def N_are_factors : List Str := ["matrix", "lower", "pivots", "many", "at", "to", "some", "row", "pivot", "entry", "by"]
theorem sc_are_factors : FnScope N_are_factors ["matrix", "lower", "pivots"] (defScope s_are_factors) := ⟨rfl, rfl, rfl, by decide +kernel, rfl, by decide +kernel, by decide +kernel⟩
def w_are_factors (ws_are_ratios ws_multiplied ws_total : WF) : WS := (wSeqS (wSet 3 (cFr (wCB fLen (wCons (wVar 0) wNil)))) (wSeqS (wIfS (wOrT (wNotT (wVT (wIsi "tuple" (wVar 1)))) (wOrT (wBT fNe (wCB fLen (wCons (wVar 1) wNil)) (wVar 3)) (wNotT (wVT (wCB (fBools fun bs => bs.all id) (wCons (wOfN (wLc (wSeq (wVar 1)) (tfName 7) wYes (wCall ws_are_ratios (wCons (wVar 7) (wCons (wVar 3) wNil))) [7])) wNil)))))) (wRet (cFr (wC (.bool false)))) wNext) (wSeqS (wIfS (wOrT (wNotT (wVT (wCall ws_are_ratios (wCons (wVar 2) (wCons (wVar 3) wNil))))) (wVT (wCB (fBools fun bs => bs.any id) (wCons (wOfN (wLc (wSeq (wVar 2)) (tfName 8) wYes (wBin fLe (wBin fIx (wVar 8) (wC (.int 0))) (wC (.int 0))) [8])) wNil)))) (wRet (cFr (wC (.bool false)))) wNext) (wSeqS (wFor (wRng1 (wVar 3)) (tfName 4) (wSeqS (wIfS (wOrT (wBT fNe (wBin fIx (wBin fIx (wVar 1) (wVar 4)) (wVar 4)) (wTup (wCons (wC (.int 1)) (wCons (wC (.int 1)) wNil)))) (wVT (wCB (fBools fun bs => bs.any id) (wCons (wOfN (wLc (wSeq (wSl (wBin fIx (wVar 1) (wVar 4)) (wPart (wBin fAdd (wVar 4) (wC (.int 1)))) wNoPart)) (tfName 9) wYes (wBin fNe (wVar 9) (wC (.tuple [.int 0, .int 1]))) [9])) wNil)))) (wRet (cFr (wC (.bool false)))) wNext) (wFor (wRng1 (wBin fAdd (wVar 4) (wC (.int 1)))) (tfName 5) (wSeqS (wSet 6 (cNw (wLc (wRng1 (wBin fAdd (wVar 5) (wC (.int 1)))) (tfName 10) wYes (wCall ws_multiplied (wCons (wCall ws_multiplied (wCons (wBin fIx (wBin fIx (wVar 1) (wVar 4)) (wVar 10)) (wCons (wBin fIx (wVar 2) (wVar 10)) wNil))) (wCons (wBin fIx (wBin fIx (wVar 1) (wVar 5)) (wVar 10)) wNil))) [10]))) (wIfS (wBT fNe (wCall ws_total (wCons (wVar 6) wNil)) (wBin fIx (wBin fIx (wVar 0) (wVar 4)) (wVar 5))) (wRet (cFr (wC (.bool false)))) wNext))))) (wRet (cFr (wC (.bool true))))))))
theorem b_are_factors {P : Program} {w : World} {K : Fg} {mg : Str → Option Value} {base : Heap} (M : Mo K mg) {ws_are_ratios ws_multiplied ws_total : WF} (c_are_ratios : Kn P w K mg base 3 "are_ratios" ["value", "many"] ws_are_ratios 0) (c_multiplied : Kn P w K mg base 2 "multiplied" ["one", "other"] ws_multiplied 0) (c_total : Kn P w K mg base 3 "total" ["several"] ws_total 0) (f : Addr) (cdv : Value) (A : Around) (outer : List Env) (s : Shared) (H : Hp) (E : XK) (hr : Room 3 (A.deeper (envOfC "are_factors" (defScope s_are_factors) s.heap.objs.size f cdv))) :
    DSs (cxOf CX0 P w K mg base N_are_factors "are_factors" (defScope s_are_factors) f cdv A outer s H E).nox (defBody s_are_factors) (w_are_factors ws_are_ratios ws_multiplied ws_total) 0 :=
  DSs.le (dss_cons (ds_set 3 sc_are_factors.nd (dc_fr (de_len M.f_len (de_var 0)))) (dss_cons (ds_if (DW'.dt (dw_or (dt_not (dt_val (de_isi isi_tuple boot_tuple M.f_isinstance M.f_tuple (de_var 1)))) (dw_or (dt_ne hr.units (de_len M.f_len (de_var 1)) (de_var 3)) (dw_or1 (dt_not (dt_val (de_all M.f_all (DN.de (dn_lc sc_are_factors.nd (di_seq (de_var 1)) (blkOk_by (own := [("row", 7)]) (by kernel_rfl)) (fun _ _ _ _ _ => (dg_name 7 sc_are_factors.nd)) (fun _ _ _ _ _ => dts_nil) (fun _ _ _ _ _ => (de_callK c_are_ratios (hr.mono (by decide)) (dl_cons (de_var 7) (dl_cons (de_var 3) dl_nil))))))))))))) (dss_one (ds_ret (dc_fr de_bl))) dss_nil) (dss_cons (ds_if (DW'.dt (dw_or (dt_not (dt_val (de_callK c_are_ratios (hr.mono (by decide)) (dl_cons (de_var 2) (dl_cons (de_var 3) dl_nil))))) (dw_or1 (dt_val (de_any M.f_any (DN.de (dn_lc sc_are_factors.nd (di_seq (de_var 2)) (blkOk_by (own := [("pivot", 8)]) (by kernel_rfl)) (fun _ _ _ _ _ => (dg_name 8 sc_are_factors.nd)) (fun _ _ _ _ _ => dts_nil) (fun _ _ _ _ _ => (de_le (de_ix (de_var 8) de_int) de_int))))))))) (dss_one (ds_ret (dc_fr de_bl))) dss_nil) (dss_cons (ds_for (di_rng1 M.f_range (de_var 3)) (dg_name 4 sc_are_factors.nd) (dss_cons (ds_if (DW'.dt (dw_or (dt_ne hr.units (de_ix (de_ix (de_var 1) (de_var 4)) (de_var 4)) (de_tup (dl_cons de_int (dl_cons de_int dl_nil)))) (dw_or1 (dt_val (de_any M.f_any (DN.de (dn_lc sc_are_factors.nd (di_seq (de_slice (de_ix (de_var 1) (de_var 4)) (do_some (de_add (de_var 4) de_int)) do_none)) (blkOk_by (own := [("entry", 9)]) (by kernel_rfl)) (fun _ _ _ _ _ => (dg_name 9 sc_are_factors.nd)) (fun _ _ _ _ _ => dts_nil) (fun _ _ _ _ _ => (de_ne hr.units (de_var 9) (de_cst M.nought)))))))))) (dss_one (ds_ret (dc_fr de_bl))) dss_nil) (dss_one (ds_for (di_rng1 M.f_range (de_add (de_var 4) de_int)) (dg_name 5 sc_are_factors.nd) (dss_cons (ds_setLcF 6 sc_are_factors.nd rfl (di_rng1 M.f_range (de_add (de_var 5) de_int)) (blkOk_by (own := [("by", 10)]) (by kernel_rfl)) (fun _ _ _ _ _ => (dg_name 10 sc_are_factors.nd)) (fun _ _ _ _ _ => dts_nil) (fun _ _ _ _ _ => (de_callK c_multiplied (hr.mono (by decide)) (dl_cons (de_callK c_multiplied (hr.mono (by decide)) (dl_cons (de_ix (de_ix (de_var 1) (de_var 4)) (de_var 10)) (dl_cons (de_ix (de_var 2) (de_var 10)) dl_nil))) (dl_cons (de_ix (de_ix (de_var 1) (de_var 5)) (de_var 10)) dl_nil))))) (dss_one (ds_if (dt_ne hr.units (de_callK c_total (hr.mono (by decide)) (dl_cons (de_var 6) dl_nil)) (de_ix (de_ix (de_var 0) (de_var 4)) (de_var 5))) (dss_one (ds_ret (dc_fr de_bl))) dss_nil))))))) (dss_one (ds_ret (dc_fr de_bl))))))) (by decide +kernel)
def N_is_sign_paper : List Str := ["matrix", "value"]
theorem sc_is_sign_paper : FnScope N_is_sign_paper ["matrix", "value"] (defScope s_is_sign_paper) := ⟨rfl, rfl, rfl, by decide +kernel, rfl, by decide +kernel, by decide +kernel⟩
def w_is_sign_paper (ws_need_matrix ws_is_low ws_are_factors : WF) : WS := (wSeqS (wExpr (wCall ws_need_matrix (wCons (wVar 0) wNil))) (wSeqS (wIfS (wOrT (wNotT (wVT (wIsi "tuple" (wVar 1)))) (wOrT (wBT (fIn true) (wCB fLen (wCons (wVar 1) wNil)) (wTup (wCons (wC (.int 2)) (wCons (wC (.int 3)) wNil)))) (wNotT (wVT (wIsi "str" (wBin fIx (wVar 1) (wC (.int 0)))))))) (wRet (cFr (wC (.bool false)))) wNext) (wSeqS (wIfS (wBT fEq (wCB fLen (wCons (wVar 1) wNil)) (wC (.int 2))) (wRet (cFr (wAndV (wBin fEq (wBin fIx (wVar 1) (wC (.int 0))) (wC (.str "other"))) (wCall ws_is_low (wCons (wVar 0) (wCons (wBin fIx (wVar 1) (wC (.int 1))) wNil)))))) wNext) (wRet (cFr (wAndV (wBin fEq (wBin fIx (wVar 1) (wC (.int 0))) (wC (.str "positive"))) (wCall ws_are_factors (wCons (wVar 0) (wCons (wBin fIx (wVar 1) (wC (.int 1))) (wCons (wBin fIx (wVar 1) (wC (.int 2))) wNil))))))))))
theorem b_is_sign_paper {P : Program} {w : World} {K : Fg} {mg : Str → Option Value} {base : Heap} (M : Mo K mg) {ws_need_matrix ws_is_low ws_are_factors : WF} (c_need_matrix : Kn P w K mg base 5 "need_matrix" ["matrix"] ws_need_matrix 0) (c_is_low : Kn P w K mg base 5 "is_low" ["matrix", "value"] ws_is_low 0) (c_are_factors : Kn P w K mg base 4 "are_factors" ["matrix", "lower", "pivots"] ws_are_factors 0) (f : Addr) (cdv : Value) (A : Around) (outer : List Env) (s : Shared) (H : Hp) (E : XK) (hr : Room 5 (A.deeper (envOfC "is_sign_paper" (defScope s_is_sign_paper) s.heap.objs.size f cdv))) :
    DSs (cxOf CX0 P w K mg base N_is_sign_paper "is_sign_paper" (defScope s_is_sign_paper) f cdv A outer s H E).nox (defBody s_is_sign_paper) (w_is_sign_paper ws_need_matrix ws_is_low ws_are_factors) 0 :=
  DSs.le (dss_cons (ds_expr (de_callK c_need_matrix (hr.mono (by decide)) (dl_cons (de_var 0) dl_nil))) (dss_cons (ds_if (DW'.dt (dw_or (dt_not (dt_val (de_isi isi_tuple boot_tuple M.f_isinstance M.f_tuple (de_var 1)))) (dw_or (dt_notin (de_len M.f_len (de_var 1)) (de_tup (dl_cons de_int (dl_cons de_int dl_nil)))) (dw_or1 (dt_not (dt_val (de_isi isi_str boot_str M.f_isinstance M.f_str (de_ix (de_var 1) de_int)))))))) (dss_one (ds_ret (dc_fr de_bl))) dss_nil) (dss_cons (ds_if (dt_eq hr.units (de_len M.f_len (de_var 1)) de_int) (dss_one (ds_ret (dc_fr (de_and (de_eq hr.units (de_ix (de_var 1) de_int) de_str) (de_one (de_callK c_is_low (hr.mono (by decide)) (dl_cons (de_var 0) (dl_cons (de_ix (de_var 1) de_int) dl_nil)))))))) dss_nil) (dss_one (ds_ret (dc_fr (de_and (de_eq hr.units (de_ix (de_var 1) de_int) de_str) (de_one (de_callK c_are_factors (hr.mono (by decide)) (dl_cons (de_var 0) (dl_cons (de_ix (de_var 1) de_int) (dl_cons (de_ix (de_var 1) de_int) dl_nil)))))))))))) (by decide +kernel)
def N__law_begun : List Str := ["script", "great", "cell"]
theorem sc__law_begun : FnScope N__law_begun ["script"] (defScope s__law_begun) := ⟨rfl, rfl, rfl, by decide +kernel, rfl, by decide +kernel, by decide +kernel⟩
def w__law_begun : WS := (wSeqS (wSet 1 (cNw (wLc (wSeq (wVar 0)) (tfName 2) (wBT fGe (wCB (fI1 iAbs) (wCons (wVar 2) wNil)) (wBin fPow (wC (.int 10)) (wC (.int 18)))) (wBin fSub (wCB (fI1 iAbs) (wCons (wVar 2) wNil)) (wBin fPow (wC (.int 10)) (wC (.int 18)))) [2]))) (wBegun 1 (wLc (wSeq (wVar 0)) (tfName 2) wYes (wCB (fI1 iAbs) (wCons (wVar 2) wNil)) [2])))
theorem b__law_begun {P : Program} {w : World} {K : Fg} {mg : Str → Option Value} {base : Heap} (M : Mo K mg) (f : Addr) (cdv : Value) (A : Around) (outer : List Env) (s : Shared) (H : Hp) (E : XK) (hr : Room 0 (A.deeper (envOfC "_law_begun" (defScope s__law_begun) s.heap.objs.size f cdv))) :
    DSs (cxOf CX0 P w K mg base N__law_begun "_law_begun" (defScope s__law_begun) f cdv A outer s H E).nox (defBody s__law_begun) (w__law_begun) 0 :=
  DSs.le (dss_cons (ds_setLcF 1 sc__law_begun.nd rfl (di_seq (de_var 0)) (blkOk_by (own := [("cell", 2)]) (by kernel_rfl)) (fun _ _ _ _ _ => (dg_name 2 sc__law_begun.nd)) (fun _ _ _ _ _ => (dts_one (dt_ge (de_abs M.f_abs (de_var 2)) (de_pow de_int de_int)))) (fun _ _ _ _ _ => (de_sub (de_abs M.f_abs (de_var 2)) (de_pow de_int de_int)))) (dss_one (ds_begun 1 (dn_lc sc__law_begun.nd (di_seq (de_var 0)) (blkOk_by (own := [("cell", 2)]) (by kernel_rfl)) (fun _ _ _ _ _ => (dg_name 2 sc__law_begun.nd)) (fun _ _ _ _ _ => dts_nil) (fun _ _ _ _ _ => (de_abs M.f_abs (de_var 2))))))) (by decide +kernel)
def N__law_blended : List Str := ["state", "turn", "found", "prime", "blend", "cell"]
theorem sc__law_blended : FnScope N__law_blended ["state"] (defScope s__law_blended) := ⟨rfl, rfl, rfl, by decide +kernel, rfl, by decide +kernel, by decide +kernel⟩
def w__law_blended : WS := (wFill 0 1 2 (wSeqS (wFor (wSeq (wLst (wCons (wC (.int 2147474933)) (wCons (wC (.int 2147474921)) (wCons (wC (.int 2147474891)) wNil))))) (tfName 3) (wSeqS (wSet 4 (cFr (wBin fAdd (wBin fMul (wC (.int 60611)) (wVar 1)) (wBin fDiv (wVar 3) (wC (.int 83)))))) (wSeqS (wFor (wSeq (wStCells 0)) (tfName 5) (wSet 4 (cFr (wBin fMod (wCB fIntOf (wCons (wBin fAdd (wBin fAdd (wBin fMul (wVar 4) (wC (.int 69001))) (wVar 5)) (wVar 1)) wNil)) (wVar 3))))) (wSet 2 (cFr (wBin fAdd (wBin fMul (wVar 2) (wC (.int 2147483647))) (wBin fMod (wCB fIntOf (wCons (wBin fPow (wVar 4) (wC (.int 5))) wNil)) (wVar 3)))))))) (wRet (cFr (wVar 2)))))
theorem b__law_blended {P : Program} {w : World} {K : Fg} {mg : Str → Option Value} {base : Heap} (M : Mo K mg) (f : Addr) (cdv : Value) (A : Around) (outer : List Env) (s : Shared) (H : Hp) (E : XK) (hr : Room 0 (A.deeper (envOfC "_law_blended" (defScope s__law_blended) s.heap.objs.size f cdv))) :
    DSs (cxOf CX0 P w K mg base N__law_blended "_law_blended" (defScope s__law_blended) f cdv A outer s H E).nox (defBody s__law_blended) (w__law_blended) 1 :=
  DSs.le (dss_fill hr.units 0 1 2 sc__law_blended.nd (dss_cons (ds_for (di_seq (de_lst (dl_cons de_int (dl_cons de_int (dl_cons de_int dl_nil))))) (dg_name 3 sc__law_blended.nd) (dss_cons (ds_set 4 sc__law_blended.nd (dc_fr (de_add (de_mul de_int (de_var 1)) (de_div (de_var 3) de_int)))) (dss_cons (ds_for (di_seq (de_stCells hr.units 0)) (dg_name 5 sc__law_blended.nd) (dss_one (ds_set 4 sc__law_blended.nd (dc_fr (de_mod (de_intOf M.f_int (de_add (de_add (de_mul (de_var 4) de_int) (de_var 5)) (de_var 1))) (de_var 3)))))) (dss_one (ds_set 2 sc__law_blended.nd (dc_fr (de_add (de_mul (de_var 2) de_int) (de_mod (de_intOf M.f_int (de_pow (de_var 4) de_int)) (de_var 3))))))))) (dss_one (ds_ret (dc_fr (de_var 2)))))) (by decide +kernel)
def N__law_draw : List Str := ["state", "size_here", "found"]
theorem sc__law_draw : FnScope N__law_draw ["state", "size_here"] (defScope s__law_draw) := ⟨rfl, rfl, rfl, by decide +kernel, rfl, by decide +kernel, by decide +kernel⟩
def w__law_draw (ws__law_blended : WF) : WS := (wSeqS (wIfS (wBT fEq (wStLeft 0) (wC (.int 0))) (wLeft 0 (wGreat 0 (wCall ws__law_blended (wCons (wVar 0) wNil)))) wNext) (wSeqS (wSet 2 (cFr (wBin fMod (wCB fIntOf (wCons (wStLeft 0) wNil)) (wVar 1)))) (wSeqS (wLeft 0 (wBin fDiv (wStLeft 0) (wVar 1))) (wRet (cFr (wVar 2))))))
theorem b__law_draw {P : Program} {w : World} {K : Fg} {mg : Str → Option Value} {base : Heap} (M : Mo K mg) {ws__law_blended : WF} (c__law_blended : Kn P w K mg base 1 "_law_blended" ["state"] ws__law_blended 1) (f : Addr) (cdv : Value) (A : Around) (outer : List Env) (s : Shared) (H : Hp) (E : XK) (hr : Room 1 (A.deeper (envOfC "_law_draw" (defScope s__law_draw) s.heap.objs.size f cdv))) :
    DSs (cxOf CX0 P w K mg base N__law_draw "_law_draw" (defScope s__law_draw) f cdv A outer s H E).nox (defBody s__law_draw) (w__law_draw ws__law_blended) 1 :=
  DSs.le (dss_cons (ds_if (dt_eq hr.units (de_stLeft hr.units 0) de_int) (dss_one (ds_left hr.units 0 (de_great hr.units 0 (de_callK c__law_blended (hr.mono (by decide)) (dl_cons (de_var 0) dl_nil))))) dss_nil) (dss_cons (ds_set 2 sc__law_draw.nd (dc_fr (de_mod (de_intOf M.f_int (de_stLeft hr.units 0)) (de_var 1)))) (dss_cons (ds_left hr.units 0 (de_div (de_stLeft hr.units 0) (de_var 1))) (dss_one (ds_ret (dc_fr (de_var 2))))))) (by decide +kernel)
def N__law_pick : List Str := ["state", "several"]
theorem sc__law_pick : FnScope N__law_pick ["state", "several"] (defScope s__law_pick) := ⟨rfl, rfl, rfl, by decide +kernel, rfl, by decide +kernel, by decide +kernel⟩
def w__law_pick (ws__law_draw : WF) : WS := (wRet (cFr (wBin fIx (wVar 1) (wCall ws__law_draw (wCons (wVar 0) (wCons (wCB fLen (wCons (wVar 1) wNil)) wNil))))))
theorem b__law_pick {P : Program} {w : World} {K : Fg} {mg : Str → Option Value} {base : Heap} (M : Mo K mg) {ws__law_draw : WF} (c__law_draw : Kn P w K mg base 2 "_law_draw" ["state", "size_here"] ws__law_draw 1) (f : Addr) (cdv : Value) (A : Around) (outer : List Env) (s : Shared) (H : Hp) (E : XK) (hr : Room 2 (A.deeper (envOfC "_law_pick" (defScope s__law_pick) s.heap.objs.size f cdv))) :
    DSs (cxOf CX0 P w K mg base N__law_pick "_law_pick" (defScope s__law_pick) f cdv A outer s H E).nox (defBody s__law_pick) (w__law_pick ws__law_draw) 1 :=
  DSs.le (dss_one (ds_ret (dc_fr (de_ix (de_var 1) (de_callK c__law_draw (hr.mono (by decide)) (dl_cons (de_var 0) (dl_cons (de_len M.f_len (de_var 1)) dl_nil))))))) (by decide +kernel)
def N__law_is_truth : List Str := ["found", "due"]
theorem sc__law_is_truth : FnScope N__law_is_truth ["found", "due"] (defScope s__law_is_truth) := ⟨rfl, rfl, rfl, by decide +kernel, rfl, by decide +kernel, by decide +kernel⟩
def w__law_is_truth : WS := (wRet (cFr (wIf (wVT (wVar 1)) (wBin fIs (wVar 0) (wC (.bool true))) (wBin fIs (wVar 0) (wC (.bool false))))))
theorem b__law_is_truth {P : Program} {w : World} {K : Fg} {mg : Str → Option Value} {base : Heap} (M : Mo K mg) (f : Addr) (cdv : Value) (A : Around) (outer : List Env) (s : Shared) (H : Hp) (E : XK) (hr : Room 0 (A.deeper (envOfC "_law_is_truth" (defScope s__law_is_truth) s.heap.objs.size f cdv))) :
    DSs (cxOf CX0 P w K mg base N__law_is_truth "_law_is_truth" (defScope s__law_is_truth) f cdv A outer s H E).nox (defBody s__law_is_truth) (w__law_is_truth) 0 :=
  DSs.le (dss_one (ds_ret (dc_fr (de_if (dt_val (de_var 1)) (de_is (de_var 0) de_bl) (de_is (de_var 0) de_bl))))) (by decide +kernel)
def N__law_is_whole : List Str := ["item"]
theorem sc__law_is_whole : FnScope N__law_is_whole ["item"] (defScope s__law_is_whole) := ⟨rfl, rfl, rfl, by decide +kernel, rfl, by decide +kernel, by decide +kernel⟩
def w__law_is_whole : WS := (wRet (cFr (wAndV (wIsi "int" (wVar 0)) (wNotV (wIsi "bool" (wVar 0))))))
theorem b__law_is_whole {P : Program} {w : World} {K : Fg} {mg : Str → Option Value} {base : Heap} (M : Mo K mg) (f : Addr) (cdv : Value) (A : Around) (outer : List Env) (s : Shared) (H : Hp) (E : XK) (hr : Room 0 (A.deeper (envOfC "_law_is_whole" (defScope s__law_is_whole) s.heap.objs.size f cdv))) :
    DSs (cxOf CX0 P w K mg base N__law_is_whole "_law_is_whole" (defScope s__law_is_whole) f cdv A outer s H E).nox (defBody s__law_is_whole) (w__law_is_whole) 0 :=
  DSs.le (dss_one (ds_ret (dc_fr (de_and (de_isi isi_int boot_int M.f_isinstance M.f_int (de_var 0)) (de_one (de_not (de_isi isi_bool boot_bool M.f_isinstance M.f_bool (de_var 0)))))))) (by decide +kernel)
def N__law_fr_of : List Str := ["over", "under", "one", "other"]
theorem sc__law_fr_of : FnScope N__law_fr_of ["over", "under"] (defScope s__law_fr_of) := ⟨rfl, rfl, rfl, by decide +kernel, rfl, by decide +kernel, by decide +kernel⟩
def w__law_fr_of : WS := (wSeqS (wPar 2 3 (cFr (wCB (fI1 iAbs) (wCons (wVar 0) wNil))) (cFr (wCB (fI1 iAbs) (wCons (wVar 1) wNil)))) (wSeqS (wWhile (wBT fGt (wVar 3) (wC (.int 0))) (wPar 2 3 (cFr (wVar 3)) (cFr (wBin fMod (wVar 2) (wVar 3))))) (wRet (cFr (wIf (wBT fGt (wVar 1) (wC (.int 0))) (wTup (wCons (wBin fDiv (wVar 0) (wVar 2)) (wCons (wBin fDiv (wVar 1) (wVar 2)) wNil))) (wTup (wCons (wBin fSub (wC (.int 0)) (wBin fDiv (wVar 0) (wVar 2))) (wCons (wBin fSub (wC (.int 0)) (wBin fDiv (wVar 1) (wVar 2))) wNil))))))))
theorem b__law_fr_of {P : Program} {w : World} {K : Fg} {mg : Str → Option Value} {base : Heap} (M : Mo K mg) (f : Addr) (cdv : Value) (A : Around) (outer : List Env) (s : Shared) (H : Hp) (E : XK) (hr : Room 0 (A.deeper (envOfC "_law_fr_of" (defScope s__law_fr_of) s.heap.objs.size f cdv))) :
    DSs (cxOf CX0 P w K mg base N__law_fr_of "_law_fr_of" (defScope s__law_fr_of) f cdv A outer s H E).nox (defBody s__law_fr_of) (w__law_fr_of) 0 :=
  DSs.le (dss_cons (ds_par 2 3 sc__law_fr_of.nd (dc_fr (de_abs M.f_abs (de_var 0))) (dc_fr (de_abs M.f_abs (de_var 1))) rfl) (dss_cons (ds_while (dt_gt (de_var 3) de_int) (dss_one (ds_par 2 3 sc__law_fr_of.nd (dc_fr (de_var 3)) (dc_fr (de_mod (de_var 2) (de_var 3))) rfl))) (dss_one (ds_ret (dc_fr (de_if (dt_gt (de_var 1) de_int) (de_tup (dl_cons (de_div (de_var 0) (de_var 2)) (dl_cons (de_div (de_var 1) (de_var 2)) dl_nil))) (de_tup (dl_cons (de_sub de_int (de_div (de_var 0) (de_var 2))) (dl_cons (de_sub de_int (de_div (de_var 1) (de_var 2))) dl_nil))))))))) (by decide +kernel)
def N__law_fr_less : List Str := ["one", "other"]
theorem sc__law_fr_less : FnScope N__law_fr_less ["one", "other"] (defScope s__law_fr_less) := ⟨rfl, rfl, rfl, by decide +kernel, rfl, by decide +kernel, by decide +kernel⟩
def w__law_fr_less (ws__law_fr_of : WF) : WS := (wRet (cFr (wCall ws__law_fr_of (wCons (wBin fSub (wBin fMul (wBin fIx (wVar 0) (wC (.int 0))) (wBin fIx (wVar 1) (wC (.int 1)))) (wBin fMul (wBin fIx (wVar 1) (wC (.int 0))) (wBin fIx (wVar 0) (wC (.int 1))))) (wCons (wBin fMul (wBin fIx (wVar 0) (wC (.int 1))) (wBin fIx (wVar 1) (wC (.int 1)))) wNil)))))
theorem b__law_fr_less {P : Program} {w : World} {K : Fg} {mg : Str → Option Value} {base : Heap} (M : Mo K mg) {ws__law_fr_of : WF} (c__law_fr_of : Kn P w K mg base 1 "_law_fr_of" ["over", "under"] ws__law_fr_of 0) (f : Addr) (cdv : Value) (A : Around) (outer : List Env) (s : Shared) (H : Hp) (E : XK) (hr : Room 1 (A.deeper (envOfC "_law_fr_less" (defScope s__law_fr_less) s.heap.objs.size f cdv))) :
    DSs (cxOf CX0 P w K mg base N__law_fr_less "_law_fr_less" (defScope s__law_fr_less) f cdv A outer s H E).nox (defBody s__law_fr_less) (w__law_fr_less ws__law_fr_of) 0 :=
  DSs.le (dss_one (ds_ret (dc_fr (de_callK c__law_fr_of (hr.mono (by decide)) (dl_cons (de_sub (de_mul (de_ix (de_var 0) de_int) (de_ix (de_var 1) de_int)) (de_mul (de_ix (de_var 1) de_int) (de_ix (de_var 0) de_int))) (dl_cons (de_mul (de_ix (de_var 0) de_int) (de_ix (de_var 1) de_int)) dl_nil)))))) (by decide +kernel)
def N__law_fr_times : List Str := ["one", "other"]
theorem sc__law_fr_times : FnScope N__law_fr_times ["one", "other"] (defScope s__law_fr_times) := ⟨rfl, rfl, rfl, by decide +kernel, rfl, by decide +kernel, by decide +kernel⟩
def w__law_fr_times (ws__law_fr_of : WF) : WS := (wRet (cFr (wCall ws__law_fr_of (wCons (wBin fMul (wBin fIx (wVar 0) (wC (.int 0))) (wBin fIx (wVar 1) (wC (.int 0)))) (wCons (wBin fMul (wBin fIx (wVar 0) (wC (.int 1))) (wBin fIx (wVar 1) (wC (.int 1)))) wNil)))))
theorem b__law_fr_times {P : Program} {w : World} {K : Fg} {mg : Str → Option Value} {base : Heap} (M : Mo K mg) {ws__law_fr_of : WF} (c__law_fr_of : Kn P w K mg base 1 "_law_fr_of" ["over", "under"] ws__law_fr_of 0) (f : Addr) (cdv : Value) (A : Around) (outer : List Env) (s : Shared) (H : Hp) (E : XK) (hr : Room 1 (A.deeper (envOfC "_law_fr_times" (defScope s__law_fr_times) s.heap.objs.size f cdv))) :
    DSs (cxOf CX0 P w K mg base N__law_fr_times "_law_fr_times" (defScope s__law_fr_times) f cdv A outer s H E).nox (defBody s__law_fr_times) (w__law_fr_times ws__law_fr_of) 0 :=
  DSs.le (dss_one (ds_ret (dc_fr (de_callK c__law_fr_of (hr.mono (by decide)) (dl_cons (de_mul (de_ix (de_var 0) de_int) (de_ix (de_var 1) de_int)) (dl_cons (de_mul (de_ix (de_var 0) de_int) (de_ix (de_var 1) de_int)) dl_nil)))))) (by decide +kernel)
def N__law_fr_sum : List Str := ["some", "over", "under", "p", "q"]
theorem sc__law_fr_sum : FnScope N__law_fr_sum ["some"] (defScope s__law_fr_sum) := ⟨rfl, rfl, rfl, by decide +kernel, rfl, by decide +kernel, by decide +kernel⟩
def w__law_fr_sum (ws__law_fr_of : WF) : WS := (wSeqS (wAsg (tfTup (tfCons (tfName 1) (tfCons (tfName 2) tfNil))) (cFr (wTup (wCons (wC (.int 0)) (wCons (wC (.int 1)) wNil))))) (wSeqS (wFor (wSeq (wVar 0)) (tfTup (tfCons (tfName 3) (tfCons (tfName 4) tfNil))) (wAsg (tfTup (tfCons (tfName 1) (tfCons (tfName 2) tfNil))) (cFr (wIf (wBT fEq (wVar 4) (wVar 2)) (wTup (wCons (wBin fAdd (wVar 1) (wVar 3)) (wCons (wVar 2) wNil))) (wTup (wCons (wBin fAdd (wBin fMul (wVar 1) (wVar 4)) (wBin fMul (wVar 3) (wVar 2))) (wCons (wBin fMul (wVar 2) (wVar 4)) wNil))))))) (wRet (cFr (wCall ws__law_fr_of (wCons (wVar 1) (wCons (wVar 2) wNil)))))))
theorem b__law_fr_sum {P : Program} {w : World} {K : Fg} {mg : Str → Option Value} {base : Heap} (M : Mo K mg) {ws__law_fr_of : WF} (c__law_fr_of : Kn P w K mg base 1 "_law_fr_of" ["over", "under"] ws__law_fr_of 0) (f : Addr) (cdv : Value) (A : Around) (outer : List Env) (s : Shared) (H : Hp) (E : XK) (hr : Room 1 (A.deeper (envOfC "_law_fr_sum" (defScope s__law_fr_sum) s.heap.objs.size f cdv))) :
    DSs (cxOf CX0 P w K mg base N__law_fr_sum "_law_fr_sum" (defScope s__law_fr_sum) f cdv A outer s H E).nox (defBody s__law_fr_sum) (w__law_fr_sum ws__law_fr_of) 0 :=
  DSs.le (dss_cons (ds_asg (dc_fr (de_tup (dl_cons de_int (dl_cons de_int dl_nil)))) (dg_tup (dgs_cons (dg_name 1 sc__law_fr_sum.nd) (dgs_cons (dg_name 2 sc__law_fr_sum.nd) dgs_nil)))) (dss_cons (ds_for (di_seq (de_var 0)) (dg_tup (dgs_cons (dg_name 3 sc__law_fr_sum.nd) (dgs_cons (dg_name 4 sc__law_fr_sum.nd) dgs_nil))) (dss_one (ds_asg (dc_fr (de_if (dt_eq hr.units (de_var 4) (de_var 2)) (de_tup (dl_cons (de_add (de_var 1) (de_var 3)) (dl_cons (de_var 2) dl_nil))) (de_tup (dl_cons (de_add (de_mul (de_var 1) (de_var 4)) (de_mul (de_var 3) (de_var 2))) (dl_cons (de_mul (de_var 2) (de_var 4)) dl_nil))))) (dg_tup (dgs_cons (dg_name 1 sc__law_fr_sum.nd) (dgs_cons (dg_name 2 sc__law_fr_sum.nd) dgs_nil)))))) (dss_one (ds_ret (dc_fr (de_callK c__law_fr_of (hr.mono (by decide)) (dl_cons (de_var 1) (dl_cons (de_var 2) dl_nil)))))))) (by decide +kernel)
def N__law_fr_are : List Str := ["value", "many", "one"]
theorem sc__law_fr_are : FnScope N__law_fr_are ["value", "many"] (defScope s__law_fr_are) := ⟨rfl, rfl, rfl, by decide +kernel, rfl, by decide +kernel, by decide +kernel⟩
def w__law_fr_are (ws__law_fr_of ws__law_is_whole : WF) : WS := (wSeqS (wIfS (wOrT (wNotT (wVT (wIsi "tuple" (wVar 0)))) (wBT fNe (wCB fLen (wCons (wVar 0) wNil)) (wVar 1))) (wRet (cFr (wC (.bool false)))) wNext) (wSeqS (wFor (wSeq (wVar 0)) (tfName 2) (wIfS (wOrT (wNotT (wVT (wIsi "tuple" (wVar 2)))) (wOrT (wBT fNe (wCB fLen (wCons (wVar 2) wNil)) (wC (.int 2))) (wOrT (wNotT (wVT (wCall ws__law_is_whole (wCons (wBin fIx (wVar 2) (wC (.int 0))) wNil)))) (wOrT (wNotT (wVT (wCall ws__law_is_whole (wCons (wBin fIx (wVar 2) (wC (.int 1))) wNil)))) (wOrT (wBT fLt (wBin fIx (wVar 2) (wC (.int 1))) (wC (.int 1))) (wBT fNe (wCall ws__law_fr_of (wCons (wBin fIx (wVar 2) (wC (.int 0))) (wCons (wBin fIx (wVar 2) (wC (.int 1))) wNil))) (wVar 2))))))) (wRet (cFr (wC (.bool false)))) wNext)) (wRet (cFr (wC (.bool true))))))
theorem b__law_fr_are {P : Program} {w : World} {K : Fg} {mg : Str → Option Value} {base : Heap} (M : Mo K mg) {ws__law_fr_of ws__law_is_whole : WF} (c__law_fr_of : Kn P w K mg base 1 "_law_fr_of" ["over", "under"] ws__law_fr_of 0) (c__law_is_whole : Kn P w K mg base 1 "_law_is_whole" ["item"] ws__law_is_whole 0) (f : Addr) (cdv : Value) (A : Around) (outer : List Env) (s : Shared) (H : Hp) (E : XK) (hr : Room 1 (A.deeper (envOfC "_law_fr_are" (defScope s__law_fr_are) s.heap.objs.size f cdv))) :
    DSs (cxOf CX0 P w K mg base N__law_fr_are "_law_fr_are" (defScope s__law_fr_are) f cdv A outer s H E).nox (defBody s__law_fr_are) (w__law_fr_are ws__law_fr_of ws__law_is_whole) 0 :=
  DSs.le (dss_cons (ds_if (DW'.dt (dw_or (dt_not (dt_val (de_isi isi_tuple boot_tuple M.f_isinstance M.f_tuple (de_var 0)))) (dw_or1 (dt_ne hr.units (de_len M.f_len (de_var 0)) (de_var 1))))) (dss_one (ds_ret (dc_fr de_bl))) dss_nil) (dss_cons (ds_for (di_seq (de_var 0)) (dg_name 2 sc__law_fr_are.nd) (dss_one (ds_if (DW'.dt (dw_or (dt_not (dt_val (de_isi isi_tuple boot_tuple M.f_isinstance M.f_tuple (de_var 2)))) (dw_or (dt_ne hr.units (de_len M.f_len (de_var 2)) de_int) (dw_or (dt_not (dt_val (de_callK c__law_is_whole (hr.mono (by decide)) (dl_cons (de_ix (de_var 2) de_int) dl_nil)))) (dw_or (dt_not (dt_val (de_callK c__law_is_whole (hr.mono (by decide)) (dl_cons (de_ix (de_var 2) de_int) dl_nil)))) (dw_or (dt_lt (de_ix (de_var 2) de_int) de_int) (dw_or1 (dt_ne hr.units (de_callK c__law_fr_of (hr.mono (by decide)) (dl_cons (de_ix (de_var 2) de_int) (dl_cons (de_ix (de_var 2) de_int) dl_nil))) (de_var 2))))))))) (dss_one (ds_ret (dc_fr de_bl))) dss_nil))) (dss_one (ds_ret (dc_fr de_bl))))) (by decide +kernel)
def N__law_fr_product : List Str := ["one", "other", "columns", "at", "row", "column", "a", "b"]
theorem sc__law_fr_product : FnScope N__law_fr_product ["one", "other"] (defScope s__law_fr_product) := ⟨rfl, rfl, rfl, by decide +kernel, rfl, by decide +kernel, by decide +kernel⟩
def w__law_fr_product (ws__law_fr_times ws__law_fr_sum : WF) : WS := (wSeqS (wSet 2 (cFr (wIf (wBT fNe (wVar 1) (wTup wNil)) (wOfN (wLc (wRng1 (wCB fLen (wCons (wBin fIx (wVar 1) (wC (.int 0))) wNil))) (tfName 3) wYes (wCB (fSeqTo .tuple) (wCons (wOfN (wLc (wSeq (wVar 1)) (tfName 4) wYes (wBin fIx (wVar 4) (wVar 3)) [4])) wNil)) [3])) (wLst wNil)))) (wRet (cFr (wCB (fSeqTo .tuple) (wCons (wOfN (wLc (wSeq (wVar 0)) (tfName 4) wYes (wCB (fSeqTo .tuple) (wCons (wOfN (wLc (wSeq (wVar 2)) (tfName 5) wYes (wCall ws__law_fr_sum (wCons (wOfN (wLc (wZip (wVar 4) (wVar 5)) (tfTup (tfCons (tfName 6) (tfCons (tfName 7) tfNil))) (wAndT (wBT fNe (wBin fIx (wVar 6) (wC (.int 0))) (wC (.int 0))) (wBT fNe (wBin fIx (wVar 7) (wC (.int 0))) (wC (.int 0)))) (wCall ws__law_fr_times (wCons (wVar 6) (wCons (wVar 7) wNil))) [6, 7])) wNil)) [5])) wNil)) [4])) wNil)))))
theorem b__law_fr_product {P : Program} {w : World} {K : Fg} {mg : Str → Option Value} {base : Heap} (M : Mo K mg) {ws__law_fr_times ws__law_fr_sum : WF} (c__law_fr_times : Kn P w K mg base 2 "_law_fr_times" ["one", "other"] ws__law_fr_times 0) (c__law_fr_sum : Kn P w K mg base 2 "_law_fr_sum" ["some"] ws__law_fr_sum 0) (f : Addr) (cdv : Value) (A : Around) (outer : List Env) (s : Shared) (H : Hp) (E : XK) (hr : Room 2 (A.deeper (envOfC "_law_fr_product" (defScope s__law_fr_product) s.heap.objs.size f cdv))) :
    DSs (cxOf CX0 P w K mg base N__law_fr_product "_law_fr_product" (defScope s__law_fr_product) f cdv A outer s H E).nox (defBody s__law_fr_product) (w__law_fr_product ws__law_fr_times ws__law_fr_sum) 0 :=
  DSs.le (dss_cons (ds_set 2 sc__law_fr_product.nd (dc_fr (de_if (dt_ne hr.units (de_var 1) (de_tup dl_nil)) (DN.de (dn_lc sc__law_fr_product.nd (di_rng1 M.f_range (de_len M.f_len (de_ix (de_var 1) de_int))) (blkOk_by (own := [("at", 3)]) (by kernel_rfl)) (fun _ _ _ _ _ => (dg_name 3 sc__law_fr_product.nd)) (fun _ _ _ _ _ => dts_nil) (fun _ _ _ _ _ => (de_tuple M.f_tuple (DN.de (dn_lc sc__law_fr_product.nd (di_seq (de_var 1)) (blkOk_by (own := [("row", 4)]) (by kernel_rfl)) (fun _ _ _ _ _ => (dg_name 4 sc__law_fr_product.nd)) (fun _ _ _ _ _ => dts_nil) (fun _ _ _ _ _ => (de_ix (de_var 4) (de_var 3))))))))) (de_lst dl_nil)))) (dss_one (ds_ret (dc_fr (de_tuple M.f_tuple (DN.de (dn_lc sc__law_fr_product.nd (di_seq (de_var 0)) (blkOk_by (own := [("row", 4)]) (by kernel_rfl)) (fun _ _ _ _ _ => (dg_name 4 sc__law_fr_product.nd)) (fun _ _ _ _ _ => dts_nil) (fun _ _ _ _ _ => (de_tuple M.f_tuple (DN.de (dn_lc sc__law_fr_product.nd (di_seq (de_var 2)) (blkOk_by (own := [("column", 5)]) (by kernel_rfl)) (fun _ _ _ _ _ => (dg_name 5 sc__law_fr_product.nd)) (fun _ _ _ _ _ => dts_nil) (fun _ _ _ _ _ => (de_callK c__law_fr_sum (hr.mono (by decide)) (dl_cons (DN.de (dn_lc sc__law_fr_product.nd (di_zip M.f_zip (de_var 4) (de_var 5)) (blkOk_by (own := [("a", 6), ("b", 7)]) (by kernel_rfl)) (fun _ _ _ _ _ => (dg_tup (dgs_cons (dg_name 6 sc__law_fr_product.nd) (dgs_cons (dg_name 7 sc__law_fr_product.nd) dgs_nil)))) (fun _ _ _ _ _ => (dts_one (DW'.dt (dw_and (dt_ne hr.units (de_ix (de_var 6) de_int) de_int) (dw_and1 (dt_ne hr.units (de_ix (de_var 7) de_int) de_int)))))) (fun _ _ _ _ _ => (de_callK c__law_fr_times (hr.mono (by decide)) (dl_cons (de_var 6) (dl_cons (de_var 7) dl_nil)))))) dl_nil)))))))))))))) (by decide +kernel)
def N__law_fr_turned : List Str := ["rows", "at", "row"]
theorem sc__law_fr_turned : FnScope N__law_fr_turned ["rows"] (defScope s__law_fr_turned) := ⟨rfl, rfl, rfl, by decide +kernel, rfl, by decide +kernel, by decide +kernel⟩
def w__law_fr_turned : WS := (wRet (cFr (wCB (fSeqTo .tuple) (wCons (wOfN (wLc (wRng1 (wCB fLen (wCons (wVar 0) wNil))) (tfName 1) wYes (wCB (fSeqTo .tuple) (wCons (wOfN (wLc (wSeq (wVar 0)) (tfName 2) wYes (wBin fIx (wVar 2) (wVar 1)) [2])) wNil)) [1])) wNil))))
theorem b__law_fr_turned {P : Program} {w : World} {K : Fg} {mg : Str → Option Value} {base : Heap} (M : Mo K mg) (f : Addr) (cdv : Value) (A : Around) (outer : List Env) (s : Shared) (H : Hp) (E : XK) (hr : Room 0 (A.deeper (envOfC "_law_fr_turned" (defScope s__law_fr_turned) s.heap.objs.size f cdv))) :
    DSs (cxOf CX0 P w K mg base N__law_fr_turned "_law_fr_turned" (defScope s__law_fr_turned) f cdv A outer s H E).nox (defBody s__law_fr_turned) (w__law_fr_turned) 0 :=
  DSs.le (dss_one (ds_ret (dc_fr (de_tuple M.f_tuple (DN.de (dn_lc sc__law_fr_turned.nd (di_rng1 M.f_range (de_len M.f_len (de_var 0))) (blkOk_by (own := [("at", 1)]) (by kernel_rfl)) (fun _ _ _ _ _ => (dg_name 1 sc__law_fr_turned.nd)) (fun _ _ _ _ _ => dts_nil) (fun _ _ _ _ _ => (de_tuple M.f_tuple (DN.de (dn_lc sc__law_fr_turned.nd (di_seq (de_var 0)) (blkOk_by (own := [("row", 2)]) (by kernel_rfl)) (fun _ _ _ _ _ => (dg_name 2 sc__law_fr_turned.nd)) (fun _ _ _ _ _ => dts_nil) (fun _ _ _ _ _ => (de_ix (de_var 2) (de_var 1))))))))))))) (by decide +kernel)
def N__law_fr_lower : List Str := ["state", "many", "most", "rows", "one", "other"]
theorem sc__law_fr_lower : FnScope N__law_fr_lower ["state", "many", "most"] (defScope s__law_fr_lower) := ⟨rfl, rfl, rfl, by decide +kernel, rfl, by decide +kernel, by decide +kernel⟩
def w__law_fr_lower (ws__law_draw ws__law_pick ws__law_fr_of : WF) : WS := (wSeqS (wSet 3 (cNw (wNLst wNil))) (wSeqS (wFor (wRng1 (wVar 1)) (tfName 4) (wApp 3 (cFr (wCB (fSeqTo .tuple) (wCons (wOfN (wLc (wRng1 (wVar 1)) (tfName 5) wYes (wIf (wBT fLt (wVar 5) (wVar 4)) (wCall ws__law_fr_of (wCons (wBin fSub (wCall ws__law_draw (wCons (wVar 0) (wCons (wBin fAdd (wBin fMul (wC (.int 2)) (wVar 2)) (wC (.int 1))) wNil))) (wVar 2)) (wCons (wCall ws__law_pick (wCons (wVar 0) (wCons (wLst (wCons (wC (.int 1)) (wCons (wC (.int 1)) (wCons (wC (.int 1)) (wCons (wC (.int 2)) (wCons (wC (.int 3)) wNil)))))) wNil))) wNil))) (wIf (wBT fEq (wVar 5) (wVar 4)) (wTup (wCons (wC (.int 1)) (wCons (wC (.int 1)) wNil))) (wTup (wCons (wC (.int 0)) (wCons (wC (.int 1)) wNil))))) [5])) wNil))))) (wRet (cIm (wCB (fSeqTo .tuple) (wCons (wVar 3) wNil))))))
theorem b__law_fr_lower {P : Program} {w : World} {K : Fg} {mg : Str → Option Value} {base : Heap} (M : Mo K mg) {ws__law_draw ws__law_pick ws__law_fr_of : WF} (c__law_draw : Kn P w K mg base 2 "_law_draw" ["state", "size_here"] ws__law_draw 1) (c__law_pick : Kn P w K mg base 3 "_law_pick" ["state", "several"] ws__law_pick 1) (c__law_fr_of : Kn P w K mg base 1 "_law_fr_of" ["over", "under"] ws__law_fr_of 0) (f : Addr) (cdv : Value) (A : Around) (outer : List Env) (s : Shared) (H : Hp) (E : XK) (hr : Room 3 (A.deeper (envOfC "_law_fr_lower" (defScope s__law_fr_lower) s.heap.objs.size f cdv))) :
    DSs (cxOf CX0 P w K mg base N__law_fr_lower "_law_fr_lower" (defScope s__law_fr_lower) f cdv A outer s H E).nox (defBody s__law_fr_lower) (w__law_fr_lower ws__law_draw ws__law_pick ws__law_fr_of) 20000000000 :=
  DSs.le (dss_cons (ds_set 3 sc__law_fr_lower.nd (dc_nw (dn_lst dl_nil))) (dss_cons (ds_for (di_rng1 M.f_range (de_var 1)) (dg_name 4 sc__law_fr_lower.nd) (dss_one (ds_app 3 (dc_fr (de_tuple M.f_tuple (DN.de (dn_lc sc__law_fr_lower.nd (di_rng1 M.f_range (de_var 1)) (blkOk_by (own := [("other", 5)]) (by kernel_rfl)) (fun _ _ _ _ _ => (dg_name 5 sc__law_fr_lower.nd)) (fun _ _ _ _ _ => dts_nil) (fun _ _ _ _ _ => (de_if (dt_lt (de_var 5) (de_var 4)) (de_callK c__law_fr_of (hr.mono (by decide)) (dl_cons (de_sub (de_callK c__law_draw (hr.mono (by decide)) (dl_cons (de_var 0) (dl_cons (de_add (de_mul de_int (de_var 2)) de_int) dl_nil))) (de_var 2)) (dl_cons (de_callK c__law_pick (hr.mono (by decide)) (dl_cons (de_var 0) (dl_cons (de_lst (dl_cons de_int (dl_cons de_int (dl_cons de_int (dl_cons de_int (dl_cons de_int dl_nil)))))) dl_nil))) dl_nil))) (de_if (dt_eq hr.units (de_var 5) (de_var 4)) (de_tup (dl_cons de_int (dl_cons de_int dl_nil))) (de_tup (dl_cons de_int (dl_cons de_int dl_nil))))))))))))) (dss_one (ds_ret (dc_im (de_tuple M.f_tuple (de_var 3))))))) (by decide +kernel)
def N__law_fr_along : List Str := ["pivots", "one", "pivot", "other"]
theorem sc__law_fr_along : FnScope N__law_fr_along ["pivots"] (defScope s__law_fr_along) := ⟨rfl, rfl, rfl, by decide +kernel, rfl, by decide +kernel, by decide +kernel⟩
def w__law_fr_along : WS := (wRet (cFr (wCB (fSeqTo .tuple) (wCons (wOfN (wLc (wEnum (wVar 0)) (tfTup (tfCons (tfName 1) (tfCons (tfName 2) tfNil))) wYes (wCB (fSeqTo .tuple) (wCons (wOfN (wLc (wRng1 (wCB fLen (wCons (wVar 0) wNil))) (tfName 3) wYes (wIf (wBT fEq (wVar 1) (wVar 3)) (wVar 2) (wTup (wCons (wC (.int 0)) (wCons (wC (.int 1)) wNil)))) [3])) wNil)) [1, 2])) wNil))))
theorem b__law_fr_along {P : Program} {w : World} {K : Fg} {mg : Str → Option Value} {base : Heap} (M : Mo K mg) (f : Addr) (cdv : Value) (A : Around) (outer : List Env) (s : Shared) (H : Hp) (E : XK) (hr : Room 0 (A.deeper (envOfC "_law_fr_along" (defScope s__law_fr_along) s.heap.objs.size f cdv))) :
    DSs (cxOf CX0 P w K mg base N__law_fr_along "_law_fr_along" (defScope s__law_fr_along) f cdv A outer s H E).nox (defBody s__law_fr_along) (w__law_fr_along) 0 :=
  DSs.le (dss_one (ds_ret (dc_fr (de_tuple M.f_tuple (DN.de (dn_lc sc__law_fr_along.nd (di_enum M.f_enumerate (de_var 0)) (blkOk_by (own := [("one", 1), ("pivot", 2)]) (by kernel_rfl)) (fun _ _ _ _ _ => (dg_tup (dgs_cons (dg_name 1 sc__law_fr_along.nd) (dgs_cons (dg_name 2 sc__law_fr_along.nd) dgs_nil)))) (fun _ _ _ _ _ => dts_nil) (fun _ _ _ _ _ => (de_tuple M.f_tuple (DN.de (dn_lc sc__law_fr_along.nd (di_rng1 M.f_range (de_len M.f_len (de_var 0))) (blkOk_by (own := [("other", 3)]) (by kernel_rfl)) (fun _ _ _ _ _ => (dg_name 3 sc__law_fr_along.nd)) (fun _ _ _ _ _ => dts_nil) (fun _ _ _ _ _ => (de_if (dt_eq hr.units (de_var 1) (de_var 3)) (de_var 2) (de_tup (dl_cons de_int (dl_cons de_int dl_nil))))))))))))))) (by decide +kernel)
def N__law_fr_worth : List Str := ["rows", "x", "some", "one", "row", "other", "entry"]
theorem sc__law_fr_worth : FnScope N__law_fr_worth ["rows", "x"] (defScope s__law_fr_worth) := ⟨rfl, rfl, rfl, by decide +kernel, rfl, by decide +kernel, by decide +kernel⟩
def w__law_fr_worth (ws__law_fr_times ws__law_fr_sum : WF) : WS := (wSeqS (wSet 2 (cNw (wNLst wNil))) (wSeqS (wFor (wEnum (wVar 0)) (tfTup (tfCons (tfName 3) (tfCons (tfName 4) tfNil))) (wExt 2 (cNw (wLc (wEnum (wVar 4)) (tfTup (tfCons (tfName 5) (tfCons (tfName 6) tfNil))) (wAndT (wBT fNe (wBin fIx (wBin fIx (wVar 1) (wVar 3)) (wC (.int 0))) (wC (.int 0))) (wAndT (wBT fNe (wBin fIx (wBin fIx (wVar 1) (wVar 5)) (wC (.int 0))) (wC (.int 0))) (wBT fNe (wBin fIx (wVar 6) (wC (.int 0))) (wC (.int 0))))) (wCall ws__law_fr_times (wCons (wCall ws__law_fr_times (wCons (wBin fIx (wVar 1) (wVar 3)) (wCons (wVar 6) wNil))) (wCons (wBin fIx (wVar 1) (wVar 5)) wNil))) [5, 6])))) (wRet (cIm (wCall ws__law_fr_sum (wCons (wVar 2) wNil))))))
theorem b__law_fr_worth {P : Program} {w : World} {K : Fg} {mg : Str → Option Value} {base : Heap} (M : Mo K mg) {ws__law_fr_times ws__law_fr_sum : WF} (c__law_fr_times : Kn P w K mg base 2 "_law_fr_times" ["one", "other"] ws__law_fr_times 0) (c__law_fr_sum : Kn P w K mg base 2 "_law_fr_sum" ["some"] ws__law_fr_sum 0) (f : Addr) (cdv : Value) (A : Around) (outer : List Env) (s : Shared) (H : Hp) (E : XK) (hr : Room 2 (A.deeper (envOfC "_law_fr_worth" (defScope s__law_fr_worth) s.heap.objs.size f cdv))) :
    DSs (cxOf CX0 P w K mg base N__law_fr_worth "_law_fr_worth" (defScope s__law_fr_worth) f cdv A outer s H E).nox (defBody s__law_fr_worth) (w__law_fr_worth ws__law_fr_times ws__law_fr_sum) 0 :=
  DSs.le (dss_cons (ds_set 2 sc__law_fr_worth.nd (dc_nw (dn_lst dl_nil))) (dss_cons (ds_for (di_enum M.f_enumerate (de_var 0)) (dg_tup (dgs_cons (dg_name 3 sc__law_fr_worth.nd) (dgs_cons (dg_name 4 sc__law_fr_worth.nd) dgs_nil))) (dss_one (ds_ext 2 (dc_nw (dn_lc sc__law_fr_worth.nd (di_enum M.f_enumerate (de_var 4)) (blkOk_by (own := [("other", 5), ("entry", 6)]) (by kernel_rfl)) (fun _ _ _ _ _ => (dg_tup (dgs_cons (dg_name 5 sc__law_fr_worth.nd) (dgs_cons (dg_name 6 sc__law_fr_worth.nd) dgs_nil)))) (fun _ _ _ _ _ => (dts_one (DW'.dt (dw_and (dt_ne hr.units (de_ix (de_ix (de_var 1) (de_var 3)) de_int) de_int) (dw_and (dt_ne hr.units (de_ix (de_ix (de_var 1) (de_var 5)) de_int) de_int) (dw_and1 (dt_ne hr.units (de_ix (de_var 6) de_int) de_int))))))) (fun _ _ _ _ _ => (de_callK c__law_fr_times (hr.mono (by decide)) (dl_cons (de_callK c__law_fr_times (hr.mono (by decide)) (dl_cons (de_ix (de_var 1) (de_var 3)) (dl_cons (de_var 6) dl_nil))) (dl_cons (de_ix (de_var 1) (de_var 5)) dl_nil))))))))) (dss_one (ds_ret (dc_im (de_callK c__law_fr_sum (hr.mono (by decide)) (dl_cons (de_var 2) dl_nil))))))) (by decide +kernel)
def N__law_k00_solved : List Str := ["lower", "at", "many", "x", "one", "below"]
theorem sc__law_k00_solved : FnScope N__law_k00_solved ["lower", "at"] (defScope s__law_k00_solved) := ⟨rfl, rfl, rfl, by decide +kernel, rfl, by decide +kernel, by decide +kernel⟩
def w__law_k00_solved (ws__law_fr_times ws__law_fr_sum ws__law_fr_less : WF) : WS := (wSeqS (wSet 2 (cFr (wCB fLen (wCons (wVar 0) wNil)))) (wSeqS (wSet 3 (cNw (wNRep (wCons (wTup (wCons (wC (.int 0)) (wCons (wC (.int 1)) wNil))) wNil) (wVar 2)))) (wSeqS (wSetIx 3 (cFr (wTup (wCons (wC (.int 1)) (wCons (wC (.int 1)) wNil)))) (wVar 1)) (wSeqS (wFor (wRngDown (wBin fSub (wVar 1) (wC (.int 1))) (wNeg (wC (.int 1)))) (tfName 4) (wSetIx 3 (cIm (wCall ws__law_fr_less (wCons (wTup (wCons (wC (.int 0)) (wCons (wC (.int 1)) wNil))) (wCons (wCall ws__law_fr_sum (wCons (wOfN (wLc (wRng2 (wBin fAdd (wVar 4) (wC (.int 1))) (wBin fAdd (wVar 1) (wC (.int 1)))) (tfName 5) wYes (wCall ws__law_fr_times (wCons (wBin fIx (wBin fIx (wVar 0) (wVar 5)) (wVar 4)) (wCons (wBin fIx (wVar 3) (wVar 5)) wNil))) [5])) wNil)) wNil)))) (wVar 4))) (wRet (cIm (wCB (fSeqTo .tuple) (wCons (wVar 3) wNil))))))))
theorem b__law_k00_solved {P : Program} {w : World} {K : Fg} {mg : Str → Option Value} {base : Heap} (M : Mo K mg) {ws__law_fr_times ws__law_fr_sum ws__law_fr_less : WF} (c__law_fr_times : Kn P w K mg base 2 "_law_fr_times" ["one", "other"] ws__law_fr_times 0) (c__law_fr_sum : Kn P w K mg base 2 "_law_fr_sum" ["some"] ws__law_fr_sum 0) (c__law_fr_less : Kn P w K mg base 2 "_law_fr_less" ["one", "other"] ws__law_fr_less 0) (f : Addr) (cdv : Value) (A : Around) (outer : List Env) (s : Shared) (H : Hp) (E : XK) (hr : Room 2 (A.deeper (envOfC "_law_k00_solved" (defScope s__law_k00_solved) s.heap.objs.size f cdv))) :
    DSs (cxOf CX0 P w K mg base N__law_k00_solved "_law_k00_solved" (defScope s__law_k00_solved) f cdv A outer s H E).nox (defBody s__law_k00_solved) (w__law_k00_solved ws__law_fr_times ws__law_fr_sum ws__law_fr_less) 0 :=
  DSs.le (dss_cons (ds_set 2 sc__law_k00_solved.nd (dc_fr (de_len M.f_len (de_var 0)))) (dss_cons (ds_set 3 sc__law_k00_solved.nd (dc_nw (dn_rep (dl_cons (de_tup (dl_cons de_int (dl_cons de_int dl_nil))) dl_nil) (de_var 2)))) (dss_cons (ds_setIx 3 (dc_fr (de_tup (dl_cons de_int (dl_cons de_int dl_nil)))) (de_var 1)) (dss_cons (ds_for (di_rngD M.f_range (de_sub (de_var 1) de_int) (de_neg de_int)) (dg_name 4 sc__law_k00_solved.nd) (dss_one (ds_setIx 3 (dc_im (de_callK c__law_fr_less (hr.mono (by decide)) (dl_cons (de_tup (dl_cons de_int (dl_cons de_int dl_nil))) (dl_cons (de_callK c__law_fr_sum (hr.mono (by decide)) (dl_cons (DN.de (dn_lc sc__law_k00_solved.nd (di_rng2 M.f_range (de_add (de_var 4) de_int) (de_add (de_var 1) de_int)) (blkOk_by (own := [("below", 5)]) (by kernel_rfl)) (fun _ _ _ _ _ => (dg_name 5 sc__law_k00_solved.nd)) (fun _ _ _ _ _ => dts_nil) (fun _ _ _ _ _ => (de_callK c__law_fr_times (hr.mono (by decide)) (dl_cons (de_ix (de_ix (de_var 0) (de_var 5)) (de_var 4)) (dl_cons (de_ix (de_var 3) (de_var 5)) dl_nil)))))) dl_nil)) dl_nil)))) (de_var 4)))) (dss_one (ds_ret (dc_im (de_tuple M.f_tuple (de_var 3))))))))) (by decide +kernel)
def N__law_k00_is_paper : List Str := ["matrix", "value", "many", "one", "row", "entry", "pivot"]
theorem sc__law_k00_is_paper : FnScope N__law_k00_is_paper ["matrix", "value"] (defScope s__law_k00_is_paper) := ⟨rfl, rfl, rfl, by decide +kernel, rfl, by decide +kernel, by decide +kernel⟩
def w__law_k00_is_paper (ws__law_fr_worth ws__law_fr_are ws__law_fr_along ws__law_fr_product ws__law_fr_turned : WF) : WS := (wSeqS (wSet 2 (cFr (wCB fLen (wCons (wVar 0) wNil)))) (wSeqS (wIfS (wOrT (wNotT (wVT (wIsi "tuple" (wVar 1)))) (wOrT (wBT (fIn true) (wCB fLen (wCons (wVar 1) wNil)) (wLst (wCons (wC (.int 2)) (wCons (wC (.int 3)) wNil)))) (wBT (fIn true) (wBin fIx (wVar 1) (wC (.int 0))) (wLst (wCons (wC (.str "positive")) (wCons (wC (.str "other")) wNil)))))) (wRet (cFr (wC (.bool false)))) wNext) (wSeqS (wIfS (wBT fEq (wBin fIx (wVar 1) (wC (.int 0))) (wC (.str "other"))) (wRet (cFr (wAndV (wBin fEq (wCB fLen (wCons (wVar 1) wNil)) (wC (.int 2))) (wAndV (wCall ws__law_fr_are (wCons (wBin fIx (wVar 1) (wC (.int 1))) (wCons (wVar 2) wNil))) (wAndV (wBin fNe (wOfN (wLc (wSeq (wBin fIx (wVar 1) (wC (.int 1)))) (tfName 3) (wBT fNe (wBin fIx (wVar 3) (wC (.int 0))) (wC (.int 0))) (wC (.int 1)) [3])) (wLst wNil)) (wBin fLe (wBin fIx (wCall ws__law_fr_worth (wCons (wVar 0) (wCons (wBin fIx (wVar 1) (wC (.int 1))) wNil))) (wC (.int 0))) (wC (.int 0)))))))) wNext) (wSeqS (wIfS (wOrT (wBT fNe (wCB fLen (wCons (wVar 1) wNil)) (wC (.int 3))) (wOrT (wNotT (wVT (wIsi "tuple" (wBin fIx (wVar 1) (wC (.int 1)))))) (wOrT (wBT fNe (wCB fLen (wCons (wBin fIx (wVar 1) (wC (.int 1))) wNil)) (wVar 2)) (wOrT (wBT fNe (wOfN (wLc (wSeq (wBin fIx (wVar 1) (wC (.int 1)))) (tfName 4) (wNotT (wVT (wCall ws__law_fr_are (wCons (wVar 4) (wCons (wVar 2) wNil))))) (wC (.int 1)) [4])) (wLst wNil)) (wNotT (wVT (wCall ws__law_fr_are (wCons (wBin fIx (wVar 1) (wC (.int 2))) (wCons (wVar 2) wNil))))))))) (wRet (cFr (wC (.bool false)))) wNext) (wSeqS (wFor (wEnum (wBin fIx (wVar 1) (wC (.int 1)))) (tfTup (tfCons (tfName 3) (tfCons (tfName 4) tfNil))) (wIfS (wOrT (wBT fNe (wBin fIx (wVar 4) (wVar 3)) (wTup (wCons (wC (.int 1)) (wCons (wC (.int 1)) wNil)))) (wBT fNe (wOfN (wLc (wSeq (wSl (wVar 4) (wPart (wBin fAdd (wVar 3) (wC (.int 1)))) wNoPart)) (tfName 5) (wBT fNe (wVar 5) (wTup (wCons (wC (.int 0)) (wCons (wC (.int 1)) wNil)))) (wC (.int 1)) [5])) (wLst wNil))) (wRet (cFr (wC (.bool false)))) wNext)) (wSeqS (wIfS (wBT fNe (wOfN (wLc (wSeq (wBin fIx (wVar 1) (wC (.int 2)))) (tfName 6) (wBT fLe (wBin fIx (wVar 6) (wC (.int 0))) (wC (.int 0))) (wC (.int 1)) [6])) (wLst wNil)) (wRet (cFr (wC (.bool false)))) wNext) (wRet (cFr (wBin fEq (wCall ws__law_fr_product (wCons (wCall ws__law_fr_product (wCons (wBin fIx (wVar 1) (wC (.int 1))) (wCons (wCall ws__law_fr_along (wCons (wBin fIx (wVar 1) (wC (.int 2))) wNil)) wNil))) (wCons (wCall ws__law_fr_turned (wCons (wBin fIx (wVar 1) (wC (.int 1))) wNil)) wNil))) (wVar 0))))))))))
theorem b__law_k00_is_paper {P : Program} {w : World} {K : Fg} {mg : Str → Option Value} {base : Heap} (M : Mo K mg) {ws__law_fr_worth ws__law_fr_are ws__law_fr_along ws__law_fr_product ws__law_fr_turned : WF} (c__law_fr_worth : Kn P w K mg base 3 "_law_fr_worth" ["rows", "x"] ws__law_fr_worth 0) (c__law_fr_are : Kn P w K mg base 2 "_law_fr_are" ["value", "many"] ws__law_fr_are 0) (c__law_fr_along : Kn P w K mg base 1 "_law_fr_along" ["pivots"] ws__law_fr_along 0) (c__law_fr_product : Kn P w K mg base 3 "_law_fr_product" ["one", "other"] ws__law_fr_product 0) (c__law_fr_turned : Kn P w K mg base 1 "_law_fr_turned" ["rows"] ws__law_fr_turned 0) (f : Addr) (cdv : Value) (A : Around) (outer : List Env) (s : Shared) (H : Hp) (E : XK) (hr : Room 3 (A.deeper (envOfC "_law_k00_is_paper" (defScope s__law_k00_is_paper) s.heap.objs.size f cdv))) :
    DSs (cxOf CX0 P w K mg base N__law_k00_is_paper "_law_k00_is_paper" (defScope s__law_k00_is_paper) f cdv A outer s H E).nox (defBody s__law_k00_is_paper) (w__law_k00_is_paper ws__law_fr_worth ws__law_fr_are ws__law_fr_along ws__law_fr_product ws__law_fr_turned) 0 :=
  DSs.le (dss_cons (ds_set 2 sc__law_k00_is_paper.nd (dc_fr (de_len M.f_len (de_var 0)))) (dss_cons (ds_if (DW'.dt (dw_or (dt_not (dt_val (de_isi isi_tuple boot_tuple M.f_isinstance M.f_tuple (de_var 1)))) (dw_or (dt_notin (de_len M.f_len (de_var 1)) (de_lst (dl_cons de_int (dl_cons de_int dl_nil)))) (dw_or1 (dt_notin (de_ix (de_var 1) de_int) (de_lst (dl_cons de_str (dl_cons de_str dl_nil)))))))) (dss_one (ds_ret (dc_fr de_bl))) dss_nil) (dss_cons (ds_if (dt_eq hr.units (de_ix (de_var 1) de_int) de_str) (dss_one (ds_ret (dc_fr (de_and (de_eq hr.units (de_len M.f_len (de_var 1)) de_int) (de_and (de_callK c__law_fr_are (hr.mono (by decide)) (dl_cons (de_ix (de_var 1) de_int) (dl_cons (de_var 2) dl_nil))) (de_and (de_ne hr.units (DN.de (dn_lc sc__law_k00_is_paper.nd (di_seq (de_ix (de_var 1) de_int)) (blkOk_by (own := [("one", 3)]) (by kernel_rfl)) (fun _ _ _ _ _ => (dg_name 3 sc__law_k00_is_paper.nd)) (fun _ _ _ _ _ => (dts_one (dt_ne hr.units (de_ix (de_var 3) de_int) de_int))) (fun _ _ _ _ _ => de_int))) (de_lst dl_nil)) (de_one (de_le (de_ix (de_callK c__law_fr_worth (hr.mono (by decide)) (dl_cons (de_var 0) (dl_cons (de_ix (de_var 1) de_int) dl_nil))) de_int) de_int)))))))) dss_nil) (dss_cons (ds_if (DW'.dt (dw_or (dt_ne hr.units (de_len M.f_len (de_var 1)) de_int) (dw_or (dt_not (dt_val (de_isi isi_tuple boot_tuple M.f_isinstance M.f_tuple (de_ix (de_var 1) de_int)))) (dw_or (dt_ne hr.units (de_len M.f_len (de_ix (de_var 1) de_int)) (de_var 2)) (dw_or (dt_ne hr.units (DN.de (dn_lc sc__law_k00_is_paper.nd (di_seq (de_ix (de_var 1) de_int)) (blkOk_by (own := [("row", 4)]) (by kernel_rfl)) (fun _ _ _ _ _ => (dg_name 4 sc__law_k00_is_paper.nd)) (fun _ _ _ _ _ => (dts_one (dt_not (dt_val (de_callK c__law_fr_are (hr.mono (by decide)) (dl_cons (de_var 4) (dl_cons (de_var 2) dl_nil))))))) (fun _ _ _ _ _ => de_int))) (de_lst dl_nil)) (dw_or1 (dt_not (dt_val (de_callK c__law_fr_are (hr.mono (by decide)) (dl_cons (de_ix (de_var 1) de_int) (dl_cons (de_var 2) dl_nil))))))))))) (dss_one (ds_ret (dc_fr de_bl))) dss_nil) (dss_cons (ds_for (di_enum M.f_enumerate (de_ix (de_var 1) de_int)) (dg_tup (dgs_cons (dg_name 3 sc__law_k00_is_paper.nd) (dgs_cons (dg_name 4 sc__law_k00_is_paper.nd) dgs_nil))) (dss_one (ds_if (DW'.dt (dw_or (dt_ne hr.units (de_ix (de_var 4) (de_var 3)) (de_tup (dl_cons de_int (dl_cons de_int dl_nil)))) (dw_or1 (dt_ne hr.units (DN.de (dn_lc sc__law_k00_is_paper.nd (di_seq (de_slice (de_var 4) (do_some (de_add (de_var 3) de_int)) do_none)) (blkOk_by (own := [("entry", 5)]) (by kernel_rfl)) (fun _ _ _ _ _ => (dg_name 5 sc__law_k00_is_paper.nd)) (fun _ _ _ _ _ => (dts_one (dt_ne hr.units (de_var 5) (de_tup (dl_cons de_int (dl_cons de_int dl_nil)))))) (fun _ _ _ _ _ => de_int))) (de_lst dl_nil))))) (dss_one (ds_ret (dc_fr de_bl))) dss_nil))) (dss_cons (ds_if (dt_ne hr.units (DN.de (dn_lc sc__law_k00_is_paper.nd (di_seq (de_ix (de_var 1) de_int)) (blkOk_by (own := [("pivot", 6)]) (by kernel_rfl)) (fun _ _ _ _ _ => (dg_name 6 sc__law_k00_is_paper.nd)) (fun _ _ _ _ _ => (dts_one (dt_le (de_ix (de_var 6) de_int) de_int))) (fun _ _ _ _ _ => de_int))) (de_lst dl_nil)) (dss_one (ds_ret (dc_fr de_bl))) dss_nil) (dss_one (ds_ret (dc_fr (de_eq hr.units (de_callK c__law_fr_product (hr.mono (by decide)) (dl_cons (de_callK c__law_fr_product (hr.mono (by decide)) (dl_cons (de_ix (de_var 1) de_int) (dl_cons (de_callK c__law_fr_along (hr.mono (by decide)) (dl_cons (de_ix (de_var 1) de_int) dl_nil)) dl_nil))) (dl_cons (de_callK c__law_fr_turned (hr.mono (by decide)) (dl_cons (de_ix (de_var 1) de_int) dl_nil)) dl_nil))) (de_var 0))))))))))) (by decide +kernel)
def N__law_k00_values : List Str := ["state", "matrix", "lower", "pivots", "many", "found", "at", "other", "row", "flipped", "entry"]
theorem sc__law_k00_values : FnScope N__law_k00_values ["state", "matrix", "lower", "pivots"] (defScope s__law_k00_values) := ⟨rfl, rfl, rfl, by decide +kernel, rfl, by decide +kernel, by decide +kernel⟩
def w__law_k00_values (ws__law_fr_turned ws__law_k00_solved ws__law_draw ws__law_pick ws__law_fr_less : WF) : WS := (wSeqS (wPar 4 5 (cFr (wCB fLen (wCons (wVar 1) wNil))) (cNw (wNLst (wCons (wTup (wCons (wC (.str "positive")) (wCons (wVar 2) (wCons (wVar 3) wNil)))) (wCons (wTup (wCons (wC (.str "positive")) (wCons (wVar 2) (wCons (wRevT (wVar 3)) wNil)))) (wCons (wTup (wCons (wC (.str "positive")) (wCons (wCall ws__law_fr_turned (wCons (wVar 2) wNil)) (wCons (wVar 3) wNil)))) (wCons (wTup (wCons (wC (.str "other")) (wCons (wVar 3) wNil))) (wCons (wTup (wCons (wC (.str "positive")) (wCons (wVar 2) wNil))) (wCons (wC .none) wNil))))))))) (wSeqS (wSet 5 (cCat 5 (wNLst (wCons (wTup (wCons (wC (.str "other")) (wCons (wCB (fSeqTo .tuple) (wCons (wOfN (wNRep (wCons (wTup (wCons (wC (.int 0)) (wCons (wC (.int 1)) wNil))) wNil) (wVar 4))) wNil)) wNil))) (wCons (wTup (wCons (wC (.str "other")) (wCons (wCB (fSeqTo .tuple) (wCons (wOfN (wNRep (wCons (wTup (wCons (wC (.int 1)) (wCons (wC (.int 1)) wNil))) wNil) (wVar 4))) wNil)) wNil))) (wCons (wTup (wCons (wC (.str "positive")) (wCons (wCB (fSeqTo .list) (wCons (wVar 2) wNil)) (wCons (wVar 3) wNil)))) wNil)))))) (wSeqS (wSet 5 (cCat 5 (wLc (wRng1 (wVar 4)) (tfName 6) wYes (wTup (wCons (wC (.str "other")) (wCons (wCall ws__law_k00_solved (wCons (wVar 2) (wCons (wVar 6) wNil))) wNil))) [6]))) (wSeqS (wIfS (wBT fGt (wVar 4) (wC (.int 0))) (wSeqS (wPar 6 7 (cFr (wCall ws__law_draw (wCons (wVar 0) (wCons (wVar 4) wNil)))) (cFr (wCall ws__law_draw (wCons (wVar 0) (wCons (wVar 4) wNil))))) (wSeqS (wSet 8 (cFr (wBin fAdd (wBin fAdd (wSl (wBin fIx (wVar 2) (wVar 6)) wNoPart (wPart (wVar 7))) (wTup (wCons (wCall ws__law_pick (wCons (wVar 0) (wCons (wLst (wCons (wTup (wCons (wC (.int 1)) (wCons (wC (.int 1)) wNil))) (wCons (wTup (wCons (wNeg (wC (.int 1))) (wCons (wC (.int 1)) wNil))) (wCons (wTup (wCons (wC (.int 0)) (wCons (wC (.int 1)) wNil))) (wCons (wTup (wCons (wC (.int 2)) (wCons (wC (.int 1)) wNil))) (wCons (wTup (wCons (wC (.int 1)) (wCons (wC (.int 3)) wNil))) (wCons (wTup (wCons (wC (.int 2)) (wCons (wC (.int 2)) wNil))) wNil))))))) wNil))) wNil))) (wSl (wBin fIx (wVar 2) (wVar 6)) (wPart (wBin fAdd (wVar 7) (wC (.int 1)))) wNoPart)))) (wSeqS (wApp 5 (cFr (wTup (wCons (wC (.str "positive")) (wCons (wBin fAdd (wBin fAdd (wSl (wVar 2) wNoPart (wPart (wVar 6))) (wTup (wCons (wVar 8) wNil))) (wSl (wVar 2) (wPart (wBin fAdd (wVar 6) (wC (.int 1)))) wNoPart)) (wCons (wVar 3) wNil)))))) (wSeqS (wApp 5 (cFr (wTup (wCons (wC (.str "positive")) (wCons (wVar 2) (wCons (wBin fAdd (wBin fAdd (wSl (wVar 3) wNoPart (wPart (wVar 6))) (wTup (wCons (wCall ws__law_pick (wCons (wVar 0) (wCons (wLst (wCons (wTup (wCons (wC (.int 1)) (wCons (wC (.int 1)) wNil))) (wCons (wTup (wCons (wC (.int 0)) (wCons (wC (.int 1)) wNil))) (wCons (wTup (wCons (wNeg (wC (.int 1))) (wCons (wC (.int 1)) wNil))) (wCons (wTup (wCons (wC (.int 5)) (wCons (wC (.int 2)) wNil))) wNil))))) wNil))) wNil))) (wSl (wVar 3) (wPart (wBin fAdd (wVar 6) (wC (.int 1)))) wNoPart)) wNil)))))) (wSeqS (wSet 9 (cFr (wCB (fSeqTo .tuple) (wCons (wOfN (wLc (wSeq (wVar 2)) (tfName 8) wYes (wCB (fSeqTo .tuple) (wCons (wOfN (wLc (wSeq (wVar 8)) (tfName 10) wYes (wCall ws__law_fr_less (wCons (wTup (wCons (wC (.int 0)) (wCons (wC (.int 1)) wNil))) (wCons (wVar 10) wNil))) [10])) wNil)) [8])) wNil)))) (wApp 5 (cFr (wTup (wCons (wC (.str "positive")) (wCons (wVar 9) (wCons (wVar 3) wNil))))))))))) wNext) (wRetV 5)))))
theorem b__law_k00_values {P : Program} {w : World} {K : Fg} {mg : Str → Option Value} {base : Heap} (M : Mo K mg) {ws__law_fr_turned ws__law_k00_solved ws__law_draw ws__law_pick ws__law_fr_less : WF} (c__law_fr_turned : Kn P w K mg base 1 "_law_fr_turned" ["rows"] ws__law_fr_turned 0) (c__law_k00_solved : Kn P w K mg base 3 "_law_k00_solved" ["lower", "at"] ws__law_k00_solved 0) (c__law_draw : Kn P w K mg base 2 "_law_draw" ["state", "size_here"] ws__law_draw 1) (c__law_pick : Kn P w K mg base 3 "_law_pick" ["state", "several"] ws__law_pick 1) (c__law_fr_less : Kn P w K mg base 2 "_law_fr_less" ["one", "other"] ws__law_fr_less 0) (f : Addr) (cdv : Value) (A : Around) (outer : List Env) (s : Shared) (H : Hp) (E : XK) (hr : Room 3 (A.deeper (envOfC "_law_k00_values" (defScope s__law_k00_values) s.heap.objs.size f cdv))) :
    DSs (cxOf CX0 P w K mg base N__law_k00_values "_law_k00_values" (defScope s__law_k00_values) f cdv A outer s H E).nox (defBody s__law_k00_values) (w__law_k00_values ws__law_fr_turned ws__law_k00_solved ws__law_draw ws__law_pick ws__law_fr_less) 4 :=
  DSs.le (dss_cons (ds_par 4 5 sc__law_k00_values.nd (dc_fr (de_len M.f_len (de_var 1))) (dc_nw (dn_lst (dl_cons (de_tup (dl_cons de_str (dl_cons (de_var 2) (dl_cons (de_var 3) dl_nil)))) (dl_cons (de_tup (dl_cons de_str (dl_cons (de_var 2) (dl_cons (de_revT (de_var 3)) dl_nil)))) (dl_cons (de_tup (dl_cons de_str (dl_cons (de_callK c__law_fr_turned (hr.mono (by decide)) (dl_cons (de_var 2) dl_nil)) (dl_cons (de_var 3) dl_nil)))) (dl_cons (de_tup (dl_cons de_str (dl_cons (de_var 3) dl_nil))) (dl_cons (de_tup (dl_cons de_str (dl_cons (de_var 2) dl_nil))) (dl_cons de_non dl_nil)))))))) rfl) (dss_cons (ds_set 5 sc__law_k00_values.nd (dc_cat 5 (dn_lst (dl_cons (de_tup (dl_cons de_str (dl_cons (de_tuple M.f_tuple (DN.de (dn_rep (dl_cons (de_tup (dl_cons de_int (dl_cons de_int dl_nil))) dl_nil) (de_var 4)))) dl_nil))) (dl_cons (de_tup (dl_cons de_str (dl_cons (de_tuple M.f_tuple (DN.de (dn_rep (dl_cons (de_tup (dl_cons de_int (dl_cons de_int dl_nil))) dl_nil) (de_var 4)))) dl_nil))) (dl_cons (de_tup (dl_cons de_str (dl_cons (de_list M.f_list (de_var 2)) (dl_cons (de_var 3) dl_nil)))) dl_nil)))))) (dss_cons (ds_set 5 sc__law_k00_values.nd (dc_cat 5 (dn_lc sc__law_k00_values.nd (di_rng1 M.f_range (de_var 4)) (blkOk_by (own := [("at", 6)]) (by kernel_rfl)) (fun _ _ _ _ _ => (dg_name 6 sc__law_k00_values.nd)) (fun _ _ _ _ _ => dts_nil) (fun _ _ _ _ _ => (de_tup (dl_cons de_str (dl_cons (de_callK c__law_k00_solved (hr.mono (by decide)) (dl_cons (de_var 2) (dl_cons (de_var 6) dl_nil))) dl_nil))))))) (dss_cons (ds_if (dt_gt (de_var 4) de_int) (dss_cons (ds_par 6 7 sc__law_k00_values.nd (dc_fr (de_callK c__law_draw (hr.mono (by decide)) (dl_cons (de_var 0) (dl_cons (de_var 4) dl_nil)))) (dc_fr (de_callK c__law_draw (hr.mono (by decide)) (dl_cons (de_var 0) (dl_cons (de_var 4) dl_nil)))) rfl) (dss_cons (ds_set 8 sc__law_k00_values.nd (dc_fr (de_add (de_add (de_slice (de_ix (de_var 2) (de_var 6)) do_none (do_some (de_var 7))) (de_tup (dl_cons (de_callK c__law_pick (hr.mono (by decide)) (dl_cons (de_var 0) (dl_cons (de_lst (dl_cons (de_tup (dl_cons de_int (dl_cons de_int dl_nil))) (dl_cons (de_tup (dl_cons (de_neg de_int) (dl_cons de_int dl_nil))) (dl_cons (de_tup (dl_cons de_int (dl_cons de_int dl_nil))) (dl_cons (de_tup (dl_cons de_int (dl_cons de_int dl_nil))) (dl_cons (de_tup (dl_cons de_int (dl_cons de_int dl_nil))) (dl_cons (de_tup (dl_cons de_int (dl_cons de_int dl_nil))) dl_nil))))))) dl_nil))) dl_nil))) (de_slice (de_ix (de_var 2) (de_var 6)) (do_some (de_add (de_var 7) de_int)) do_none)))) (dss_cons (ds_app 5 (dc_fr (de_tup (dl_cons de_str (dl_cons (de_add (de_add (de_slice (de_var 2) do_none (do_some (de_var 6))) (de_tup (dl_cons (de_var 8) dl_nil))) (de_slice (de_var 2) (do_some (de_add (de_var 6) de_int)) do_none)) (dl_cons (de_var 3) dl_nil)))))) (dss_cons (ds_app 5 (dc_fr (de_tup (dl_cons de_str (dl_cons (de_var 2) (dl_cons (de_add (de_add (de_slice (de_var 3) do_none (do_some (de_var 6))) (de_tup (dl_cons (de_callK c__law_pick (hr.mono (by decide)) (dl_cons (de_var 0) (dl_cons (de_lst (dl_cons (de_tup (dl_cons de_int (dl_cons de_int dl_nil))) (dl_cons (de_tup (dl_cons de_int (dl_cons de_int dl_nil))) (dl_cons (de_tup (dl_cons (de_neg de_int) (dl_cons de_int dl_nil))) (dl_cons (de_tup (dl_cons de_int (dl_cons de_int dl_nil))) dl_nil))))) dl_nil))) dl_nil))) (de_slice (de_var 3) (do_some (de_add (de_var 6) de_int)) do_none)) dl_nil)))))) (dss_cons (ds_set 9 sc__law_k00_values.nd (dc_fr (de_tuple M.f_tuple (DN.de (dn_lc sc__law_k00_values.nd (di_seq (de_var 2)) (blkOk_by (own := [("row", 8)]) (by kernel_rfl)) (fun _ _ _ _ _ => (dg_name 8 sc__law_k00_values.nd)) (fun _ _ _ _ _ => dts_nil) (fun _ _ _ _ _ => (de_tuple M.f_tuple (DN.de (dn_lc sc__law_k00_values.nd (di_seq (de_var 8)) (blkOk_by (own := [("entry", 10)]) (by kernel_rfl)) (fun _ _ _ _ _ => (dg_name 10 sc__law_k00_values.nd)) (fun _ _ _ _ _ => dts_nil) (fun _ _ _ _ _ => (de_callK c__law_fr_less (hr.mono (by decide)) (dl_cons (de_tup (dl_cons de_int (dl_cons de_int dl_nil))) (dl_cons (de_var 10) dl_nil))))))))))))) (dss_one (ds_app 5 (dc_fr (de_tup (dl_cons de_str (dl_cons (de_var 9) (dl_cons (de_var 3) dl_nil)))))))))))) dss_nil) (dss_one (ds_retV 5)))))) (by decide +kernel)
def N_law : List Str := ["script", "state", "turn", "many", "lower", "signs", "pivots", "matrix", "is_positive", "told", "value", "one", "pivot"]
theorem sc_law : FnScope N_law ["script"] (defScope s_law) := ⟨rfl, rfl, rfl, by decide +kernel, rfl, by decide +kernel, by decide +kernel⟩
def w_law (ws__law_begun ws__law_pick ws__law_fr_lower ws__law_draw ws__law_fr_of ws__law_fr_along ws__law_fr_product ws__law_fr_turned ws_sign_paper ws_is_sign_paper ws__law_k00_is_paper ws_is_matrix ws__law_k00_values ws__law_is_truth : WF) : WS := (wSeqS (wSet 1 (cFr (wCall ws__law_begun (wCons (wVar 0) wNil)))) (wSeqS (wFor (wRng1 (wBin fAdd (wC (.int 2)) (wCB (fI2 iMin) (wCons (wCB fLen (wCons (wVar 0) wNil)) (wCons (wC (.int 3)) wNil))))) (tfName 2) (wSeqS (wSet 3 (cFr (wCall ws__law_pick (wCons (wVar 1) (wCons (wLst (wCons (wC (.int 0)) (wCons (wC (.int 1)) (wCons (wC (.int 2)) (wCons (wC (.int 3)) (wCons (wC (.int 5)) (wCons (wC (.int 8)) (wCons (wC (.int 12)) wNil)))))))) wNil))))) (wSeqS (wParN [4, 5] (cCons (cFr (wCall ws__law_fr_lower (wCons (wVar 1) (wCons (wVar 3) (wCons (wC (.int 2)) wNil))))) (cCons (cFr (wCall ws__law_pick (wCons (wVar 1) (wCons (wLst (wCons (wLst (wCons (wC (.int 1)) (wCons (wC (.int 2)) (wCons (wC (.int 3)) wNil)))) (wCons (wLst (wCons (wC (.int 1)) (wCons (wC (.int 1)) (wCons (wC (.int 2)) (wCons (wC (.int 1)) (wCons (wC (.int 0)) wNil)))))) (wCons (wLst (wCons (wC (.int 1)) (wCons (wC (.int 2)) (wCons (wNeg (wC (.int 1))) wNil)))) (wCons (wLst (wCons (wNeg (wC (.int 1))) wNil)) (wCons (wLst (wCons (wC (.int 0)) (wCons (wC (.int 1)) wNil))) wNil)))))) wNil)))) cNil))) (wSeqS (wSet 6 (cFr (wCB (fSeqTo .tuple) (wCons (wOfN (wLc (wRng1 (wVar 3)) (tfName 11) wYes (wCall ws__law_fr_of (wCons (wCall ws__law_pick (wCons (wVar 1) (wCons (wVar 5) wNil))) (wCons (wBin fAdd (wC (.int 1)) (wCall ws__law_draw (wCons (wVar 1) (wCons (wC (.int 3)) wNil)))) wNil))) [11])) wNil)))) (wSeqS (wSet 7 (cFr (wIf (wBT fGt (wVar 3) (wC (.int 0))) (wCall ws__law_fr_product (wCons (wCall ws__law_fr_product (wCons (wVar 4) (wCons (wCall ws__law_fr_along (wCons (wVar 6) wNil)) wNil))) (wCons (wCall ws__law_fr_turned (wCons (wVar 4) wNil)) wNil))) (wTup wNil)))) (wSeqS (wSet 8 (cFr (wBin fEq (wOfN (wLc (wSeq (wVar 6)) (tfName 12) (wBT fLe (wBin fIx (wVar 12) (wC (.int 0))) (wC (.int 0))) (wC (.int 1)) [12])) (wLst wNil)))) (wSeqS (wSet 9 (cFr (wCall ws_sign_paper (wCons (wVar 7) wNil)))) (wSeqS (wIfS (wOrT (wBT fIsNot (wCall ws_is_matrix (wCons (wVar 7) wNil)) (wC (.bool true))) (wOrT (wNotT (wVT (wCall ws__law_k00_is_paper (wCons (wVar 7) (wCons (wVar 9) wNil))))) (wOrT (wBT fNe (wBin fIx (wVar 9) (wC (.int 0))) (wIf (wVT (wVar 8)) (wC (.str "positive")) (wC (.str "other")))) (wBT fIsNot (wCall ws_is_sign_paper (wCons (wVar 7) (wCons (wVar 9) wNil))) (wC (.bool true)))))) (wRet (cFr (wC (.bool false)))) wNext) (wSeqS (wFor (wSeq (wCall ws__law_k00_values (wCons (wVar 1) (wCons (wVar 7) (wCons (wVar 4) (wCons (wVar 6) wNil)))))) (tfName 10) (wIfS (wNotT (wVT (wCall ws__law_is_truth (wCons (wCall ws_is_sign_paper (wCons (wVar 7) (wCons (wVar 10) wNil))) (wCons (wCall ws__law_k00_is_paper (wCons (wVar 7) (wCons (wVar 10) wNil))) wNil))))) (wRet (cFr (wC (.bool false)))) wNext)) (wIfS (wNotT (wVT (wCall ws__law_is_truth (wCons (wCall ws_is_sign_paper (wCons (wVar 7) (wCons (wTup (wCons (wC (.str "positive")) (wCons (wVar 4) (wCons (wVar 6) wNil)))) wNil))) (wCons (wVar 8) wNil))))) (wRet (cFr (wC (.bool false)))) wNext)))))))))) (wRet (cFr (wC (.bool true))))))
theorem b_law {P : Program} {w : World} {K : Fg} {mg : Str → Option Value} {base : Heap} (M : Mo K mg) {ws__law_begun ws__law_pick ws__law_fr_lower ws__law_draw ws__law_fr_of ws__law_fr_along ws__law_fr_product ws__law_fr_turned ws_sign_paper ws_is_sign_paper ws__law_k00_is_paper ws_is_matrix ws__law_k00_values ws__law_is_truth : WF} (c__law_begun : Kn P w K mg base 1 "_law_begun" ["script"] ws__law_begun 0) (c__law_pick : Kn P w K mg base 3 "_law_pick" ["state", "several"] ws__law_pick 1) (c__law_fr_lower : Kn P w K mg base 4 "_law_fr_lower" ["state", "many", "most"] ws__law_fr_lower 20000000000) (c__law_draw : Kn P w K mg base 2 "_law_draw" ["state", "size_here"] ws__law_draw 1) (c__law_fr_of : Kn P w K mg base 1 "_law_fr_of" ["over", "under"] ws__law_fr_of 0) (c__law_fr_along : Kn P w K mg base 1 "_law_fr_along" ["pivots"] ws__law_fr_along 0) (c__law_fr_product : Kn P w K mg base 3 "_law_fr_product" ["one", "other"] ws__law_fr_product 0) (c__law_fr_turned : Kn P w K mg base 1 "_law_fr_turned" ["rows"] ws__law_fr_turned 0) (c_sign_paper : Kn P w K mg base 6 "sign_paper" ["matrix"] ws_sign_paper 0) (c_is_sign_paper : Kn P w K mg base 6 "is_sign_paper" ["matrix", "value"] ws_is_sign_paper 0) (c__law_k00_is_paper : Kn P w K mg base 4 "_law_k00_is_paper" ["matrix", "value"] ws__law_k00_is_paper 0) (c_is_matrix : Kn P w K mg base 4 "is_matrix" ["value"] ws_is_matrix 0) (c__law_k00_values : Kn P w K mg base 4 "_law_k00_values" ["state", "matrix", "lower", "pivots"] ws__law_k00_values 4) (c__law_is_truth : Kn P w K mg base 1 "_law_is_truth" ["found", "due"] ws__law_is_truth 0) (f : Addr) (cdv : Value) (A : Around) (outer : List Env) (s : Shared) (H : Hp) (E : XK) (hr : Room 6 (A.deeper (envOfC "law" (defScope s_law) s.heap.objs.size f cdv))) :
    DSs (cxOf CX0 P w K mg base N_law "law" (defScope s_law) f cdv A outer s H E).nox (defBody s_law) (w_law ws__law_begun ws__law_pick ws__law_fr_lower ws__law_draw ws__law_fr_of ws__law_fr_along ws__law_fr_product ws__law_fr_turned ws_sign_paper ws_is_sign_paper ws__law_k00_is_paper ws_is_matrix ws__law_k00_values ws__law_is_truth) 2000020000600000 :=
  DSs.le (dss_cons (ds_set 1 sc_law.nd (dc_fr (de_callK c__law_begun (hr.mono (by decide)) (dl_cons (de_var 0) dl_nil)))) (dss_cons (ds_for (di_rng1 M.f_range (de_add de_int (de_min2 M.f_min (de_len M.f_len (de_var 0)) de_int))) (dg_name 2 sc_law.nd) (dss_cons (ds_set 3 sc_law.nd (dc_fr (de_callK c__law_pick (hr.mono (by decide)) (dl_cons (de_var 1) (dl_cons (de_lst (dl_cons de_int (dl_cons de_int (dl_cons de_int (dl_cons de_int (dl_cons de_int (dl_cons de_int (dl_cons de_int dl_nil)))))))) dl_nil))))) (dss_cons (ds_parN (dcs_cons (dc_fr (de_callK c__law_fr_lower (hr.mono (by decide)) (dl_cons (de_var 1) (dl_cons (de_var 3) (dl_cons de_int dl_nil))))) (dcs_cons (dc_fr (de_callK c__law_pick (hr.mono (by decide)) (dl_cons (de_var 1) (dl_cons (de_lst (dl_cons (de_lst (dl_cons de_int (dl_cons de_int (dl_cons de_int dl_nil)))) (dl_cons (de_lst (dl_cons de_int (dl_cons de_int (dl_cons de_int (dl_cons de_int (dl_cons de_int dl_nil)))))) (dl_cons (de_lst (dl_cons de_int (dl_cons de_int (dl_cons (de_neg de_int) dl_nil)))) (dl_cons (de_lst (dl_cons (de_neg de_int) dl_nil)) (dl_cons (de_lst (dl_cons de_int (dl_cons de_int dl_nil))) dl_nil)))))) dl_nil)))) dcs_nil)) (dnm_cons 4 sc_law.nd (dnm_cons 5 sc_law.nd dnm_nil))) (dss_cons (ds_set 6 sc_law.nd (dc_fr (de_tuple M.f_tuple (DN.de (dn_lc sc_law.nd (di_rng1 M.f_range (de_var 3)) (blkOk_by (own := [("one", 11)]) (by kernel_rfl)) (fun _ _ _ _ _ => (dg_name 11 sc_law.nd)) (fun _ _ _ _ _ => dts_nil) (fun _ _ _ _ _ => (de_callK c__law_fr_of (hr.mono (by decide)) (dl_cons (de_callK c__law_pick (hr.mono (by decide)) (dl_cons (de_var 1) (dl_cons (de_var 5) dl_nil))) (dl_cons (de_add de_int (de_callK c__law_draw (hr.mono (by decide)) (dl_cons (de_var 1) (dl_cons de_int dl_nil)))) dl_nil))))))))) (dss_cons (ds_set 7 sc_law.nd (dc_fr (de_if (dt_gt (de_var 3) de_int) (de_callK c__law_fr_product (hr.mono (by decide)) (dl_cons (de_callK c__law_fr_product (hr.mono (by decide)) (dl_cons (de_var 4) (dl_cons (de_callK c__law_fr_along (hr.mono (by decide)) (dl_cons (de_var 6) dl_nil)) dl_nil))) (dl_cons (de_callK c__law_fr_turned (hr.mono (by decide)) (dl_cons (de_var 4) dl_nil)) dl_nil))) (de_tup dl_nil)))) (dss_cons (ds_set 8 sc_law.nd (dc_fr (de_eq hr.units (DN.de (dn_lc sc_law.nd (di_seq (de_var 6)) (blkOk_by (own := [("pivot", 12)]) (by kernel_rfl)) (fun _ _ _ _ _ => (dg_name 12 sc_law.nd)) (fun _ _ _ _ _ => (dts_one (dt_le (de_ix (de_var 12) de_int) de_int))) (fun _ _ _ _ _ => de_int))) (de_lst dl_nil)))) (dss_cons (ds_set 9 sc_law.nd (dc_fr (de_callK c_sign_paper (hr.mono (by decide)) (dl_cons (de_var 7) dl_nil)))) (dss_cons (ds_if (DW'.dt (dw_or (dt_isnot (de_callK c_is_matrix (hr.mono (by decide)) (dl_cons (de_var 7) dl_nil)) de_bl) (dw_or (dt_not (dt_val (de_callK c__law_k00_is_paper (hr.mono (by decide)) (dl_cons (de_var 7) (dl_cons (de_var 9) dl_nil))))) (dw_or (dt_ne hr.units (de_ix (de_var 9) de_int) (de_if (dt_val (de_var 8)) de_str de_str)) (dw_or1 (dt_isnot (de_callK c_is_sign_paper (hr.mono (by decide)) (dl_cons (de_var 7) (dl_cons (de_var 9) dl_nil))) de_bl)))))) (dss_one (ds_ret (dc_fr de_bl))) dss_nil) (dss_cons (ds_for (di_seq (de_callK c__law_k00_values (hr.mono (by decide)) (dl_cons (de_var 1) (dl_cons (de_var 7) (dl_cons (de_var 4) (dl_cons (de_var 6) dl_nil)))))) (dg_name 10 sc_law.nd) (dss_one (ds_if (dt_not (dt_val (de_callK c__law_is_truth (hr.mono (by decide)) (dl_cons (de_callK c_is_sign_paper (hr.mono (by decide)) (dl_cons (de_var 7) (dl_cons (de_var 10) dl_nil))) (dl_cons (de_callK c__law_k00_is_paper (hr.mono (by decide)) (dl_cons (de_var 7) (dl_cons (de_var 10) dl_nil))) dl_nil))))) (dss_one (ds_ret (dc_fr de_bl))) dss_nil))) (dss_one (ds_if (dt_not (dt_val (de_callK c__law_is_truth (hr.mono (by decide)) (dl_cons (de_callK c_is_sign_paper (hr.mono (by decide)) (dl_cons (de_var 7) (dl_cons (de_tup (dl_cons de_str (dl_cons (de_var 4) (dl_cons (de_var 6) dl_nil)))) dl_nil))) (dl_cons (de_var 8) dl_nil))))) (dss_one (ds_ret (dc_fr de_bl))) dss_nil))))))))))) (dss_one (ds_ret (dc_fr de_bl))))) (by decide +kernel)
end K00
set_option Elab.async false
set_option linter.all false
set_option maxRecDepth 100000
set_option maxHeartbeats 1000000
namespace K00
open PySem PySem.Spec PyProof.Rows L2 RZ DW Kx
set_option exponentiation.threshold 20000
theorem noOw_nil : noOw [] = [] := rfl
theorem noOw_no {r : Ro} : noOw (.no :: r) = .no :: noOw r := rfl
theorem noOw_ar {x : Ar} {r : Ro} : noOw (.ar x :: r) = .ar x :: noOw r := rfl
theorem noOw_ow {x : List PyData} {r : Ro} : noOw (.ow x :: r) = .no :: noOw r := rfl
theorem noOw_ow2 {x : List (List PyData)} {r : Ro} : noOw (.ow2 x :: r) = .no :: noOw r := rfl
local macro_rules | `(tactic| walk_at "dw") => `(tactic| dsimp only [wSeqS, wNext, wSet, wPar, wParN, setsR, wRet, wRetN, wRetV, wAsg, wIfS, wFor, wApp, wExt, wSetIx, wSetIx2, cFr, cIm, cNw, cNi, cN2, cCat, cNil, cCons, wVar, wC, wNil, wCons, wTup, wLst, wBin, wBT, wVT, wNotT, wAndT, wOrT, wAndV, wOrV, wNotV, wIf, wNeg, wCB, fI1, fI2, fInt2, fInt2C, fAdd, fSub, fMul, fDiv, fMod, fPow, fLt, fLe, fGt, fGe, fEq, fNe, fIs, fIsNot, fLen, fBools, fSeqTo, fIntOf, wIsi, wCall, Rv.toAr, wNCall, wN2Call, wOfN, wNLst, wNList, wSeq, wRng1, wRng2, wRngDown, wEnum, wZip, noOw_nil, noOw_no, noOw_ar, noOw_ow, noOw_ow2, wipeR, setR, allD, Option.map_some, Option.map_none, wExpr, wNever, fIx, wSl, wPart, wNoPart, wYes, tfName, tfTup, tfCons, tfNil, wRevT, fRep, wNRep, List.map_cons, List.map_nil, List.getElem?_cons_zero, List.getElem?_cons_succ, List.set_cons_zero, List.set_cons_succ, List.cons_append, List.nil_append])
/-- a def that answers, whatever S tells -/
def det (S : List Ar → Rv → Prop) : WF := fun xs R => ∃ r, S xs r ∧ R r
theorem det_mono (S : List Ar → Rv → Prop) : MonoF (det S) := fun _ _ _ h ⟨r, s, q⟩ => ⟨r, s, h r q⟩
def rd (x : Rat) : PyData := .tuple [.int x.num, .int (x.den : Int)]
def Sz (x : Rat) : Prop := x.num.natAbs < 2 ^ 4000 ∧ x.den < 2 ^ 4000
theorem log2_lt {n k : Nat} (h : n < 2 ^ k) (hk : 0 < k) : n.log2 < k := by
  by_cases z : n = 0
  · subst z; rw [Nat.log2_zero]; exact hk
  · exact (Nat.log2_lt z).mpr h
theorem cmul {i j : Int} {a b : Nat} (ha : i.natAbs < 2 ^ a) (hb : j.natAbs < 2 ^ b) (h0 : 0 < a) (h1 : 0 < b) (h : a + b ≤ 1000000) : CMulW i j := wide_mul ha hb h0 h1 h
theorem cdiv {i j : Int} {b : Nat} (hj : j ≠ 0) (hb : j.natAbs < 2 ^ b) (h0 : 0 < b) (h : b ≤ 9000) : CDivA i j := ⟨hj, Nat.lt_of_lt_of_le (log2_lt hb h0) h⟩
def S_common (xs : List Ar) (r : Rv) : Prop := ∃ a b : Int, xs = [.d (.int a), .d (.int b)] ∧ r = .d (.int (iGcd a b))
theorem p_common {xs : List Ar} {R : Rv → Prop} (h : det S_common xs R) : w_common (startR N_common.length xs) { nx := fun _ => R (.d .none), rt := R } := by
  obtain ⟨r, ⟨a, b, rfl, rfl⟩, h⟩ := h
  exact h
def S_lowest (xs : List Ar) (r : Rv) : Prop := ∃ u l : Int, xs = [.d (.int u), .d (.int l)] ∧ l ≠ 0 ∧ l.natAbs < 2 ^ 8500 ∧ r = .d (rd ((u : Rat) / (l : Rat)))
theorem gcd_lt {u l : Int} {b : Nat} (hl : l ≠ 0) (h : l.natAbs < b) : (iGcd u l).natAbs < b := by
  unfold iGcd
  rw [Int.natAbs_natCast]
  exact Nat.lt_of_le_of_lt (Nat.gcd_le_right _ (by omega)) h
theorem p_lowest {xs : List Ar} {R : Rv → Prop} (h : det S_lowest xs R) : w_lowest (startR N_lowest.length xs) { nx := fun _ => R (.d .none), rt := R } := by
  obtain ⟨r, ⟨u, l, rfl, hl, hb, rfl⟩, h⟩ := h
  obtain ⟨e1, e2, e3⟩ := lowPair (u := u) (l := l) (s := if 0 < l then 1 else -1) hl rfl
  have hg := gcd_lt (u := u) hl hb
  have hs : ∀ s : Int, s = 1 ∨ s = -1 → (s * iGcd u l).natAbs < 2 ^ 8500 := fun s hs => by
    rw [Int.natAbs_mul]
    rcases hs with rfl | rfl <;> simpa using hg
  have key : ∀ s : Int, s = 1 ∨ s = -1 → s = (if 0 < l then 1 else -1) → (CMulW s (iGcd u l)) ∧ CDivA u (s * iGcd u l) ∧ CDivA l (s * iGcd u l) ∧ R (.d (.tuple [.int (u.fdiv (s * iGcd u l)), .int (l.fdiv (s * iGcd u l))])) := fun s h1 h2 => by
    rw [← h2] at e1 e2 e3
    refine ⟨cmul (a := 1) (b := 8500) (by rcases h1 with rfl | rfl <;> decide) hg (by decide) (by decide) (by decide), cdiv e3 (hs s h1) (by decide) (by decide), cdiv e3 (hs s h1) (by decide) (by decide), ?_⟩
    have : (PyData.tuple [.int (u.fdiv (s * iGcd u l)), .int (l.fdiv (s * iGcd u l))]) = rd ((u : Rat) / (l : Rat)) := by
      unfold rd iGcd
      rw [e1, e2]
    rw [this]; exact h
  have st : startR N_lowest.length [.d (.int u), .d (.int l)] = [.d (.int u), .d (.int l), .no, .no] := rfl
  rw [st]
  unfold w_lowest
  walk_at "dw"
  by_cases c : 0 < l
  · obtain ⟨k1, k2, k3, k4⟩ := key 1 (.inl rfl) (by rw [if_pos c])
    rw [decide_eq_true (show 0 < l from c)]
    exact ⟨k1, k2, k3, k4⟩
  · obtain ⟨k1, k2, k3, k4⟩ := key (-1) (.inr rfl) (by rw [if_neg c])
    rw [decide_eq_false (show ¬ 0 < l from c)]
    exact ⟨k1, k2, k3, k4⟩
theorem den_ne (x : Rat) : (x.den : Int) ≠ 0 := by have := x.den_nz; omega
theorem ratE (x : Rat) : x = (x.num : Rat) / ((x.den : Int) : Rat) := by
  have := Rat.num_divInt_den x
  rw [Rat.divInt_eq_div] at this
  exact this.symm
theorem denR (x : Rat) : ((x.den : Int) : Rat) ≠ 0 := by simpa using x.den_nz
theorem num_eq (x : Rat) : (x.num : Rat) = x * ((x.den : Int) : Rat) := by
  have h := denR x
  have e := ratE x
  have : x * ((x.den : Int) : Rat) = (x.num : Rat) / ((x.den : Int) : Rat) * ((x.den : Int) : Rat) := congrArg (· * ((x.den : Int) : Rat)) e
  rw [this, Rat.div_mul_cancel h]
theorem divE {a b c : Rat} (hb : b ≠ 0) (h : a = c * b) : a / b = c := by rw [h, Rat.mul_div_cancel hb]
theorem Sz.num {x : Rat} (h : Sz x) : x.num.natAbs < 2 ^ 4000 := h.1
theorem Sz.den {x : Rat} (h : Sz x) : (x.den : Int).natAbs < 2 ^ 4000 := by rw [Int.natAbs_natCast]; exact h.2
theorem nmul_lt {i j : Int} {a b : Nat} (hi : i.natAbs < 2 ^ a) (hj : j.natAbs < 2 ^ b) : (i * j).natAbs < 2 ^ (a + b) := by
  rw [Int.natAbs_mul, Nat.pow_add]
  by_cases z : j.natAbs = 0
  · rw [z, Nat.mul_zero]; exact Nat.mul_pos (Nat.two_pow_pos a) (Nat.two_pow_pos b)
  · exact Nat.mul_lt_mul_of_lt_of_le hi (Nat.le_of_lt hj) (by omega)
theorem cm {i j : Int} (hi : i.natAbs < 2 ^ 4000) (hj : j.natAbs < 2 ^ 4000) : CMulW i j := cmul hi hj (by decide) (by decide) (by decide)
def S_whole (xs : List Ar) (r : Rv) : Prop := ∃ n : Int, xs = [.d (.int n)] ∧ r = .d (rd (n : Rat))
theorem p_whole {xs : List Ar} {R : Rv → Prop} (h : det S_whole xs R) : w_whole (startR N_whole.length xs) { nx := fun _ => R (.d .none), rt := R } := by
  obtain ⟨r, ⟨n, rfl, rfl⟩, h⟩ := h
  unfold rd at h
  rw [Rat.num_intCast, Rat.den_intCast] at h
  exact h
def S_two (g : Rat → Rat → Rat) (xs : List Ar) (r : Rv) : Prop := ∃ x y : Rat, xs = [.d (rd x), .d (rd y)] ∧ Sz x ∧ Sz y ∧ r = .d (rd (g x y))
abbrev S_summed := S_two fun x y => x + y
abbrev S_lessened := S_two fun x y => x - y
abbrev S_multiplied := S_two fun x y => x * y
def S_divided (xs : List Ar) (r : Rv) : Prop := ∃ x y : Rat, xs = [.d (rd x), .d (rd y)] ∧ y ≠ 0 ∧ Sz x ∧ Sz y ∧ r = .d (rd (x / y))
theorem p_summed {xs : List Ar} {R : Rv → Prop} (h : det S_summed xs R) : w_summed (det S_lowest) (startR N_summed.length xs) { nx := fun _ => R (.d .none), rt := R } := by
  obtain ⟨r, ⟨x, y, rfl, hx, hy, rfl⟩, h⟩ := h
  have st : startR N_summed.length [.d (rd x), .d (rd y)] = [.d (rd x), .d (rd y), .no, .no, .no, .no] := rfl
  rw [st]
  unfold w_summed
  walk_at "dw"
  refine ⟨cm hx.num hy.den, cm hy.num hx.den, cm hx.den hy.den, _, ⟨_, _, rfl, ?_, ?_, rfl⟩, ?_⟩
  · exact Int.mul_ne_zero (den_ne x) (den_ne y)
  · exact Nat.lt_of_lt_of_le (nmul_lt hx.den hy.den) (Nat.pow_le_pow_right (by decide) (by decide))
  · have e : ((x.num * (y.den : Int) + y.num * (x.den : Int) : Int) : Rat) / (((x.den : Int) * (y.den : Int) : Int) : Rat) = x + y := by
      have h1 := denR x
      have h2 := denR y
      refine divE (by rw [Rat.intCast_mul]; exact fun z => (Rat.mul_eq_zero.mp z).elim h1 h2) ?_
      rw [Rat.intCast_add, Rat.intCast_mul, Rat.intCast_mul, Rat.intCast_mul, num_eq x, num_eq y]
      grind
    rw [e]; exact h
theorem p_lessened {xs : List Ar} {R : Rv → Prop} (h : det S_lessened xs R) : w_lessened (det S_lowest) (startR N_lessened.length xs) { nx := fun _ => R (.d .none), rt := R } := by
  obtain ⟨r, ⟨x, y, rfl, hx, hy, rfl⟩, h⟩ := h
  have st : startR N_lessened.length [.d (rd x), .d (rd y)] = [.d (rd x), .d (rd y), .no, .no, .no, .no] := rfl
  rw [st]
  unfold w_lessened
  walk_at "dw"
  refine ⟨cm hx.num hy.den, cm hy.num hx.den, cm hx.den hy.den, _, ⟨_, _, rfl, ?_, ?_, rfl⟩, ?_⟩
  · exact Int.mul_ne_zero (den_ne x) (den_ne y)
  · exact Nat.lt_of_lt_of_le (nmul_lt hx.den hy.den) (Nat.pow_le_pow_right (by decide) (by decide))
  · have e : ((x.num * (y.den : Int) - y.num * (x.den : Int) : Int) : Rat) / (((x.den : Int) * (y.den : Int) : Int) : Rat) = x - y := by
      have h1 := denR x
      have h2 := denR y
      refine divE (by rw [Rat.intCast_mul]; exact fun z => (Rat.mul_eq_zero.mp z).elim h1 h2) ?_
      rw [Rat.intCast_sub, Rat.intCast_mul, Rat.intCast_mul, Rat.intCast_mul, num_eq x, num_eq y]
      grind
    rw [e]; exact h
theorem p_multiplied {xs : List Ar} {R : Rv → Prop} (h : det S_multiplied xs R) : w_multiplied (det S_lowest) (startR N_multiplied.length xs) { nx := fun _ => R (.d .none), rt := R } := by
  obtain ⟨r, ⟨x, y, rfl, hx, hy, rfl⟩, h⟩ := h
  have st : startR N_multiplied.length [.d (rd x), .d (rd y)] = [.d (rd x), .d (rd y), .no, .no, .no, .no] := rfl
  rw [st]
  unfold w_multiplied
  walk_at "dw"
  refine ⟨cm hx.num hy.num, cm hx.den hy.den, _, ⟨_, _, rfl, ?_, ?_, rfl⟩, ?_⟩
  · exact Int.mul_ne_zero (den_ne x) (den_ne y)
  · exact Nat.lt_of_lt_of_le (nmul_lt hx.den hy.den) (Nat.pow_le_pow_right (by decide) (by decide))
  · have e : ((x.num * y.num : Int) : Rat) / (((x.den : Int) * (y.den : Int) : Int) : Rat) = x * y := by
      have h1 := denR x
      have h2 := denR y
      refine divE (by rw [Rat.intCast_mul]; exact fun z => (Rat.mul_eq_zero.mp z).elim h1 h2) ?_
      rw [Rat.intCast_mul, Rat.intCast_mul, num_eq x, num_eq y]
      grind
    rw [e]; exact h
theorem num_ne {y : Rat} (h : y ≠ 0) : y.num ≠ 0 := fun z => h (Rat.num_eq_zero.mp z)
theorem p_divided {xs : List Ar} {R : Rv → Prop} (h : det S_divided xs R) : w_divided (det S_lowest) (startR N_divided.length xs) { nx := fun _ => R (.d .none), rt := R } := by
  obtain ⟨r, ⟨x, y, rfl, hy0, hx, hy, rfl⟩, h⟩ := h
  have st : startR N_divided.length [.d (rd x), .d (rd y)] = [.d (rd x), .d (rd y), .no, .no, .no, .no] := rfl
  rw [st]
  unfold w_divided
  walk_at "dw"
  refine ⟨cm hx.num hy.den, cm hx.den hy.num, _, ⟨_, _, rfl, ?_, ?_, rfl⟩, ?_⟩
  · exact Int.mul_ne_zero (den_ne x) (num_ne hy0)
  · exact Nat.lt_of_lt_of_le (nmul_lt hx.den hy.num) (Nat.pow_le_pow_right (by decide) (by decide))
  · have e : ((x.num * (y.den : Int) : Int) : Rat) / (((x.den : Int) * y.num : Int) : Rat) = x / y := by
      have h1 := denR x
      have h2 := denR y
      have h3 : (y.num : Rat) ≠ 0 := by rw [num_eq y]; exact fun z => (Rat.mul_eq_zero.mp z).elim hy0 h2
      refine divE (by rw [Rat.intCast_mul]; exact fun z => (Rat.mul_eq_zero.mp z).elim h1 h3) ?_
      have h4 : x / y * y = x := Rat.div_mul_cancel hy0
      rw [Rat.intCast_mul, Rat.intCast_mul, num_eq x, num_eq y]
      grind
    rw [e]; exact h
/-! loops over data -/
/-- a loop with an invariant, by the place -/
theorem forW_ind {tf : TF} {body : WS} {E : En} {ds : List PyData} (I : Nat → Ro → Prop) (step : ∀ (i : Nat) (d : PyData) (ρ : Ro) (k : Ro → Prop), ds[i]? = some d → I i ρ → (∀ ρ', I (i + 1) ρ' → k ρ') → ∃ bs, tf d = some bs ∧ body (setR ρ bs) { E with nx := k, ct := k, bk := E.nx }) (fin : ∀ ρ, I ds.length ρ → E.nx ρ) {ρ : Ro} (h0 : I 0 ρ) : forW tf body ds ρ E := by
  have key : ∀ (n i : Nat), n = ds.length - i → i ≤ ds.length → ∀ ρ, I i ρ → forW tf body (ds.drop i) ρ E := fun n => by
    induction n with
    | zero =>
      intro i hn hi ρ h
      have e : i = ds.length := by omega
      subst e
      rw [List.drop_length]
      exact fin ρ h
    | succ n ih =>
      intro i hn hi ρ h
      have hlt : i < ds.length := by omega
      rw [List.drop_eq_getElem_cons hlt]
      obtain ⟨bs, e, q⟩ := step i ds[i] ρ (fun ρ' => forW tf body (ds.drop (i + 1)) ρ' E) (List.getElem?_eq_getElem hlt) h (fun ρ' h' => ih (i + 1) (by omega) (by omega) ρ' h')
      unfold forW
      rw [e]
      exact q
  have := key ds.length 0 (by omega) (Nat.zero_le _) ρ h0
  rwa [List.drop_zero] at this
/-- a comprehension that keeps all, item by item -/
theorem comp_map {step : PyData → List PyData → (List PyData → Prop) → Prop} {f : PyData → PyData} {Q : List PyData → Prop} : ∀ (ds acc : List PyData), (∀ d ∈ ds, ∀ acc k, k (acc ++ [f d]) → step d acc k) → Q (acc ++ ds.map f) → compW step ds acc Q
  | [], acc, _, q => by simpa [compW] using q
  | d :: ds, acc, h, q => h d List.mem_cons_self acc _ (comp_map ds (acc ++ [f d]) (fun e he => h e (List.mem_cons_of_mem _ he)) (by simpa using q))
/-- by place -/
theorem comp_ix {step : PyData → List PyData → (List PyData → Prop) → Prop} {Q : List PyData → Prop} (f : Nat → PyData) : ∀ (ds acc : List PyData) (j : Nat), (∀ i d, ds[i]? = some d → ∀ acc k, k (acc ++ [f (j + i)]) → step d acc k) → Q (acc ++ (List.range' j ds.length).map f) → compW step ds acc Q
  | [], acc, j, _, q => by simpa [compW] using q
  | d :: ds, acc, j, h, q => h 0 d (by simp) acc _ (comp_ix f ds (acc ++ [f j]) (j + 1) (fun i e he acc k hk => h (i + 1) e (by simpa using he) acc k (by rw [show j + (i + 1) = j + 1 + i by omega]; exact hk)) (by rw [List.length_cons, List.range'_succ] at q; simpa using q))
/-- a comprehension with a test -/
theorem comp_opt {step : PyData → List PyData → (List PyData → Prop) → Prop} {f : PyData → Option PyData} {Q : List PyData → Prop} : ∀ (ds acc : List PyData), (∀ d ∈ ds, ∀ acc k, k (acc ++ (f d).toList) → step d acc k) → Q (acc ++ ds.filterMap f) → compW step ds acc Q
  | [], acc, _, q => by simpa [compW] using q
  | d :: ds, acc, h, q => h d List.mem_cons_self acc _ (comp_opt ds (acc ++ (f d).toList) (fun e he => h e (List.mem_cons_of_mem _ he)) (by
      cases e : f d with
      | none => simpa [e] using q
      | some y => simpa [e] using q))
def S_total (xs : List Ar) (r : Rv) : Prop := ∃ rs : List Rat, xs = [.d (.list (rs.map rd))] ∧ rs.length ≤ 100000 ∧ (∀ x ∈ rs, Sz x) ∧ (∀ i, i ≤ rs.length → Sz (lsum (rs.take i))) ∧ r = .d (rd (lsum rs))
theorem lsum_take {rs : List Rat} {i : Nat} {x : Rat} (h : rs[i]? = some x) : lsum (rs.take (i + 1)) = lsum (rs.take i) + x := by
  rw [List.take_add_one, lsum_app, h]
  simp [lsum, Rat.add_zero]
theorem p_total {xs : List Ar} {R : Rv → Prop} (h : det S_total xs R) : w_total (det S_whole) (det S_summed) (startR N_total.length xs) { nx := fun _ => R (.d .none), rt := R } := by
  obtain ⟨r, ⟨rs, rfl, hl, hs, hp, rfl⟩, h⟩ := h
  have st : startR N_total.length [.d (.list (rs.map rd))] = [.d (.list (rs.map rd)), .no, .no] := rfl
  rw [st]
  unfold w_total
  walk_at "dw"
  refine ⟨_, ⟨0, rfl, rfl⟩, by rw [List.length_map]; exact hl, ?_⟩
  refine forW_ind (fun i ρ => ∃ z, ρ = [.d (.list (rs.map rd)), .d (rd (lsum (rs.take i))), z]) (fun i d ρ k hd hI hk => ?_) (fun ρ hI => ?_) ⟨.no, rfl⟩
  · obtain ⟨z, rfl⟩ := hI
    rw [List.getElem?_map, Option.map_eq_some_iff] at hd
    obtain ⟨x, hx, rfl⟩ := hd
    refine ⟨_, rfl, ?_⟩
    walk_at "dw"
    refine ⟨_, ⟨_, _, rfl, hp i (by have := (List.getElem?_eq_some_iff.mp hx).1; omega), hs x (List.mem_of_getElem? hx), rfl⟩, hk _ ⟨.d (rd x), ?_⟩⟩
    rw [lsum_take hx]
  · obtain ⟨z, rfl⟩ := hI
    walk_at "dw"
    rw [List.length_map, List.take_length]
    exact h
end K00
set_option Elab.async false
set_option linter.all false
set_option maxRecDepth 100000
set_option maxHeartbeats 1000000
namespace K00
open PySem PySem.Spec PyProof.Rows L2 RZ DW Kx
set_option exponentiation.threshold 20000
local macro_rules | `(tactic| walk_at "dw") => `(tactic| dsimp only [wSeqS, wNext, wSet, wPar, wParN, setsR, wRet, wRetN, wRetV, wAsg, wIfS, wFor, wApp, wExt, wSetIx, wSetIx2, cFr, cIm, cNw, cNi, cN2, cCat, cNil, cCons, wVar, wC, wNil, wCons, wTup, wLst, wBin, wBT, wVT, wNotT, wAndT, wOrT, wAndV, wOrV, wNotV, wIf, wNeg, wCB, fI1, fI2, fInt2, fInt2C, fAdd, fSub, fMul, fDiv, fMod, fPow, fLt, fLe, fGt, fGe, fEq, fNe, fIs, fIsNot, fLen, fBools, fSeqTo, fIntOf, wIsi, wCall, Rv.toAr, wNCall, wN2Call, wOfN, wNLst, wNList, wSeq, wRng1, wRng2, wRngDown, wEnum, wZip, noOw_nil, noOw_no, noOw_ar, noOw_ow, noOw_ow2, wipeR, setR, allD, Option.map_some, Option.map_none, wExpr, wNever, fIx, wSl, wPart, wNoPart, wYes, tfName, tfTup, tfCons, tfNil, wRevT, fRep, wNRep, List.map_cons, List.map_nil, List.getElem?_cons_zero, List.getElem?_cons_succ, List.set_cons_zero, List.set_cons_succ, List.cons_append, List.nil_append, wLc, wLcN, wLc2, lcStep])
def pq (p : Int × Int) : PyData := .tuple [.int p.1, .int p.2]
def isR (p : Int × Int) : Bool := decide (0 < p.2) && decide (iGcd p.1 p.2 = 1)
theorem isiTT (ds : List PyData) : isiD "tuple" (.tuple ds) = true := rfl
theorem isiTL (ds : List PyData) : isiD "tuple" (.list ds) = false := rfl
theorem isiTN : isiD "tuple" .none = false := rfl
theorem isiTS (x : Str) : isiD "tuple" (.str x) = false := rfl
theorem comp_rng {step : PyData → List PyData → (List PyData → Prop) → Prop} {Q : List PyData → Prop} {n : Nat} {h f : Nat → PyData} (hs : ∀ j, j < n → ∀ acc k, k (acc ++ [f j]) → step (h j) acc k) (q : Q ((List.range n).map f)) : compW step ((List.range n).map h) [] Q := by
  refine comp_ix f _ _ 0 (fun i d hd acc k hk => ?_) ?_
  · rw [List.getElem?_map, Option.map_eq_some_iff] at hd
    obtain ⟨j, hj, rfl⟩ := hd
    obtain ⟨h1, h2⟩ := List.getElem?_eq_some_iff.mp hj
    rw [List.length_range] at h1
    rw [List.getElem_range] at h2
    subst h2
    rw [Nat.zero_add] at hk
    exact hs i h1 acc k hk
  · rw [List.length_map, List.length_range, List.nil_append, ← List.range_eq_range']
    exact q
theorem eqv_int (i j : Int) : PyData.eqv (.int i) (.int j) = decide (i = j) := by
  simp only [PyData.eqv]
  exact Bool.eq_iff_iff.mpr (by simp)
theorem any_false {α : Type} (l : List α) : (l.map fun _ => PyData.bool false) = (l.map fun _ => false).map PyData.bool := by simp
theorem any_const (l : List α) : (l.map fun _ => false).any id = false := by induction l <;> simp_all
def S_is_ratio (xs : List Ar) (r : Rv) : Prop := ∃ p : Int × Int, xs = [.d (pq p)] ∧ r = .d (.bool (isR p))
theorem p_is_ratio {xs : List Ar} {R : Rv → Prop} (h : det S_is_ratio xs R) : w_is_ratio (det S_common) (startR N_is_ratio.length xs) { nx := fun _ => R (.d .none), rt := R } := by
  obtain ⟨r, ⟨⟨p, q⟩, rfl, rfl⟩, h⟩ := h
  have st : startR N_is_ratio.length [.d (pq (p, q))] = [.d (.tuple [.int p, .int q]), .no] := rfl
  rw [st]
  unfold w_is_ratio
  walk_at "dw"
  refine ⟨rfl, rfl, ?_⟩
  rw [show (!(PyData.int (([PyData.int p, PyData.int q].length : Nat) : Int)).eqv (.int 2)) = false from by rw [eqv_int]; rfl]
  refine ⟨by show 2 ≤ 100000; decide, ?_⟩
  refine ⟨.int q, rfl, ?_⟩
  dsimp only
  by_cases c : 0 < q
  · rw [decide_eq_true c]
    refine ⟨.int p, rfl, .int q, rfl, _, ⟨p, q, rfl, rfl⟩, rfl, rfl, ?_⟩
    rw [eqv_int]
    unfold isR at h
    rw [decide_eq_true (show (0 : Int) < (p, q).2 from c), Bool.true_and] at h
    exact h
  · rw [decide_eq_false c]
    unfold isR at h
    rw [decide_eq_false (show ¬ (0 : Int) < (p, q).2 from c), Bool.false_and] at h
    exact h
theorem all_eqv (n m : Nat) : PyData.eqv (.int (n : Int)) (.int (m : Int)) = decide (n = m) := by
  rw [eqv_int]
  exact Bool.eq_iff_iff.mpr (by simp only [decide_eq_true_eq]; omega)
def S_are_ratios (xs : List Ar) (r : Rv) : Prop := ∃ (ps : List (Int × Int)) (m : Nat), xs = [.d (.tuple (ps.map pq)), .d (.int (m : Int))] ∧ ps.length ≤ 100000 ∧ r = .d (.bool (decide (ps.length = m) && ps.all isR))
theorem p_are_ratios {xs : List Ar} {R : Rv → Prop} (h : det S_are_ratios xs R) : w_are_ratios (det S_is_ratio) (startR N_are_ratios.length xs) { nx := fun _ => R (.d .none), rt := R } := by
  obtain ⟨r, ⟨ps, m, rfl, hl, rfl⟩, h⟩ := h
  have st : startR N_are_ratios.length [.d (.tuple (ps.map pq)), .d (.int (m : Int))] = [.d (.tuple (ps.map pq)), .d (.int (m : Int)), .no] := rfl
  rw [st]
  unfold w_are_ratios
  walk_at "dw"
  show (SeqAt.shaped _ = true ∧ SeqAt.shaped _ = true ∧ _)
  refine ⟨rfl, rfl, ?_⟩
  rw [all_eqv, List.length_map]
  by_cases c : ps.length = m
  · rw [decide_eq_true c]
    rw [decide_eq_true c, Bool.true_and] at h
    dsimp only
    refine ⟨hl, ?_⟩
    refine comp_map (f := fun d => match d with | .tuple [.int a, .int b] => .bool (isR (a, b)) | _ => .none) _ _ (fun d hd acc k hk => ?_) ?_
    · obtain ⟨p, _, rfl⟩ := List.mem_map.mp hd
      exact ⟨_, ⟨p, rfl, rfl⟩, hk⟩
    · rw [List.nil_append, List.map_map]
      have e : ps.map ((fun d => match d with | .tuple [.int a, .int b] => PyData.bool (isR (a, b)) | _ => .none) ∘ pq) = (ps.map isR).map PyData.bool := by
        rw [List.map_map]; rfl
      rw [e]
      have e2 := allB_map (ps.map isR)
      rw [e2]
      dsimp only
      rw [List.all_map] 
      exact h
  · rw [decide_eq_false c]
    rw [decide_eq_false c, Bool.false_and] at h
    exact h
/-! matrices of fractions -/
def row (n : Nat) (f : Nat → Rat) : List PyData := (List.range n).map fun j => rd (f j)
def mtx (n : Nat) (A : Nat → Nat → Rat) : PyData := .tuple ((List.range n).map fun i => .tuple (row n (A i)))
def rp (x : Rat) : Int × Int := (x.num, (x.den : Int))
theorem rd_pq (x : Rat) : rd x = pq (rp x) := rfl
theorem row_pq (n : Nat) (f : Nat → Rat) : row n f = ((List.range n).map fun j => rp (f j)).map pq := by unfold row; rw [List.map_map]; rfl
theorem isR_rp (x : Rat) : isR (rp x) = true := by
  have h := x.den_pos
  have h2 := x.reduced
  unfold isR rp iGcd
  rw [Bool.and_eq_true]
  refine ⟨decide_eq_true (by simpa using h), decide_eq_true ?_⟩
  rw [Int.natAbs_natCast]
  exact_mod_cast h2
theorem shaped_rd (x : Rat) : SeqAt.shaped (rd x) = true := rfl
theorem eqv_rd (x : Rat) : PyData.eqv (rd x) (rd x) = true := SeqAt.eqv_refl (rd x) rfl
theorem row_len (n : Nat) (f : Nat → Rat) : (row n f).length = n := by unfold row; rw [List.length_map, List.length_range]
theorem row_at {n j : Nat} (f : Nat → Rat) (h : j < n) : (row n f)[j]? = some (rd (f j)) := by
  unfold row
  rw [List.getElem?_map, List.getElem?_range h]; rfl
theorem atI_nat {α : Type} {xs : List α} {j : Nat} {x : α} (h : xs[j]? = some x) : L2.atI xs (j : Int) = some x := by
  have hj := (List.getElem?_eq_some_iff.mp h).1
  unfold L2.atI ixN
  rw [if_pos (by omega), if_pos (by omega)]
  simpa using h
theorem rows_at {n i : Nat} (A : Nat → Nat → Rat) (h : i < n) : ((List.range n).map fun i => PyData.tuple (row n (A i)))[i]? = some (.tuple (row n (A i))) := by
  rw [List.getElem?_map, List.getElem?_range h]; rfl
theorem rngD0 (n : Nat) : rngD 0 n = (List.range n).map fun i => PyData.int (i : Nat) := by
  unfold rngD
  simp
/-- two clauses, places below n, then below these -/
theorem lc2_tri {step : PyData → List PyData → (List PyData → Prop) → Prop} {Q : List PyData → Prop} {n : Nat} {g : Nat → List PyData} (hs : ∀ i, i < n → ∀ acc k, k (acc ++ g i) → step (.int (i : Nat)) acc k) (q : Q ((List.range n).map g).flatten) : compW step ((List.range n).map fun i => PyData.int (i : Nat)) [] Q := by
  have key : ∀ (m j : Nat) (acc : List PyData), j + m = n → Q (acc ++ ((List.range' j m).map g).flatten) → compW step ((List.range' j m).map fun i => PyData.int (i : Nat)) acc Q := fun m => by
    induction m with
    | zero => intro j acc _ q; simpa [compW] using q
    | succ m ih =>
      intro j acc hj q
      rw [List.range'_succ, List.map_cons]
      exact hs j (by omega) acc _ (ih (j + 1) (acc ++ g j) (by omega) (by rw [List.range'_succ, List.map_cons, List.flatten_cons] at q; rw [List.append_assoc]; exact q))
  rw [List.range_eq_range']
  exact key n 0 [] (by omega) (by rw [List.nil_append, ← List.range_eq_range']; exact q)
def S_is_matrix (xs : List Ar) (r : Rv) : Prop := ∃ (n : Nat) (A : Nat → Nat → Rat), xs = [.d (mtx n A)] ∧ n ≤ 16 ∧ (∀ i j, i < n → j < n → A i j = A j i) ∧ r = .d (.bool true)
theorem allB_true (l : List Bool) (h : ∀ b ∈ l, b = true) : l.all id = true := by rw [List.all_eq_true]; exact fun b hb => h b hb
theorem p_is_matrix {xs : List Ar} {R : Rv → Prop} (h : det S_is_matrix xs R) : w_is_matrix (det S_are_ratios) (startR N_is_matrix.length xs) { nx := fun _ => R (.d .none), rt := R } := by
  obtain ⟨r, ⟨n, A, rfl, hn, sym, rfl⟩, h⟩ := h
  have st : startR N_is_matrix.length [.d (mtx n A)] = [.d (mtx n A), .no, .no, .no] := rfl
  rw [st]
  unfold w_is_matrix mtx
  walk_at "dw"
  have hl : ((List.range n).map fun i => PyData.tuple (row n (A i))).length = n := by rw [List.length_map, List.length_range]
  rw [hl]
  rw [isiTT, decide_eq_false (show ¬ (16 : Int) < (n : Int) by omega)]
  refine ⟨by omega, ?_⟩
  refine comp_rng (f := fun _ => .bool true) (fun i hi acc k hk => ?_) ?_
  · refine ⟨_, ⟨(List.range n).map fun j => rp (A i j), n, by rw [row_pq]; exact congrArg (fun z => [_, Ar.d (.int z)]) (by rw [hl]), by rw [List.length_map, List.length_range]; omega, rfl⟩, ?_⟩
    have e : (decide (((List.range n).map fun j => rp (A i j)).length = n) && ((List.range n).map fun j => rp (A i j)).all isR) = true := by
      rw [List.length_map, List.length_range, decide_eq_true rfl, Bool.true_and, List.all_map, List.all_eq_true]
      exact fun j _ => isR_rp _
    rw [e]
    exact hk
  · have e1 : ((List.range n).map fun _ => PyData.bool true) = ((List.range n).map fun _ => true).map PyData.bool := by rw [List.map_map]; rfl
    rw [e1, allB_map]
    dsimp only
    rw [allB_true _ (by simp)]
    refine ⟨⟨by omega, by omega⟩, ?_⟩
    have e2 : ((n : Int)).toNat = n := by omega
    rw [e2, rngD_length]
    refine ⟨by omega, ?_⟩
    rw [rngD0]
    refine lc2_tri (g := fun i => (List.range i).map fun _ => .bool true) (fun i hi acc k hk => ?_) ?_
    · refine ⟨⟨by omega, by omega⟩, ?_⟩
      have e3 : ((i : Nat) : Int).toNat = i := by omega
      rw [e3]
      refine ⟨by rw [rngD_length]; omega, ?_⟩
      rw [rngD0]
      have key : ∀ (m j : Nat) (acc : List PyData), j + m = i → k (acc ++ (List.range' j m).map fun _ => .bool true) → compW (lcStep [Sl.ar (Ar.d (PyData.tuple ((List.range n).map fun i => PyData.tuple (row n (A i))))), Sl.no, Sl.d (.int (i : Nat)), Sl.no] [3] (tfName 3) wYes (wBin fEq (wBin fIx (wBin fIx (wVar 0) (wVar 2)) (wVar 3)) (wBin fIx (wBin fIx (wVar 0) (wVar 3)) (wVar 2)))) ((List.range' j m).map fun i => PyData.int (i : Nat)) acc k := fun m => by
        induction m with
        | zero => intro j acc _ q; simpa [compW] using q
        | succ m ih =>
          intro j acc hj q
          rw [List.range'_succ, List.map_cons]
          refine ⟨_, atI_nat (rows_at A hi), _, atI_nat (row_at (A i) (by omega)), _, atI_nat (rows_at A (show j < n by omega)), _, atI_nat (row_at (A j) hi), rfl, rfl, ?_⟩
          rw [sym j i (by omega) hi, eqv_rd]
          refine ih (j + 1) _ (by omega) ?_
          rw [List.range'_succ, List.map_cons] at q
          rw [List.append_assoc]; exact q
      have := key i 0 acc (by omega) (by rw [← List.range_eq_range']; exact hk)
      rw [← List.range_eq_range'] at this
      exact this
    · have e4 : ((List.range n).map fun i => (List.range i).map fun _ => PyData.bool true).flatten = (((List.range n).map fun i => (List.range i).map fun _ => true).flatten).map PyData.bool := by
        rw [List.map_flatten, List.map_map]
        congr 1
        exact List.map_congr_left fun i _ => by rw [Function.comp, List.map_map]; rfl
      rw [e4, allB_map]
      dsimp only
      rw [allB_true _ (by
        intro b hb
        obtain ⟨l, hl, hb⟩ := List.mem_flatten.mp hb
        obtain ⟨i, _, rfl⟩ := List.mem_map.mp hl
        obtain ⟨j, _, rfl⟩ := List.mem_map.mp hb
        rfl)]
      exact h
end K00
set_option Elab.async false
set_option linter.all false
set_option maxRecDepth 100000
set_option maxHeartbeats 1000000
namespace K00
open PySem PySem.Spec PyProof.Rows L2 RZ DW Kx
set_option exponentiation.threshold 20000
local macro_rules | `(tactic| walk_at "dw") => `(tactic| dsimp only [wSeqS, wNext, wSet, wPar, wParN, setsR, wRet, wRetN, wRetV, wAsg, wIfS, wFor, wApp, wExt, wSetIx, wSetIx2, cFr, cIm, cNw, cNi, cN2, cCat, cNil, cCons, wVar, wC, wNil, wCons, wTup, wLst, wBin, wBT, wVT, wNotT, wAndT, wOrT, wAndV, wOrV, wNotV, wIf, wNeg, wCB, fI1, fI2, fInt2, fInt2C, fAdd, fSub, fMul, fDiv, fMod, fPow, fLt, fLe, fGt, fGe, fEq, fNe, fIs, fIsNot, fLen, fBools, fSeqTo, fIntOf, wIsi, wCall, Rv.toAr, wNCall, wN2Call, wOfN, wNLst, wNList, wSeq, wRng1, wRng2, wRngDown, wEnum, wZip, noOw_nil, noOw_no, noOw_ar, noOw_ow, noOw_ow2, wipeR, setR, allD, Option.map_some, Option.map_none, wExpr, wNever, fIx, wSl, wPart, wNoPart, wYes, tfName, tfTup, tfCons, tfNil, wRevT, fRep, wNRep, List.map_cons, List.map_nil, List.getElem?_cons_zero, List.getElem?_cons_succ, List.set_cons_zero, List.set_cons_succ, List.cons_append, List.nil_append, wLc, wLcN, wLc2, lcStep, lcStep2, cNd])
theorem comp2_rng {step : PyData → List (List PyData) → (List (List PyData) → Prop) → Prop} {Q : List (List PyData) → Prop} {n : Nat} {h : Nat → PyData} {f : Nat → List PyData} (hs : ∀ j, j < n → ∀ acc k, k (acc ++ [f j]) → step (h j) acc k) (q : Q ((List.range n).map f)) : compW2 step ((List.range n).map h) [] Q := by
  have key : ∀ (m j : Nat) (acc : List (List PyData)), j + m = n → Q (acc ++ (List.range' j m).map f) → compW2 step ((List.range' j m).map h) acc Q := fun m => by
    induction m with
    | zero => intro j acc _ q; simpa [compW2] using q
    | succ m ih =>
      intro j acc hj q
      rw [List.range'_succ, List.map_cons]
      exact hs j (by omega) acc _ (ih (j + 1) (acc ++ [f j]) (by omega) (by rw [List.range'_succ, List.map_cons] at q; rw [List.append_assoc]; exact q))
  rw [List.range_eq_range']
  exact key n 0 [] (by omega) (by rw [List.nil_append, ← List.range_eq_range']; exact q)
def S_need_matrix (xs : List Ar) (r : Rv) : Prop := ∃ (n : Nat) (A : Nat → Nat → Rat), xs = [.d (mtx n A)] ∧ n ≤ 16 ∧ (∀ i j, i < n → j < n → A i j = A j i) ∧ r = .d .none
theorem p_need_matrix {xs : List Ar} {R : Rv → Prop} (h : det S_need_matrix xs R) : w_need_matrix (det S_is_matrix) (startR N_need_matrix.length xs) { nx := fun _ => R (.d .none), rt := R } := by
  obtain ⟨r, ⟨n, A, rfl, hn, sym, rfl⟩, h⟩ := h
  exact ⟨_, ⟨n, A, rfl, hn, sym, rfl⟩, h⟩
def unit (n : Nat) : List (List PyData) := (List.range n).map fun i => row n fun j => if i = j then 1 else 0
def S_unit_rows (xs : List Ar) (r : Rv) : Prop := ∃ n : Nat, xs = [.d (.int (n : Int))] ∧ n ≤ 16 ∧ r = .ow2 (unit n)
theorem rd_one : rd 1 = .tuple [.int 1, .int 1] := rfl
theorem rd_zero : rd 0 = .tuple [.int 0, .int 1] := rfl
theorem p_unit_rows {xs : List Ar} {R : Rv → Prop} (h : det S_unit_rows xs R) : w_unit_rows (startR N_unit_rows.length xs) { nx := fun _ => R (.d .none), rt := R } := by
  obtain ⟨r, ⟨n, rfl, hn, rfl⟩, h⟩ := h
  have st : startR N_unit_rows.length [.d (.int (n : Int))] = [.d (.int (n : Int)), .no, .no] := rfl
  rw [st]
  unfold w_unit_rows
  walk_at "dw"
  have e2 : ((n : Int)).toNat = n := by omega
  rw [e2]
  refine ⟨⟨by omega, by omega⟩, by rw [rngD_length]; omega, ?_⟩
  rw [rngD0]
  refine comp2_rng (f := fun i => row n fun j => if i = j then 1 else 0) (fun i hi acc k hk => ?_) h
  walk_at "dw"
  rw [e2]
  refine ⟨⟨by omega, by omega⟩, by rw [rngD_length]; omega, ?_⟩
  rw [rngD0]
  refine comp_rng (f := fun j => rd (if i = j then 1 else 0)) (fun j hj acc k hk => ?_) hk
  walk_at "dw"
  refine ⟨rfl, rfl, ?_⟩
  rw [all_eqv]
  by_cases c : i = j
  · rw [if_pos c] at hk
    rw [decide_eq_true c]; exact hk
  · rw [if_neg c] at hk
    rw [decide_eq_false c]; exact hk
theorem zip_row (n : Nat) (f g : Nat → Rat) : zipD (row n f) (row n g) = (List.range n).map fun j => .tuple [rd (f j), rd (g j)] := by
  unfold zipD row
  rw [List.zip_map', List.map_map]
  exact List.map_congr_left fun _ _ => rfl
def S_less_times (xs : List Ar) (r : Rv) : Prop := ∃ (n : Nat) (f g : Nat → Rat) (c : Rat), xs = [.d (.list (row n f)), .d (rd c), .d (.list (row n g))] ∧ n ≤ 1000 ∧ Sz c ∧ (∀ j, j < n → Sz (f j) ∧ Sz (g j) ∧ Sz (c * g j)) ∧ r = .ow (row n fun j => f j - c * g j)
theorem p_less_times {xs : List Ar} {R : Rv → Prop} (h : det S_less_times xs R) : w_less_times (det S_multiplied) (det S_lessened) (startR N_less_times.length xs) { nx := fun _ => R (.d .none), rt := R } := by
  obtain ⟨r, ⟨n, f, g, c, rfl, hn, hc, hs, rfl⟩, h⟩ := h
  have st : startR N_less_times.length [.d (.list (row n f)), .d (rd c), .d (.list (row n g))] = [.d (.list (row n f)), .d (rd c), .d (.list (row n g)), .no, .no] := rfl
  rw [st]
  unfold w_less_times
  walk_at "dw"
  rw [zip_row]
  refine ⟨by rw [List.length_map, List.length_range]; omega, ?_⟩
  refine comp_rng (f := fun j => rd (f j - c * g j)) (fun j hj acc k hk => ?_) h
  obtain ⟨h1, h2, h3⟩ := hs j hj
  exact ⟨_, ⟨c, g j, rfl, hc, h2, rfl⟩, _, ⟨f j, c * g j, rfl, h1, h3, rfl⟩, hk⟩
theorem ixN_nat {n j : Nat} (h : j < n) : ixN n (j : Int) = some j := by
  unfold ixN
  rw [if_pos (by omega), if_pos (by omega)]
  simp
theorem immAll_row (n : Nat) (f : Nat → Rat) : immAll (row n f) = true := by
  unfold row
  generalize List.range n = l
  induction l with
  | nil => rfl
  | cons x l ih => rw [List.map_cons]; show (imm (rd (f x)) && immAll _) = true; rw [ih]; rfl
theorem row_set {n j : Nat} {f g : Nat → Rat} {x : Rat} (hj : g j = x) (h : ∀ i, i ≠ j → g i = f i) : (row n f).set j (rd x) = row n g := by
  refine List.ext_getElem? fun i => ?_
  by_cases hi : i < n
  · by_cases e : i = j
    · subst e
      rw [List.getElem?_set_self (by rw [row_len]; exact hi), row_at g hi, hj]
    · rw [List.getElem?_set_ne (Ne.symm e), row_at f hi, row_at g hi, h i e]
  · rw [List.getElem?_eq_none (by rw [List.length_set, row_len]; omega), List.getElem?_eq_none (by rw [row_len]; omega)]
theorem row_congr {n : Nat} {f g : Nat → Rat} (h : ∀ i, i < n → f i = g i) : row n f = row n g := by
  unfold row
  exact List.map_congr_left fun i hi => by rw [h i (List.mem_range.mp hi)]
theorem unit_at {n i : Nat} (h : i < n) : (unit n)[i]? = some (row n fun j => if i = j then 1 else 0) := by
  unfold unit
  rw [List.getElem?_map, List.getElem?_range h]; rfl
end K00
set_option Elab.async false
set_option linter.all false
set_option maxRecDepth 100000
set_option maxHeartbeats 1000000
namespace K00
open PySem PySem.Spec PyProof.Rows L2 RZ DW Kx
set_option exponentiation.threshold 20000
local macro_rules | `(tactic| walk_at "dw") => `(tactic| dsimp only [wSeqS, wNext, wSet, wPar, wParN, setsR, wRet, wRetN, wRetV, wAsg, wIfS, wFor, wApp, wExt, wSetIx, wSetIx2, cFr, cIm, cNw, cNi, cN2, cCat, cNil, cCons, wVar, wC, wNil, wCons, wTup, wLst, wBin, wBT, wVT, wNotT, wAndT, wOrT, wAndV, wOrV, wNotV, wIf, wNeg, wCB, fI1, fI2, fInt2, fInt2C, fAdd, fSub, fMul, fDiv, fMod, fPow, fLt, fLe, fGt, fGe, fEq, fNe, fIs, fIsNot, fLen, fBools, fSeqTo, fIntOf, wIsi, wCall, Rv.toAr, wNCall, wN2Call, wOfN, wNLst, wNList, wSeq, wRng1, wRng2, wRngDown, wEnum, wZip, noOw_nil, noOw_no, noOw_ar, noOw_ow, noOw_ow2, wipeR, setR, allD, Option.map_some, Option.map_none, wExpr, wNever, fIx, wSl, wPart, wNoPart, wYes, tfName, tfTup, tfCons, tfNil, wRevT, fRep, wNRep, List.map_cons, List.map_nil, List.getElem?_cons_zero, List.getElem?_cons_succ, List.set_cons_zero, List.set_cons_succ, List.cons_append, List.nil_append, wLc, wLcN, wLc2, lcStep, lcStep2, cNd])

theorem Sz.of {N K : Nat} {x : Rat} (h : Fr N K x) (hN : N < 2 ^ 4000) (hK : K < 2 ^ 4000) : Sz x := ⟨Nat.lt_of_le_of_lt h.size.1 hK, Nat.lt_of_le_of_lt h.size.2 hN⟩
structure Giv (n : Nat) (L : Nat → Nat → Rat) (D : Nat → Rat) : Prop where
  n12 : n ≤ 12
  low : Low n L
  fl : ∀ i j, i < n → j < n → Fr 6 12 (L i j)
  fd : ∀ i, i < n → Fr 6 18 (D i)
def posPaper (n : Nat) (L : Nat → Nat → Rat) (D : Nat → Rat) : PyData := .tuple [.str "positive", .tuple ((List.range n).map fun i => .tuple (row n (L i))), .tuple (row n D)]
def othPaper (n : Nat) (x : Nat → Rat) : PyData := .tuple [.str "other", .tuple (row n x)]
def S_paper_of (xs : List Ar) (r : Rv) : Prop := ∃ (n : Nat) (L : Nat → Nat → Rat) (D : Nat → Rat), xs = [.d (mtx n (Mx n L D))] ∧ Giv n L D ∧
  ((∃ k, k < n ∧ (∀ m, m < k → 0 < D m) ∧ D k ≤ 0 ∧ r = .d (othPaper n (Tx L k k))) ∨ ((∀ m, m < n → 0 < D m) ∧ r = .d (posPaper n L D)))
/-- the lists in round k, below the row t -/
def leftA (n : Nat) (L : Nat → Nat → Rat) (D : Nat → Rat) (k t : Nat) (i : Nat) : Nat → Rat := if k < i ∧ i < t then Sx n L D (k + 1) i else Sx n L D k i
def turnA (L : Nat → Nat → Rat) (k t : Nat) (i : Nat) : Nat → Rat := if k < i ∧ i < t then Tx L (k + 1) i else Tx L k i
def lowA (L : Nat → Nat → Rat) (k t : Nat) (i j : Nat) : Rat := if (j < k ∧ j < i) ∨ (j = k ∧ k < i ∧ i < t) then L i j else if i = j then 1 else 0
structure LeftOk (n : Nat) (A : Nat → Nat → Rat) (k : Nat) (xs : List PyData) : Prop where
  len : xs.length = n
  at_ : ∀ i, k ≤ i → i < n → xs[i]? = some (.list (row n (A i)))
structure LowOk (n : Nat) (A : Nat → Nat → Rat) (xss : List (List PyData)) : Prop where
  len : xss.length = n
  at_ : ∀ i, i < n → xss[i]? = some (row n (A i))
theorem LeftOk.set {n k t : Nat} {A B : Nat → Nat → Rat} {xs : List PyData} (h : LeftOk n A k xs) (ht : k < t) (htn : t < n) (e : ∀ i, i ≠ t → B i = A i) : LeftOk n B k (xs.set t (.list (row n (B t)))) := by
  refine ⟨by rw [List.length_set]; exact h.len, fun i h1 h2 => ?_⟩
  by_cases c : i = t
  · subst c; rw [List.getElem?_set_self (by rw [h.len]; exact h2)]
  · rw [List.getElem?_set_ne (Ne.symm c), h.at_ i h1 h2, e i c]
theorem LowOk.set {n t : Nat} {A B : Nat → Nat → Rat} {xss : List (List PyData)} (h : LowOk n A xss) (htn : t < n) (e : ∀ i, i ≠ t → B i = A i) : LowOk n B (xss.set t (row n (B t))) := by
  refine ⟨by rw [List.length_set]; exact h.len, fun i h2 => ?_⟩
  by_cases c : i = t
  · subst c; rw [List.getElem?_set_self (by rw [h.len]; exact h2)]
  · rw [List.getElem?_set_ne (Ne.symm c), h.at_ i h2, e i c]
/-- one round's inner body -/
def InR (n : Nat) (L : Nat → Nat → Rat) (D : Nat → Rat) (k t : Nat) (ρ : Ro) : Prop := ∃ (left turned pivots : List PyData) (lower : List (List PyData)) (z8 z9 z10 : Sl),
  ρ = [.d (mtx n (Mx n L D)), .d (.int (n : Int)), .ow left, .ow turned, .ow2 lower, .ow pivots, .d (.int (k : Int)), .d (rd (D k)), z8, z9, z10] ∧
  LeftOk n (leftA n L D k t) k left ∧ LeftOk n (turnA L k t) k turned ∧ LowOk n (lowA L k t) lower ∧ pivots = row (k + 1) D
def OutR (n : Nat) (L : Nat → Nat → Rat) (D : Nat → Rat) (k : Nat) (ρ : Ro) : Prop := ∃ (left turned : List PyData) (lower : List (List PyData)) (z6 z7 z8 z9 z10 : Sl),
  ρ = [.d (mtx n (Mx n L D)), .d (.int (n : Int)), .ow left, .ow turned, .ow2 lower, .ow (row k D), z6, z7, z8, z9, z10] ∧
  LeftOk n (Sx n L D k) k left ∧ LeftOk n (Tx L k) k turned ∧ LowOk n (lowA L k 0) lower
section
variable {n : Nat} {L : Nat → Nat → Rat} {D : Nat → Rat}
theorem small_pow (k : Nat) (h : k ≤ 12) : (6 ^ k : Nat) < 2 ^ 4000 ∧ 18 ^ k * 216 < 2 ^ 4000 := by
  have h1 : (6 ^ k : Nat) ≤ 6 ^ 12 := Nat.pow_le_pow_right (by decide) h
  have h2 : (18 ^ k : Nat) ≤ 18 ^ 12 := Nat.pow_le_pow_right (by decide) h
  have h3 : (18 ^ k : Nat) * 216 ≤ 18 ^ 12 * 216 := Nat.mul_le_mul_right _ h2
  exact ⟨Nat.lt_of_le_of_lt h1 (by decide), Nat.lt_of_le_of_lt h3 (by decide)⟩
theorem Giv.szS (g : Giv n L D) {k i j : Nat} (hi : i < n) (hj : j < n) : Sz (Sx n L D k i j) := Sz.of (Sx_fr g.n12 g.fl g.fd hi hj) (by decide) (by decide)
theorem Giv.szL (g : Giv n L D) {i j : Nat} (hi : i < n) (hj : j < n) : Sz (L i j) := Sz.of (g.fl i j hi hj) (by decide) (by decide)
theorem Giv.szD (g : Giv n L D) {i : Nat} (hi : i < n) : Sz (D i) := Sz.of (g.fd i hi) (by decide) (by decide)
theorem Giv.szT (g : Giv n L D) {k i j : Nat} (hk : k ≤ n) (hi : i < n) (hj : j < n) : Sz (Tx L k i j) := by
  have h := Tx_fr g.fl k i j hk hi hj
  have b := small_pow k (by have := g.n12; omega)
  exact Sz.of h b.1 (by omega)
theorem Giv.szLS (g : Giv n L D) {k i j m : Nat} (hi : i < n) (hj : j < n) (hm : m < n) : Sz (L i m * Sx n L D k m j) := Sz.of ((g.fl i m hi hm).mul (Sx_fr g.n12 g.fl g.fd hm hj)) (by decide) (by decide)
theorem Giv.szLT (g : Giv n L D) {k i j m : Nat} (hk : k ≤ n) (hi : i < n) (hj : j < n) (hm : m < n) : Sz (L i m * Tx L k m j) := by
  have h := (g.fl i m hi hm).mul (Tx_fr g.fl k m j hk hm hj)
  have b := small_pow (k + 1) 
  have b1 := small_pow k (by have := g.n12; omega)
  have h1 : (6 ^ k : Nat) ≤ 6 ^ 12 := Nat.pow_le_pow_right (by decide) (by have := g.n12; omega)
  refine Sz.of h (Nat.lt_of_le_of_lt (Nat.mul_le_mul_left 6 h1) (by decide)) (by have := b1.2; omega)
def wIn : WS := (wSeqS (wSet 9 (cIm (wCall (det S_divided) (wCons (wBin fIx (wBin fIx (wVar 2) (wVar 8)) (wVar 6)) (wCons (wVar 7) wNil))))) (wSeqS (wSetIx2 4 (cFr (wVar 9)) (wVar 8) (wVar 6)) (wSeqS (wSetIx 2 (cNd (wNCall (det S_less_times) (wCons (wBin fIx (wVar 2) (wVar 8)) (wCons (wVar 9) (wCons (wBin fIx (wVar 2) (wVar 6)) wNil))))) (wVar 8)) (wSetIx 3 (cNd (wNCall (det S_less_times) (wCons (wBin fIx (wVar 3) (wVar 8)) (wCons (wVar 9) (wCons (wBin fIx (wVar 3) (wVar 6)) wNil))))) (wVar 8)))))
theorem in_step (g : Giv n L D) {k t : Nat} (hkt : k < t) (htn : t < n) (hD : 0 < D k) {ρ : Ro} {E : En} (h : InR n L D k t ρ) (nx : ∀ ρ', InR n L D k (t + 1) ρ' → E.nx ρ') : wIn (ρ.set 8 (.d (.int (t : Int)))) E := by
  obtain ⟨left, turned, pivots, lower, z8, z9, z10, rfl, hl, ht, hw, hp⟩ := h
  have hkn : k < n := by omega
  have d0 : D k ≠ 0 := fun z => by rw [z] at hD; exact absurd hD (by decide)
  unfold wIn
  walk_at "dw"
  have lt : left[t]? = some (.list (row n (Sx n L D k t))) := by
    have := hl.at_ t (by omega) htn
    unfold leftA at this
    rwa [if_neg (by omega)] at this
  have lk : left[k]? = some (.list (row n (Sx n L D k k))) := by
    have := hl.at_ k (by omega) hkn
    unfold leftA at this
    rwa [if_neg (by omega)] at this
  have tt : turned[t]? = some (.list (row n (Tx L k t))) := by
    have := ht.at_ t (by omega) htn
    unfold turnA at this
    rwa [if_neg (by omega)] at this
  have tk : turned[k]? = some (.list (row n (Tx L k k))) := by
    have := ht.at_ k (by omega) hkn
    unfold turnA at this
    rwa [if_neg (by omega)] at this
  have fac : Sx n L D k t k / D k = L t k := by
    refine divE d0 ?_
    rw [Sx_sym, Sx_row g.low hkn]; grind
  refine ⟨_, atI_nat lt, _, atI_nat (row_at _ hkn), _, ⟨_, _, rfl, d0, g.szS htn hkn, g.szD hkn, rfl⟩, rfl, ?_⟩
  rw [fac]
  -- lower[to][at]
  refine ⟨t, _, ixN_nat (by rw [hw.len]; exact htn), hw.at_ t htn, k, ixN_nat (by rw [row_len]; exact hkn), ?_⟩
  have hw2 : LowOk n (lowA L k (t + 1)) (lower.set t ((row n (lowA L k t t)).set k (rd (L t k)))) := by
    rw [row_set (g := lowA L k (t + 1) t) (by unfold lowA; rw [if_pos (by omega)]) fun i hi => by unfold lowA; by_cases c : i < k ∧ i < t <;> simp [c, hi] ]
    exact hw.set htn fun i hi => funext fun j => by
      unfold lowA
      have : (i < t + 1) ↔ i < t := by omega
      simp [this]
  -- left[to]
  refine ⟨_, atI_nat lt, _, atI_nat lk, _, ⟨n, _, _, _, rfl, by have := g.n12; omega, g.szL htn hkn, fun j hj => ⟨g.szS htn hj, g.szS hkn hj, g.szLS htn hj hkn⟩, rfl⟩, immAll_row _ _, t, ixN_nat (by rw [hl.len]; exact htn), ?_⟩
  have hl2 : LeftOk n (leftA n L D k (t + 1)) k (left.set t (.list (row n fun j => Sx n L D k t j - L t k * Sx n L D k k j))) := by
    have e : (row n fun j => Sx n L D k t j - L t k * Sx n L D k k j) = row n (leftA n L D k (t + 1) t) := row_congr fun j hj => by
      unfold leftA
      rw [if_pos (by omega), Sx_step hkn, Sx_row g.low hkn]
    rw [e]
    exact hl.set hkt htn fun i hi => by
      unfold leftA
      have : (i < t + 1) ↔ i < t := by omega
      simp [this]
  refine ⟨_, atI_nat tt, _, atI_nat tk, _, ⟨n, _, _, _, rfl, by have := g.n12; omega, g.szL htn hkn, fun j hj => ⟨g.szT (by omega) htn hj, g.szT (by omega) hkn hj, g.szLT (by omega) htn hj hkn⟩, rfl⟩, immAll_row _ _, t, ixN_nat (by rw [ht.len]; exact htn), ?_⟩
  have ht2 : LeftOk n (turnA L k (t + 1)) k (turned.set t (.list (row n fun j => Tx L k t j - L t k * Tx L k k j))) := by
    have e : (row n fun j => Tx L k t j - L t k * Tx L k k j) = row n (turnA L k (t + 1) t) := row_congr fun j hj => by
      unfold turnA
      rw [if_pos (by omega)]
      simp only [Tx]
      rw [if_pos hkt]
    rw [e]
    exact ht.set hkt htn fun i hi => by
      unfold turnA
      have : (i < t + 1) ↔ i < t := by omega
      simp [this]
  exact nx _ ⟨_, _, _, _, _, _, _, rfl, hl2, ht2, hw2, hp⟩
end
theorem imm_tup (ds : List PyData) : imm (.tuple ds) = immAll ds := rfl
theorem immAll_cons (d : PyData) (ds : List PyData) : immAll (d :: ds) = (imm d && immAll ds) := rfl
theorem immAll_nil : immAll [] = true := rfl
theorem imm_str (x : Str) : imm (.str x) = true := rfl
theorem immAll_rows (n : Nat) (A : Nat → Nat → Rat) : immAll ((List.range n).map fun i => .tuple (row n (A i))) = true := by
  generalize List.range n = l
  induction l with
  | nil => rfl
  | cons x l ih => rw [List.map_cons, immAll_cons, imm_tup, immAll_row, ih]; rfl
theorem lowA_congr {L : Nat → Nat → Rat} {k t k' t' i j : Nat} (h : ((j < k ∧ j < i) ∨ (j = k ∧ k < i ∧ i < t)) ↔ ((j < k' ∧ j < i) ∨ (j = k' ∧ k' < i ∧ i < t'))) : lowA L k t i j = lowA L k' t' i j := by
  unfold lowA; simp only [h]
theorem num_le (x : Rat) : x.num ≤ 0 ↔ x ≤ 0 := by
  rw [Rat.le_iff]
  simp
def firstLow (n : Nat) (D : Nat → Rat) : Prop := ∃ k, k < n ∧ (∀ m, m < k → 0 < D m) ∧ D k ≤ 0
theorem rd_num (x : Rat) : L2.atI [PyData.int x.num, .int (x.den : Int)] 0 = some (.int x.num) := rfl
theorem mtx_at {n i : Nat} (A : Nat → Nat → Rat) (h : i < n) : ((List.range n).map fun i => PyData.tuple (row n (A i)))[i]? = some (.tuple (row n (A i))) := rows_at A h
theorem p_paper_of {xs : List Ar} {R : Rv → Prop} (h : det S_paper_of xs R) : w_paper_of (det S_unit_rows) (det S_divided) (det S_less_times) (startR N_paper_of.length xs) { nx := fun _ => R (.d .none), rt := R } := by
  obtain ⟨r, ⟨n, L, D, rfl, g, hr⟩, h⟩ := h
  have n12 := g.n12
  have st : startR N_paper_of.length [.d (mtx n (Mx n L D))] = [.d (mtx n (Mx n L D)), .no, .no, .no, .no, .no, .no, .no, .no, .no, .no] := rfl
  rw [st]
  unfold w_paper_of mtx
  walk_at "dw"
  have hl : ((List.range n).map fun i => PyData.tuple (row n (Mx n L D i))).length = n := by rw [List.length_map, List.length_range]
  rw [hl]
  refine ⟨by omega, ?_⟩
  refine comp_rng (f := fun i => .list (row n (Mx n L D i))) (fun i hi acc k hk => hk) ?_
  refine ⟨_, ⟨n, rfl, by omega, rfl⟩, _, ⟨n, rfl, by omega, rfl⟩, ?_⟩
  refine ⟨⟨by omega, by omega⟩, ?_⟩
  have e2 : ((n : Int)).toNat = n := by omega
  rw [e2]
  refine ⟨by rw [rngD_length]; omega, ?_⟩
  rw [rngD0]
  refine forW_ind (fun k ρ => (∀ m, m < k → 0 < D m) ∧ OutR n L D k ρ) (fun k d ρ kk hd hI hk => ?_) (fun ρ hI => ?_) ⟨fun m hm => absurd hm (Nat.not_lt_zero _), _, _, _, .no, .no, .no, .no, .no, rfl, ⟨by rw [List.length_map, List.length_range], fun i _ hi => ?_⟩, ⟨by rw [List.length_map]; unfold unit; rw [List.length_map, List.length_range], fun i _ hi => ?_⟩, ⟨by unfold unit; rw [List.length_map, List.length_range], fun i hi => ?_⟩⟩
  · -- a round
    obtain ⟨hpos, left, turned, lower, z6, z7, z8, z9, z10, rfl, hl1, ht1, hw1⟩ := hI
    rw [List.getElem?_map, Option.map_eq_some_iff] at hd
    obtain ⟨k', hk', rfl⟩ := hd
    obtain ⟨h1, h2⟩ := List.getElem?_eq_some_iff.mp hk'
    rw [List.length_range] at h1
    rw [List.getElem_range] at h2
    subst h2
    refine ⟨_, rfl, ?_⟩
    walk_at "dw"
    have piv : Sx n L D k k k = D k := by rw [Sx_row g.low h1, g.low.one k h1, Rat.mul_one]
    refine ⟨_, atI_nat (hl1.at_ k (Nat.le_refl _) h1), _, atI_nat (row_at _ h1), rfl, ?_⟩
    rw [piv]
    refine ⟨_, rd_num (D k), ?_⟩
    dsimp only
    by_cases c : D k ≤ 0
    · rw [decide_eq_true ((num_le (D k)).mpr c)]
      refine ⟨_, atI_nat (ht1.at_ k (Nat.le_refl _) h1), ?_⟩
      refine ⟨by show imm _ = true; rw [imm_tup, immAll_cons, immAll_cons, imm_tup, immAll_row]; rfl, ?_⟩
      rcases hr with ⟨k2, hk2, hp2, hd2, rfl⟩ | ⟨hp2, rfl⟩
      · have : k2 = k := by
          rcases Nat.lt_trichotomy k2 k with z | z | z
          · exact absurd (hpos k2 z) (Rat.not_lt.mpr hd2)
          · exact z
          · exact absurd (hp2 k z) (Rat.not_lt.mpr c)
        subst this
        exact h
      · exact absurd (hp2 k h1) (Rat.not_lt.mpr c)
    · rw [decide_eq_false (fun z => c ((num_le (D k)).mp z))]
      have c2 : 0 < D k := Rat.not_le.mp c
      refine ⟨by rw [row_len]; omega, ⟨by omega, by omega, by omega, by omega⟩, ?_⟩
      have e3 : ((n : Int) - ((k : Int) + 1)).toNat = n - (k + 1) := by omega
      rw [e3]
      refine ⟨by rw [rngD_length]; omega, ?_⟩
      refine forW_ind (fun i ρ => InR n L D k (k + 1 + i) ρ) (fun i d ρ k2 hd hI hk2 => ?_) (fun ρ hI => ?_) ⟨_, _, _, _, _, _, _, rfl, ⟨hl1.len, fun i h1 h2 => ?_⟩, ⟨ht1.len, fun i h1 h2 => ?_⟩, ⟨hw1.len, fun i h1 => ?_⟩, ?_⟩
      · obtain ⟨hi, rfl⟩ := rngD_get hd
        refine ⟨_, rfl, ?_⟩
        have e4 : ((k : Int) + 1 + (i : Nat)) = ((k + 1 + i : Nat) : Int) := by omega
        rw [e4]
        exact in_step g (by omega) (by omega) c2 hI hk2
      · rw [rngD_length] at hI
        have e5 : k + 1 + (n - (k + 1)) = n := by omega
        rw [e5] at hI
        obtain ⟨left, turned, pivots, lower, z8, z9, z10, rfl, hl2, ht2, hw2, rfl⟩ := hI
        refine hk _ ⟨fun m hm => ?_, _, _, _, _, _, _, _, _, rfl, ⟨hl2.len, fun i h1 h2 => ?_⟩, ⟨ht2.len, fun i h1 h2 => ?_⟩, ⟨hw2.len, fun i h1 => ?_⟩⟩
        · by_cases z : m = k
          · subst z; exact c2
          · exact hpos m (by omega)
        · rw [hl2.at_ i (by omega) h2]
          unfold leftA
          rw [if_pos (by omega)]
        · rw [ht2.at_ i (by omega) h2]
          unfold turnA
          rw [if_pos (by omega)]
        · rw [hw2.at_ i h1]
          refine congrArg some (row_congr fun j hj => ?_)
          exact lowA_congr (by omega)
      · rw [hl1.at_ i h1 h2]
        unfold leftA
        rw [if_neg (by omega)]
      · rw [ht1.at_ i h1 h2]
        unfold turnA
        rw [if_neg (by omega)]
      · rw [hw1.at_ i h1]
        refine congrArg some (row_congr fun j hj => ?_)
        exact lowA_congr (by omega)
      · unfold row
        rw [List.range_succ, List.map_append]; rfl
  · -- the end
    rw [List.length_map, List.length_range] at hI
    obtain ⟨hpos, left, turned, lower, z6, z7, z8, z9, z10, rfl, hl1, ht1, hw1⟩ := hI
    walk_at "dw"
    refine ⟨by rw [List.length_map, hw1.len]; omega, ?_⟩
    have el : lower.map PyData.list = (List.range n).map fun i => PyData.list (row n (L i)) := by
      refine List.ext_getElem? fun i => ?_
      by_cases hi : i < n
      · rw [List.getElem?_map, hw1.at_ i hi, List.getElem?_map, List.getElem?_range hi]
        refine congrArg (fun z => some (PyData.list z)) (row_congr fun j hj => ?_)
        unfold lowA
        by_cases c1 : j < i
        · rw [if_pos (by omega)]
        · rw [if_neg (by omega)]
          by_cases c2 : i = j
          · subst c2; rw [if_pos rfl, g.low.one i hi]
          · rw [if_neg c2, g.low.nul i j (by omega) hj]
      · rw [List.getElem?_eq_none (by rw [List.length_map, hw1.len]; omega), List.getElem?_eq_none (by rw [List.length_map, List.length_range]; omega)]
    rw [el]
    refine comp_rng (f := fun i => .tuple (row n (L i))) (fun i hi acc k hk => hk) ?_
    rcases hr with ⟨k2, hk2, hp2, hd2, rfl⟩ | ⟨hp2, rfl⟩
    · exact absurd (hpos k2 hk2) (Rat.not_lt.mpr hd2)
    · refine ⟨by show imm _ = true; rw [imm_tup, immAll_cons, immAll_cons, immAll_cons, imm_tup, imm_tup, immAll_row, immAll_rows]; rfl, h⟩
  · rw [List.getElem?_map, List.getElem?_range hi]
    exact congrArg (fun z => some (PyData.list z)) (row_congr fun j _ => (Sx_zero i j).symm)
  · rw [List.getElem?_map, unit_at hi]; rfl
  · rw [unit_at hi]
    exact congrArg some (row_congr fun j hj => (show lowA L 0 0 i j = _ from by unfold lowA; exact if_neg (by omega)).symm)
end K00
set_option Elab.async false
set_option linter.all false
set_option maxRecDepth 100000
set_option maxHeartbeats 1000000
namespace K00
open PySem PySem.Spec PyProof.Rows L2 RZ DW Kx
set_option exponentiation.threshold 20000
local macro_rules | `(tactic| walk_at "dw") => `(tactic| dsimp only [wSeqS, wNext, wSet, wPar, wParN, setsR, wRet, wRetN, wRetV, wAsg, wIfS, wFor, wApp, wExt, wSetIx, wSetIx2, cFr, cIm, cNw, cNi, cN2, cCat, cNil, cCons, wVar, wC, wNil, wCons, wTup, wLst, wBin, wBT, wVT, wNotT, wAndT, wOrT, wAndV, wOrV, wNotV, wIf, wNeg, wCB, fI1, fI2, fInt2, fInt2C, fAdd, fSub, fMul, fDiv, fMod, fPow, fLt, fLe, fGt, fGe, fEq, fNe, fIs, fIsNot, fLen, fBools, fSeqTo, fIntOf, wIsi, wCall, Rv.toAr, wNCall, wN2Call, wOfN, wNLst, wNList, wSeq, wRng1, wRng2, wRngDown, wEnum, wZip, noOw_nil, noOw_no, noOw_ar, noOw_ow, noOw_ow2, wipeR, setR, allD, Option.map_some, Option.map_none, wExpr, wNever, fIx, wSl, wPart, wNoPart, wYes, tfName, tfTup, tfCons, tfNil, wRevT, fRep, wNRep, List.map_cons, List.map_nil, List.getElem?_cons_zero, List.getElem?_cons_succ, List.set_cons_zero, List.set_cons_succ, List.cons_append, List.nil_append, wLc, wLcN, wLc2, lcStep, lcStep2, cNd])

def S_sign_paper := S_paper_of
theorem p_sign_paper {xs : List Ar} {R : Rv → Prop} (h : det S_sign_paper xs R) : w_sign_paper (det S_need_matrix) (det S_paper_of) (startR N_sign_paper.length xs) { nx := fun _ => R (.d .none), rt := R } := by
  obtain ⟨r, ⟨n, L, D, rfl, g, hr⟩, h⟩ := h
  have n12 := g.n12
  refine ⟨_, ⟨n, _, rfl, by omega, fun i j _ _ => Mx_sym i j, rfl⟩, ?_⟩
  refine ⟨r, ⟨n, L, D, rfl, g, hr⟩, ?_⟩
  rcases hr with ⟨k, _, _, _, rfl⟩ | ⟨_, rfl⟩
  · exact h
  · exact h
/-! worths -/
/-- numbers over one N -/
def Vec (n : Nat) (x : Nat → Rat) : Prop := ∃ N K, N ≤ 2 ^ 300 ∧ K ≤ 2 ^ 300 ∧ ∀ i, i < n → Fr N K (x i)
def Mat (n : Nat) (A : Nat → Nat → Rat) : Prop := (∀ i j, i < n → j < n → Fr 216 31104 (A i j)) ∧ ∀ i j, i < n → j < n → A i j = A j i
def S_worth_of (xs : List Ar) (r : Rv) : Prop := ∃ (n : Nat) (A : Nat → Nat → Rat) (x : Nat → Rat), xs = [.d (mtx n A), .d (.tuple (row n x))] ∧ n ≤ 12 ∧ Mat n A ∧ Vec n x ∧ r = .d (rd (Wx n A x))
theorem row_succ (n : Nat) (f : Nat → Rat) : row (n + 1) f = row n f ++ [rd (f n)] := by
  unfold row
  rw [List.range_succ, List.map_append]; rfl
theorem lsum_row (n : Nat) (f : Nat → Rat) : lsum ((List.range n).map f) = sumN n f := sumN_lsum n f
theorem zip_rows (n : Nat) (x : Nat → Rat) (A : Nat → Nat → Rat) : zipD (row n x) ((List.range n).map fun i => .tuple (row n (A i))) = (List.range n).map fun i => .tuple [rd (x i), .tuple (row n (A i))] := by
  unfold zipD row
  rw [List.zip_map', List.map_map]
  exact List.map_congr_left fun _ _ => rfl
theorem row_map (n : Nat) (f : Nat → Rat) : row n f = ((List.range n).map f).map rd := by unfold row; rw [List.map_map]; rfl
theorem total_row {n : Nat} {f : Nat → Rat} {N K : Nat} (hN : 0 < N) (hn : n ≤ 12) (h : ∀ i, i < n → Fr N K (f i)) (h1 : N < 2 ^ 4000) (h2 : 12 * K < 2 ^ 4000) : S_total [.d (.list (row n f))] (.d (rd (sumN n f))) := by
  refine ⟨(List.range n).map f, by rw [row_map], by rw [List.length_map, List.length_range]; omega, fun x hx => ?_, fun i hi => ?_, by rw [lsum_row]⟩
  · obtain ⟨j, hj, rfl⟩ := List.mem_map.mp hx
    exact Sz.of (h j (List.mem_range.mp hj)) h1 (by omega)
  · have := Fr.lsum (N := N) (K := K) hN (xs := ((List.range n).map f).take i) fun x hx => by
      obtain ⟨j, hj, rfl⟩ := List.mem_map.mp (List.mem_of_mem_take hx)
      exact h j (List.mem_range.mp hj)
    refine Sz.of this h1 ?_
    have l : (((List.range n).map f).take i).length ≤ 12 := by rw [List.length_take, List.length_map, List.length_range]; omega
    exact Nat.lt_of_le_of_lt (Nat.mul_le_mul_right K l) h2
theorem p_worth_of {xs : List Ar} {R : Rv → Prop} (h : det S_worth_of xs R) : w_worth_of (det S_multiplied) (det S_total) (startR N_worth_of.length xs) { nx := fun _ => R (.d .none), rt := R } := by
  obtain ⟨r, ⟨n, A, x, rfl, hn, ⟨hA, _⟩, ⟨N, K, hN, hK, hx⟩, rfl⟩, h⟩ := h
  have st : startR N_worth_of.length [.d (mtx n A), .d (.tuple (row n x))] = [.d (mtx n A), .d (.tuple (row n x)), .no, .no, .no, .no, .no] := rfl
  rw [st]
  unfold w_worth_of mtx
  walk_at "dw"
  rw [zip_rows]
  refine ⟨by rw [List.length_map, List.length_range]; omega, ?_⟩
  have b1 : 216 * N < 2 ^ 4000 := by omega
  have b2 : 31104 * K < 2 ^ 4000 := by omega
  have b2' : 12 * (31104 * K) < 2 ^ 4000 := by omega
  have b3 : N * (216 * N) < 2 ^ 4000 := Nat.lt_of_le_of_lt (Nat.mul_le_mul hN (Nat.mul_le_mul_left 216 hN)) (by decide)
  have b4 : K * (12 * (31104 * K)) < 2 ^ 4000 := Nat.lt_of_le_of_lt (Nat.mul_le_mul hK (Nat.mul_le_mul_left 12 (Nat.mul_le_mul_left 31104 hK))) (by decide)
  have b5 : 12 * (K * (12 * (31104 * K))) < 2 ^ 4000 := Nat.lt_of_le_of_lt (Nat.mul_le_mul_left 12 (Nat.mul_le_mul hK (Nat.mul_le_mul_left 12 (Nat.mul_le_mul_left 31104 hK)))) (by decide)
  have fx : ∀ i j, i < n → j < n → Fr (216 * N) (31104 * K) (A i j * x j) := fun i j hi hj => (hA i j hi hj).mul (hx j hj)
  have fs : ∀ i, i < n → Fr (216 * N) (12 * (31104 * K)) (sumN n fun j => A i j * x j) := fun i hi => (Fr.sum (Nat.mul_pos (by decide) (hx i hi).1) fun j hj => fx i j hi hj).mono (Nat.mul_le_mul_right _ hn)
  have fp : ∀ i, i < n → Fr (N * (216 * N)) (K * (12 * (31104 * K))) (x i * sumN n fun j => A i j * x j) := fun i hi => (hx i hi).mul (fs i hi)
  refine forW_ind (fun i ρ => ∃ z3 z4 z5 z6, ρ = [.d (.tuple ((List.range n).map fun i => .tuple (row n (A i)))), .d (.tuple (row n x)), .ow (row i fun i => x i * sumN n fun j => A i j * x j), z3, z4, z5, z6]) (fun i d ρ k hd hI hk => ?_) (fun ρ hI => ?_) ⟨.no, .no, .no, .no, rfl⟩
  · obtain ⟨z3, z4, z5, z6, rfl⟩ := hI
    rw [List.getElem?_map, Option.map_eq_some_iff] at hd
    obtain ⟨i', hi', rfl⟩ := hd
    obtain ⟨h1, h2⟩ := List.getElem?_eq_some_iff.mp hi'
    rw [List.length_range] at h1
    rw [List.getElem_range] at h2
    subst h2
    refine ⟨_, rfl, ?_⟩
    walk_at "dw"
    rw [zip_row]
    refine ⟨by rw [List.length_map, List.length_range]; omega, ?_⟩
    refine comp_rng (f := fun j => rd (A i j * x j)) (fun j hj acc k hk => ?_) ?_
    · exact ⟨_, ⟨_, _, rfl, Sz.of (hA i j h1 hj) (by decide) (by decide), Sz.of (hx j hj) (by omega) (by omega), rfl⟩, hk⟩
    · refine ⟨_, total_row (Nat.mul_pos (by decide) (hx i h1).1) hn (fun j hj => fx i j h1 hj) b1 b2', ?_⟩
      refine ⟨_, ⟨_, _, rfl, Sz.of (hx i h1) (by omega) (by omega), Sz.of (fs i h1) b1 b2', rfl⟩, ?_⟩
      exact ⟨by rw [row_len]; omega, hk _ ⟨.d (rd (x i)), .d (.tuple (row n (A i))), z5, z6, by rw [row_succ]⟩⟩
  · rw [List.length_map, List.length_range] at hI
    obtain ⟨z3, z4, z5, z6, rfl⟩ := hI
    walk_at "dw"
    have hpos : 0 < N * (216 * N) ∨ n = 0 := by
      by_cases z : n = 0
      · exact .inr z
      · have := (hx 0 (by omega)).1
        exact .inl (Nat.mul_pos this (Nat.mul_pos (by decide) this))
    refine ⟨.d (rd (Wx n A x)), ?_, rfl, h⟩
    rcases hpos with hp | rfl
    · exact total_row hp hn fp b3 b5
    · exact total_row (N := 1) (K := 0) (by decide) (by decide) (fun i hi => absurd hi (Nat.not_lt_zero _)) (by decide) (by decide)
/-! equality of data -/
theorem eqv_tup (xs ys : List PyData) : PyData.eqv (.tuple xs) (.tuple ys) = PyData.eqvAll xs ys := by simp [PyData.eqv]
theorem eqvAll_nil : PyData.eqvAll [] [] = true := by simp [PyData.eqvAll]
theorem eqvAll_cons (x y : PyData) (xs ys : List PyData) : PyData.eqvAll (x :: xs) (y :: ys) = (PyData.eqv x y && PyData.eqvAll xs ys) := by simp [PyData.eqvAll]
theorem eqv_pq (p q : Int × Int) : PyData.eqv (pq p) (pq q) = decide (p = q) := by
  unfold pq
  rw [eqv_tup, eqvAll_cons, eqvAll_cons, eqvAll_nil, eqv_int, eqv_int]
  obtain ⟨a, b⟩ := p
  obtain ⟨c, d⟩ := q
  exact Bool.eq_iff_iff.mpr (by simp)
theorem rp_inj {x y : Rat} : rp x = rp y ↔ x = y := by
  unfold rp
  constructor
  · intro h
    simp only [Prod.mk.injEq] at h
    exact Rat.ext h.1 (by omega)
  · rintro rfl; rfl
theorem eqv_rd2 (x y : Rat) : PyData.eqv (rd x) (rd y) = decide (x = y) := by
  rw [rd_pq, rd_pq, eqv_pq]
  exact Bool.eq_iff_iff.mpr (by simp only [decide_eq_true_eq]; exact rp_inj)
theorem eqvAll_map {α : Type} (f g : α → PyData) (l : List α) : PyData.eqvAll (l.map f) (l.map g) = l.all fun a => PyData.eqv (f a) (g a) := by
  induction l with
  | nil => rw [List.map_nil, List.map_nil, eqvAll_nil]; rfl
  | cons a l ih => rw [List.map_cons, List.map_cons, eqvAll_cons, ih, List.all_cons]
theorem eqv_row (n : Nat) (x y : Nat → Rat) : PyData.eqv (.tuple (row n x)) (.tuple (row n y)) = decide (∀ i, i < n → x i = y i) := by
  unfold row
  rw [eqv_tup, eqvAll_map]
  exact Bool.eq_iff_iff.mpr (by simp [List.all_eq_true, eqv_rd2])
theorem eqv_mtx (n : Nat) (A B : Nat → Nat → Rat) : PyData.eqv (mtx n A) (mtx n B) = decide (∀ i, i < n → ∀ j, j < n → A i j = B i j) := by
  unfold mtx
  rw [eqv_tup, eqvAll_map]
  exact Bool.eq_iff_iff.mpr (by simp [List.all_eq_true, eqv_row])
theorem shaped_tup {ds : List PyData} (h : ∀ d ∈ ds, PyData.canLay0 d = true ∧ PyData.depth d ≤ 60) : PyData.canLay0 (.tuple ds) = true ∧ PyData.depth (.tuple ds) ≤ 61 := by
  have key : PyData.canLayAll0 ds = true ∧ PyData.depthAll ds ≤ 60 := by
    induction ds with
    | nil => exact ⟨rfl, by simp [PyData.depthAll]⟩
    | cons d ds ih =>
      obtain ⟨h1, h2⟩ := h d List.mem_cons_self
      obtain ⟨h3, h4⟩ := ih fun e he => h e (List.mem_cons_of_mem _ he)
      exact ⟨by simp [PyData.canLayAll0, h1, h3], by simp [PyData.depthAll]; omega⟩
  exact ⟨by simpa [PyData.canLay0] using key.1, by simp [PyData.depth]; omega⟩
end K00
set_option Elab.async false
set_option linter.all false
set_option maxRecDepth 100000
set_option maxHeartbeats 1000000
namespace K00
open PySem PySem.Spec PyProof.Rows L2 RZ DW Kx
set_option exponentiation.threshold 20000
local macro_rules | `(tactic| walk_at "dw") => `(tactic| dsimp only [wSeqS, wNext, wSet, wPar, wParN, setsR, wRet, wRetN, wRetV, wAsg, wIfS, wFor, wApp, wExt, wSetIx, wSetIx2, cFr, cIm, cNw, cNi, cN2, cCat, cNil, cCons, wVar, wC, wNil, wCons, wTup, wLst, wBin, wBT, wVT, wNotT, wAndT, wOrT, wAndV, wOrV, wNotV, wIf, wNeg, wCB, fI1, fI2, fInt2, fInt2C, fAdd, fSub, fMul, fDiv, fMod, fPow, fLt, fLe, fGt, fGe, fEq, fNe, fIs, fIsNot, fLen, fBools, fSeqTo, fIntOf, wIsi, wCall, Rv.toAr, wNCall, wN2Call, wOfN, wNLst, wNList, wSeq, wRng1, wRng2, wRngDown, wEnum, wZip, noOw_nil, noOw_no, noOw_ar, noOw_ow, noOw_ow2, wipeR, setR, allD, Option.map_some, Option.map_none, wExpr, wNever, fIx, wSl, wPart, wNoPart, wYes, tfName, tfTup, tfCons, tfNil, wRevT, fRep, wNRep, List.map_cons, List.map_nil, List.getElem?_cons_zero, List.getElem?_cons_succ, List.set_cons_zero, List.set_cons_succ, List.cons_append, List.nil_append, wLc, wLcN, wLc2, lcStep, lcStep2, cNd])

def Shp (k : Nat) (d : PyData) : Prop := PyData.canLay0 d = true ∧ PyData.depth d ≤ k
theorem shp_int (i : Int) : Shp 1 (.int i) := ⟨rfl, by simp [PyData.depth]⟩
theorem Shp.le {k l : Nat} {d : PyData} (h : Shp k d) (e : k ≤ l) : Shp l d := ⟨h.1, Nat.le_trans h.2 e⟩
theorem shp_tup {k : Nat} {ds : List PyData} (h : ∀ d ∈ ds, Shp k d) : Shp (k + 1) (.tuple ds) := by
  have key : PyData.canLayAll0 ds = true ∧ PyData.depthAll ds ≤ k := by
    induction ds with
    | nil => exact ⟨rfl, by simp [PyData.depthAll]⟩
    | cons d ds ih =>
      obtain ⟨h1, h2⟩ := h d List.mem_cons_self
      obtain ⟨h3, h4⟩ := ih fun e he => h e (List.mem_cons_of_mem _ he)
      exact ⟨by simp [PyData.canLayAll0, h1, h3], by simp [PyData.depthAll]; omega⟩
  exact ⟨by simpa [PyData.canLay0] using key.1, by simp [PyData.depth]; omega⟩
theorem Shp.ok {k : Nat} {d : PyData} (h : Shp k d) (e : k ≤ 64) : SeqAt.shaped d = true := by
  unfold SeqAt.shaped
  rw [Bool.and_eq_true]
  exact ⟨h.1, decide_eq_true (by have := h.2; omega)⟩
theorem shp_pq (p : Int × Int) : Shp 2 (pq p) := shp_tup fun d hd => by
  rcases List.mem_cons.mp hd with rfl | hd
  · exact shp_int _
  · rw [List.mem_singleton.mp hd]; exact shp_int _
theorem shp_pqs (ps : List (Int × Int)) : Shp 3 (.tuple (ps.map pq)) := shp_tup fun d hd => by
  obtain ⟨p, _, rfl⟩ := List.mem_map.mp hd
  exact shp_pq p
theorem shp_row (n : Nat) (f : Nat → Rat) : Shp 3 (.tuple (row n f)) := by rw [row_pq]; exact shp_pqs _
theorem shp_mtx (n : Nat) (A : Nat → Nat → Rat) : Shp 4 (mtx n A) := shp_tup fun d hd => by
  obtain ⟨i, _, rfl⟩ := List.mem_map.mp hd
  exact shp_row n _
/-! is_low -/
def okR (n : Nat) (ps : List (Int × Int)) : Bool := decide (ps.length = n) && ps.all isR
def vecR (n : Nat) (x : Nat → Rat) : List (Int × Int) := (List.range n).map fun j => rp (x j)
theorem okR_vec (n : Nat) (x : Nat → Rat) : okR n (vecR n x) = true := by
  unfold okR vecR
  rw [List.length_map, List.length_range, decide_eq_true rfl, Bool.true_and, List.all_map, List.all_eq_true]
  exact fun j _ => isR_rp _
def lowB (n : Nat) (A : Nat → Nat → Rat) (x : Nat → Rat) : Bool := !decide (∀ i, i < n → x i = 0) && decide (Wx n A x ≤ 0)
def S_is_low (xs : List Ar) (r : Rv) : Prop := ∃ (n : Nat) (A : Nat → Nat → Rat) (ps : List (Int × Int)), xs = [.d (mtx n A), .d (.tuple (ps.map pq))] ∧ n ≤ 12 ∧ Mat n A ∧ ps.length ≤ 1000 ∧
  ((okR n ps = false ∧ r = .d (.bool false)) ∨ (∃ x, ps = vecR n x ∧ Vec n x ∧ r = .d (.bool (lowB n A x))))
theorem flat_rep (k : Nat) (d : PyData) : (List.replicate k [d]).flatten = List.replicate k d := by
  induction k with
  | zero => rfl
  | succ k ih => rw [List.replicate_succ, List.flatten_cons, ih, List.replicate_succ]; rfl
theorem row_zero (n : Nat) : row n (fun _ => 0) = List.replicate n (rd 0) := by
  unfold row
  exact List.eq_replicate_iff.mpr ⟨by rw [List.length_map, List.length_range], fun b hb => by obtain ⟨_, _, rfl⟩ := List.mem_map.mp hb; rfl⟩
theorem p_is_low {xs : List Ar} {R : Rv → Prop} (h : det S_is_low xs R) : w_is_low (det S_are_ratios) (det S_worth_of) (startR N_is_low.length xs) { nx := fun _ => R (.d .none), rt := R } := by
  obtain ⟨r, ⟨n, A, ps, rfl, hn, hA, hps, hr⟩, h⟩ := h
  have st : startR N_is_low.length [.d (mtx n A), .d (.tuple (ps.map pq))] = [.d (mtx n A), .d (.tuple (ps.map pq))] := rfl
  rw [st]
  unfold w_is_low mtx
  walk_at "dw"
  have hl : ((List.range n).map fun i => PyData.tuple (row n (A i))).length = n := by rw [List.length_map, List.length_range]
  rw [hl]
  refine ⟨_, ⟨ps, n, rfl, by omega, rfl⟩, ?_⟩
  rcases hr with ⟨hf, rfl⟩ | ⟨x, rfl, hx, rfl⟩
  · unfold okR at hf
    rw [hf]
    exact h
  · have ht := okR_vec n x
    unfold okR at ht
    rw [ht]
    have ev : (vecR n x).map pq = row n x := by rw [row_pq]; rfl
    rw [ev]
    have e1 : (n : Int).toNat = n := by omega
    have e2 : (List.replicate (n : Int).toNat [PyData.tuple [.int 0, .int 1]]).flatten = row n fun _ => 0 := by
      rw [e1, flat_rep, row_zero]; rfl
    refine ⟨⟨by simp, by omega, by omega, by decide⟩, (shp_row n x).ok (by decide), ?_⟩
    rw [e2]
    refine ⟨(shp_row n _).ok (by decide), ?_⟩
    rw [eqv_row]
    unfold lowB at h
    by_cases c : ∀ i, i < n → x i = 0
    · rw [decide_eq_true c] at h ⊢
      exact h
    · rw [decide_eq_false c] at h ⊢
      refine ⟨_, ⟨n, A, x, rfl, hn, hA, hx, rfl⟩, ?_⟩
      refine ⟨_, rd_num _, ?_⟩
      have e3 : decide ((Wx n A x).num ≤ 0) = decide (Wx n A x ≤ 0) := Bool.eq_iff_iff.mpr (by simp only [decide_eq_true_eq]; exact num_le _)
      dsimp only
      rw [e3]
      exact h
/-! are_factors -/
def Lw (n : Nat) (L : Nat → Nat → Rat) : Bool := decide (∀ i, i < n → L i i = 1 ∧ ∀ j, j < n → i < j → L i j = 0)
def facB (n : Nat) (A : Nat → Nat → Rat) (L : Nat → Nat → Rat) (D : Nat → Rat) : Bool := decide (∀ i, i < n → 0 < D i) && (Lw n L && decide (∀ i, i < n → ∀ j, j ≤ i → sumN (j + 1) (fun b => L i b * D b * L j b) = A i j))
def FL (n : Nat) (L : Nat → Nat → Rat) (D : Nat → Rat) : Prop := (∀ i j, i < n → j < n → Fr 6 12 (L i j)) ∧ ∀ i, i < n → Fr 6 18 (D i)
def rowsD (rows : List (List (Int × Int))) : List PyData := rows.map fun r => .tuple (r.map pq)
def S_are_factors (xs : List Ar) (r : Rv) : Prop := ∃ (n : Nat) (A : Nat → Nat → Rat) (low : PyData) (piv : List (Int × Int)), xs = [.d (mtx n A), .d low, .d (.tuple (piv.map pq))] ∧ n ≤ 12 ∧ Mat n A ∧ piv.length ≤ 1000 ∧
  ((∃ ds, low = .list ds ∧ r = .d (.bool false)) ∨
   (∃ rows : List (List (Int × Int)), low = .tuple (rowsD rows) ∧ rows.length = n ∧ (∀ r ∈ rows, r.length ≤ 1000) ∧ rows.all (okR n) = false ∧ r = .d (.bool false)) ∨
   (∃ L D, low = .tuple ((List.range n).map fun i => .tuple (row n (L i))) ∧ piv = vecR n D ∧ FL n L D ∧ r = .d (.bool (facB n A L D))))
theorem any_map_bool (l : List Bool) : l.any id = true ↔ true ∈ l := by
  rw [List.any_eq_true]
  constructor
  · rintro ⟨b, hb, e⟩
    have e : b = true := e
    rw [e] at hb; exact hb
  · exact fun h => ⟨true, h, rfl⟩
theorem row_drop {n k : Nat} (f : Nat → Rat) (d : PyData) : d ∈ (row n f).drop k → ∃ j, k ≤ j ∧ j < n ∧ d = rd (f j) := fun h => by
  obtain ⟨i, hi⟩ := List.mem_iff_getElem?.mp h
  rw [List.getElem?_drop] at hi
  have hlt := (List.getElem?_eq_some_iff.mp hi).1
  rw [row_len] at hlt
  rw [row_at f hlt] at hi
  exact ⟨k + i, by omega, hlt, (Option.some.inj hi).symm⟩
theorem row_drop' {n k j : Nat} (f : Nat → Rat) (h1 : k ≤ j) (h2 : j < n) : rd (f j) ∈ (row n f).drop k := by
  refine List.mem_iff_getElem?.mpr ⟨j - k, ?_⟩
  rw [List.getElem?_drop, show k + (j - k) = j by omega, row_at f h2]
def entB : PyData → Bool
  | .tuple [.int a, .int b] => isR (a, b)
  | _ => false
def rowB (n : Nat) : PyData → Bool
  | .tuple ds => decide (ds.length = n) && ds.all entB
  | _ => false
theorem rowB_ok (n : Nat) (r : List (Int × Int)) : rowB n (.tuple (r.map pq)) = okR n r := by
  show (decide ((r.map pq).length = n) && (r.map pq).all entB) = _
  unfold okR
  rw [List.length_map, List.all_map]; rfl
theorem cut_row (n k : Nat) (f : Nat → Rat) (h : k < n) : DW.cutD (row n f) (some ((k : Int) + 1)) none = (row n f).drop (k + 1) := by
  unfold DW.cutD HT.sIx
  rw [row_len]
  dsimp only
  rw [if_neg (by omega)]
  have e : ((k : Int) + 1).toNat = k + 1 := by omega
  rw [e, Nat.min_eq_left (by omega)]
  exact List.take_of_length_le (by rw [List.length_drop, row_len]; omega)
theorem FL.sz {n : Nat} {L : Nat → Nat → Rat} {D : Nat → Rat} (g : FL n L D) {i j b : Nat} (hi : i < n) (hj : j < n) (hb : b < n) : Sz (L i b) ∧ Sz (D b) ∧ Sz (L i b * D b) ∧ Sz (L j b) ∧ Fr 216 2592 (L i b * D b * L j b) :=
  ⟨Sz.of (g.1 i b hi hb) (by decide) (by decide), Sz.of (g.2 b hb) (by decide) (by decide), Sz.of ((g.1 i b hi hb).mul (g.2 b hb)) (by decide) (by decide), Sz.of (g.1 j b hj hb) (by decide) (by decide), ((g.1 i b hi hb).mul (g.2 b hb)).mul (g.1 j b hj hb)⟩
theorem p_are_factors {xs : List Ar} {R : Rv → Prop} (h : det S_are_factors xs R) : w_are_factors (det S_are_ratios) (det S_multiplied) (det S_total) (startR N_are_factors.length xs) { nx := fun _ => R (.d .none), rt := R } := by
  obtain ⟨r, ⟨n, A, low, piv, rfl, hn, hA, hpl, hr⟩, h⟩ := h
  have st : startR N_are_factors.length [.d (mtx n A), .d low, .d (.tuple (piv.map pq))] = [.d (mtx n A), .d low, .d (.tuple (piv.map pq)), .no, .no, .no, .no, .no, .no, .no, .no] := rfl
  rw [st]
  unfold w_are_factors mtx
  walk_at "dw"
  have hl : ((List.range n).map fun i => PyData.tuple (row n (A i))).length = n := by rw [List.length_map, List.length_range]
  rw [hl]
  have nsh : ∀ a b : Int, SeqAt.shaped (.int a) = true ∧ SeqAt.shaped (.int b) = true := fun a b => ⟨rfl, rfl⟩
  rcases hr with ⟨ds, rfl, rfl⟩ | ⟨rows, rfl, hrl, hrs, hrf, rfl⟩ | ⟨L, D, rfl, rfl, g, rfl⟩
  · rw [isiTL]
    exact h
  · rw [isiTT]
    unfold rowsD
    refine ⟨rfl, rfl, ?_⟩
    rw [List.length_map, hrl, all_eqv, decide_eq_true rfl]
    refine ⟨by rw [List.length_map]; omega, ?_⟩
    refine comp_map (f := fun d => .bool (rowB n d)) _ _ (fun d hd acc k hk => ?_) ?_
    · obtain ⟨r, hr, rfl⟩ := List.mem_map.mp hd
      refine ⟨_, ⟨r, n, rfl, by have := hrs r hr; omega, rfl⟩, ?_⟩
      rw [rowB_ok] at hk
      exact hk
    · rw [List.nil_append, List.map_map]
      have e : rows.map ((fun d => PyData.bool (rowB n d)) ∘ fun r => PyData.tuple (r.map pq)) = (rows.map (okR n)).map PyData.bool := by
        rw [List.map_map]
        exact List.map_congr_left fun r _ => congrArg PyData.bool (rowB_ok n r)
      rw [e, allB_map]
      dsimp only
      rw [List.all_map, show (id ∘ okR n) = okR n from rfl, hrf]
      exact h
  · rw [isiTT]
    refine ⟨rfl, rfl, ?_⟩
    have hl2 : ((List.range n).map fun i => PyData.tuple (row n (L i))).length = n := by rw [List.length_map, List.length_range]
    rw [hl2, all_eqv, decide_eq_true rfl]
    refine ⟨by omega, ?_⟩
    refine comp_rng (f := fun _ => .bool true) (fun i hi acc k hk => ?_) ?_
    · have ht := okR_vec n (L i)
      unfold okR at ht
      refine ⟨_, ⟨vecR n (L i), n, by rw [row_pq]; rfl, by unfold vecR; rw [List.length_map, List.length_range]; omega, rfl⟩, ?_⟩
      rw [ht]
      exact hk
    have e1 : ((List.range n).map fun _ => PyData.bool true) = ((List.range n).map fun _ => true).map PyData.bool := by rw [List.map_map]; rfl
    rw [e1, allB_map]
    dsimp only
    rw [allB_true _ (by simp)]
    have hv := okR_vec n D
    unfold okR at hv
    refine ⟨_, ⟨vecR n D, n, rfl, by omega, rfl⟩, ?_⟩
    rw [hv]
    have ev : (vecR n D).map pq = row n D := by rw [row_pq]; rfl
    rw [ev]
    refine ⟨by rw [row_len]; omega, ?_⟩
    refine comp_rng (f := fun i => .bool (decide ((D i).num ≤ 0))) (fun i hi acc k hk => ⟨_, rd_num _, hk⟩) ?_
    have e2 : ((List.range n).map fun i => PyData.bool (decide ((D i).num ≤ 0))) = ((List.range n).map fun i => decide ((D i).num ≤ 0)).map PyData.bool := by rw [List.map_map]; rfl
    rw [e2, allB_map]
    dsimp only
    unfold facB at h
    by_cases c : ∀ i, i < n → 0 < D i
    · rw [decide_eq_true c, Bool.true_and] at h
      have e3 : ((List.range n).map fun i => decide ((D i).num ≤ 0)).any id = false := by
        rw [List.any_map, List.any_eq_false]
        intro i hi
        have := c i (List.mem_range.mp hi)
        have z : ¬ (D i).num ≤ 0 := fun z => absurd this (Rat.not_lt.mpr ((num_le _).mp z))
        simp only [Function.comp, id, decide_eq_true_eq]; exact z
      rw [e3]
      refine ⟨⟨by omega, by omega⟩, ?_⟩
      have e4 : (n : Int).toNat = n := by omega
      rw [e4]
      refine ⟨by rw [rngD_length]; omega, ?_⟩
      rw [rngD0]
      have hb : (Lw n L && decide (∀ i, i < n → ∀ j, j ≤ i → sumN (j + 1) (fun b => L i b * D b * L j b) = A i j)) = decide (∀ i, i < n → (L i i = 1 ∧ (∀ j, j < n → i < j → L i j = 0)) ∧ ∀ j, j ≤ i → sumN (j + 1) (fun b => L i b * D b * L j b) = A i j) := by
        unfold Lw
        refine Bool.eq_iff_iff.mpr ?_
        rw [Bool.and_eq_true]
        simp only [decide_eq_true_eq]
        exact ⟨fun ⟨a, b⟩ i hi => ⟨a i hi, b i hi⟩, fun a => ⟨fun i hi => (a i hi).1, fun i hi => (a i hi).2⟩⟩
      rw [hb] at h
      have bad : ∀ i, i < n → ¬ ((L i i = 1 ∧ (∀ j, j < n → i < j → L i j = 0)) ∧ ∀ j, j ≤ i → sumN (j + 1) (fun b => L i b * D b * L j b) = A i j) → R (.d (.bool false)) := fun i hi z => by
        rw [decide_eq_false (fun y => z (y i hi))] at h
        exact h
      have ev3 : (vecR n D).map pq = row n D := ev
      refine forW_ind (fun i ρ => (∀ i', i' < i → (L i' i' = 1 ∧ (∀ j, j < n → i' < j → L i' j = 0)) ∧ ∀ j, j ≤ i' → sumN (j + 1) (fun b => L i' b * D b * L j b) = A i' j) ∧ ∃ z4 z5 z6 z7 z8 z9 z10, ρ = [.d (.tuple ((List.range n).map fun i => .tuple (row n (A i)))), .d (.tuple ((List.range n).map fun i => .tuple (row n (L i)))), .d (.tuple (row n D)), .d (.int (n : Int)), z4, z5, z6, z7, z8, z9, z10]) (fun i d ρ k hd hI hk => ?_) (fun ρ hI => ?_) ⟨fun m hm => absurd hm (Nat.not_lt_zero _), _, _, _, _, _, _, _, rfl⟩
      · obtain ⟨hpr, z4, z5, z6, z7, z8, z9, z10, rfl⟩ := hI
        rw [List.getElem?_map, Option.map_eq_some_iff] at hd
        obtain ⟨i', hi', rfl⟩ := hd
        obtain ⟨h1, h2⟩ := List.getElem?_eq_some_iff.mp hi'
        rw [List.length_range] at h1
        rw [List.getElem_range] at h2
        subst h2
        refine ⟨_, rfl, ?_⟩
        walk_at "dw"
        refine ⟨_, atI_nat (rows_at L h1), _, atI_nat (row_at _ h1), shaped_rd _, rfl, ?_⟩
        rw [show PyData.eqv (rd (L i i)) (.tuple [.int 1, .int 1]) = decide (L i i = 1) from eqv_rd2 (L i i) 1]
        by_cases c1 : L i i = 1
        · rw [decide_eq_true c1]
          refine ⟨_, atI_nat (rows_at L h1), ?_⟩
          dsimp only
          rw [cut_row n i (L i) h1]
          refine ⟨by rw [List.length_drop, row_len]; omega, ?_⟩
          refine comp_map (f := fun d => .bool (!PyData.eqv d (rd 0))) _ _ (fun d hd acc k2 hk2 => ?_) ?_
          · obtain ⟨j, _, _, rfl⟩ := row_drop _ _ hd
            exact ⟨shaped_rd _, rfl, hk2⟩
          · rw [List.nil_append]
            have e5 : ((row n (L i)).drop (i + 1)).map (fun d => PyData.bool (!PyData.eqv d (rd 0))) = (((row n (L i)).drop (i + 1)).map fun d => !PyData.eqv d (rd 0)).map PyData.bool := by rw [List.map_map]; rfl
            rw [e5, allB_map]
            dsimp only
            by_cases c2 : ∀ j, j < n → i < j → L i j = 0
            · have e6 : (((row n (L i)).drop (i + 1)).map fun d => !PyData.eqv d (rd 0)).any id = false := by
                rw [List.any_map, List.any_eq_false]
                intro d hd
                obtain ⟨j, hj1, hj2, rfl⟩ := row_drop _ _ hd
                simp only [Function.comp, id, eqv_rd2]
                rw [c2 j hj2 (by omega)]; simp
              rw [e6]
              refine ⟨⟨by omega, by omega⟩, ?_⟩
              have e7 : ((i : Int) + 1).toNat = i + 1 := by omega
              rw [e7]
              refine ⟨by rw [rngD_length]; omega, ?_⟩
              rw [rngD0]
              refine forW_ind (fun t ρ => (∀ j, j < t → sumN (j + 1) (fun b => L i b * D b * L j b) = A i j) ∧ ∃ z5 z6 z7 z8 z9 z10, ρ = [.d (.tuple ((List.range n).map fun i => .tuple (row n (A i)))), .d (.tuple ((List.range n).map fun i => .tuple (row n (L i)))), .d (.tuple (row n D)), .d (.int (n : Int)), .d (.int (i : Nat)), z5, z6, z7, z8, z9, z10]) (fun t d ρ k3 hd hI hk3 => ?_) (fun ρ hI => ?_) ⟨fun m hm => absurd hm (Nat.not_lt_zero _), _, _, _, _, _, _, rfl⟩
              · obtain ⟨hsum, z5, z6, z7, z8, z9, z10, rfl⟩ := hI
                rw [List.getElem?_map, Option.map_eq_some_iff] at hd
                obtain ⟨t', ht', rfl⟩ := hd
                obtain ⟨h3, h4⟩ := List.getElem?_eq_some_iff.mp ht'
                rw [List.length_range] at h3
                rw [List.getElem_range] at h4
                subst h4
                refine ⟨_, rfl, ?_⟩
                walk_at "dw"
                have e8 : ((t : Int) + 1).toNat = t + 1 := by omega
                rw [e8]
                refine ⟨⟨by omega, by omega⟩, by rw [rngD_length]; omega, ?_⟩
                rw [rngD0]
                have htn : t < n := by omega
                refine comp_rng (f := fun b => rd (L i b * D b * L t b)) (fun b hb acc k4 hk4 => ?_) ?_
                · have hbn : b < n := by omega
                  obtain ⟨s1, s2, s3, s4, _⟩ := g.sz h1 htn hbn
                  exact ⟨_, atI_nat (rows_at L h1), _, atI_nat (row_at _ hbn), _, atI_nat (row_at _ hbn), _, ⟨_, _, rfl, s1, s2, rfl⟩, _, atI_nat (rows_at L htn), _, atI_nat (row_at _ hbn), _, ⟨_, _, rfl, s3, s4, rfl⟩, hk4⟩
                · refine ⟨_, total_row (N := 216) (K := 2592) (n := t + 1) (f := fun b => L i b * D b * L t b) (by decide) (by omega) (fun b hb => (g.sz h1 htn (by omega)).2.2.2.2) (by decide) (by decide), ?_⟩
                  refine ⟨_, atI_nat (rows_at A h1), _, atI_nat (row_at _ htn), shaped_rd _, shaped_rd _, ?_⟩
                  rw [eqv_rd2]
                  by_cases c3 : sumN (t + 1) (fun b => L i b * D b * L t b) = A i t
                  · rw [decide_eq_true c3]
                    refine hk3 _ ⟨fun j hj => ?_, _, _, _, _, _, _, rfl⟩
                    by_cases z : j = t
                    · subst z; exact c3
                    · exact hsum j (by omega)
                  · rw [decide_eq_false c3]
                    exact bad i h1 fun y => c3 (y.2 t (by omega))
              · rw [List.length_map, List.length_range] at hI
                obtain ⟨hsum, z5, z6, z7, z8, z9, z10, rfl⟩ := hI
                refine hk _ ⟨fun j hj => ?_, _, _, _, _, _, _, _, rfl⟩
                by_cases z : j = i
                · subst z; exact ⟨⟨c1, c2⟩, fun j hj => hsum j (by omega)⟩
                · exact hpr j (by omega)
            · have e6 : (((row n (L i)).drop (i + 1)).map fun d => !PyData.eqv d (rd 0)).any id = true := by
                rw [List.any_map, List.any_eq_true]
                refine Classical.byContradiction fun z => c2 fun j hj1 hj2 => Classical.byContradiction fun y => z ⟨rd (L i j), row_drop' _ (by omega) hj1, ?_⟩
                show (!PyData.eqv (rd (L i j)) (rd 0)) = true
                rw [eqv_rd2, decide_eq_false y]; rfl
              rw [e6]
              exact bad i h1 fun y => c2 y.1.2
        · rw [decide_eq_false c1]
          exact bad i h1 fun y => c1 y.1.1
      · rw [List.length_map, List.length_range] at hI
        obtain ⟨hpr, z4, z5, z6, z7, z8, z9, z10, rfl⟩ := hI
        rw [decide_eq_true (fun i hi => hpr i hi)] at h
        exact h
    · rw [decide_eq_false c, Bool.false_and] at h
      have e3 : ((List.range n).map fun i => decide ((D i).num ≤ 0)).any id = true := by
        rw [List.any_map, List.any_eq_true]
        refine Classical.byContradiction fun z => c fun i hi => Classical.byContradiction fun y => z ⟨i, List.mem_range.mpr hi, ?_⟩
        exact decide_eq_true ((num_le _).mpr (Rat.not_lt.mp y))
      rw [e3]
      exact h
end K00
set_option Elab.async false
set_option linter.all false
set_option maxRecDepth 100000
set_option maxHeartbeats 1000000
namespace K00
open PySem PySem.Spec PyProof.Rows L2 RZ DW Kx
set_option exponentiation.threshold 20000
local macro_rules | `(tactic| walk_at "dw") => `(tactic| dsimp only [wSeqS, wNext, wSet, wPar, wParN, setsR, wRet, wRetN, wRetV, wAsg, wIfS, wFor, wApp, wExt, wSetIx, wSetIx2, cFr, cIm, cNw, cNi, cN2, cCat, cNil, cCons, wVar, wC, wNil, wCons, wTup, wLst, wBin, wBT, wVT, wNotT, wAndT, wOrT, wAndV, wOrV, wNotV, wIf, wNeg, wCB, fI1, fI2, fInt2, fInt2C, fAdd, fSub, fMul, fDiv, fMod, fPow, fLt, fLe, fGt, fGe, fEq, fNe, fIs, fIsNot, fLen, fBools, fSeqTo, fIntOf, wIsi, wCall, Rv.toAr, wNCall, wN2Call, wOfN, wNLst, wNList, wSeq, wRng1, wRng2, wRngDown, wEnum, wZip, noOw_nil, noOw_no, noOw_ar, noOw_ow, noOw_ow2, wipeR, setR, allD, Option.map_some, Option.map_none, wExpr, wNever, fIx, wSl, wPart, wNoPart, wYes, tfName, tfTup, tfCons, tfNil, wRevT, fRep, wNRep, List.map_cons, List.map_nil, List.getElem?_cons_zero, List.getElem?_cons_succ, List.set_cons_zero, List.set_cons_succ, List.cons_append, List.nil_append, wLc, wLcN, wLc2, lcStep, lcStep2, cNd])

def S_is_sign_paper (xs : List Ar) (r : Rv) : Prop := ∃ (n : Nat) (A : Nat → Nat → Rat) (v : PyData), xs = [.d (mtx n A), .d v] ∧ n ≤ 12 ∧ Mat n A ∧
  ((v = .none ∧ r = .d (.bool false)) ∨ (∃ low, v = .tuple [.str "positive", low] ∧ r = .d (.bool false)) ∨
   (∃ x, v = .tuple [.str "other", x] ∧ S_is_low [.d (mtx n A), .d x] r ∧ ∃ b, r = .d (.bool b)) ∨
   (∃ low piv, v = .tuple [.str "positive", low, piv] ∧ S_are_factors [.d (mtx n A), .d low, .d piv] r ∧ ∃ b, r = .d (.bool b)))
theorem eqv_po : PyData.eqv (.str "positive") (.str "other") = false := by simp [PyData.eqv]; decide +kernel
theorem eqv_oo : PyData.eqv (.str "other") (.str "other") = true := by simp [PyData.eqv]
theorem eqv_pp : PyData.eqv (.str "positive") (.str "positive") = true := by simp [PyData.eqv]
theorem sh_str : SeqAt.shaped (.str "positive") = true ∧ SeqAt.shaped (.str "other") = true := by decide +kernel
theorem p_is_sign_paper {xs : List Ar} {R : Rv → Prop} (h : det S_is_sign_paper xs R) : w_is_sign_paper (det S_need_matrix) (det S_is_low) (det S_are_factors) (startR N_is_sign_paper.length xs) { nx := fun _ => R (.d .none), rt := R } := by
  obtain ⟨r, ⟨n, A, v, rfl, hn, hA, hr⟩, h⟩ := h
  have st : startR N_is_sign_paper.length [.d (mtx n A), .d v] = [.d (mtx n A), .d v] := rfl
  rw [st]
  unfold w_is_sign_paper
  walk_at "dw"
  refine ⟨_, ⟨n, A, rfl, by omega, hA.2, rfl⟩, ?_⟩
  rcases hr with ⟨rfl, rfl⟩ | ⟨low, rfl, rfl⟩ | ⟨x, rfl, hs, b, rfl⟩ | ⟨low, piv, rfl, hs, b, rfl⟩
  · exact h
  · rw [isiTT]
    refine ⟨rfl, rfl, ?_⟩
    refine ⟨.str "positive", rfl, ?_⟩
    refine ⟨rfl, rfl, ?_⟩
    rw [eqv_int, decide_eq_true (show (([PyData.str "positive", low].length : Nat) : Int) = 2 from rfl)]
    refine ⟨.str "positive", rfl, sh_str.1, sh_str.2, ?_⟩
    rw [eqv_po]
    exact h
  · rw [isiTT]
    refine ⟨rfl, rfl, ?_⟩
    refine ⟨.str "other", rfl, ?_⟩
    refine ⟨rfl, rfl, ?_⟩
    rw [eqv_int, decide_eq_true (show (([PyData.str "other", x].length : Nat) : Int) = 2 from rfl)]
    refine ⟨.str "other", rfl, sh_str.2, sh_str.2, ?_⟩
    rw [eqv_oo]
    exact ⟨x, rfl, _, hs, h⟩
  · rw [isiTT]
    refine ⟨rfl, rfl, ?_⟩
    refine ⟨.str "positive", rfl, ?_⟩
    refine ⟨rfl, rfl, ?_⟩
    rw [eqv_int, decide_eq_false (show ¬ (([PyData.str "positive", low, piv].length : Nat) : Int) = 2 from by show ¬ (3 : Int) = 2; decide)]
    refine ⟨.str "positive", rfl, sh_str.1, sh_str.1, ?_⟩
    rw [eqv_pp]
    exact ⟨low, rfl, piv, rfl, _, hs, h⟩
end K00
set_option Elab.async false
set_option linter.all false
set_option maxRecDepth 100000
set_option maxHeartbeats 1000000
namespace K00
open PySem PySem.Spec PyProof.Rows L2 RZ DW Kx
set_option exponentiation.threshold 20000
local macro_rules | `(tactic| walk_at "dw") => `(tactic| dsimp only [wSeqS, wNext, wSet, wPar, wParN, setsR, wRet, wRetN, wRetV, wAsg, wIfS, wFor, wApp, wExt, wSetIx, wSetIx2, cFr, cIm, cNw, cNi, cN2, cCat, cNil, cCons, wVar, wC, wNil, wCons, wTup, wLst, wBin, wBT, wVT, wNotT, wAndT, wOrT, wAndV, wOrV, wNotV, wIf, wNeg, wCB, fI1, fI2, fInt2, fInt2C, fAdd, fSub, fMul, fDiv, fMod, fPow, fLt, fLe, fGt, fGe, fEq, fNe, fIs, fIsNot, fLen, fBools, fSeqTo, fIntOf, wIsi, wCall, Rv.toAr, wNCall, wN2Call, wOfN, wNLst, wNList, wSeq, wRng1, wRng2, wRngDown, wEnum, wZip, noOw_nil, noOw_no, noOw_ar, noOw_ow, noOw_ow2, wipeR, setR, allD, Option.map_some, Option.map_none, wExpr, wNever, fIx, wSl, wPart, wNoPart, wYes, tfName, tfTup, tfCons, tfNil, wRevT, fRep, wNRep, List.map_cons, List.map_nil, List.getElem?_cons_zero, List.getElem?_cons_succ, List.set_cons_zero, List.set_cons_succ, List.cons_append, List.nil_append, wLc, wLcN, wLc2, lcStep, lcStep2, cNd])

/-! the law's own fractions -/
def S_is_truth (xs : List Ar) (r : Rv) : Prop := ∃ a b : Bool, xs = [.d (.bool a), .d (.bool b)] ∧ r = .d (.bool (a == b))
theorem p_is_truth {xs : List Ar} {R : Rv → Prop} (h : det S_is_truth xs R) : w__law_is_truth (startR N__law_is_truth.length xs) { nx := fun _ => R (.d .none), rt := R } := by
  obtain ⟨r, ⟨a, b, rfl, rfl⟩, h⟩ := h
  cases a <;> cases b <;> exact h
def S_is_whole (xs : List Ar) (r : Rv) : Prop := ∃ a : Int, xs = [.d (.int a)] ∧ r = .d (.bool true)
theorem p_is_whole {xs : List Ar} {R : Rv → Prop} (h : det S_is_whole xs R) : w__law_is_whole (startR N__law_is_whole.length xs) { nx := fun _ => R (.d .none), rt := R } := by
  obtain ⟨r, ⟨a, rfl, rfl⟩, h⟩ := h
  exact h
def S_fr_of (xs : List Ar) (r : Rv) : Prop := ∃ u l : Int, xs = [.d (.int u), .d (.int l)] ∧ l ≠ 0 ∧ l.natAbs < 2 ^ 8900 ∧ r = .d (rd ((u : Rat) / (l : Rat)))
theorem iAbs_nat (i : Int) : iAbs i = (i.natAbs : Int) := by unfold iAbs; split <;> omega
theorem fdiv_neg_sign {u g : Int} (hg : g ≠ 0) (h : g ∣ u) : 0 - u.fdiv g = u.fdiv (-1 * g) := by
  obtain ⟨c, rfl⟩ := h
  rw [fdiv_exact (a := g * c) (c := c) hg (by rw [Int.mul_comm]), fdiv_exact (a := g * c) (b := -1 * g) (c := -c) (by omega) (by grind)]
  omega
theorem p_fr_of {xs : List Ar} {R : Rv → Prop} (h : det S_fr_of xs R) : w__law_fr_of (startR N__law_fr_of.length xs) { nx := fun _ => R (.d .none), rt := R } := by
  obtain ⟨r, ⟨u, l, rfl, hl, hb, rfl⟩, h⟩ := h
  have st : startR N__law_fr_of.length [.d (.int u), .d (.int l)] = [.d (.int u), .d (.int l), .no, .no] := rfl
  rw [st]
  unfold w__law_fr_of
  walk_at "dw"
  rw [iAbs_nat, iAbs_nat]
  refine ⟨fun m ρ => ∃ a b : Nat, m = b ∧ Nat.gcd a b = Nat.gcd u.natAbs l.natAbs ∧ ρ = [.d (.int u), .d (.int l), .d (.int (a : Int)), .d (.int (b : Int))], ⟨_, u.natAbs, l.natAbs, rfl, rfl, rfl⟩, ?_⟩
  rintro b ρ ⟨a, b', rfl, hg, rfl⟩
  walk_at "dw"
  by_cases c : b = 0
  · subst c
    rw [Nat.gcd_zero_right] at hg
    subst hg
    have hgp : 0 < Nat.gcd u.natAbs l.natAbs := Nat.gcd_pos_of_pos_right _ (by omega)
    have hlt : ((Nat.gcd u.natAbs l.natAbs : Nat) : Int).natAbs < 2 ^ 8900 := by rw [Int.natAbs_natCast]; exact Nat.lt_of_le_of_lt (Nat.gcd_le_right _ (by omega)) hb
    have cd : ∀ x, CDivA x ((Nat.gcd u.natAbs l.natAbs : Nat) : Int) := fun x => cdiv (by omega) hlt (by decide) (by decide)
    obtain ⟨e1, e2, e3⟩ := lowPair (u := u) (l := l) (s := if 0 < l then 1 else -1) hl rfl
    have d1 : ((Nat.gcd u.natAbs l.natAbs : Nat) : Int) ∣ u := Int.gcd_dvd_left ..
    have d2 : ((Nat.gcd u.natAbs l.natAbs : Nat) : Int) ∣ l := Int.gcd_dvd_right ..
    rw [decide_eq_false (show ¬ (0 : Int) < ((0 : Nat) : Int) by omega)]
    by_cases c2 : 0 < l
    · rw [if_pos c2, Int.one_mul] at e1 e2
      rw [decide_eq_true c2]
      refine ⟨cd _, cd _, ?_⟩
      rw [e1, e2]
      exact h
    · rw [if_neg c2] at e1 e2
      rw [decide_eq_false c2]
      refine ⟨cd _, cd _, ?_⟩
      rw [fdiv_neg_sign (by omega) d1, fdiv_neg_sign (by omega) d2, e1, e2]
      exact h
  · rw [decide_eq_true (show (0 : Int) < ((b : Nat) : Int) by omega)]
    refine ⟨by omega, a % b, Nat.mod_lt _ (by omega), b, a % b, rfl, ?_, ?_⟩
    · rw [← hg, Nat.gcd_comm b, ← Nat.gcd_rec, Nat.gcd_comm]
    · have : ((a : Int)).fmod (b : Int) = ((a % b : Nat) : Int) := by
        rw [Int.fmod_eq_emod_of_nonneg _ (by omega)]; rfl
      rw [this]
abbrev S_fr_less := S_two fun x y => x - y
abbrev S_fr_times := S_two fun x y => x * y
theorem p_fr_less {xs : List Ar} {R : Rv → Prop} (h : det S_fr_less xs R) : w__law_fr_less (det S_fr_of) (startR N__law_fr_less.length xs) { nx := fun _ => R (.d .none), rt := R } := by
  obtain ⟨r, ⟨x, y, rfl, hx, hy, rfl⟩, h⟩ := h
  have st : startR N__law_fr_less.length [.d (rd x), .d (rd y)] = [.d (rd x), .d (rd y)] := rfl
  rw [st]
  unfold w__law_fr_less
  refine ⟨.int x.num, rfl, .int (y.den : Int), rfl, cm hx.num hy.den, .int y.num, rfl, .int (x.den : Int), rfl, cm hy.num hx.den, .int (x.den : Int), rfl, .int (y.den : Int), rfl, cm hx.den hy.den, _, ⟨_, _, rfl, ?_, ?_, rfl⟩, ?_⟩
  · exact Int.mul_ne_zero (den_ne x) (den_ne y)
  · exact Nat.lt_of_lt_of_le (nmul_lt hx.den hy.den) (Nat.pow_le_pow_right (by decide) (by decide))
  · have e : ((x.num * (y.den : Int) - y.num * (x.den : Int) : Int) : Rat) / (((x.den : Int) * (y.den : Int) : Int) : Rat) = x - y := by
      have h1 := denR x
      have h2 := denR y
      refine divE (by rw [Rat.intCast_mul]; exact fun z => (Rat.mul_eq_zero.mp z).elim h1 h2) ?_
      rw [Rat.intCast_sub, Rat.intCast_mul, Rat.intCast_mul, Rat.intCast_mul, num_eq x, num_eq y]
      grind
    show R (.d (rd (((x.num * (y.den : Int) - y.num * (x.den : Int) : Int) : Rat) / (((x.den : Int) * (y.den : Int) : Int) : Rat))))
    rw [e]; exact h
theorem p_fr_times {xs : List Ar} {R : Rv → Prop} (h : det S_fr_times xs R) : w__law_fr_times (det S_fr_of) (startR N__law_fr_times.length xs) { nx := fun _ => R (.d .none), rt := R } := by
  obtain ⟨r, ⟨x, y, rfl, hx, hy, rfl⟩, h⟩ := h
  have st : startR N__law_fr_times.length [.d (rd x), .d (rd y)] = [.d (rd x), .d (rd y)] := rfl
  rw [st]
  unfold w__law_fr_times
  refine ⟨.int x.num, rfl, .int y.num, rfl, cm hx.num hy.num, .int (x.den : Int), rfl, .int (y.den : Int), rfl, cm hx.den hy.den, _, ⟨_, _, rfl, ?_, ?_, rfl⟩, ?_⟩
  · exact Int.mul_ne_zero (den_ne x) (den_ne y)
  · exact Nat.lt_of_lt_of_le (nmul_lt hx.den hy.den) (Nat.pow_le_pow_right (by decide) (by decide))
  · have e : ((x.num * y.num : Int) : Rat) / (((x.den : Int) * (y.den : Int) : Int) : Rat) = x * y := by
      have h1 := denR x
      have h2 := denR y
      refine divE (by rw [Rat.intCast_mul]; exact fun z => (Rat.mul_eq_zero.mp z).elim h1 h2) ?_
      rw [Rat.intCast_mul, Rat.intCast_mul, num_eq x, num_eq y]
      grind
    show R (.d (rd (((x.num * y.num : Int) : Rat) / (((x.den : Int) * (y.den : Int) : Int) : Rat))))
    rw [e]; exact h
/-! sums that are brought down at the end -/
def prodDen : List Rat → Nat
  | [] => 1
  | x :: xs => x.den * prodDen xs
theorem prodDen_pos (xs : List Rat) : 0 < prodDen xs := by
  induction xs with
  | nil => decide
  | cons x xs ih => exact Nat.mul_pos x.den_pos ih
theorem prodDen_app (xs ys : List Rat) : prodDen (xs ++ ys) = prodDen xs * prodDen ys := by
  induction xs with
  | nil => simp [prodDen]
  | cons x xs ih => simp [prodDen, ih, Nat.mul_assoc]
theorem prodDen_take (xs : List Rat) (i : Nat) : prodDen (xs.take i) ≤ prodDen xs := by
  have := prodDen_app (xs.take i) (xs.drop i)
  rw [List.take_append_drop] at this
  rw [this]
  exact Nat.le_mul_of_pos_right _ (prodDen_pos _)
theorem prodDen_succ {rs : List Rat} {i : Nat} {x : Rat} (h : rs[i]? = some x) : prodDen (rs.take (i + 1)) = prodDen (rs.take i) * x.den := by
  rw [List.take_add_one, prodDen_app, h]
  simp [prodDen]
def S_fr_sum (xs : List Ar) (r : Rv) : Prop := ∃ rs : List Rat, xs = [.d (.list (rs.map rd))] ∧ rs.length ≤ 1000 ∧ prodDen rs < 2 ^ 8500 ∧ (∀ x ∈ rs, x.num.natAbs < 2 ^ 4000) ∧ r = .d (rd (lsum rs))
theorem lt_pow_sum {a b c d : Nat} (h : a ≤ b * 2 ^ 4000 * c) (hb : b ≤ 1000) (hc : c < 2 ^ 8500) : a < 2 ^ 13000 := by
  have h1 : b * 2 ^ 4000 ≤ 1000 * 2 ^ 4000 := Nat.mul_le_mul_right _ hb
  have h2 : b * 2 ^ 4000 * c ≤ 1000 * 2 ^ 4000 * 2 ^ 8500 := Nat.mul_le_mul h1 (Nat.le_of_lt hc)
  exact Nat.lt_of_le_of_lt (Nat.le_trans h h2) (by decide)
theorem p_fr_sum {xs : List Ar} {R : Rv → Prop} (h : det S_fr_sum xs R) : w__law_fr_sum (det S_fr_of) (startR N__law_fr_sum.length xs) { nx := fun _ => R (.d .none), rt := R } := by
  obtain ⟨r, ⟨rs, rfl, hl, hp, hs, rfl⟩, h⟩ := h
  have st : startR N__law_fr_sum.length [.d (.list (rs.map rd))] = [.d (.list (rs.map rd)), .no, .no, .no, .no] := rfl
  rw [st]
  unfold w__law_fr_sum
  walk_at "dw"
  refine ⟨by rw [List.length_map]; omega, ?_⟩
  refine forW_ind (fun i ρ => ∃ (o u : Int) (z3 z4 : Sl), ρ = [.d (.list (rs.map rd)), .d (.int o), .d (.int u), z3, z4] ∧ 0 < u ∧ u.natAbs ≤ prodDen (rs.take i) ∧ o.natAbs ≤ i * 2 ^ 4000 * prodDen (rs.take i) ∧ (o : Rat) = lsum (rs.take i) * (u : Rat)) (fun i d ρ k hd hI hk => ?_) (fun ρ hI => ?_) ⟨0, 1, .no, .no, rfl, by decide, by simp [prodDen], by simp, by simp [lsum]⟩
  · obtain ⟨o, u, z3, z4, rfl, hu, hub, hob, hou⟩ := hI
    rw [List.getElem?_map, Option.map_eq_some_iff] at hd
    obtain ⟨x, hx, rfl⟩ := hd
    have hi : i < rs.length := (List.getElem?_eq_some_iff.mp hx).1
    have hpt : prodDen (rs.take i) < 2 ^ 8500 := Nat.lt_of_le_of_lt (prodDen_take rs i) hp
    have hpt1 : prodDen (rs.take (i + 1)) < 2 ^ 8500 := Nat.lt_of_le_of_lt (prodDen_take rs (i + 1)) hp
    have hxn := hs x (List.mem_of_getElem? hx)
    have hxd : x.den < 2 ^ 8500 := by
      rw [prodDen_succ hx] at hpt1
      exact Nat.lt_of_le_of_lt (Nat.le_mul_of_pos_left _ (prodDen_pos _)) hpt1
    have ho2 := lt_pow_sum (d := 0) hob (by omega) hpt
    have hu2 : u.natAbs < 2 ^ 8500 := Nat.lt_of_le_of_lt hub hpt
    refine ⟨_, rfl, ?_⟩
    walk_at "dw"
    refine ⟨rfl, rfl, ?_⟩
    rw [eqv_int]
    have pp := prodDen_pos (rs.take i)
    by_cases c : (x.den : Int) = u
    · rw [decide_eq_true c]
      refine hk _ ⟨o + x.num, u, _, _, rfl, hu, ?_, ?_, ?_⟩
      · rw [prodDen_succ hx]; exact Nat.le_trans hub (Nat.le_mul_of_pos_right _ x.den_pos)
      · rw [prodDen_succ hx]
        have a1 : (o + x.num).natAbs ≤ i * 2 ^ 4000 * prodDen (rs.take i) + 2 ^ 4000 := Nat.le_trans (Int.natAbs_add_le _ _) (Nat.add_le_add hob (Nat.le_of_lt hxn))
        have a2 : i * 2 ^ 4000 * prodDen (rs.take i) + 2 ^ 4000 ≤ (i + 1) * 2 ^ 4000 * prodDen (rs.take i) := by
          rw [Nat.add_mul i 1, Nat.add_mul, Nat.one_mul]
          exact Nat.add_le_add_left (Nat.le_mul_of_pos_right _ pp) _
        exact Nat.le_trans a1 (Nat.le_trans a2 (Nat.mul_le_mul_left _ (Nat.le_mul_of_pos_right _ x.den_pos)))
      · rw [lsum_take hx, Rat.intCast_add, hou, num_eq x, c]; grind
    · rw [decide_eq_false c]
      refine ⟨cmul (a := 13000) (b := 8500) ho2 (by rw [Int.natAbs_natCast]; exact hxd) (by decide) (by decide) (by decide), cmul (a := 4000) (b := 8500) hxn hu2 (by decide) (by decide) (by decide), cmul (a := 8500) (b := 8500) hu2 (by rw [Int.natAbs_natCast]; exact hxd) (by decide) (by decide) (by decide), ?_⟩
      have hdp : (0 : Int) < (x.den : Int) := by have := x.den_pos; omega
      refine hk _ ⟨_, _, _, _, rfl, Int.mul_pos hu hdp, ?_, ?_, ?_⟩
      · rw [prodDen_succ hx, Int.natAbs_mul, Int.natAbs_natCast]; exact Nat.mul_le_mul_right _ hub
      · rw [prodDen_succ hx]
        have a1 : (o * (x.den : Int) + x.num * u).natAbs ≤ i * 2 ^ 4000 * prodDen (rs.take i) * x.den + 2 ^ 4000 * prodDen (rs.take i) := by
          refine Nat.le_trans (Int.natAbs_add_le _ _) (Nat.add_le_add ?_ ?_)
          · rw [Int.natAbs_mul, Int.natAbs_natCast]; exact Nat.mul_le_mul_right _ hob
          · rw [Int.natAbs_mul]; exact Nat.mul_le_mul (Nat.le_of_lt hxn) hub
        refine Nat.le_trans a1 ?_
        rw [Nat.add_mul i 1, Nat.add_mul, Nat.one_mul, Nat.mul_assoc (i * 2 ^ 4000), ]
        exact Nat.add_le_add_left (Nat.mul_le_mul_left _ (Nat.le_mul_of_pos_right _ x.den_pos)) _
      · rw [lsum_take hx, Rat.intCast_add, Rat.intCast_mul, Rat.intCast_mul, Rat.intCast_mul, hou, num_eq x]; grind
  · rw [List.length_map] at hI
    obtain ⟨o, u, z3, z4, rfl, hu, hub, hob, hou⟩ := hI
    rw [List.take_length] at hub hou
    refine ⟨_, ⟨o, u, rfl, by omega, Nat.lt_of_le_of_lt hub (Nat.lt_trans hp (by decide)), rfl⟩, ?_⟩
    have e : (o : Rat) / (u : Rat) = lsum rs := divE (by rw [Ne, Rat.intCast_eq_zero_iff]; omega) hou
    rw [e]
    exact h
end K00
set_option Elab.async false
set_option linter.all false
set_option maxRecDepth 100000
set_option maxHeartbeats 1000000
namespace K00
open PySem PySem.Spec PyProof.Rows L2 RZ DW Kx
set_option exponentiation.threshold 20000
local macro_rules | `(tactic| walk_at "dw") => `(tactic| dsimp only [wSeqS, wNext, wSet, wPar, wParN, setsR, wRet, wRetN, wRetV, wAsg, wIfS, wFor, wApp, wExt, wSetIx, wSetIx2, cFr, cIm, cNw, cNi, cN2, cCat, cNil, cCons, wVar, wC, wNil, wCons, wTup, wLst, wBin, wBT, wVT, wNotT, wAndT, wOrT, wAndV, wOrV, wNotV, wIf, wNeg, wCB, fI1, fI2, fInt2, fInt2C, fAdd, fSub, fMul, fDiv, fMod, fPow, fLt, fLe, fGt, fGe, fEq, fNe, fIs, fIsNot, fLen, fBools, fSeqTo, fIntOf, wIsi, wCall, Rv.toAr, wNCall, wN2Call, wOfN, wNLst, wNList, wSeq, wRng1, wRng2, wRngDown, wEnum, wZip, noOw_nil, noOw_no, noOw_ar, noOw_ow, noOw_ow2, wipeR, setR, allD, Option.map_some, Option.map_none, wExpr, wNever, fIx, wSl, wPart, wNoPart, wYes, tfName, tfTup, tfCons, tfNil, wRevT, fRep, wNRep, List.map_cons, List.map_nil, List.getElem?_cons_zero, List.getElem?_cons_succ, List.set_cons_zero, List.set_cons_succ, List.cons_append, List.nil_append, wLc, wLcN, wLc2, lcStep, lcStep2, cNd])

theorem rp_div {p q : Int} (hq : 0 < q) : rp ((p : Rat) / (q : Rat)) = (p, q) ↔ iGcd p q = 1 := by
  constructor
  · intro h
    have h2 := isR_rp ((p : Rat) / (q : Rat))
    rw [h] at h2
    unfold isR at h2
    exact of_decide_eq_true (Bool.and_eq_true_iff.mp h2).2
  · intro h
    have hg : Int.gcd p q = 1 := by
      unfold iGcd at h
      have : Int.gcd p q = Nat.gcd p.natAbs q.natAbs := rfl
      omega
    obtain ⟨a, b⟩ := ratPair (u := p) (l := q) (p := p) (q := q) hq hg (by omega) rfl
    unfold rp
    rw [a, b]
def S_fr_are (xs : List Ar) (r : Rv) : Prop := ∃ (ps : List (Int × Int)) (m : Nat), xs = [.d (.tuple (ps.map pq)), .d (.int (m : Int))] ∧ ps.length ≤ 1000 ∧ (∀ p ∈ ps, p.2.natAbs < 2 ^ 8900) ∧ r = .d (.bool (okR m ps))
theorem p_fr_are {xs : List Ar} {R : Rv → Prop} (h : det S_fr_are xs R) : w__law_fr_are (det S_fr_of) (det S_is_whole) (startR N__law_fr_are.length xs) { nx := fun _ => R (.d .none), rt := R } := by
  obtain ⟨r, ⟨ps, m, rfl, hl, hs, rfl⟩, h⟩ := h
  have st : startR N__law_fr_are.length [.d (.tuple (ps.map pq)), .d (.int (m : Int))] = [.d (.tuple (ps.map pq)), .d (.int (m : Int)), .no] := rfl
  rw [st]
  unfold w__law_fr_are
  walk_at "dw"
  rw [isiTT]
  refine ⟨rfl, rfl, ?_⟩
  rw [all_eqv, List.length_map]
  unfold okR at h
  by_cases c : ps.length = m
  · rw [decide_eq_true c] at h ⊢
    rw [Bool.true_and] at h
    refine ⟨by omega, ?_⟩
    refine forW_ind (fun i ρ => (∀ p ∈ ps.take i, isR p = true) ∧ ∃ z, ρ = [.d (.tuple (ps.map pq)), .d (.int (m : Int)), z]) (fun i d ρ k hd hI hk => ?_) (fun ρ hI => ?_) ⟨(fun p hp => nomatch hp), .no, rfl⟩
    · obtain ⟨hpr, z, rfl⟩ := hI
      rw [List.getElem?_map, Option.map_eq_some_iff] at hd
      obtain ⟨⟨p, q⟩, hx, rfl⟩ := hd
      have mem := List.mem_of_getElem? hx
      have bad : isR (p, q) = false → R (.d (.bool false)) := fun e => by
        have : ps.all isR = false := by
          rw [← Bool.not_eq_true, List.all_eq_true]
          exact fun y => by rw [y _ mem] at e; cases e
        rw [this] at h; exact h
      refine ⟨_, rfl, ?_⟩
      walk_at "dw"
      refine ⟨rfl, rfl, ?_⟩
      rw [eqv_int, decide_eq_true (show (([PyData.int p, .int q].length : Nat) : Int) = 2 from rfl)]
      refine ⟨.int p, rfl, _, ⟨p, rfl, rfl⟩, .int q, rfl, _, ⟨q, rfl, rfl⟩, .int q, rfl, ?_⟩
      dsimp only
      by_cases c1 : q < 1
      · rw [decide_eq_true c1]
        exact bad (by unfold isR; rw [decide_eq_false (show ¬ (0 : Int) < (p, q).2 from by show ¬ (0 : Int) < q; omega)]; rfl)
      · rw [decide_eq_false c1]
        refine ⟨.int p, rfl, .int q, rfl, _, ⟨p, q, rfl, by omega, hs _ mem, rfl⟩, shaped_rd ((p : Rat) / (q : Rat)), (shp_pq (p, q)).ok (by decide), ?_⟩
        have e : PyData.eqv (rd ((p : Rat) / (q : Rat))) (pq (p, q)) = decide (iGcd p q = 1) := by
          show PyData.eqv (pq (rp ((p : Rat) / (q : Rat)))) (pq (p, q)) = _
          rw [eqv_pq]
          exact Bool.eq_iff_iff.mpr (by simp only [decide_eq_true_eq]; exact rp_div (by omega))
        rw [e]
        by_cases c2 : iGcd p q = 1
        · rw [decide_eq_true c2]
          refine hk _ ⟨fun x hx2 => ?_, _, rfl⟩
          rw [List.take_add_one, hx] at hx2
          rcases List.mem_append.mp hx2 with y | y
          · exact hpr x y
          · have : x = (p, q) := by simpa using y
            rw [this]
            unfold isR
            rw [decide_eq_true (show (0 : Int) < (p, q).2 from by show (0 : Int) < q; omega), decide_eq_true c2]; rfl
        · rw [decide_eq_false c2]
          exact bad (by unfold isR; rw [decide_eq_false c2, Bool.and_false])
    · rw [List.length_map] at hI
      obtain ⟨hpr, z, rfl⟩ := hI
      rw [List.take_length] at hpr
      rw [List.all_eq_true.mpr hpr] at h
      exact h
  · rw [decide_eq_false c] at h ⊢
    exact h
/-! matrices of the law -/
def S_fr_turned (xs : List Ar) (r : Rv) : Prop := ∃ (n : Nat) (A : Nat → Nat → Rat), xs = [.d (mtx n A)] ∧ n ≤ 12 ∧ r = .d (mtx n fun i j => A j i)
theorem p_fr_turned {xs : List Ar} {R : Rv → Prop} (h : det S_fr_turned xs R) : w__law_fr_turned (startR N__law_fr_turned.length xs) { nx := fun _ => R (.d .none), rt := R } := by
  obtain ⟨r, ⟨n, A, rfl, hn, rfl⟩, h⟩ := h
  have st : startR N__law_fr_turned.length [.d (mtx n A)] = [.d (mtx n A), .no, .no] := rfl
  rw [st]
  unfold w__law_fr_turned mtx
  walk_at "dw"
  have hl : ((List.range n).map fun i => PyData.tuple (row n (A i))).length = n := by rw [List.length_map, List.length_range]
  have e1 : (n : Int).toNat = n := by omega
  rw [hl, e1]
  refine ⟨⟨by omega, by omega⟩, by rw [rngD_length]; omega, ?_⟩
  rw [rngD0]
  refine comp_rng (f := fun i => .tuple (row n fun j => A j i)) (fun i hi acc k hk => ?_) h
  walk_at "dw"
  rw [hl]
  refine ⟨by omega, ?_⟩
  exact comp_rng (f := fun j => rd (A j i)) (fun j hj acc k hk => ⟨_, atI_nat (row_at _ hi), hk⟩) hk
def S_fr_along (xs : List Ar) (r : Rv) : Prop := ∃ (n : Nat) (D : Nat → Rat), xs = [.d (.tuple (row n D))] ∧ n ≤ 12 ∧ r = .d (mtx n fun i j => if i = j then D i else 0)
theorem enum_row (n : Nat) (f : Nat → Rat) : enumD (row n f) = (List.range n).map fun i => .tuple [.int (i : Nat), rd (f i)] := by
  refine List.ext_getElem? fun i => ?_
  unfold enumD
  rw [List.getElem?_mapIdx]
  by_cases hi : i < n
  · rw [row_at f hi, List.getElem?_map, List.getElem?_range hi]; rfl
  · rw [List.getElem?_eq_none (by rw [row_len]; omega), List.getElem?_eq_none (by rw [List.length_map, List.length_range]; omega)]; rfl
theorem p_fr_along {xs : List Ar} {R : Rv → Prop} (h : det S_fr_along xs R) : w__law_fr_along (startR N__law_fr_along.length xs) { nx := fun _ => R (.d .none), rt := R } := by
  obtain ⟨r, ⟨n, D, rfl, hn, rfl⟩, h⟩ := h
  have st : startR N__law_fr_along.length [.d (.tuple (row n D))] = [.d (.tuple (row n D)), .no, .no, .no] := rfl
  rw [st]
  unfold w__law_fr_along
  walk_at "dw"
  rw [enum_row]
  refine ⟨by rw [List.length_map, List.length_range]; omega, ?_⟩
  refine comp_rng (f := fun i => .tuple (row n fun j => if i = j then D i else 0)) (fun i hi acc k hk => ?_) h
  walk_at "dw"
  have e1 : (n : Int).toNat = n := by omega
  rw [row_len, e1]
  refine ⟨⟨by omega, by omega⟩, by rw [rngD_length]; omega, ?_⟩
  rw [rngD0]
  refine comp_rng (f := fun j => rd (if i = j then D i else 0)) (fun j hj acc k hk => ?_) hk
  walk_at "dw"
  refine ⟨rfl, rfl, ?_⟩
  rw [all_eqv]
  by_cases c : i = j
  · rw [if_pos c] at hk
    rw [decide_eq_true c]; exact hk
  · rw [if_neg c] at hk
    rw [decide_eq_false c]; exact hk
theorem comp_rng_opt {step : PyData → List PyData → (List PyData → Prop) → Prop} {Q : List PyData → Prop} {n : Nat} {h : Nat → PyData} {g : Nat → Option PyData} (hs : ∀ j, j < n → ∀ acc k, k (acc ++ (g j).toList) → step (h j) acc k) (q : Q ((List.range n).filterMap g)) : compW step ((List.range n).map h) [] Q := by
  have key : ∀ (m j : Nat) (acc : List PyData), j + m = n → Q (acc ++ (List.range' j m).filterMap g) → compW step ((List.range' j m).map h) acc Q := fun m => by
    induction m with
    | zero => intro j acc _ q; simpa [compW] using q
    | succ m ih =>
      intro j acc hj q
      rw [List.range'_succ, List.map_cons]
      refine hs j (by omega) acc _ (ih (j + 1) (acc ++ (g j).toList) (by omega) ?_)
      rw [List.range'_succ] at q
      cases e : g j with
      | none => simpa [e] using q
      | some y => simpa [e] using q
  rw [List.range_eq_range']
  exact key n 0 [] (by omega) (by rw [List.nil_append, ← List.range_eq_range']; exact q)
/-- the terms that are not 0 -/
def nz (n : Nat) (f : Nat → Rat) : List Rat := (List.range n).filterMap fun m => if f m = 0 then none else some (f m)
theorem nz_sum (n : Nat) (f : Nat → Rat) : lsum (nz n f) = sumN n f := by
  unfold nz
  induction n with
  | zero => rfl
  | succ n ih =>
    rw [List.range_succ, List.filterMap_append, lsum_app, ih]
    by_cases c : f n = 0
    · simp [c, lsum, sumN]
    · simp [c, lsum, sumN, Rat.add_zero]
theorem nz_mem {n : Nat} {f : Nat → Rat} {x : Rat} (h : x ∈ nz n f) : ∃ m, m < n ∧ x = f m := by
  unfold nz at h
  obtain ⟨m, hm, e⟩ := List.mem_filterMap.mp h
  by_cases c : f m = 0
  · rw [if_pos c] at e; cases e
  · rw [if_neg c] at e; cases e
    exact ⟨m, List.mem_range.mp hm, rfl⟩
theorem nz_len (n : Nat) (f : Nat → Rat) : (nz n f).length ≤ n := by
  unfold nz
  have := List.length_filterMap_le (fun m => if f m = 0 then none else some (f m)) (List.range n)
  rwa [List.length_range] at this
theorem prodDen_le {rs : List Rat} {N : Nat} (h : ∀ x ∈ rs, x.den ≤ N) : prodDen rs ≤ N ^ rs.length := by
  induction rs with
  | nil => exact Nat.le_refl _
  | cons x rs ih =>
    rw [List.length_cons, Nat.pow_succ, Nat.mul_comm]
    exact Nat.mul_le_mul (h x List.mem_cons_self) (ih fun y hy => h y (List.mem_cons_of_mem _ hy))
theorem zip_rows2 (n : Nat) (f g : Nat → Rat) : zipD (row n f) (row n g) = (List.range n).map fun j => .tuple [rd (f j), rd (g j)] := zip_row n f g
theorem filter_rd (n : Nat) (f : Nat → Rat) : ((List.range n).filterMap fun m => if f m = 0 then none else some (rd (f m))) = (nz n f).map rd := by
  unfold nz
  rw [List.map_filterMap]
  refine congrArg (fun z => List.filterMap z (List.range n)) (funext fun m => ?_)
  by_cases c : f m = 0 <;> simp [c]
def Ent (n N K : Nat) (A : Nat → Nat → Rat) : Prop := ∀ i j, i < n → j < n → Fr N K (A i j)
def S_fr_product (xs : List Ar) (r : Rv) : Prop := ∃ (n : Nat) (A B : Nat → Nat → Rat) (N K M L : Nat), xs = [.d (mtx n A), .d (mtx n B)] ∧ n ≤ 12 ∧ Ent n N K A ∧ Ent n M L B ∧ N < 2 ^ 300 ∧ M < 2 ^ 300 ∧ K < 2 ^ 300 ∧ L < 2 ^ 300 ∧ r = .d (mtx n fun i j => sumN n fun m => A i m * B m j)
theorem eqv_num0 (x : Rat) : PyData.eqv (.int x.num) (.int 0) = decide (x = 0) := by
  rw [eqv_int]
  exact Bool.eq_iff_iff.mpr (by simp only [decide_eq_true_eq]; exact Rat.num_eq_zero)
theorem p_fr_product {xs : List Ar} {R : Rv → Prop} (h : det S_fr_product xs R) : w__law_fr_product (det S_fr_times) (det S_fr_sum) (startR N__law_fr_product.length xs) { nx := fun _ => R (.d .none), rt := R } := by
  obtain ⟨r, ⟨n, A, B, N, K, M, L, rfl, hn, hA, hB, hN, hM, hK, hL, rfl⟩, h⟩ := h
  have st : startR N__law_fr_product.length [.d (mtx n A), .d (mtx n B)] = [.d (mtx n A), .d (mtx n B), .no, .no, .no, .no, .no, .no] := rfl
  rw [st]
  unfold w__law_fr_product
  -- the second half, whatever the columns are
  have second : ∀ cols : List PyData, (∀ j, j < n → cols[j]? = some (.tuple (row n fun m => B m j))) → cols.length = n →
      wRet (cFr (wCB (fSeqTo .tuple) (wCons (wOfN (wLc (wSeq (wVar 0)) (tfName 4) wYes (wCB (fSeqTo .tuple) (wCons (wOfN (wLc (wSeq (wVar 2)) (tfName 5) wYes (wCall (det S_fr_sum) (wCons (wOfN (wLc (wZip (wVar 4) (wVar 5)) (tfTup (tfCons (tfName 6) (tfCons (tfName 7) tfNil))) (wAndT (wBT fNe (wBin fIx (wVar 6) (wC (.int 0))) (wC (.int 0))) (wBT fNe (wBin fIx (wVar 7) (wC (.int 0))) (wC (.int 0)))) (wCall (det S_fr_times) (wCons (wVar 6) (wCons (wVar 7) wNil))) [6, 7])) wNil)) [5])) wNil)) [4])) wNil)))
        [.d (mtx n A), .d (mtx n B), .d (.list cols), .no, .no, .no, .no, .no] { nx := fun _ => R (.d .none), rt := R } := fun cols hc hcl => by
    unfold mtx
    walk_at "dw"
    refine ⟨by rw [List.length_map, List.length_range]; omega, ?_⟩
    refine comp_rng (f := fun i => .tuple (row n fun j => sumN n fun m => A i m * B m j)) (fun i hi acc k hk => ?_) h
    walk_at "dw"
    refine ⟨by rw [hcl]; omega, ?_⟩
    have e : row n (fun j => sumN n fun m => A i m * B m j) = (List.range' 0 cols.length).map fun j => rd (sumN n fun m => A i m * B m j) := by
      rw [hcl, ← List.range_eq_range']; rfl
    rw [e] at hk
    refine comp_ix (fun j => rd (sumN n fun m => A i m * B m j)) _ _ 0 (fun j d hd acc k hk => ?_) (by rw [List.nil_append]; exact hk)
    have hj : j < n := by rw [← hcl]; exact (List.getElem?_eq_some_iff.mp hd).1
    rw [hc j hj] at hd
    cases hd
    rw [Nat.zero_add] at hk
    walk_at "dw"
    rw [zip_row]
    refine ⟨by rw [List.length_map, List.length_range]; omega, ?_⟩
    refine comp_rng_opt (g := fun m => if A i m * B m j = 0 then none else some (rd (A i m * B m j))) (fun m hm acc k hk => ?_) ?_
    · refine ⟨.int (A i m).num, rfl, rfl, rfl, ?_⟩
      rw [eqv_num0]
      by_cases c1 : A i m = 0
      · rw [decide_eq_true c1]
        rw [if_pos (by rw [c1, Rat.zero_mul])] at hk
        simpa using hk
      · rw [decide_eq_false c1]
        refine ⟨.int (B m j).num, rfl, rfl, rfl, ?_⟩
        rw [eqv_num0]
        by_cases c2 : B m j = 0
        · rw [decide_eq_true c2]
          rw [if_pos (by rw [c2, Rat.mul_zero])] at hk
          simpa using hk
        · rw [decide_eq_false c2]
          rw [if_neg (fun z => (Rat.mul_eq_zero.mp z).elim c1 c2)] at hk
          exact ⟨_, ⟨_, _, rfl, Sz.of (hA i m hi hm) (Nat.lt_trans hN (by decide)) (Nat.lt_trans hK (by decide)), Sz.of (hB m j hm hj) (Nat.lt_trans hM (by decide)) (Nat.lt_trans hL (by decide)), rfl⟩, hk⟩
    · rw [filter_rd]
      refine ⟨_, ⟨nz n fun m => A i m * B m j, rfl, by have := nz_len n (fun m => A i m * B m j); omega, ?_, fun x hx => ?_, rfl⟩, by rw [nz_sum]; exact hk⟩
      · have b1 : prodDen (nz n fun m => A i m * B m j) ≤ (N * M) ^ (nz n fun m => A i m * B m j).length := prodDen_le fun x hx => by
          obtain ⟨m, hm, rfl⟩ := nz_mem hx
          exact ((hA i m hi hm).mul (hB m j hm hj)).size.2
        have b2 : N * M ≤ 2 ^ 300 * 2 ^ 300 := Nat.mul_le_mul (Nat.le_of_lt hN) (Nat.le_of_lt hM)
        have b3 : (N * M) ^ (nz n fun m => A i m * B m j).length ≤ (2 ^ 600) ^ (nz n fun m => A i m * B m j).length := Nat.pow_le_pow_left (Nat.le_trans b2 (by decide)) _
        have b4 : ((2 : Nat) ^ 600) ^ (nz n fun m => A i m * B m j).length ≤ (2 ^ 600) ^ 12 := Nat.pow_le_pow_right (by decide) (by have := nz_len n (fun m => A i m * B m j); omega)
        exact Nat.lt_of_le_of_lt (Nat.le_trans b1 (Nat.le_trans b3 b4)) (by decide)
      · obtain ⟨m, hm, rfl⟩ := nz_mem hx
        have := ((hA i m hi hm).mul (hB m j hm hj)).size.1
        have b2 : K * L ≤ 2 ^ 300 * 2 ^ 300 := Nat.mul_le_mul (Nat.le_of_lt hK) (Nat.le_of_lt hL)
        exact Nat.lt_of_le_of_lt (Nat.le_trans this b2) (by decide)
  walk_at "dw"
  refine ⟨(shp_mtx n B).ok (by decide), rfl, ?_⟩
  cases n with
  | zero => exact second [] (fun j hj => absurd hj (Nat.not_lt_zero j)) rfl
  | succ n =>
    have e : (mtx (n + 1) B).eqv (PyData.tuple []) = false := by
      unfold mtx
      rw [eqv_tup, List.range_succ_eq_map, List.map_cons]
      simp [PyData.eqvAll]
    rw [e]
    refine ⟨.tuple (row (n + 1) fun j => B 0 j), atI_nat (rows_at (i := 0) B (by omega)), ?_⟩
    have hl : ((List.range (n + 1)).map fun i => PyData.tuple (row (n + 1) (B i))).length = n + 1 := by rw [List.length_map, List.length_range]
    walk_at "dw"
    rw [row_len]
    refine ⟨⟨by omega, by omega⟩, by rw [rngD_length]; omega, ?_⟩
    have e1 : ((n + 1 : Nat) : Int).toNat = n + 1 := by omega
    rw [e1, rngD0]
    refine comp_rng (f := fun j => .tuple (row (n + 1) fun m => B m j)) (fun j hj acc k hk => ?_) ?_
    · walk_at "dw"
      refine ⟨by omega, ?_⟩
      exact comp_rng (f := fun m => rd (B m j)) (fun m hm acc k hk => ⟨_, atI_nat (row_at _ hj), hk⟩) hk
    · exact second _ (fun j hj => by rw [List.getElem?_map, List.getElem?_range hj]; rfl) (by rw [List.length_map, List.length_range])
end K00
set_option Elab.async false
set_option linter.all false
set_option maxRecDepth 100000
set_option maxHeartbeats 1000000
namespace K00
open PySem PySem.Spec PyProof.Rows L2 RZ DW Kx
set_option exponentiation.threshold 20000
local macro_rules | `(tactic| walk_at "dw") => `(tactic| dsimp only [wSeqS, wNext, wSet, wPar, wParN, setsR, wRet, wRetN, wRetV, wAsg, wIfS, wFor, wApp, wExt, wSetIx, wSetIx2, cFr, cIm, cNw, cNi, cN2, cCat, cNil, cCons, wVar, wC, wNil, wCons, wTup, wLst, wBin, wBT, wVT, wNotT, wAndT, wOrT, wAndV, wOrV, wNotV, wIf, wNeg, wCB, fI1, fI2, fInt2, fInt2C, fAdd, fSub, fMul, fDiv, fMod, fPow, fLt, fLe, fGt, fGe, fEq, fNe, fIs, fIsNot, fLen, fBools, fSeqTo, fIntOf, wIsi, wCall, Rv.toAr, wNCall, wN2Call, wOfN, wNLst, wNList, wSeq, wRng1, wRng2, wRngDown, wEnum, wZip, noOw_nil, noOw_no, noOw_ar, noOw_ow, noOw_ow2, wipeR, setR, allD, Option.map_some, Option.map_none, wExpr, wNever, fIx, wSl, wPart, wNoPart, wYes, tfName, tfTup, tfCons, tfNil, wRevT, fRep, wNRep, List.map_cons, List.map_nil, List.getElem?_cons_zero, List.getElem?_cons_succ, List.set_cons_zero, List.set_cons_succ, List.cons_append, List.nil_append, wLc, wLcN, wLc2, lcStep, lcStep2, cNd])

/-! the product of the denominators of n numbers -/
def dN (f : Nat → Rat) : Nat → Nat
  | 0 => 1
  | n + 1 => dN f n * (f n).den
theorem dN_pos (f : Nat → Rat) : ∀ n, 0 < dN f n
  | 0 => Nat.one_pos
  | n + 1 => Nat.mul_pos (dN_pos f n) (f n).den_pos
theorem prodDen_nz (n : Nat) (f : Nat → Rat) : prodDen (nz n f) = dN f n := by
  unfold nz
  induction n with
  | zero => rfl
  | succ n ih =>
    rw [List.range_succ, List.filterMap_append, prodDen_app, ih]
    by_cases c : f n = 0
    · have : (f n).den = 1 := by rw [c]; rfl
      simp [c, dN, prodDen]
    · simp [c, dN, prodDen]
theorem den_mul_le (a b : Rat) : (a * b).den ≤ a.den * b.den := by
  rw [Rat.den_mul]
  exact Nat.div_le_self _ _
theorem dN_mul (a c : Rat) (A x : Nat → Rat) (N : Nat) : ∀ n, (∀ j, j < n → (A j).den ≤ N) → dN (fun j => a * A j * x j) n ≤ (a.den * N) ^ n * dN x n
  | 0, _ => by simp [dN]
  | n + 1, h => by
    have i := dN_mul a c A x N n fun j hj => h j (Nat.lt_succ_of_lt hj)
    have e : (a * A n * x n).den ≤ a.den * N * (x n).den := Nat.le_trans (den_mul_le _ _) (Nat.mul_le_mul_right _ (Nat.le_trans (den_mul_le _ _) (Nat.mul_le_mul_left _ (h n (Nat.lt_succ_self n)))))
    have := Nat.mul_le_mul i e
    simp only [dN]
    refine Nat.le_trans this (Nat.le_of_eq ?_)
    rw [Nat.pow_succ]
    simp only [Nat.mul_assoc, Nat.mul_left_comm, Nat.mul_comm]
def Thin (n : Nat) (x : Nat → Rat) : Prop := dN x n ≤ 2 ^ 300
theorem dN_le {n : Nat} {x : Nat → Rat} {N : Nat} (h : ∀ j, j < n → (x j).den ≤ N) : dN x n ≤ N ^ n := by
  induction n with
  | zero => simp [dN]
  | succ n ih =>
    rw [Nat.pow_succ]
    exact Nat.mul_le_mul (ih fun j hj => h j (Nat.lt_succ_of_lt hj)) (h n (Nat.lt_succ_self n))
theorem thin6 {n : Nat} {x : Nat → Rat} (hn : n ≤ 12) (h : ∀ j, j < n → (x j).den ≤ 6) : Thin n x :=
  Nat.le_trans (dN_le h) (Nat.le_trans (Nat.pow_le_pow_right (by decide) hn) (by decide))
def e11 : Nat → Nat
  | 0 => 0
  | n + 1 => e11 n + (11 - n)
theorem thinE {n at' : Nat} {x : Nat → Rat} (hn : n ≤ 12) (ha : at' < n) (h : ∀ j, j < n → (x j).den ≤ 6 ^ (at' - j)) : Thin n x := by
  have key : ∀ m, m ≤ n → dN x m ≤ 6 ^ e11 m := fun m => by
    induction m with
    | zero => intro _; exact Nat.le_refl _
    | succ m ih =>
      intro hm
      show _ ≤ 6 ^ (e11 m + (11 - m))
      rw [Nat.pow_add]
      exact Nat.mul_le_mul (ih (by omega)) (Nat.le_trans (h m (by omega)) (Nat.pow_le_pow_right (by decide) (by omega)))
  have m : ∀ k, k ≤ 12 → e11 k ≤ 66 := by decide
  exact Nat.le_trans (key n (Nat.le_refl _)) (Nat.le_trans (Nat.pow_le_pow_right (by decide) (m n hn)) (by decide))
/-! the worth in the law -/
def tm (n : Nat) (A : Nat → Nat → Rat) (x : Nat → Rat) (i : Nat) : List Rat := nz n fun j => x i * A i j * x j
def tms (n : Nat) (A : Nat → Nat → Rat) (x : Nat → Rat) : Nat → List Rat
  | 0 => []
  | k + 1 => tms n A x k ++ tm n A x k
theorem tms_len (n : Nat) (A : Nat → Nat → Rat) (x : Nat → Rat) : ∀ k, (tms n A x k).length ≤ k * n
  | 0 => by simp [tms]
  | k + 1 => by
    have a := tms_len n A x k
    have b := nz_len n (fun j => x k * A k j * x j)
    simp only [tms, List.length_append, tm]
    rw [Nat.add_mul]; omega
theorem tms_sum (n : Nat) (A : Nat → Nat → Rat) (x : Nat → Rat) : ∀ k, lsum (tms n A x k) = sumN k fun i => x i * sumN n fun j => A i j * x j
  | 0 => rfl
  | k + 1 => by
    simp only [tms, sumN]
    rw [lsum_app, tms_sum n A x k, tm, nz_sum, ← sumN_mul]
    congr 1
    exact sumN_congr fun j _ => by grind
theorem tms_mem {n : Nat} {A : Nat → Nat → Rat} {x : Nat → Rat} {y : Rat} : ∀ {k}, y ∈ tms n A x k → ∃ i j, i < k ∧ j < n ∧ y = x i * A i j * x j
  | 0, h => by cases h
  | k + 1, h => by
    rcases List.mem_append.mp h with h | h
    · obtain ⟨i, j, a, b, c⟩ := tms_mem h
      exact ⟨i, j, by omega, b, c⟩
    · obtain ⟨j, hj, e⟩ := nz_mem h
      exact ⟨k, j, by omega, hj, e⟩
theorem tms_den {n : Nat} {A : Nat → Nat → Rat} {x : Nat → Rat} (hA : Mat n A) : ∀ k, k ≤ n → prodDen (tms n A x k) ≤ (dN x k * 216 ^ k) ^ n * (dN x n) ^ k
  | 0, _ => by simp [tms, prodDen, dN]
  | k + 1, hk => by
    have a := tms_den (x := x) hA k (by omega)
    have b : dN (fun j => x k * A k j * x j) n ≤ ((x k).den * 216) ^ n * dN x n := dN_mul (x k) 0 (A k) x 216 n fun j hj => (hA.1 k j (by omega) hj).size.2
    simp only [tms]
    rw [prodDen_app, tm, prodDen_nz]
    refine Nat.le_trans (Nat.mul_le_mul a b) (Nat.le_of_eq ?_)
    simp only [dN]
    rw [Nat.pow_succ (dN x n), Nat.pow_succ 216, show dN x k * (x k).den * (216 ^ k * 216) = dN x k * 216 ^ k * ((x k).den * 216) from by simp only [Nat.mul_assoc, Nat.mul_left_comm, Nat.mul_comm], Nat.mul_pow (dN x k * 216 ^ k)]
    simp only [Nat.mul_assoc, Nat.mul_left_comm, Nat.mul_comm]
def S_fr_worth (xs : List Ar) (r : Rv) : Prop := ∃ (n : Nat) (A : Nat → Nat → Rat) (x : Nat → Rat), xs = [.d (mtx n A), .d (.tuple (row n x))] ∧ n ≤ 12 ∧ Mat n A ∧ Vec n x ∧ Thin n x ∧ r = .d (rd (Wx n A x))
theorem p_fr_worth {xs : List Ar} {R : Rv → Prop} (h : det S_fr_worth xs R) : w__law_fr_worth (det S_fr_times) (det S_fr_sum) (startR N__law_fr_worth.length xs) { nx := fun _ => R (.d .none), rt := R } := by
  obtain ⟨r, ⟨n, A, x, rfl, hn, hA, ⟨N, K, hN, hK, hx⟩, ht, rfl⟩, h⟩ := h
  have st : startR N__law_fr_worth.length [.d (mtx n A), .d (.tuple (row n x))] = [.d (mtx n A), .d (.tuple (row n x)), .no, .no, .no, .no, .no] := rfl
  rw [st]
  unfold w__law_fr_worth mtx
  walk_at "dw"
  have e0 : enumD ((List.range n).map fun i => PyData.tuple (row n (A i))) = (List.range n).map fun i => .tuple [.int (i : Nat), .tuple (row n (A i))] := by
    refine List.ext_getElem? fun i => ?_
    unfold enumD
    rw [List.getElem?_mapIdx]
    by_cases hi : i < n
    · rw [rows_at A hi, List.getElem?_map, List.getElem?_range hi]; rfl
    · rw [List.getElem?_eq_none (by rw [List.length_map, List.length_range]; omega), List.getElem?_eq_none (by rw [List.length_map, List.length_range]; omega)]; rfl
  rw [e0]
  refine ⟨by rw [List.length_map, List.length_range]; omega, ?_⟩
  refine forW_ind (fun i ρ => ∃ z3 z4 z5 z6, ρ = [.d (.tuple ((List.range n).map fun i => .tuple (row n (A i)))), .d (.tuple (row n x)), .ow ((tms n A x i).map rd), z3, z4, z5, z6]) (fun i d ρ k hd hI hk => ?_) (fun ρ hI => ?_) ⟨.no, .no, .no, .no, rfl⟩
  · obtain ⟨z3, z4, z5, z6, rfl⟩ := hI
    rw [List.getElem?_map, Option.map_eq_some_iff] at hd
    obtain ⟨i', hi', rfl⟩ := hd
    obtain ⟨h1, h2⟩ := List.getElem?_eq_some_iff.mp hi'
    rw [List.length_range] at h1
    rw [List.getElem_range] at h2
    subst h2
    refine ⟨_, rfl, ?_⟩
    walk_at "dw"
    rw [enum_row]
    refine ⟨by rw [List.length_map, List.length_range]; omega, ?_⟩
    refine comp_rng_opt (g := fun j => if x i * A i j * x j = 0 then none else some (rd (x i * A i j * x j))) (fun j hj acc k hk => ?_) ?_
    · refine ⟨_, atI_nat (row_at _ h1), _, rfl, rfl, rfl, ?_⟩
      rw [eqv_num0]
      by_cases c1 : x i = 0
      · rw [decide_eq_true c1]
        rw [if_pos (by rw [c1, Rat.zero_mul, Rat.zero_mul])] at hk
        simpa using hk
      · rw [decide_eq_false c1]
        refine ⟨_, atI_nat (row_at _ hj), _, rfl, rfl, rfl, ?_⟩
        rw [eqv_num0]
        by_cases c2 : x j = 0
        · rw [decide_eq_true c2]
          rw [if_pos (by rw [c2, Rat.mul_zero])] at hk
          simpa using hk
        · rw [decide_eq_false c2]
          refine ⟨_, rfl, rfl, rfl, ?_⟩
          rw [eqv_num0]
          by_cases c3 : A i j = 0
          · rw [decide_eq_true c3]
            rw [if_pos (by rw [c3, Rat.mul_zero, Rat.zero_mul])] at hk
            simpa using hk
          · rw [decide_eq_false c3]
            rw [if_neg (fun z => (Rat.mul_eq_zero.mp z).elim (fun z => (Rat.mul_eq_zero.mp z).elim c1 c3) c2)] at hk
            have f1 := (hx i h1).mul (hA.1 i j h1 hj)
            exact ⟨_, atI_nat (row_at _ h1), _, ⟨_, _, rfl, Sz.of (hx i h1) (by omega) (by omega), Sz.of (hA.1 i j h1 hj) (by decide) (by decide), rfl⟩, _, atI_nat (row_at _ hj), _, ⟨_, _, rfl, Sz.of f1 (by omega) (by omega), Sz.of (hx j hj) (by omega) (by omega), rfl⟩, hk⟩
    · rw [filter_rd]
      have l1 := tms_len n A x i
      have l2 := nz_len n (fun j => x i * A i j * x j)
      have l3 : i * n ≤ 11 * 12 := Nat.mul_le_mul (by omega) hn
      refine ⟨by rw [List.length_map, List.length_map]; omega, hk _ ⟨.d (.int (i : Nat)), .d (.tuple (row n (A i))), z5, z6, ?_⟩⟩
      simp only [tms, List.map_append, tm]
  · rw [List.length_map, List.length_range] at hI
    obtain ⟨z3, z4, z5, z6, rfl⟩ := hI
    walk_at "dw"
    have l1 := tms_len n A x n
    have l3 : n * n ≤ 12 * 12 := Nat.mul_le_mul hn hn
    refine ⟨_, ⟨tms n A x n, rfl, by omega, ?_, fun y hy => ?_, rfl⟩, rfl, ?_⟩
    · have b1 := tms_den (x := x) hA n (Nat.le_refl _)
      have b2 : dN x n * 216 ^ n ≤ 2 ^ 300 * 216 ^ 12 := Nat.mul_le_mul ht (Nat.pow_le_pow_right (by decide) hn)
      have b3 : (dN x n * 216 ^ n) ^ n ≤ (2 ^ 300 * 216 ^ 12) ^ 12 := Nat.le_trans (Nat.pow_le_pow_left b2 n) (Nat.pow_le_pow_right (by decide) hn)
      have b4 : dN x n ^ n ≤ (2 ^ 300) ^ 12 := Nat.le_trans (Nat.pow_le_pow_left ht n) (Nat.pow_le_pow_right (by decide) hn)
      exact Nat.lt_of_le_of_lt (Nat.le_trans b1 (Nat.mul_le_mul b3 b4)) (by decide)
    · obtain ⟨i, j, hi, hj, rfl⟩ := tms_mem hy
      have := (((hx i hi).mul (hA.1 i j hi hj)).mul (hx j hj)).size.1
      exact Nat.lt_of_le_of_lt (Nat.le_trans this (Nat.mul_le_mul (Nat.mul_le_mul_right _ hK) hK)) (by decide)
    · rw [tms_sum]; exact h
/-! the solved numbers -/
theorem p6 {k : Nat} (h : k ≤ 12) : 6 ^ k < 2 ^ 4000 ∧ 144 ^ k < 2 ^ 4000 :=
  ⟨Nat.lt_of_le_of_lt (Nat.pow_le_pow_right (by decide) h) (show 6 ^ 12 < 2 ^ 4000 by decide), Nat.lt_of_le_of_lt (Nat.pow_le_pow_right (by decide) h) (show 144 ^ 12 < 2 ^ 4000 by decide)⟩
/-- any vector whose rows grow thin -/
def FS (n at' : Nat) (x : Nat → Rat) : Prop := ∀ j, j < n → Fr (6 ^ (at' - j)) (144 ^ (at' - j)) (x j)
def W_solved : WF := fun xs R => ∃ (n at' : Nat) (L : Nat → Nat → Rat), xs = [.d (mtx n L), .d (.int (at' : Int))] ∧ n ≤ 12 ∧ at' < n ∧ (∀ i j, i < n → j < n → Fr 6 12 (L i j)) ∧ ∀ x, FS n at' x → R (.d (.tuple (row n x)))
theorem W_solved_mono : MonoF W_solved := fun _ _ _ h ⟨n, a, L, e, b, c, d, f⟩ => ⟨n, a, L, e, b, c, d, fun x hx => h _ (f x hx)⟩
theorem p_solved {xs : List Ar} {R : Rv → Prop} (h : W_solved xs R) : w__law_k00_solved (det S_fr_times) (det S_fr_sum) (det S_fr_less) (startR N__law_k00_solved.length xs) { nx := fun _ => R (.d .none), rt := R } := by
  obtain ⟨n, a, L, rfl, hn, ha, hL, h⟩ := h
  have st : startR N__law_k00_solved.length [.d (mtx n L), .d (.int (a : Int))] = [.d (mtx n L), .d (.int (a : Int)), .no, .no, .no, .no] := rfl
  rw [st]
  unfold w__law_k00_solved mtx
  walk_at "dw"
  have hl : ((List.range n).map fun i => PyData.tuple (row n (L i))).length = n := by rw [List.length_map, List.length_range]
  have e1 : (n : Int).toNat = n := by omega
  rw [hl, e1, flat_rep]
  refine ⟨⟨by omega, by omega, by simp⟩, a, ?_, ⟨by omega, by omega, by omega, by omega⟩, ?_, ?_⟩
  · rw [List.length_replicate]; exact ixN_nat ha
  · unfold rngC; rw [List.length_map, List.length_range]; omega
  have e2 : ((a : Int) - 1 - -1).toNat = a := by omega
  rw [e2]
  have e3 : (List.replicate n (PyData.tuple [PyData.int 0, PyData.int 1])).set a (PyData.tuple [PyData.int 1, PyData.int 1]) = row n fun j => if j = a then 1 else 0 := by
    have := row_zero n
    have e : rd 0 = PyData.tuple [PyData.int 0, PyData.int 1] := rfl
    rw [e] at this
    rw [← this]
    exact row_set (x := 1) (if_pos rfl) fun i hi => if_neg hi
  rw [e3]
  refine forW_ind (fun i ρ => ∃ x z4 z5, ρ = [.d (.tuple ((List.range n).map fun i => .tuple (row n (L i)))), .d (.int (a : Int)), .d (.int (n : Int)), .ow (row n x), z4, z5] ∧ FS n a x) (fun i d ρ k hd hI hk => ?_) (fun ρ hI => ?_) ⟨_, .no, .no, rfl, fun j hj => ?_⟩
  · obtain ⟨x, z4, z5, rfl, hx⟩ := hI
    unfold rngC at hd
    rw [List.getElem?_map, Option.map_eq_some_iff] at hd
    obtain ⟨i', hi', rfl⟩ := hd
    obtain ⟨h1, h2⟩ := List.getElem?_eq_some_iff.mp hi'
    rw [List.length_range] at h1
    rw [List.getElem_range] at h2
    subst h2
    refine ⟨_, rfl, ?_⟩
    walk_at "dw"
    obtain ⟨o, ho⟩ : ∃ o : Nat, o + i + 1 = a := ⟨a - i - 1, by omega⟩
    have e4 : (a : Int) - 1 + (i : Int) * -1 = (o : Nat) := by omega
    rw [e4]
    refine ⟨⟨by omega, by omega, by omega, by omega⟩, ?_⟩
    have e5 : ((a : Int) + 1 - ((o : Int) + 1)).toNat = a - o := by omega
    rw [e5]
    refine ⟨by rw [rngD_length]; omega, ?_⟩
    -- the terms
    have hf : ∀ b, b < a - o → Fr (6 ^ (a - o)) (12 * 144 ^ (a - o - 1)) (L (o + 1 + b) o * x (o + 1 + b)) := fun b hb => by
      have f := ((hL (o + 1 + b) o (by omega) (by omega)).mul (hx (o + 1 + b) (by omega))).up (6 ^ b) (Nat.pow_pos (by decide))
      have q1 : 6 * 6 ^ (a - (o + 1 + b)) * 6 ^ b = 6 ^ (a - o) := by
        rw [Nat.mul_assoc, ← Nat.pow_add, ← Nat.pow_succ']; congr 1; omega
      rw [q1] at f
      refine f.mono ?_
      rw [Nat.mul_assoc]
      refine Nat.mul_le_mul_left 12 ?_
      have q2 : (144 : Nat) ^ (a - o - 1) = 144 ^ (a - (o + 1 + b)) * 144 ^ b := by rw [← Nat.pow_add]; congr 1; omega
      rw [q2]
      exact Nat.mul_le_mul_left _ (Nat.pow_le_pow_left (by decide) b)
    refine comp_ix (fun b => rd (L (o + 1 + b) o * x (o + 1 + b))) _ _ 0 (fun b d hd acc k2 hk2 => ?_) ?_
    · obtain ⟨hb, rfl⟩ := rngD_get hd
      rw [Nat.zero_add] at hk2
      have e6 : ((o : Int) + 1 + (b : Nat)) = ((o + 1 + b : Nat) : Int) := by omega
      walk_at "dw"
      rw [e6]
      exact ⟨_, atI_nat (rows_at L (by omega)), _, atI_nat (row_at _ (by omega)), _, atI_nat (row_at _ (by omega)), _, ⟨_, _, rfl, Sz.of (hL _ _ (by omega) (by omega)) (by decide) (by decide), Sz.of (hx _ (by omega)) (p6 (by omega)).1 (p6 (by omega)).2, rfl⟩, hk2⟩
    · rw [rngD_length, List.nil_append, ← List.range_eq_range']
      have q1 : ((List.range (a - o)).map fun b => rd (L (o + 1 + b) o * x (o + 1 + b))) = ((List.range (a - o)).map fun b => L (o + 1 + b) o * x (o + 1 + b)).map rd := by rw [List.map_map]; rfl
      rw [q1]
      have mem : ∀ y ∈ (List.range (a - o)).map (fun b => L (o + 1 + b) o * x (o + 1 + b)), Fr (6 ^ (a - o)) (12 * 144 ^ (a - o - 1)) y := fun y hy => by
        obtain ⟨b, hb, rfl⟩ := List.mem_map.mp hy
        exact hf b (List.mem_range.mp hb)
      have s12 : (6 : Nat) ^ (a - o) ≤ 6 ^ 12 := Nat.pow_le_pow_right (by decide) (by omega)
      have k12 : 12 * (144 : Nat) ^ (a - o - 1) ≤ 144 ^ (a - o) := by
        have : (144 : Nat) ^ (a - o) = 144 ^ (a - o - 1) * 144 := by rw [← Nat.pow_succ]; congr 1; omega
        rw [this]; omega
      have k13 : (a - o) * (12 * (144 : Nat) ^ (a - o - 1)) ≤ 144 ^ (a - o) := by
        have : (144 : Nat) ^ (a - o) = 144 ^ (a - o - 1) * 144 := by rw [← Nat.pow_succ]; congr 1; omega
        rw [this]
        have : (a - o) * (12 * 144 ^ (a - o - 1)) ≤ 12 * (12 * 144 ^ (a - o - 1)) := Nat.mul_le_mul_right _ (by omega)
        omega
      have t12 : (144 : Nat) ^ (a - o) < 2 ^ 4000 := (p6 (by omega)).2
      have fsum : Fr (6 ^ (a - o)) (144 ^ (a - o)) (lsum ((List.range (a - o)).map fun b => L (o + 1 + b) o * x (o + 1 + b))) := by
        refine (Fr.lsum (Nat.pow_pos (by decide)) mem).mono ?_
        rw [List.length_map, List.length_range]; exact k13
      refine ⟨_, ⟨_, rfl, by rw [List.length_map, List.length_range]; omega, ?_, fun y hy => Nat.lt_of_le_of_lt (Nat.le_trans (mem y hy).size.1 k12) t12, rfl⟩, ?_⟩
      · have b1 := prodDen_le fun y hy => Nat.le_trans (mem y hy).size.2 s12
        rw [List.length_map, List.length_range] at b1
        have b2 : ((6 : Nat) ^ 12) ^ (a - o) ≤ (6 ^ 12) ^ 12 := Nat.pow_le_pow_right (by decide) (by omega)
        exact Nat.lt_of_le_of_lt (Nat.le_trans b1 b2) (by decide)
      refine ⟨_, ⟨0, _, rfl, Sz.of (Fr.zero (N := 1) (by decide)) (by decide) (by decide), Sz.of fsum (p6 (by omega)).1 t12, rfl⟩, rfl, o, by rw [row_len]; exact ixN_nat (by omega), ?_⟩
      generalize hs : lsum ((List.range (a - o)).map fun b => L (o + 1 + b) o * x (o + 1 + b)) = s at fsum
      have rs := row_set (n := n) (j := o) (f := x) (g := fun j => if j = o then 0 - s else x j) (x := 0 - s) (if_pos rfl) fun i hi => if_neg hi
      refine hk _ ⟨fun j => if j = o then 0 - s else x j, _, _, congrArg (fun z => [Sl.d (.tuple ((List.range n).map fun i => .tuple (row n (L i)))), .d (.int (a : Int)), .d (.int (n : Int)), .ow z, _, _]) rs, fun j hj => ?_⟩
      show Fr _ _ (if j = o then 0 - s else x j)
      split
      · rename_i c; subst c
        have := fsum.neg
        rwa [show 0 - s = -s from by grind]
      · exact hx j hj
  · unfold rngC at hI
    obtain ⟨x, z4, z5, rfl, hx⟩ := hI
    exact ⟨immAll_row _ _, h x hx⟩
  · show Fr _ _ (if j = a then 1 else 0)
    split
    · rename_i c; subst c; rw [Nat.sub_self]; exact ⟨by decide, 1, by simp, by decide⟩
    · exact (Fr.zero (Nat.pow_pos (by decide))).mono (Nat.zero_le _)
end K00
set_option Elab.async false
set_option linter.all false
set_option maxRecDepth 100000
set_option maxHeartbeats 1000000
namespace K00
open PySem PySem.Spec PyProof.Rows L2 RZ DW Kx
set_option exponentiation.threshold 20000
local macro_rules | `(tactic| walk_at "dw") => `(tactic| dsimp only [wSeqS, wNext, wSet, wPar, wParN, setsR, wRet, wRetN, wRetV, wAsg, wIfS, wFor, wApp, wExt, wSetIx, wSetIx2, cFr, cIm, cNw, cNi, cN2, cCat, cNil, cCons, wVar, wC, wNil, wCons, wTup, wLst, wBin, wBT, wVT, wNotT, wAndT, wOrT, wAndV, wOrV, wNotV, wIf, wNeg, wCB, fI1, fI2, fInt2, fInt2C, fAdd, fSub, fMul, fDiv, fMod, fPow, fLt, fLe, fGt, fGe, fEq, fNe, fIs, fIsNot, fLen, fBools, fSeqTo, fIntOf, wIsi, wCall, Rv.toAr, wNCall, wN2Call, wOfN, wNLst, wNList, wSeq, wRng1, wRng2, wRngDown, wEnum, wZip, noOw_nil, noOw_no, noOw_ar, noOw_ow, noOw_ow2, wipeR, setR, allD, Option.map_some, Option.map_none, wExpr, wNever, fIx, wSl, wPart, wNoPart, wYes, tfName, tfTup, tfCons, tfNil, wRevT, fRep, wNRep, List.map_cons, List.map_nil, List.getElem?_cons_zero, List.getElem?_cons_succ, List.set_cons_zero, List.set_cons_succ, List.cons_append, List.nil_append, wLc, wLcN, wLc2, lcStep, lcStep2, cNd])

theorem shp_lst {k : Nat} {ds : List PyData} (h : ∀ d ∈ ds, Shp k d) : Shp (k + 1) (.list ds) := by
  have := shp_tup h
  obtain ⟨a, b⟩ := this
  exact ⟨by simpa [PyData.canLay0] using a, by simpa [PyData.depth] using b⟩
theorem comp_flag {step : PyData → List PyData → (List PyData → Prop) → Prop} {Q : List PyData → Prop} {b : PyData → Bool} (ds : List PyData) (hs : ∀ d ∈ ds, ∀ acc k, k (acc ++ if b d then [.int 1] else []) → step d acc k) (q : ∀ fm, SeqAt.shaped (.list fm) = true → PyData.eqv (.list fm) (.list []) = !(ds.any b) → Q fm) : compW step ds [] Q := by
  refine comp_opt (f := fun d => if b d then some (.int 1) else none) ds [] (fun d hd acc k hk => hs d hd acc k ?_) ?_
  · cases e : b d <;> simpa [e] using hk
  · rw [List.nil_append]
    refine q _ ((shp_lst fun d hd => ?_).ok (k := 2) (by decide)) ?_
    · obtain ⟨x, _, e⟩ := List.mem_filterMap.mp hd
      cases c : b x
      · rw [c] at e; cases e
      · rw [c] at e; cases e; exact shp_int 1
    · clear q hs
      induction ds with
      | nil => simp [PyData.eqv, PyData.eqvAll]
      | cons d ds ih =>
        cases c : b d
        · simpa [c] using ih
        · simp [List.filterMap_cons, c, PyData.eqv, PyData.eqvAll]
/-- what the law hands to the judges, and how they judge it -/
def VF (n : Nat) (A : Nat → Nat → Rat) (v : PyData) (b : Bool) : Prop :=
  (v = .none ∧ b = false) ∨ (∃ low, v = .tuple [.str "positive", low] ∧ b = false) ∨
  (∃ x, v = .tuple [.str "other", .tuple (row n x)] ∧ Vec n x ∧ Thin n x ∧ b = lowB n A x) ∨
  (∃ (ds : List PyData) (piv : List (Int × Int)), v = .tuple [.str "positive", .list ds, .tuple (piv.map pq)] ∧ piv.length ≤ 1000 ∧ b = false) ∨
  (∃ (rows : List (List (Int × Int))) (piv : List (Int × Int)), v = .tuple [.str "positive", .tuple (rowsD rows), .tuple (piv.map pq)] ∧ rows.length = n ∧ (∀ r ∈ rows, r.length ≤ 1000 ∧ ∀ p ∈ r, p.2.natAbs < 2 ^ 8900) ∧ rows.all (okR n) = false ∧ piv.length ≤ 1000 ∧ b = false) ∨
  (∃ L D, v = .tuple [.str "positive", mtx n L, .tuple (row n D)] ∧ FL n L D ∧ b = facB n A L D)
theorem VF.sign {n : Nat} {A : Nat → Nat → Rat} {v : PyData} {b : Bool} (h : VF n A v b) (hn : n ≤ 12) (hA : Mat n A) : S_is_sign_paper [.d (mtx n A), .d v] (.d (.bool b)) := by
  refine ⟨n, A, v, rfl, hn, hA, ?_⟩
  rcases h with ⟨rfl, rfl⟩ | ⟨low, rfl, rfl⟩ | ⟨x, rfl, hv, ht, rfl⟩ | ⟨ds, piv, rfl, hp, rfl⟩ | ⟨rows, piv, rfl, hr, hl, hk, hp, rfl⟩ | ⟨L, D, rfl, hf, rfl⟩
  · exact .inl ⟨rfl, rfl⟩
  · exact .inr (.inl ⟨low, rfl, rfl⟩)
  · exact .inr (.inr (.inl ⟨_, rfl, ⟨n, A, vecR n x, by rw [row_pq]; rfl, hn, hA, by unfold vecR; rw [List.length_map, List.length_range]; omega, .inr ⟨x, rfl, hv, rfl⟩⟩, _, rfl⟩))
  · exact .inr (.inr (.inr ⟨_, _, rfl, ⟨n, A, _, piv, rfl, hn, hA, hp, .inl ⟨ds, rfl, rfl⟩⟩, _, rfl⟩))
  · exact .inr (.inr (.inr ⟨_, _, rfl, ⟨n, A, _, piv, rfl, hn, hA, hp, .inr (.inl ⟨rows, rfl, hr, fun r hr => (hl r hr).1, hk, rfl⟩)⟩, _, rfl⟩))
  · have e : PyData.tuple (row n D) = .tuple ((vecR n D).map pq) := by rw [row_pq]; rfl
    have s : S_are_factors [.d (mtx n A), .d (mtx n L), .d (.tuple (row n D))] (.d (.bool (facB n A L D))) := by
      rw [e]
      exact ⟨n, A, mtx n L, vecR n D, rfl, hn, hA, by unfold vecR; rw [List.length_map, List.length_range]; omega, .inr (.inr ⟨L, D, rfl, rfl, hf, rfl⟩)⟩
    exact .inr (.inr (.inr ⟨_, _, rfl, s, _, rfl⟩))
def S_is_paper (xs : List Ar) (r : Rv) : Prop := ∃ (n : Nat) (A : Nat → Nat → Rat) (v : PyData) (b : Bool), xs = [.d (mtx n A), .d v] ∧ n ≤ 12 ∧ Mat n A ∧ VF n A v b ∧ r = .d (.bool b)
theorem in23 : inD (.int 2) [.int 2, .int 3] = true ∧ inD (.int 3) [.int 2, .int 3] = true := by decide +kernel
theorem inPO : inD (.str "positive") [.str "positive", .str "other"] = true ∧ inD (.str "other") [.str "positive", .str "other"] = true := by decide +kernel
theorem len_rows (n : Nat) (A : Nat → Nat → Rat) : ((List.range n).map fun i => PyData.tuple (row n (A i))).length = n := by rw [List.length_map, List.length_range]
def ip0 : WS := (wSet 2 (cFr (wCB fLen (wCons (wVar 0) wNil))))
def ip1 : WS := (wIfS (wOrT (wNotT (wVT (wIsi "tuple" (wVar 1)))) (wOrT (wBT (fIn true) (wCB fLen (wCons (wVar 1) wNil)) (wLst (wCons (wC (.int 2)) (wCons (wC (.int 3)) wNil)))) (wBT (fIn true) (wBin fIx (wVar 1) (wC (.int 0))) (wLst (wCons (wC (.str "positive")) (wCons (wC (.str "other")) wNil)))))) (wRet (cFr (wC (.bool false)))) wNext)
def ip2 (ws__law_fr_worth ws__law_fr_are : WF) : WS := (wIfS (wBT fEq (wBin fIx (wVar 1) (wC (.int 0))) (wC (.str "other"))) (wRet (cFr (wAndV (wBin fEq (wCB fLen (wCons (wVar 1) wNil)) (wC (.int 2))) (wAndV (wCall ws__law_fr_are (wCons (wBin fIx (wVar 1) (wC (.int 1))) (wCons (wVar 2) wNil))) (wAndV (wBin fNe (wOfN (wLc (wSeq (wBin fIx (wVar 1) (wC (.int 1)))) (tfName 3) (wBT fNe (wBin fIx (wVar 3) (wC (.int 0))) (wC (.int 0))) (wC (.int 1)) [3])) (wLst wNil)) (wBin fLe (wBin fIx (wCall ws__law_fr_worth (wCons (wVar 0) (wCons (wBin fIx (wVar 1) (wC (.int 1))) wNil))) (wC (.int 0))) (wC (.int 0)))))))) wNext)
def ip3 (ws__law_fr_are : WF) : WS := (wIfS (wOrT (wBT fNe (wCB fLen (wCons (wVar 1) wNil)) (wC (.int 3))) (wOrT (wNotT (wVT (wIsi "tuple" (wBin fIx (wVar 1) (wC (.int 1)))))) (wOrT (wBT fNe (wCB fLen (wCons (wBin fIx (wVar 1) (wC (.int 1))) wNil)) (wVar 2)) (wOrT (wBT fNe (wOfN (wLc (wSeq (wBin fIx (wVar 1) (wC (.int 1)))) (tfName 4) (wNotT (wVT (wCall ws__law_fr_are (wCons (wVar 4) (wCons (wVar 2) wNil))))) (wC (.int 1)) [4])) (wLst wNil)) (wNotT (wVT (wCall ws__law_fr_are (wCons (wBin fIx (wVar 1) (wC (.int 2))) (wCons (wVar 2) wNil))))))))) (wRet (cFr (wC (.bool false)))) wNext)
def ip4 : WS := (wFor (wEnum (wBin fIx (wVar 1) (wC (.int 1)))) (tfTup (tfCons (tfName 3) (tfCons (tfName 4) tfNil))) (wIfS (wOrT (wBT fNe (wBin fIx (wVar 4) (wVar 3)) (wTup (wCons (wC (.int 1)) (wCons (wC (.int 1)) wNil)))) (wBT fNe (wOfN (wLc (wSeq (wSl (wVar 4) (wPart (wBin fAdd (wVar 3) (wC (.int 1)))) wNoPart)) (tfName 5) (wBT fNe (wVar 5) (wTup (wCons (wC (.int 0)) (wCons (wC (.int 1)) wNil)))) (wC (.int 1)) [5])) (wLst wNil))) (wRet (cFr (wC (.bool false)))) wNext))
def ip5 : WS := (wIfS (wBT fNe (wOfN (wLc (wSeq (wBin fIx (wVar 1) (wC (.int 2)))) (tfName 6) (wBT fLe (wBin fIx (wVar 6) (wC (.int 0))) (wC (.int 0))) (wC (.int 1)) [6])) (wLst wNil)) (wRet (cFr (wC (.bool false)))) wNext)
def ip6 (ws__law_fr_along ws__law_fr_product ws__law_fr_turned : WF) : WS := (wRet (cFr (wBin fEq (wCall ws__law_fr_product (wCons (wCall ws__law_fr_product (wCons (wBin fIx (wVar 1) (wC (.int 1))) (wCons (wCall ws__law_fr_along (wCons (wBin fIx (wVar 1) (wC (.int 2))) wNil)) wNil))) (wCons (wCall ws__law_fr_turned (wCons (wBin fIx (wVar 1) (wC (.int 1))) wNil)) wNil))) (wVar 0))))

theorem ip_eq (a b c d e : WF) : w__law_k00_is_paper a b c d e = wSeqS ip0 (wSeqS ip1 (wSeqS (ip2 a b) (wSeqS (ip3 b) (wSeqS ip4 (wSeqS ip5 (ip6 c d e)))))) := rfl
theorem at0 (x : PyData) (ds : List PyData) : L2.atI (x :: ds) 0 = some x := atI_nat (j := 0) rfl
theorem ip1_none {m k z3 z4 z5 z6 : Sl} {E : En} (h : E.rt (.d (.bool false))) : ip1 [m, .d .none, k, z3, z4, z5, z6] E := by
  unfold ip1
  walk_at "dw"
  exact h
theorem ip1_ok {m k z3 z4 z5 z6 : Sl} {E : En} {s : Str} {ds : List PyData} (hs : s = "positive" ∨ s = "other") (hl : ds.length = 1 ∨ ds.length = 2) (h : E.nx [m, .d (.tuple (.str s :: ds)), k, z3, z4, z5, z6]) : ip1 [m, .d (.tuple (.str s :: ds)), k, z3, z4, z5, z6] E := by
  unfold ip1
  walk_at "dw"
  have e : inD (.str s) [.str "positive", .str "other"] = true := by rcases hs with rfl | rfl; exact inPO.1; exact inPO.2
  rw [isiTT]
  rcases hl with hl | hl
  · refine ⟨rfl, rfl, ?_⟩
    rw [List.length_cons, hl, show ((1 + 1 : Nat) : Int) = 2 from rfl, in23.1]
    refine ⟨_, at0 _ _, rfl, rfl, ?_⟩
    rw [e]
    exact h
  · refine ⟨rfl, rfl, ?_⟩
    rw [List.length_cons, hl, show ((2 + 1 : Nat) : Int) = 3 from rfl, in23.2]
    refine ⟨_, at0 _ _, rfl, rfl, ?_⟩
    rw [e]
    exact h
theorem ip2_pos {a b : WF} {m k z3 z4 z5 z6 : Sl} {E : En} {ds : List PyData} (h : E.nx [m, .d (.tuple (.str "positive" :: ds)), k, z3, z4, z5, z6]) : ip2 a b [m, .d (.tuple (.str "positive" :: ds)), k, z3, z4, z5, z6] E := by
  unfold ip2
  walk_at "dw"
  refine ⟨_, at0 _ _, sh_str.1, sh_str.2, ?_⟩
  rw [eqv_po]
  exact h
theorem ip2_oth {n : Nat} {A : Nat → Nat → Rat} {x : Nat → Rat} {z3 z4 z5 z6 : Sl} {E : En} (hn : n ≤ 12) (hA : Mat n A) (hv : Vec n x) (ht : Thin n x) (h : E.rt (.d (.bool (lowB n A x)))) : ip2 (det S_fr_worth) (det S_fr_are) [.d (mtx n A), .d (.tuple [.str "other", .tuple (row n x)]), .d (.int (n : Int)), z3, z4, z5, z6] E := by
  unfold ip2
  walk_at "dw"
  refine ⟨_, rfl, sh_str.2, sh_str.2, ?_⟩
  rw [eqv_oo]
  refine ⟨rfl, rfl, ?_⟩
  rw [eqv_int, decide_eq_true (show (([PyData.str "other", .tuple (row n x)].length : Nat) : Int) = 2 from rfl)]
  refine ⟨_, rfl, _, ⟨vecR n x, n, by rw [row_pq]; rfl, by unfold vecR; rw [List.length_map, List.length_range]; omega, fun p hp => ?_, rfl⟩, ?_⟩
  · obtain ⟨N, K, hN, hK, hx⟩ := hv
    unfold vecR at hp
    obtain ⟨j, hj, rfl⟩ := List.mem_map.mp hp
    have := (hx j (List.mem_range.mp hj)).size.2
    show ((x j).den : Int).natAbs < _
    rw [Int.natAbs_natCast]
    exact Nat.lt_of_le_of_lt (Nat.le_trans this hN) (by decide)
  rw [okR_vec]
  refine ⟨_, rfl, ?_⟩
  dsimp only
  refine ⟨by rw [row_len]; omega, ?_⟩
  refine comp_flag (b := fun d => !PyData.eqv d (rd 0)) _ (fun d hd acc k hk => ?_) (fun fm sh e => ?_)
  · obtain ⟨j, hj, rfl⟩ := List.mem_map.mp hd
    refine ⟨_, rd_num _, rfl, rfl, ?_⟩
    rw [eqv_num0]
    rw [eqv_rd2] at hk
    by_cases c : x j = 0
    · rw [decide_eq_true c] at hk ⊢
      simpa using hk
    · rw [decide_eq_false c] at hk ⊢
      exact hk
  · refine ⟨sh, rfl, ?_⟩
    rw [e]
    have q : (row n x).any (fun d => !PyData.eqv d (rd 0)) = !decide (∀ i, i < n → x i = 0) := by
      unfold row
      rw [List.any_map]
      refine Bool.eq_iff_iff.mpr ?_
      simp only [List.any_eq_true, Function.comp, eqv_rd2, List.mem_range, Bool.not_eq_true', decide_eq_false_iff_not]
      constructor
      · rintro ⟨j, hj, hc⟩ z; exact hc (z j hj)
      · intro z; exact Classical.byContradiction fun y => z fun i hi => Classical.byContradiction fun w => y ⟨i, hi, w⟩
    rw [q]
    unfold lowB at h
    by_cases c : ∀ i, i < n → x i = 0
    · rw [decide_eq_true c] at h ⊢
      exact h
    · rw [decide_eq_false c] at h ⊢
      refine ⟨_, rfl, _, ⟨n, A, x, rfl, hn, hA, hv, ht, rfl⟩, _, rd_num _, ?_⟩
      have e2 : decide ((Wx n A x).num ≤ 0) = decide (Wx n A x ≤ 0) := Bool.eq_iff_iff.mpr (by simp only [decide_eq_true_eq]; exact num_le _)
      dsimp only
      rw [e2]
      exact h
theorem ip3_two {b : WF} {m k z3 z4 z5 z6 : Sl} {E : En} {low : PyData} (h : E.rt (.d (.bool false))) : ip3 b [m, .d (.tuple [.str "positive", low]), k, z3, z4, z5, z6] E := by
  unfold ip3
  walk_at "dw"
  refine ⟨rfl, rfl, ?_⟩
  rw [eqv_int, decide_eq_false (show ¬ (([PyData.str "positive", low].length : Nat) : Int) = 3 from by show ¬ (2 : Int) = 3; decide)]
  exact h
theorem ip3_list {b : WF} {m k z3 z4 z5 z6 : Sl} {E : En} {piv : PyData} {ds : List PyData} (h : E.rt (.d (.bool false))) : ip3 b [m, .d (.tuple [.str "positive", .list ds, piv]), k, z3, z4, z5, z6] E := by
  unfold ip3
  walk_at "dw"
  refine ⟨rfl, rfl, ?_⟩
  rw [eqv_int, decide_eq_true (show (([PyData.str "positive", .list ds, piv].length : Nat) : Int) = 3 from rfl)]
  refine ⟨_, rfl, ?_⟩
  exact h
theorem ip3_bad {n : Nat} {m z3 z4 z5 z6 : Sl} {E : En} {rows : List (List (Int × Int))} {piv : List (Int × Int)} (hn : n ≤ 12) (hr : rows.length = n) (hl : ∀ r ∈ rows, r.length ≤ 1000 ∧ ∀ p ∈ r, p.2.natAbs < 2 ^ 8900) (hk : rows.all (okR n) = false) (h : E.rt (.d (.bool false))) : ip3 (det S_fr_are) [m, .d (.tuple [.str "positive", .tuple (rowsD rows), .tuple (piv.map pq)]), .d (.int (n : Int)), z3, z4, z5, z6] E := by
  unfold ip3
  walk_at "dw"
  refine ⟨rfl, rfl, ?_⟩
  rw [eqv_int, decide_eq_true (show (([PyData.str "positive", .tuple (rowsD rows), .tuple (piv.map pq)].length : Nat) : Int) = 3 from rfl)]
  refine ⟨_, rfl, ?_⟩
  rw [isiTT]
  refine ⟨_, rfl, rfl, rfl, ?_⟩
  unfold rowsD
  rw [List.length_map, hr, all_eqv, decide_eq_true rfl]
  refine ⟨_, rfl, ?_⟩
  dsimp only
  refine ⟨by rw [List.length_map]; omega, ?_⟩
  refine comp_flag (b := fun d => !rowB n d) _ (fun d hd acc k hk => ?_) (fun fm sh e => ?_)
  · obtain ⟨r, hr, rfl⟩ := List.mem_map.mp hd
    refine ⟨_, ⟨r, n, rfl, (hl r hr).1, (hl r hr).2, rfl⟩, ?_⟩
    rw [rowB_ok] at hk
    cases c : okR n r
    · rw [c] at hk; exact hk
    · rw [c] at hk
      have hk2 : k acc := by simpa using hk
      exact hk2
  · refine ⟨sh, rfl, ?_⟩
    rw [e, List.any_map]
    have q : rows.any ((fun d => !rowB n d) ∘ fun r => PyData.tuple (r.map pq)) = true := by
      rw [List.any_eq_true]
      refine Classical.byContradiction fun y => ?_
      have : rows.all (okR n) = true := List.all_eq_true.mpr fun r hr => Classical.byContradiction fun w => y ⟨r, hr, by
        simp only [Function.comp, rowB_ok]
        cases c : okR n r
        · rfl
        · exact absurd c w⟩
      rw [hk] at this; cases this
    rw [q]
    exact h
theorem ip3_ok {n : Nat} {m z3 z4 z5 z6 : Sl} {E : En} {L : Nat → Nat → Rat} {D : Nat → Rat} (hn : n ≤ 12) (hf : FL n L D) (h : E.nx [m, .d (.tuple [.str "positive", mtx n L, .tuple (row n D)]), .d (.int (n : Int)), z3, z4, z5, z6]) : ip3 (det S_fr_are) [m, .d (.tuple [.str "positive", mtx n L, .tuple (row n D)]), .d (.int (n : Int)), z3, z4, z5, z6] E := by
  unfold ip3 mtx
  unfold mtx at h
  walk_at "dw"
  refine ⟨rfl, rfl, ?_⟩
  rw [eqv_int, decide_eq_true (show (([PyData.str "positive", .tuple ((List.range n).map fun i => .tuple (row n (L i))), .tuple (row n D)].length : Nat) : Int) = 3 from rfl)]
  refine ⟨_, rfl, ?_⟩
  rw [isiTT]
  refine ⟨_, rfl, rfl, rfl, ?_⟩
  rw [len_rows, all_eqv, decide_eq_true rfl]
  refine ⟨_, rfl, ?_⟩
  dsimp only
  refine ⟨by rw [len_rows]; omega, ?_⟩
  have den : ∀ (f : Nat → Rat) (N : Nat), N < 2 ^ 300 → (∀ j, j < n → (f j).den ≤ N) → ∀ p ∈ vecR n f, p.2.natAbs < 2 ^ 8900 := fun f N hN hf p hp => by
    unfold vecR at hp
    obtain ⟨j, hj, rfl⟩ := List.mem_map.mp hp
    show ((f j).den : Int).natAbs < _
    rw [Int.natAbs_natCast]
    exact Nat.lt_of_le_of_lt (hf j (List.mem_range.mp hj)) (Nat.lt_trans hN (by decide))
  refine comp_flag (b := fun _ => false) _ (fun d hd acc k hk => ?_) (fun fm sh e => ?_)
  · obtain ⟨i, hi, rfl⟩ := List.mem_map.mp hd
    refine ⟨_, ⟨vecR n (L i), n, by rw [row_pq]; rfl, by unfold vecR; rw [List.length_map, List.length_range]; omega, den _ 6 (by decide) fun j hj => (hf.1 i j (List.mem_range.mp hi) hj).size.2, rfl⟩, ?_⟩
    rw [okR_vec]
    have hk2 : k acc := by simpa using hk
    exact hk2
  · refine ⟨sh, rfl, ?_⟩
    rw [e]
    have q : ∀ l : List PyData, l.any (fun _ => false) = false := fun l => by simp
    rw [q]
    refine ⟨_, rfl, _, ⟨vecR n D, n, by rw [row_pq]; rfl, by unfold vecR; rw [List.length_map, List.length_range]; omega, den _ 6 (by decide) fun j hj => (hf.2 j hj).size.2, rfl⟩, ?_⟩
    rw [okR_vec]
    exact h
/-- one law's row is right -/
def rowOk (n : Nat) (L : Nat → Nat → Rat) (i : Nat) : Prop := L i i = 1 ∧ ∀ j, j < n → i < j → L i j = 0
theorem ip4_go {n : Nat} {m z2 z3 z4 z5 z6 : Sl} {E : En} {L : Nat → Nat → Rat} {D : Nat → Rat} (hn : n ≤ 12) (h : Lw n L = true → ∀ z3 z4 z5, E.nx [m, .d (.tuple [.str "positive", mtx n L, .tuple (row n D)]), z2, z3, z4, z5, z6]) (g : Lw n L = false → E.rt (.d (.bool false))) : ip4 [m, .d (.tuple [.str "positive", mtx n L, .tuple (row n D)]), z2, z3, z4, z5, z6] E := by
  unfold ip4 mtx
  unfold mtx at h
  walk_at "dw"
  have e0 : enumD ((List.range n).map fun i => PyData.tuple (row n (L i))) = (List.range n).map fun i => .tuple [.int (i : Nat), .tuple (row n (L i))] := by
    refine List.ext_getElem? fun i => ?_
    unfold enumD
    rw [List.getElem?_mapIdx]
    by_cases hi : i < n
    · rw [rows_at L hi, List.getElem?_map, List.getElem?_range hi]; rfl
    · rw [List.getElem?_eq_none (by rw [List.length_map, List.length_range]; omega), List.getElem?_eq_none (by rw [List.length_map, List.length_range]; omega)]; rfl
  refine ⟨_, rfl, ?_⟩
  dsimp only
  rw [e0]
  refine ⟨by rw [List.length_map, List.length_range]; omega, ?_⟩
  have bad : ∀ i, i < n → ¬ rowOk n L i → E.rt (.d (.bool false)) := fun i hi w => g (by
    unfold Lw
    exact decide_eq_false fun y => w (y i hi))
  refine forW_ind (fun i ρ => (∀ i', i' < i → rowOk n L i') ∧ ∃ z3 z4 z5, ρ = [m, .d (.tuple [.str "positive", .tuple ((List.range n).map fun i => .tuple (row n (L i))), .tuple (row n D)]), z2, z3, z4, z5, z6]) (fun i d ρ k hd hI hk => ?_) (fun ρ hI => ?_) ⟨fun m hm => absurd hm (Nat.not_lt_zero _), _, _, _, rfl⟩
  · obtain ⟨hpr, z3, z4, z5, rfl⟩ := hI
    rw [List.getElem?_map, Option.map_eq_some_iff] at hd
    obtain ⟨i', hi', rfl⟩ := hd
    obtain ⟨h1, h2⟩ := List.getElem?_eq_some_iff.mp hi'
    rw [List.length_range] at h1
    rw [List.getElem_range] at h2
    subst h2
    refine ⟨_, rfl, ?_⟩
    walk_at "dw"
    refine ⟨_, atI_nat (row_at _ h1), shaped_rd _, rfl, ?_⟩
    rw [show PyData.eqv (rd (L i i)) (.tuple [.int 1, .int 1]) = decide (L i i = 1) from eqv_rd2 (L i i) 1]
    by_cases c1 : L i i = 1
    · rw [decide_eq_true c1]
      rw [cut_row n i (L i) h1]
      refine ⟨by rw [List.length_drop, row_len]; omega, ?_⟩
      refine comp_flag (b := fun d => !PyData.eqv d (rd 0)) _ (fun d hd acc k2 hk2 => ?_) (fun fm sh e => ?_)
      · obtain ⟨j, _, _, rfl⟩ := row_drop _ _ hd
        refine ⟨shaped_rd _, rfl, ?_⟩
        rw [show PyData.eqv (rd (L i j)) (.tuple [.int 0, .int 1]) = PyData.eqv (rd (L i j)) (rd 0) from rfl]
        cases c : PyData.eqv (rd (L i j)) (rd 0)
        · rw [c] at hk2; exact hk2
        · rw [c] at hk2; simpa using hk2
      · refine ⟨sh, rfl, ?_⟩
        rw [e]
        by_cases c2 : ∀ j, j < n → i < j → L i j = 0
        · have e6 : ((row n (L i)).drop (i + 1)).any (fun d => !PyData.eqv d (rd 0)) = false := by
            rw [List.any_eq_false]
            intro d hd
            obtain ⟨j, hj1, hj2, rfl⟩ := row_drop _ _ hd
            rw [eqv_rd2, c2 j hj2 (by omega)]; simp
          rw [e6]
          refine hk _ ⟨fun j hj => ?_, _, _, _, rfl⟩
          by_cases z : j = i
          · subst z; exact ⟨c1, c2⟩
          · exact hpr j (by omega)
        · have e6 : ((row n (L i)).drop (i + 1)).any (fun d => !PyData.eqv d (rd 0)) = true := by
            rw [List.any_eq_true]
            refine Classical.byContradiction fun z => c2 fun j hj1 hj2 => Classical.byContradiction fun y => z ⟨rd (L i j), row_drop' _ (by omega) hj1, ?_⟩
            rw [eqv_rd2, decide_eq_false y]; rfl
          rw [e6]
          exact bad i h1 fun y => c2 y.2
    · rw [decide_eq_false c1]
      exact bad i h1 fun y => c1 y.1
  · rw [List.length_map, List.length_range] at hI
    obtain ⟨hpr, z3, z4, z5, rfl⟩ := hI
    exact h (by unfold Lw; exact decide_eq_true fun i hi => hpr i hi) _ _ _
def lowE : PyData → Bool
  | .tuple [.int a, _] => decide (a ≤ 0)
  | _ => false
theorem lowE_rd (x : Rat) : lowE (rd x) = decide (x ≤ 0) := by
  show decide (x.num ≤ 0) = _
  exact Bool.eq_iff_iff.mpr (by simp only [decide_eq_true_eq]; exact num_le _)
theorem ip5_go {n : Nat} {m z2 z3 z4 z5 z6 : Sl} {E : En} {low : PyData} {D : Nat → Rat} (hn : n ≤ 12) (h : (∀ i, i < n → 0 < D i) → E.nx [m, .d (.tuple [.str "positive", low, .tuple (row n D)]), z2, z3, z4, z5, z6]) (g : ¬ (∀ i, i < n → 0 < D i) → E.rt (.d (.bool false))) : ip5 [m, .d (.tuple [.str "positive", low, .tuple (row n D)]), z2, z3, z4, z5, z6] E := by
  unfold ip5
  walk_at "dw"
  refine ⟨_, rfl, ?_⟩
  dsimp only
  refine ⟨by rw [row_len]; omega, ?_⟩
  refine comp_flag (b := lowE) _ (fun d hd acc k hk => ?_) (fun fm sh e => ?_)
  · obtain ⟨j, hj, rfl⟩ := List.mem_map.mp hd
    refine ⟨_, rd_num _, ?_⟩
    rw [lowE_rd] at hk
    walk_at "dw"
    have e : decide ((D j).num ≤ 0) = decide (D j ≤ 0) := Bool.eq_iff_iff.mpr (by simp only [decide_eq_true_eq]; exact num_le _)
    rw [e]
    by_cases c : D j ≤ 0
    · rw [decide_eq_true c] at hk ⊢; exact hk
    · rw [decide_eq_false c] at hk ⊢
      have hk2 : k acc := by simpa using hk
      exact hk2
  · refine ⟨sh, rfl, ?_⟩
    rw [e]
    have q : (row n D).any lowE = !decide (∀ i, i < n → 0 < D i) := by
      unfold row
      rw [List.any_map]
      refine Bool.eq_iff_iff.mpr ?_
      simp only [List.any_eq_true, Function.comp, lowE_rd, List.mem_range, Bool.not_eq_true', decide_eq_false_iff_not, decide_eq_true_eq]
      constructor
      · rintro ⟨j, hj, hc⟩ z; exact absurd (z j hj) (Rat.not_lt.mpr hc)
      · intro z; exact Classical.byContradiction fun y => z fun i hi => Classical.byContradiction fun w => y ⟨i, hi, Rat.not_lt.mp w⟩
    rw [q]
    by_cases c : ∀ i, i < n → 0 < D i
    · rw [decide_eq_true c]; exact h c
    · rw [decide_eq_false c]; exact g c
/-- the product of the factors, as the law multiplies -/
def Px (n : Nat) (L : Nat → Nat → Rat) (D : Nat → Rat) (i j : Nat) : Rat := sumN n fun m => (sumN n fun k => L i k * if k = m then D k else 0) * L j m
theorem Px_eq {n : Nat} {L : Nat → Nat → Rat} {D : Nat → Rat} (i j : Nat) : Px n L D i j = Mx n L D i j := sumN_congr fun m hm => by
  rw [sumN_one hm fun k _ hne => by rw [if_neg hne, Rat.mul_zero], if_pos rfl]
theorem Px_data {n : Nat} {L : Nat → Nat → Rat} {D : Nat → Rat} (hn : n ≤ 12) (hf : FL n L D) : S_fr_product [.d (mtx n L), .d (mtx n fun i j => if i = j then D i else 0)] (.d (mtx n fun i m => sumN n fun k => L i k * if k = m then D k else 0)) ∧ S_fr_product [.d (mtx n fun i m => sumN n fun k => L i k * if k = m then D k else 0), .d (mtx n fun i j => L j i)] (.d (mtx n fun i j => Px n L D i j)) := by
  have h2 : Ent n 6 18 fun i j => if i = j then D i else 0 := fun i j hi hj => by
    show Fr _ _ (if i = j then D i else 0)
    split
    · exact hf.2 i hi
    · exact (Fr.zero (by decide)).mono (Nat.zero_le _)
  have h3 : Ent n 36 2592 fun i m => sumN n fun k => L i k * if k = m then D k else 0 := fun i j hi hj => by
    have := Fr.sum (N := 36) (K := 216) (n := n) (f := fun k => L i k * if k = j then D k else 0) (by decide) fun k hk => (hf.1 i k hi hk).mul (h2 k j hk hj)
    exact this.mono (by omega)
  exact ⟨⟨n, L, _, 6, 12, 6, 18, rfl, hn, hf.1, h2, by decide, by decide, by decide, by decide, rfl⟩, n, _, _, 36, 2592, 6, 12, rfl, hn, h3, fun i j hi hj => hf.1 j i hj hi, by decide, by decide, by decide, by decide, rfl⟩
theorem tri_eq {n : Nat} {L : Nat → Nat → Rat} {D : Nat → Rat} {A : Nat → Nat → Rat} (hA : Mat n A) (hL : Lw n L = true) : (∀ i, i < n → ∀ j, j < n → Px n L D i j = A i j) ↔ ∀ i, i < n → ∀ j, j ≤ i → sumN (j + 1) (fun b => L i b * D b * L j b) = A i j := by
  unfold Lw at hL
  have hl := of_decide_eq_true hL
  have cut : ∀ i j, i < n → j < n → Mx n L D i j = sumN (j + 1) fun b => L i b * D b * L j b := fun i j hi hj => by
    unfold Mx
    have : ∀ k, j + 1 + k ≤ n → sumN (j + 1 + k) (fun m => L i m * D m * L j m) = sumN (j + 1) fun b => L i b * D b * L j b := fun k => by
      induction k with
      | zero => intro _; rfl
      | succ k ih =>
        intro hk
        show sumN (j + 1 + k) _ + L i (j + 1 + k) * D (j + 1 + k) * L j (j + 1 + k) = _
        rw [ih (by omega), (hl j hj).2 (j + 1 + k) (by omega) (by omega), Rat.mul_zero, Rat.add_zero]
    have e : n = j + 1 + (n - (j + 1)) := by omega
    rw [e]
    exact this _ (by omega)
  constructor
  · intro h i hi j hj
    rw [← cut i j hi (by omega), ← Px_eq, h i hi j (by omega)]
  · intro h i hi j hj
    rw [Px_eq]
    by_cases c : j ≤ i
    · rw [cut i j hi hj]; exact h i hi j c
    · rw [Mx_sym, cut j i hj hi, hA.2 i j hi hj]; exact h j hj i (by omega)
theorem ip6_go {n : Nat} {z2 z3 z4 z5 z6 : Sl} {A : Nat → Nat → Rat} {E : En} {L : Nat → Nat → Rat} {D : Nat → Rat} (hn : n ≤ 12) (hf : FL n L D) (h : E.rt (.d (.bool (decide (∀ i, i < n → ∀ j, j < n → Px n L D i j = A i j))))) : ip6 (det S_fr_along) (det S_fr_product) (det S_fr_turned) [.d (mtx n A), .d (.tuple [.str "positive", mtx n L, .tuple (row n D)]), z2, z3, z4, z5, z6] E := by
  unfold ip6
  walk_at "dw"
  obtain ⟨p1, p2⟩ := Px_data hn hf
  refine ⟨_, rfl, _, rfl, _, ⟨n, D, rfl, hn, rfl⟩, _, p1, _, rfl, _, ⟨n, L, rfl, hn, rfl⟩, _, p2, (shp_mtx n _).ok (by decide), (shp_mtx n _).ok (by decide), ?_⟩
  rw [eqv_mtx]
  exact h
theorem p_is_paper {xs : List Ar} {R : Rv → Prop} (h : det S_is_paper xs R) : w__law_k00_is_paper (det S_fr_worth) (det S_fr_are) (det S_fr_along) (det S_fr_product) (det S_fr_turned) (startR N__law_k00_is_paper.length xs) { nx := fun _ => R (.d .none), rt := R } := by
  obtain ⟨r, ⟨n, A, v, b, rfl, hn, hA, hv, rfl⟩, h⟩ := h
  have st : startR N__law_k00_is_paper.length [.d (mtx n A), .d v] = [.d (mtx n A), .d v, .no, .no, .no, .no, .no] := rfl
  rw [st, ip_eq]
  have s0 : ∀ (K : WS) (E : En), K [.d (mtx n A), .d v, .d (.int (n : Int)), .no, .no, .no, .no] E → wSeqS ip0 K [.d (mtx n A), .d v, .no, .no, .no, .no, .no] E := fun K E q => by
    unfold ip0 mtx
    unfold mtx at q
    walk_at "dw"
    rw [len_rows]
    exact q
  refine s0 _ _ ?_
  rcases hv with ⟨rfl, rfl⟩ | ⟨low, rfl, rfl⟩ | ⟨x, rfl, hv, ht, rfl⟩ | ⟨ds, piv, rfl, hp, rfl⟩ | ⟨rows, piv, rfl, hr, hl, hk, hp, rfl⟩ | ⟨L, D, rfl, hf, rfl⟩
  · exact ip1_none h
  · exact ip1_ok (.inl rfl) (.inl rfl) (ip2_pos (a := det S_fr_worth) (ip3_two (b := det S_fr_are) h))
  · exact ip1_ok (.inr rfl) (.inl rfl) (ip2_oth hn hA hv ht h)
  · exact ip1_ok (.inl rfl) (.inr rfl) (ip2_pos (a := det S_fr_worth) (ip3_list (b := det S_fr_are) h))
  · exact ip1_ok (.inl rfl) (.inr rfl) (ip2_pos (ip3_bad hn hr hl hk h))
  · refine ip1_ok (.inl rfl) (.inr rfl) (ip2_pos (ip3_ok hn hf (ip4_go hn (fun hL z3 z4 z5 => ip5_go hn (fun c => ip6_go hn hf ?_) (fun c => ?_)) (fun hL => ?_))))
    · unfold facB at h
      rw [hL, decide_eq_true c, Bool.true_and, Bool.true_and] at h
      have e : decide (∀ i, i < n → ∀ j, j < n → Px n L D i j = A i j) = decide (∀ i, i < n → ∀ j, j ≤ i → sumN (j + 1) (fun b => L i b * D b * L j b) = A i j) := Bool.eq_iff_iff.mpr (by simp only [decide_eq_true_eq]; exact tri_eq hA hL)
      rw [e]
      exact h
    · unfold facB at h
      rw [decide_eq_false c, Bool.false_and] at h
      exact h
    · unfold facB at h
      rw [hL, Bool.false_and, Bool.and_false] at h
      exact h
end K00
set_option Elab.async false
set_option linter.all false
set_option maxRecDepth 100000
set_option maxHeartbeats 1000000
namespace K00
open PySem PySem.Spec PyProof.Rows L2 RZ DW Kx
set_option exponentiation.threshold 20000
local macro_rules | `(tactic| walk_at "dw") => `(tactic| dsimp only [wSeqS, wNext, wSet, wPar, wParN, setsR, wRet, wRetN, wRetV, wAsg, wIfS, wFor, wApp, wExt, wSetIx, wSetIx2, cFr, cIm, cNw, cNi, cN2, cCat, cNil, cCons, wVar, wC, wNil, wCons, wTup, wLst, wBin, wBT, wVT, wNotT, wAndT, wOrT, wAndV, wOrV, wNotV, wIf, wNeg, wCB, fI1, fI2, fInt2, fInt2C, fAdd, fSub, fMul, fDiv, fMod, fPow, fLt, fLe, fGt, fGe, fEq, fNe, fIs, fIsNot, fLen, fBools, fSeqTo, fIntOf, wIsi, wCall, Rv.toAr, wNCall, wN2Call, wOfN, wNLst, wNList, wSeq, wRng1, wRng2, wRngDown, wEnum, wZip, noOw_nil, noOw_no, noOw_ar, noOw_ow, noOw_ow2, wipeR, setR, allD, Option.map_some, Option.map_none, wExpr, wNever, fIx, wSl, wPart, wNoPart, wYes, tfName, tfTup, tfCons, tfNil, wRevT, fRep, wNRep, List.map_cons, List.map_nil, List.getElem?_cons_zero, List.getElem?_cons_succ, List.set_cons_zero, List.set_cons_succ, List.cons_append, List.nil_append, wLc, wLcN, wLc2, lcStep, lcStep2, cNd, wFill, wLeft, wStLeft, wStCells, wGreat, wBegun])

/-! the source of draws -/
def W_begun : WF := fun xs R => ∃ ns : List Int, xs = [.d (.list (ns.map .int))] ∧ ns.length ≤ 1000 ∧ R (.ar .sta)
theorem W_begun_mono : MonoF W_begun := fun _ _ _ h ⟨ns, e, l, q⟩ => ⟨ns, e, l, h _ q⟩
def great1 : PyData → Option PyData
  | .int i => if 10 ^ 18 ≤ iAbs i then some (.int (iAbs i - 10 ^ 18)) else none
  | _ => none
theorem iAbs_nn (i : Int) : 0 ≤ iAbs i := by rw [iAbs_nat]; omega
theorem p_begun {xs : List Ar} {R : Rv → Prop} (h : W_begun xs R) : w__law_begun (startR N__law_begun.length xs) { nx := fun _ => R (.d .none), rt := R } := by
  obtain ⟨ns, rfl, hl, h⟩ := h
  have st : startR N__law_begun.length [.d (.list (ns.map .int))] = [.d (.list (ns.map .int)), .no, .no] := rfl
  rw [st]
  unfold w__law_begun
  walk_at "dw"
  refine ⟨by rw [List.length_map]; omega, ?_⟩
  refine comp_opt (f := great1) _ [] (fun d hd acc k hk => ?_) ?_
  · obtain ⟨i, hi, rfl⟩ := List.mem_map.mp hd
    refine ⟨⟨by decide, by decide, by decide⟩, ?_⟩
    dsimp only [great1] at hk
    have e : ((10 : Int) ^ (18 : Int).toNat) = 10 ^ 18 := rfl
    walk_at "dw"
    rw [e]
    by_cases c : 10 ^ 18 ≤ iAbs i
    · rw [if_pos c] at hk
      rw [decide_eq_true c]
      exact ⟨⟨by decide, by decide, by decide⟩, hk⟩
    · rw [if_neg c] at hk
      rw [decide_eq_false c]
      simpa using hk
  · rw [List.nil_append]
    refine ⟨⟨(ns.filterMap fun i => if 10 ^ 18 ≤ iAbs i then some (iAbs i - 10 ^ 18) else none), ?_, fun k hk => ?_, ?_⟩, ?_⟩
    · rw [List.filterMap_map, List.map_filterMap]
      refine congrArg (fun z => List.filterMap z ns) (funext fun i => ?_)
      show (if 10 ^ 18 ≤ iAbs i then some (PyData.int (iAbs i - 10 ^ 18)) else none) = _
      split <;> rfl
    · obtain ⟨i, _, e⟩ := List.mem_filterMap.mp hk
      split at e
      · cases e; omega
      · cases e
    · exact Nat.le_trans (List.length_filterMap_le _ _) hl
    refine ⟨by rw [List.length_map]; omega, ?_⟩
    refine comp_map (f := fun d => match d with | .int i => .int (iAbs i) | _ => .none) _ [] (fun d hd acc k hk => ?_) ?_
    · obtain ⟨i, hi, rfl⟩ := List.mem_map.mp hd
      exact hk
    · exact ⟨⟨ns.map iAbs, by rw [List.nil_append, List.map_map, List.map_map]; rfl, fun k hk => by obtain ⟨i, _, rfl⟩ := List.mem_map.mp hk; exact iAbs_nn i, by rw [List.length_map]; exact hl⟩, h⟩
def W_blended : WF := fun xs R => xs = [.sta] ∧ ∀ z : Int, 0 ≤ z → R (.d (.int z))
theorem W_blended_mono : MonoF W_blended := fun _ _ _ h ⟨e, q⟩ => ⟨e, fun z hz => h _ (q z hz)⟩
theorem p_blended {xs : List Ar} {R : Rv → Prop} (h : W_blended xs R) : w__law_blended (startR N__law_blended.length xs) { nx := fun _ => R (.d .none), rt := R } := by
  obtain ⟨rfl, h⟩ := h
  have st : startR N__law_blended.length [.sta] = [.ar .sta, .no, .no, .no, .no, .no] := rfl
  rw [st]
  unfold w__law_blended
  walk_at "dw"
  intro t ht0 ht
  have e2 : (2 : Int) ^ 4000 = ((2 ^ 4000 : Nat) : Int) := by rw [Int.natCast_pow]; rfl
  have tn : (t + 1).natAbs < 2 ^ 4001 := by
    rw [e2] at ht
    have : (2 : Nat) ^ 4001 = 2 ^ 4000 * 2 := Nat.pow_succ ..
    have : (1 : Nat) < 2 ^ 4000 := by decide
    omega
  refine ⟨by decide, ?_⟩
  refine forW_ind (fun i ρ => ∃ (f : Int) (z3 z4 z5 : Sl), ρ = [.ar .sta, .d (.int (t + 1)), .d (.int f), z3, z4, z5] ∧ 0 ≤ f ∧ f.natAbs < 2 ^ (40 * (i + 1))) (fun i d ρ k hd hI hk => ?_) (fun ρ hI => ?_) ⟨0, .no, .no, .no, rfl, by decide, by decide⟩
  · obtain ⟨f, z3, z4, z5, rfl, hf0, hf⟩ := hI
    obtain ⟨p, rfl, hp0, hp, hi⟩ : ∃ p : Int, d = .int p ∧ 0 < p ∧ p < 2 ^ 32 ∧ i < 3 := by
      have hi : i < 3 := (List.getElem?_eq_some_iff.mp hd).1
      have hm := List.mem_of_getElem? hd
      simp only [List.mem_cons, List.not_mem_nil, or_false] at hm
      rcases hm with rfl | rfl | rfl
      · exact ⟨_, rfl, by decide, by decide, hi⟩
      · exact ⟨_, rfl, by decide, by decide, hi⟩
      · exact ⟨_, rfl, by decide, by decide, hi⟩
    refine ⟨_, rfl, ?_⟩
    walk_at "dw"
    have q1 : 0 ≤ p.fdiv 83 ∧ p.fdiv 83 < 2 ^ 32 := by
      rw [Int.fdiv_eq_ediv_of_nonneg p (by decide)]
      constructor
      · omega
      · omega
    have b0 : (60611 * (t + 1) + p.fdiv 83).natAbs < 2 ^ 4100 := by
      have e3 : (2 : Nat) ^ 4100 = 2 ^ 4001 * 2 ^ 99 := by rw [← Nat.pow_add]
      rw [e3]
      have : (2 : Nat) ^ 99 = 633825300114114700748351602688 := by decide
      omega
    refine ⟨cmul (a := 16) (b := 4001) (by decide) tn (by decide) (by decide) (by decide), ⟨by decide, by decide⟩, ?_⟩
    intro cells hcl hc0
    refine ⟨by rw [List.length_map]; omega, ?_⟩
    refine forW_ind (fun i ρ => ∃ (b : Int) (z5 : Sl), ρ = [.ar .sta, .d (.int (t + 1)), .d (.int f), .d (.int p), .d (.int b), z5] ∧ 0 ≤ b ∧ b.natAbs < 2 ^ 4100) (fun j d ρ k2 hd hI hk2 => ?_) (fun ρ hI => ?_) ⟨_, _, rfl, by omega, b0⟩
    · obtain ⟨b, z5, rfl, hb0, hb⟩ := hI
      obtain ⟨c, hc, rfl⟩ := List.mem_map.mp (List.mem_of_getElem? hd)
      refine ⟨_, rfl, ?_⟩
      walk_at "dw"
      refine ⟨cmul (a := 4100) (b := 17) hb (by decide) (by decide) (by decide) (by decide), by omega, ?_⟩
      have m1 := Int.fmod_nonneg_of_pos (b * 69001 + c + (t + 1)) hp0
      have m2 := Int.fmod_lt_of_pos (b * 69001 + c + (t + 1)) hp0
      refine hk2 _ ⟨_, _, rfl, m1, ?_⟩
      have : (2 : Nat) ^ 32 < 2 ^ 4100 := by decide
      omega
    · obtain ⟨b, z5, rfl, hb0, hb⟩ := hI
      walk_at "dw"
      have m1 := Int.fmod_nonneg_of_pos (b ^ (5 : Int).toNat) hp0
      have m2 := Int.fmod_lt_of_pos (b ^ (5 : Int).toNat) hp0
      refine ⟨cmul (a := 40 * (i + 1)) (b := 31) hf (by decide) (by omega) (by decide) (by omega), ⟨by decide, by decide, Nat.lt_of_lt_of_le (log2_lt hb (by decide)) (by decide)⟩, by omega, ?_⟩
      refine hk _ ⟨_, _, _, _, rfl, ?_, ?_⟩
      · have := Int.mul_nonneg hf0 (show (0 : Int) ≤ 2147483647 by decide)
        omega
      · have e4 : (2 : Nat) ^ (40 * (i + 1 + 1)) = 2 ^ (40 * (i + 1)) * 1099511627776 := by
          rw [show 40 * (i + 1 + 1) = 40 * (i + 1) + 40 from by omega, Nat.pow_add]
        have e5 : 0 < (2 : Nat) ^ (40 * (i + 1)) := Nat.pow_pos (by decide)
        rw [e4]
        omega
  · obtain ⟨f, z3, z4, z5, rfl, hf0, hf⟩ := hI
    exact h f hf0
def W_draw : WF := fun xs R => ∃ s : Int, xs = [.sta, .d (.int s)] ∧ 0 < s ∧ s < 2 ^ 62 ∧ ∀ v : Int, 0 ≤ v → v < s → R (.d (.int v))
theorem W_draw_mono : MonoF W_draw := fun _ _ _ h ⟨s, e, a, b, q⟩ => ⟨s, e, a, b, fun v x y => h _ (q v x y)⟩
theorem p_draw {xs : List Ar} {R : Rv → Prop} (h : W_draw xs R) : w__law_draw W_blended (startR N__law_draw.length xs) { nx := fun _ => R (.d .none), rt := R } := by
  obtain ⟨s, rfl, hs0, hs, h⟩ := h
  have st : startR N__law_draw.length [.sta, .d (.int s)] = [.ar .sta, .d (.int s), .no] := rfl
  rw [st]
  unfold w__law_draw
  walk_at "dw"
  have rest : ∀ l : Int, 0 ≤ l → s ≠ 0 ∧ ∀ l2 : Int, 0 ≤ l2 → CDivA l2 s ∧ 0 ≤ l2.fdiv s ∧ R (.d (.int (l.fmod s))) := fun l hl => ⟨by omega, fun l2 hl2 => ⟨⟨by omega, Nat.lt_of_lt_of_le (log2_lt (k := 62) (by omega) (by decide)) (by decide)⟩, Int.fdiv_nonneg hl2 (by omega), h _ (Int.fmod_nonneg_of_pos l hs0) (Int.fmod_lt_of_pos l hs0)⟩⟩
  intro l hl
  refine ⟨rfl, rfl, ?_⟩
  rw [eqv_int]
  by_cases c : l = 0
  · rw [decide_eq_true c]
    exact ⟨fun l hl => ⟨hl, rest⟩, rfl, fun z hz => ⟨hz, rest⟩⟩
  · rw [decide_eq_false c]
    exact rest
def W_pick : WF := fun xs R => ∃ ds : List PyData, xs = [.sta, .d (.list ds)] ∧ ds ≠ [] ∧ ds.length ≤ 1000 ∧ ∀ d ∈ ds, R (.d d)
theorem W_pick_mono : MonoF W_pick := fun _ _ _ h ⟨s, e, a, b, q⟩ => ⟨s, e, a, b, fun v x => h _ (q v x)⟩
theorem p_pick {xs : List Ar} {R : Rv → Prop} (h : W_pick xs R) : w__law_pick W_draw (startR N__law_pick.length xs) { nx := fun _ => R (.d .none), rt := R } := by
  obtain ⟨ds, rfl, hne, hl, h⟩ := h
  have st : startR N__law_pick.length [.sta, .d (.list ds)] = [.ar .sta, .d (.list ds)] := rfl
  rw [st]
  unfold w__law_pick
  walk_at "dw"
  have hp : 0 < ds.length := List.length_pos_iff.mpr hne
  refine ⟨_, rfl, by omega, by omega, fun v v0 v1 => ?_⟩
  obtain ⟨j, rfl⟩ : ∃ j : Nat, v = j := ⟨v.toNat, by omega⟩
  have hj : j < ds.length := by omega
  exact ⟨_, atI_nat (List.getElem?_eq_getElem hj), h _ (List.getElem_mem hj)⟩
end K00
set_option Elab.async false
set_option linter.all false
set_option maxRecDepth 100000
set_option maxHeartbeats 1000000
namespace K00
open PySem PySem.Spec PyProof.Rows L2 RZ DW Kx
set_option exponentiation.threshold 20000
local macro_rules | `(tactic| walk_at "dw") => `(tactic| dsimp only [wSeqS, wNext, wSet, wPar, wParN, setsR, wRet, wRetN, wRetV, wAsg, wIfS, wFor, wApp, wExt, wSetIx, wSetIx2, cFr, cIm, cNw, cNi, cN2, cCat, cNil, cCons, wVar, wC, wNil, wCons, wTup, wLst, wBin, wBT, wVT, wNotT, wAndT, wOrT, wAndV, wOrV, wNotV, wIf, wNeg, wCB, fI1, fI2, fInt2, fInt2C, fAdd, fSub, fMul, fDiv, fMod, fPow, fLt, fLe, fGt, fGe, fEq, fNe, fIs, fIsNot, fLen, fBools, fSeqTo, fIntOf, wIsi, wCall, Rv.toAr, wNCall, wN2Call, wOfN, wNLst, wNList, wSeq, wRng1, wRng2, wRngDown, wEnum, wZip, noOw_nil, noOw_no, noOw_ar, noOw_ow, noOw_ow2, wipeR, setR, allD, Option.map_some, Option.map_none, wExpr, wNever, fIx, wSl, wPart, wNoPart, wYes, tfName, tfTup, tfCons, tfNil, wRevT, fRep, wNRep, List.map_cons, List.map_nil, List.getElem?_cons_zero, List.getElem?_cons_succ, List.set_cons_zero, List.set_cons_succ, List.cons_append, List.nil_append, wLc, wLcN, wLc2, lcStep, lcStep2, cNd])

theorem comp_rows {step : PyData → List PyData → (List PyData → Prop) → Prop} {Q : List PyData → Prop} {n : Nat} {h : Nat → PyData} {P : Nat → Rat → Prop} (hs : ∀ j, j < n → ∀ acc k, (∀ x, P j x → k (acc ++ [rd x])) → step (h j) acc k) (q : ∀ f, (∀ j, j < n → P j (f j)) → Q (row n f)) : compW step ((List.range n).map h) [] Q := by
  have key : ∀ (m j : Nat) (f : Nat → Rat), j + m = n → (∀ i, i < j → P i (f i)) → compW step ((List.range' j m).map h) (row j f) Q := fun m => by
    induction m with
    | zero =>
      intro j f hj hf
      have : j = n := by omega
      subst this
      exact q f hf
    | succ m ih =>
      intro j f hj hf
      rw [List.range'_succ, List.map_cons]
      refine hs j (by omega) _ _ fun x hx => ?_
      have e : row j f ++ [rd x] = row (j + 1) fun i => if i = j then x else f i := by
        rw [row_succ, if_pos rfl, row_congr fun i hi => (if_neg (by omega) : (if i = j then x else f i) = f i)]
      rw [e]
      refine ih (j + 1) _ (by omega) fun i hi => ?_
      by_cases c : i = j
      · subst c; show P i (if i = i then x else f i); rw [if_pos rfl]; exact hx
      · show P i (if i = j then x else f i); rw [if_neg c]; exact hf i (by omega)
  rw [List.range_eq_range']
  exact key n 0 (fun _ => 0) (by omega) fun i hi => absurd hi (Nat.not_lt_zero _)
theorem fr6 {u l : Int} {K : Nat} (hl : l = 1 ∨ l = 2 ∨ l = 3) (hu : u.natAbs * 6 ≤ K) : Fr 6 K ((u : Rat) / (l : Rat)) := by
  rcases hl with rfl | rfl | rfl
  · exact ⟨by decide, u * 6, by grind, by omega⟩
  · exact ⟨by decide, u * 3, by grind, by omega⟩
  · exact ⟨by decide, u * 2, by grind, by omega⟩
def W_fr_lower : WF := fun xs R => ∃ n : Nat, xs = [.sta, .d (.int (n : Int)), .d (.int 2)] ∧ n ≤ 12 ∧ ∀ L, Low n L → (∀ i j, i < n → j < n → Fr 6 12 (L i j)) → R (.d (mtx n L))
theorem W_fr_lower_mono : MonoF W_fr_lower := fun _ _ _ h ⟨s, e, a, q⟩ => ⟨s, e, a, fun v x y => h _ (q v x y)⟩
theorem p_fr_lower {xs : List Ar} {R : Rv → Prop} (h : W_fr_lower xs R) : w__law_fr_lower W_draw W_pick (det S_fr_of) (startR N__law_fr_lower.length xs) { nx := fun _ => R (.d .none), rt := R } := by
  obtain ⟨n, rfl, hn, h⟩ := h
  have st : startR N__law_fr_lower.length [.sta, .d (.int (n : Int)), .d (.int 2)] = [.ar .sta, .d (.int (n : Int)), .d (.int 2), .no, .no, .no] := rfl
  rw [st]
  unfold w__law_fr_lower
  walk_at "dw"
  have e1 : (n : Int).toNat = n := by omega
  rw [e1]
  refine ⟨⟨by omega, by omega⟩, by rw [rngD_length]; omega, ?_⟩
  rw [rngD0]
  refine forW_ind (fun i ρ => ∃ (L : Nat → Nat → Rat) (z4 : Sl), ρ = [.ar .sta, .d (.int (n : Int)), .d (.int 2), .ow ((List.range i).map fun a => .tuple (row n (L a))), z4, .no] ∧ ∀ a, a < i → ∀ j, j < n → Fr 6 12 (L a j) ∧ (j = a → L a j = 1) ∧ (a < j → L a j = 0)) (fun i d ρ k hd hI hk => ?_) (fun ρ hI => ?_) ⟨fun _ _ => 0, .no, rfl, fun a ha => absurd ha (Nat.not_lt_zero _)⟩
  · obtain ⟨L, z4, rfl, hL⟩ := hI
    rw [List.getElem?_map, Option.map_eq_some_iff] at hd
    obtain ⟨i', hi', rfl⟩ := hd
    obtain ⟨h1, h2⟩ := List.getElem?_eq_some_iff.mp hi'
    rw [List.length_range] at h1
    rw [List.getElem_range] at h2
    subst h2
    refine ⟨_, rfl, ?_⟩
    walk_at "dw"
    rw [e1]
    refine ⟨⟨by omega, by omega⟩, by rw [rngD_length]; omega, ?_⟩
    rw [rngD0]
    refine comp_rows (P := fun j x => Fr 6 12 x ∧ (j = i → x = 1) ∧ (i < j → x = 0)) (fun j hj acc k2 hk2 => ?_) (fun f hf => ?_)
    · walk_at "dw"
      by_cases c : (j : Int) < (i : Int)
      · rw [decide_eq_true c]
        refine ⟨cmul (a := 10) (b := 10) (by decide) (by decide) (by decide) (by decide) (by decide), _, rfl, by decide, by decide, fun v v0 v1 => ?_⟩
        have v1 : v < 5 := v1
        refine ⟨_, rfl, by simp, by simp, fun d hd => ?_⟩
        obtain ⟨l, rfl, hl⟩ : ∃ l : Int, d = .int l ∧ (l = 1 ∨ l = 2 ∨ l = 3) := by
          simp only [List.mem_cons, List.not_mem_nil, or_false] at hd
          rcases hd with rfl | rfl | rfl | rfl | rfl
          · exact ⟨1, rfl, by decide⟩
          · exact ⟨1, rfl, by decide⟩
          · exact ⟨1, rfl, by decide⟩
          · exact ⟨2, rfl, by decide⟩
          · exact ⟨3, rfl, by decide⟩
        refine ⟨_, ⟨v - 2, l, rfl, by omega, by have : (4 : Nat) < 2 ^ 8900 := by decide
                                                omega, rfl⟩, ?_⟩
        exact hk2 _ ⟨fr6 hl (by omega), fun z => by omega, fun z => by omega⟩
      · rw [decide_eq_false c]
        refine ⟨rfl, rfl, ?_⟩
        rw [all_eqv]
        by_cases c2 : j = i
        · rw [decide_eq_true c2]
          exact hk2 1 ⟨⟨by decide, 6, by simp, by decide⟩, fun _ => rfl, fun z => by omega⟩
        · rw [decide_eq_false c2]
          exact hk2 0 ⟨(Fr.zero (by decide)).mono (Nat.zero_le _), fun z => absurd z c2, fun _ => rfl⟩
    · refine ⟨by rw [List.length_map, List.length_range]; omega, hk _ ⟨fun a => if a = i then f else L a, .d (.int (i : Int)), ?_, fun a ha j hj => ?_⟩⟩
      · rw [List.range_succ, List.map_append]
        have e : ((List.range i).map fun a => PyData.tuple (row n (if a = i then f else L a))) = (List.range i).map fun a => PyData.tuple (row n (L a)) := List.map_congr_left fun a ha => by rw [if_neg (by have := List.mem_range.mp ha; omega)]
        rw [e]
        simp only [List.map_cons, List.map_nil, if_pos]
      · by_cases c : a = i
        · subst c
          simpa only [if_pos] using hf j hj
        · simpa only [if_neg c] using hL a (by omega) j hj
  · rw [List.length_map, List.length_range] at hI
    obtain ⟨L, z4, rfl, hL⟩ := hI
    refine ⟨?_, h L ⟨fun i hi => (hL i hi i hi).2.1 rfl, fun i j hij hj => (hL i (by omega) j hj).2.2 hij⟩ fun i j hi hj => (hL i hi j hj).1⟩
    show imm _ = true
    rw [imm_tup]
    exact immAll_rows n L
end K00
set_option Elab.async false
set_option linter.all false
set_option maxRecDepth 100000
set_option maxHeartbeats 1000000
namespace K00
open PySem PySem.Spec PyProof.Rows L2 RZ DW Kx
set_option exponentiation.threshold 20000
local macro_rules | `(tactic| walk_at "dw") => `(tactic| dsimp only [wSeqS, wNext, wSet, wPar, wParN, setsR, wRet, wRetN, wRetV, wAsg, wIfS, wFor, wApp, wExt, wSetIx, wSetIx2, cFr, cIm, cNw, cNi, cN2, cCat, cNil, cCons, wVar, wC, wNil, wCons, wTup, wLst, wBin, wBT, wVT, wNotT, wAndT, wOrT, wAndV, wOrV, wNotV, wIf, wNeg, wCB, fI1, fI2, fInt2, fInt2C, fAdd, fSub, fMul, fDiv, fMod, fPow, fLt, fLe, fGt, fGe, fEq, fNe, fIs, fIsNot, fLen, fBools, fSeqTo, fIntOf, wIsi, wCall, Rv.toAr, wNCall, wN2Call, wOfN, wNLst, wNList, wSeq, wRng1, wRng2, wRngDown, wEnum, wZip, noOw_nil, noOw_no, noOw_ar, noOw_ow, noOw_ow2, wipeR, setR, allD, Option.map_some, Option.map_none, wExpr, wNever, fIx, wSl, wPart, wNoPart, wYes, tfName, tfTup, tfCons, tfNil, wRevT, fRep, wNRep, List.map_cons, List.map_nil, List.getElem?_cons_zero, List.getElem?_cons_succ, List.set_cons_zero, List.set_cons_succ, List.cons_append, List.nil_append, wLc, wLcN, wLc2, lcStep, lcStep2, cNd])

/-! the values the law hands to both judges -/
theorem cut_lo {ds : List PyData} {k : Nat} (h : k < ds.length) : DW.cutD ds none (some (k : Int)) = ds.take k := by
  unfold DW.cutD HT.sIx
  dsimp only
  rw [if_neg (by omega)]
  have e : (k : Int).toNat = k := by omega
  rw [e, Nat.min_eq_left (by omega), List.drop_zero, Nat.sub_zero]
theorem cut_hi {ds : List PyData} {k : Nat} (h : k < ds.length) : DW.cutD ds (some ((k : Int) + 1)) none = ds.drop (k + 1) := by
  unfold DW.cutD HT.sIx
  dsimp only
  rw [if_neg (by omega)]
  have e : ((k : Int) + 1).toNat = k + 1 := by omega
  rw [e, Nat.min_eq_left (by omega)]
  exact List.take_of_length_le (by rw [List.length_drop]; omega)
theorem ins_set {ds : List PyData} {k : Nat} {x : PyData} (h : k < ds.length) : ds.take k ++ [x] ++ ds.drop (k + 1) = ds.set k x := by
  rw [List.set_eq_take_append_cons_drop, if_pos h, List.append_assoc]; rfl
theorem row_ins {n k : Nat} {f : Nat → Rat} {x : Rat} : (row n f).set k (rd x) = row n fun j => if j = k then x else f j := row_set (if_pos rfl) fun i hi => if_neg hi
theorem mtx_ins {n k : Nat} {L : Nat → Nat → Rat} {f : Nat → Rat} : ((List.range n).map fun i => PyData.tuple (row n (L i))).set k (.tuple (row n f)) = (List.range n).map fun i => .tuple (row n ((fun i => if i = k then f else L i) i)) := by
  refine List.ext_getElem? fun i => ?_
  rw [List.getElem?_set]
  by_cases hi : i < n
  · rw [List.getElem?_map, List.getElem?_map, List.getElem?_range hi, List.length_map, List.length_range]
    by_cases c : k = i
    · subst c; simp [hi]
    · rw [if_neg c]; simp [Ne.symm c]
  · have e1 : ((List.range n).map fun i => PyData.tuple (row n (L i)))[i]? = none := List.getElem?_eq_none (by rw [List.length_map, List.length_range]; omega)
    have e2 : ((List.range n).map fun i => PyData.tuple (row n ((fun i => if i = k then f else L i) i)))[i]? = none := List.getElem?_eq_none (by rw [List.length_map, List.length_range]; omega)
    rw [e1, e2, len_rows]
    by_cases c : k = i
    · subst c; simp [hi]
    · rw [if_neg c]
theorem row_rev (n : Nat) (f : Nat → Rat) : (row n f).reverse = row n fun i => f (n - 1 - i) := by
  refine List.ext_getElem? fun i => ?_
  by_cases hi : i < n
  · rw [List.getElem?_reverse (by rw [row_len]; exact hi), row_len, row_at _ (by omega), row_at _ hi]
  · rw [List.getElem?_eq_none (by rw [List.length_reverse, row_len]; omega), List.getElem?_eq_none (by rw [row_len]; omega)]
theorem row_const (n : Nat) (x : Rat) : row n (fun _ => x) = List.replicate n (rd x) := by
  unfold row
  rw [List.map_const', List.length_range]
def Good (n : Nat) (A : Nat → Nat → Rat) (v : PyData) : Prop := ∃ b, VF n A v b
theorem good_pos {n : Nat} {A L : Nat → Nat → Rat} {D : Nat → Rat} (h : FL n L D) : Good n A (.tuple [.str "positive", mtx n L, .tuple (row n D)]) := ⟨_, .inr (.inr (.inr (.inr (.inr ⟨L, D, rfl, h, rfl⟩))))⟩
theorem good_oth {n : Nat} {A : Nat → Nat → Rat} {x : Nat → Rat} (h : Vec n x) (t : Thin n x) : Good n A (.tuple [.str "other", .tuple (row n x)]) := ⟨_, .inr (.inr (.inl ⟨x, rfl, h, t, rfl⟩))⟩
theorem good_two {n : Nat} {A : Nat → Nat → Rat} {low : PyData} : Good n A (.tuple [.str "positive", low]) := ⟨_, .inr (.inl ⟨low, rfl, rfl⟩)⟩
theorem good_lst {n : Nat} {A : Nat → Nat → Rat} {ds : List PyData} {D : Nat → Rat} (hn : n ≤ 12) : Good n A (.tuple [.str "positive", .list ds, .tuple (row n D)]) := ⟨_, .inr (.inr (.inr (.inl ⟨ds, vecR n D, by rw [row_pq]; rfl, by unfold vecR; rw [List.length_map, List.length_range]; omega, rfl⟩)))⟩
theorem good_oth6 {n : Nat} {A : Nat → Nat → Rat} {x : Nat → Rat} (hn : n ≤ 12) (h : ∀ i, i < n → Fr 6 18 (x i)) : Good n A (.tuple [.str "other", .tuple (row n x)]) := good_oth ⟨6, 18, by decide, by decide, h⟩ (thin6 hn fun j hj => (h j hj).size.2)
theorem fsE {n a : Nat} {x : Nat → Rat} (hn : n ≤ 12) (ha : a < n) (h : FS n a x) : Vec n x ∧ Thin n x := by
  refine ⟨⟨6 ^ a, 144 ^ a, ?_, ?_, fun j hj => ?_⟩, thinE hn ha fun j hj => (h j hj).size.2⟩
  · exact Nat.le_trans (Nat.pow_le_pow_right (by decide) (show a ≤ 12 by omega)) (by decide)
  · exact Nat.le_trans (Nat.pow_le_pow_right (by decide) (show a ≤ 12 by omega)) (by decide)
  · by_cases c : j ≤ a
    · have f := (h j hj).up (6 ^ j) (Nat.pow_pos (by decide))
      rw [← Nat.pow_add, Nat.sub_add_cancel c] at f
      refine f.mono ?_
      have e : (144 : Nat) ^ a = 144 ^ (a - j) * 144 ^ j := by rw [← Nat.pow_add, Nat.sub_add_cancel c]
      rw [e]
      exact Nat.mul_le_mul_left _ (Nat.pow_le_pow_left (by decide) j)
    · have e : a - j = 0 := by omega
      have f := h j hj
      rw [e] at f
      have f := f.up (6 ^ a) (Nat.pow_pos (by decide))
      rw [Nat.pow_zero, Nat.one_mul] at f
      exact f.mono (Nat.pow_le_pow_left (by decide) a)
def va0 (ws__law_fr_turned : WF) : WS := (wPar 4 5 (cFr (wCB fLen (wCons (wVar 1) wNil))) (cNw (wNLst (wCons (wTup (wCons (wC (.str "positive")) (wCons (wVar 2) (wCons (wVar 3) wNil)))) (wCons (wTup (wCons (wC (.str "positive")) (wCons (wVar 2) (wCons (wRevT (wVar 3)) wNil)))) (wCons (wTup (wCons (wC (.str "positive")) (wCons (wCall ws__law_fr_turned (wCons (wVar 2) wNil)) (wCons (wVar 3) wNil)))) (wCons (wTup (wCons (wC (.str "other")) (wCons (wVar 3) wNil))) (wCons (wTup (wCons (wC (.str "positive")) (wCons (wVar 2) wNil))) (wCons (wC .none) wNil)))))))))
def va1 : WS := (wSet 5 (cCat 5 (wNLst (wCons (wTup (wCons (wC (.str "other")) (wCons (wCB (fSeqTo .tuple) (wCons (wOfN (wNRep (wCons (wTup (wCons (wC (.int 0)) (wCons (wC (.int 1)) wNil))) wNil) (wVar 4))) wNil)) wNil))) (wCons (wTup (wCons (wC (.str "other")) (wCons (wCB (fSeqTo .tuple) (wCons (wOfN (wNRep (wCons (wTup (wCons (wC (.int 1)) (wCons (wC (.int 1)) wNil))) wNil) (wVar 4))) wNil)) wNil))) (wCons (wTup (wCons (wC (.str "positive")) (wCons (wCB (fSeqTo .list) (wCons (wVar 2) wNil)) (wCons (wVar 3) wNil)))) wNil))))))
def va2 (ws__law_k00_solved : WF) : WS := (wSet 5 (cCat 5 (wLc (wRng1 (wVar 4)) (tfName 6) wYes (wTup (wCons (wC (.str "other")) (wCons (wCall ws__law_k00_solved (wCons (wVar 2) (wCons (wVar 6) wNil))) wNil))) [6])))
def va3 (ws__law_draw ws__law_pick ws__law_fr_less : WF) : WS := (wIfS (wBT fGt (wVar 4) (wC (.int 0))) (wSeqS (wPar 6 7 (cFr (wCall ws__law_draw (wCons (wVar 0) (wCons (wVar 4) wNil)))) (cFr (wCall ws__law_draw (wCons (wVar 0) (wCons (wVar 4) wNil))))) (wSeqS (wSet 8 (cFr (wBin fAdd (wBin fAdd (wSl (wBin fIx (wVar 2) (wVar 6)) wNoPart (wPart (wVar 7))) (wTup (wCons (wCall ws__law_pick (wCons (wVar 0) (wCons (wLst (wCons (wTup (wCons (wC (.int 1)) (wCons (wC (.int 1)) wNil))) (wCons (wTup (wCons (wNeg (wC (.int 1))) (wCons (wC (.int 1)) wNil))) (wCons (wTup (wCons (wC (.int 0)) (wCons (wC (.int 1)) wNil))) (wCons (wTup (wCons (wC (.int 2)) (wCons (wC (.int 1)) wNil))) (wCons (wTup (wCons (wC (.int 1)) (wCons (wC (.int 3)) wNil))) (wCons (wTup (wCons (wC (.int 2)) (wCons (wC (.int 2)) wNil))) wNil))))))) wNil))) wNil))) (wSl (wBin fIx (wVar 2) (wVar 6)) (wPart (wBin fAdd (wVar 7) (wC (.int 1)))) wNoPart)))) (wSeqS (wApp 5 (cFr (wTup (wCons (wC (.str "positive")) (wCons (wBin fAdd (wBin fAdd (wSl (wVar 2) wNoPart (wPart (wVar 6))) (wTup (wCons (wVar 8) wNil))) (wSl (wVar 2) (wPart (wBin fAdd (wVar 6) (wC (.int 1)))) wNoPart)) (wCons (wVar 3) wNil)))))) (wSeqS (wApp 5 (cFr (wTup (wCons (wC (.str "positive")) (wCons (wVar 2) (wCons (wBin fAdd (wBin fAdd (wSl (wVar 3) wNoPart (wPart (wVar 6))) (wTup (wCons (wCall ws__law_pick (wCons (wVar 0) (wCons (wLst (wCons (wTup (wCons (wC (.int 1)) (wCons (wC (.int 1)) wNil))) (wCons (wTup (wCons (wC (.int 0)) (wCons (wC (.int 1)) wNil))) (wCons (wTup (wCons (wNeg (wC (.int 1))) (wCons (wC (.int 1)) wNil))) (wCons (wTup (wCons (wC (.int 5)) (wCons (wC (.int 2)) wNil))) wNil))))) wNil))) wNil))) (wSl (wVar 3) (wPart (wBin fAdd (wVar 6) (wC (.int 1)))) wNoPart)) wNil)))))) (wSeqS (wSet 9 (cFr (wCB (fSeqTo .tuple) (wCons (wOfN (wLc (wSeq (wVar 2)) (tfName 8) wYes (wCB (fSeqTo .tuple) (wCons (wOfN (wLc (wSeq (wVar 8)) (tfName 10) wYes (wCall ws__law_fr_less (wCons (wTup (wCons (wC (.int 0)) (wCons (wC (.int 1)) wNil))) (wCons (wVar 10) wNil))) [10])) wNil)) [8])) wNil)))) (wApp 5 (cFr (wTup (wCons (wC (.str "positive")) (wCons (wVar 9) (wCons (wVar 3) wNil))))))))))) wNext)
def va4 : WS := (wRetV 5)

theorem va_eq (a b c d e : WF) : w__law_k00_values a b c d e = wSeqS (va0 a) (wSeqS va1 (wSeqS (va2 b) (wSeqS (va3 c d e) va4))) := rfl
theorem va0_go {n : Nat} {A L : Nat → Nat → Rat} {D : Nat → Rat} {z6 z7 z8 z9 z10 : Sl} {E : En} (hn : n ≤ 12) (hf : FL n L D) (h : ∀ vs, (∀ v ∈ vs, Good n A v) → vs.length = 6 → E.nx [.ar .sta, .d (mtx n A), .d (mtx n L), .d (.tuple (row n D)), .d (.int (n : Int)), .ow vs, z6, z7, z8, z9, z10]) : va0 (det S_fr_turned) [.ar .sta, .d (mtx n A), .d (mtx n L), .d (.tuple (row n D)), .no, .no, z6, z7, z8, z9, z10] E := by
  unfold va0 mtx
  unfold mtx at h
  walk_at "dw"
  rw [len_rows]
  refine ⟨_, ⟨n, L, rfl, hn, rfl⟩, h _ (fun v hv => ?_) rfl⟩
  simp only [List.mem_cons, List.not_mem_nil, or_false] at hv
  rcases hv with rfl | rfl | rfl | rfl | rfl | rfl
  · exact good_pos hf
  · rw [row_rev]
    exact good_pos ⟨hf.1, fun i hi => hf.2 _ (by omega)⟩
  · exact good_pos (L := fun i j => L j i) ⟨fun i j hi hj => hf.1 j i hj hi, hf.2⟩
  · exact good_oth6 hn hf.2
  · exact good_two
  · exact ⟨_, .inl ⟨rfl, rfl⟩⟩
theorem va1_go {n : Nat} {A L : Nat → Nat → Rat} {D : Nat → Rat} {z6 z7 z8 z9 z10 : Sl} {E : En} {vs : List PyData} (hn : n ≤ 12) (hv : ∀ v ∈ vs, Good n A v) (hl : vs.length ≤ 900) (h : ∀ vs2, (∀ v ∈ vs2, Good n A v) → vs2.length = vs.length + 3 → E.nx [.ar .sta, .d (mtx n A), .d (mtx n L), .d (.tuple (row n D)), .d (.int (n : Int)), .ow vs2, z6, z7, z8, z9, z10]) : va1 [.ar .sta, .d (mtx n A), .d (mtx n L), .d (.tuple (row n D)), .d (.int (n : Int)), .ow vs, z6, z7, z8, z9, z10] E := by
  unfold va1 mtx
  unfold mtx at h
  walk_at "dw"
  have e1 : (n : Int).toNat = n := by omega
  rw [e1, flat_rep, flat_rep]
  refine ⟨⟨by omega, by omega, by simp⟩, ⟨by omega, by omega, by simp⟩, by simp; omega, h _ (fun v hv2 => ?_) (by simp)⟩
  rcases List.mem_append.mp hv2 with hv2 | hv2
  · exact hv v hv2
  simp only [List.mem_cons, List.not_mem_nil, or_false] at hv2
  rcases hv2 with rfl | rfl | rfl
  · have := row_const n 0
    rw [show PyData.tuple [PyData.int 0, PyData.int 1] = rd 0 from rfl, ← this]
    exact good_oth6 hn fun i hi => (Fr.zero (by decide)).mono (Nat.zero_le _)
  · have := row_const n 1
    rw [show PyData.tuple [PyData.int 1, PyData.int 1] = rd 1 from rfl, ← this]
    exact good_oth6 hn fun i hi => ⟨by decide, 6, by simp, by decide⟩
  · exact good_lst hn
theorem comp_any {step : PyData → List PyData → (List PyData → Prop) → Prop} {Q : List PyData → Prop} {P : PyData → Prop} (ds : List PyData) (hs : ∀ d ∈ ds, ∀ acc k, (∀ y, P y → k (acc ++ [y])) → step d acc k) (q : ∀ ys, ys.length = ds.length → (∀ y ∈ ys, P y) → Q ys) : compW step ds [] Q := by
  have key : ∀ (es acc : List PyData), (∀ d ∈ es, d ∈ ds) → (∀ y ∈ acc, P y) → acc.length + es.length = ds.length → compW step es acc Q := fun es => by
    induction es with
    | nil => intro acc _ h l; exact q acc (by simpa using l) h
    | cons d es ih =>
      intro acc hm h l
      refine hs d (hm d List.mem_cons_self) acc _ fun y hy => ih _ (fun e he => hm e (List.mem_cons_of_mem _ he)) (fun z hz => ?_) (by simp at l ⊢; omega)
      rcases List.mem_append.mp hz with hz | hz
      · exact h z hz
      · rw [List.mem_singleton.mp hz]; exact hy
  exact key ds [] (fun d h => h) (fun y h => by cases h) (by simp)
theorem va2_go {n : Nat} {A L : Nat → Nat → Rat} {D : Nat → Rat} {z7 z8 z9 z10 : Sl} {E : En} {vs : List PyData} (hn : n ≤ 12) (hf : FL n L D) (hv : ∀ v ∈ vs, Good n A v) (hl : vs.length ≤ 900) (h : ∀ vs2, (∀ v ∈ vs2, Good n A v) → vs2.length = vs.length + n → E.nx [.ar .sta, .d (mtx n A), .d (mtx n L), .d (.tuple (row n D)), .d (.int (n : Int)), .ow vs2, .no, z7, z8, z9, z10]) : va2 W_solved [.ar .sta, .d (mtx n A), .d (mtx n L), .d (.tuple (row n D)), .d (.int (n : Int)), .ow vs, .no, z7, z8, z9, z10] E := by
  unfold va2
  walk_at "dw"
  have e1 : (n : Int).toNat = n := by omega
  rw [e1]
  refine ⟨⟨by omega, by omega⟩, by rw [rngD_length]; omega, ?_⟩
  refine comp_any (P := Good n A) _ (fun d hd acc k hk => ?_) (fun ys yl yg => ?_)
  · rw [rngD0] at hd
    obtain ⟨a, ha, rfl⟩ := List.mem_map.mp hd
    have ha := List.mem_range.mp ha
    refine ⟨n, a, L, rfl, hn, ha, hf.1, fun x hx => hk _ ?_⟩
    exact good_oth (fsE hn ha hx).1 (fsE hn ha hx).2
  · rw [rngD_length] at yl
    refine ⟨by omega, h _ (fun v hv2 => ?_) (by rw [List.length_append]; omega)⟩
    rcases List.mem_append.mp hv2 with hv2 | hv2
    · exact hv v hv2
    · exact yg v hv2
theorem row_bad {n a o : Nat} {L : Nat → Nat → Rat} {D : Nat → Rat} {A : Nat → Nat → Rat} (hn : n ≤ 12) (ha : a < n) (ho : o < n) (hf : FL n L D) : Good n A (.tuple [.str "positive", .tuple (((List.range n).map fun i => PyData.tuple (row n (L i))).set a (.tuple ((row n (L a)).set o (pq (2, 2))))), .tuple (row n D)]) := by
  let rows : List (List (Int × Int)) := ((List.range n).map fun i => vecR n (L i)).set a ((vecR n (L a)).set o (2, 2))
  have e1 : (vecR n (L a)).map pq = row n (L a) := by rw [row_pq]; rfl
  have e : rowsD rows = ((List.range n).map fun i => PyData.tuple (row n (L i))).set a (.tuple ((row n (L a)).set o (pq (2, 2)))) := by
    show (((List.range n).map fun i => vecR n (L i)).set a ((vecR n (L a)).set o (2, 2))).map (fun r => PyData.tuple (r.map pq)) = _
    rw [List.map_set, List.map_map, List.map_set, e1]
    congr 1
    exact List.map_congr_left fun i _ => congrArg PyData.tuple (by rw [row_pq]; rfl)
  have vl : ∀ f : Nat → Rat, (vecR n f).length = n := fun f => by unfold vecR; rw [List.length_map, List.length_range]
  have small : ∀ i, i < n → ∀ p ∈ vecR n (L i), p.2.natAbs < 2 ^ 8900 := fun i hi p hp => by
    unfold vecR at hp
    obtain ⟨j, hj, rfl⟩ := List.mem_map.mp hp
    show ((L i j).den : Int).natAbs < _
    rw [Int.natAbs_natCast]
    exact Nat.lt_of_le_of_lt (hf.1 i j hi (List.mem_range.mp hj)).size.2 (by decide)
  have eD : (vecR n D).map pq = row n D := by rw [row_pq]; rfl
  refine ⟨false, .inr (.inr (.inr (.inr (.inl ⟨rows, vecR n D, by rw [e, eD], ?_, fun r hr => ?_, ?_, by rw [vl]; omega, rfl⟩))))⟩
  · show (((List.range n).map fun i => vecR n (L i)).set a _).length = n
    rw [List.length_set, List.length_map, List.length_range]
  · rcases List.mem_or_eq_of_mem_set hr with hr | rfl
    · obtain ⟨i, hi, rfl⟩ := List.mem_map.mp hr
      exact ⟨by rw [vl]; omega, small i (List.mem_range.mp hi)⟩
    · refine ⟨by rw [List.length_set, vl]; omega, fun p hp => ?_⟩
      rcases List.mem_or_eq_of_mem_set hp with hp | rfl
      · exact small a ha p hp
      · show (2 : Int).natAbs < _
        exact Nat.lt_of_le_of_lt (m := 2) (by decide) (by decide)
  · have m1 : (vecR n (L a)).set o (2, 2) ∈ rows := List.mem_set (by rw [List.length_map, List.length_range]; exact ha) _
    have m2 : ((2 : Int), (2 : Int)) ∈ (vecR n (L a)).set o (2, 2) := List.mem_set (by rw [vl]; exact ho) _
    cases c : rows.all (okR n)
    · rfl
    · have c2 := List.all_eq_true.mp c _ m1
      unfold okR at c2
      rw [Bool.and_eq_true] at c2
      have c3 := List.all_eq_true.mp c2.2 _ m2
      exact absurd c3 (by decide)
def vb0 (ws__law_draw : WF) : WS := (wPar 6 7 (cFr (wCall ws__law_draw (wCons (wVar 0) (wCons (wVar 4) wNil)))) (cFr (wCall ws__law_draw (wCons (wVar 0) (wCons (wVar 4) wNil)))))
def vb1 (ws__law_pick : WF) : WS := (wSet 8 (cFr (wBin fAdd (wBin fAdd (wSl (wBin fIx (wVar 2) (wVar 6)) wNoPart (wPart (wVar 7))) (wTup (wCons (wCall ws__law_pick (wCons (wVar 0) (wCons (wLst (wCons (wTup (wCons (wC (.int 1)) (wCons (wC (.int 1)) wNil))) (wCons (wTup (wCons (wNeg (wC (.int 1))) (wCons (wC (.int 1)) wNil))) (wCons (wTup (wCons (wC (.int 0)) (wCons (wC (.int 1)) wNil))) (wCons (wTup (wCons (wC (.int 2)) (wCons (wC (.int 1)) wNil))) (wCons (wTup (wCons (wC (.int 1)) (wCons (wC (.int 3)) wNil))) (wCons (wTup (wCons (wC (.int 2)) (wCons (wC (.int 2)) wNil))) wNil))))))) wNil))) wNil))) (wSl (wBin fIx (wVar 2) (wVar 6)) (wPart (wBin fAdd (wVar 7) (wC (.int 1)))) wNoPart))))
def vb2 : WS := (wApp 5 (cFr (wTup (wCons (wC (.str "positive")) (wCons (wBin fAdd (wBin fAdd (wSl (wVar 2) wNoPart (wPart (wVar 6))) (wTup (wCons (wVar 8) wNil))) (wSl (wVar 2) (wPart (wBin fAdd (wVar 6) (wC (.int 1)))) wNoPart)) (wCons (wVar 3) wNil))))))
def vb3 (ws__law_pick : WF) : WS := (wApp 5 (cFr (wTup (wCons (wC (.str "positive")) (wCons (wVar 2) (wCons (wBin fAdd (wBin fAdd (wSl (wVar 3) wNoPart (wPart (wVar 6))) (wTup (wCons (wCall ws__law_pick (wCons (wVar 0) (wCons (wLst (wCons (wTup (wCons (wC (.int 1)) (wCons (wC (.int 1)) wNil))) (wCons (wTup (wCons (wC (.int 0)) (wCons (wC (.int 1)) wNil))) (wCons (wTup (wCons (wNeg (wC (.int 1))) (wCons (wC (.int 1)) wNil))) (wCons (wTup (wCons (wC (.int 5)) (wCons (wC (.int 2)) wNil))) wNil))))) wNil))) wNil))) (wSl (wVar 3) (wPart (wBin fAdd (wVar 6) (wC (.int 1)))) wNoPart)) wNil))))))
def vb4 (ws__law_fr_less : WF) : WS := (wSet 9 (cFr (wCB (fSeqTo .tuple) (wCons (wOfN (wLc (wSeq (wVar 2)) (tfName 8) wYes (wCB (fSeqTo .tuple) (wCons (wOfN (wLc (wSeq (wVar 8)) (tfName 10) wYes (wCall ws__law_fr_less (wCons (wTup (wCons (wC (.int 0)) (wCons (wC (.int 1)) wNil))) (wCons (wVar 10) wNil))) [10])) wNil)) [8])) wNil))))
def vb5 : WS := (wApp 5 (cFr (wTup (wCons (wC (.str "positive")) (wCons (wVar 9) (wCons (wVar 3) wNil))))))
theorem va3_eq (c d e : WF) : va3 c d e = wIfS (wBT fGt (wVar 4) (wC (.int 0))) (wSeqS (vb0 c) (wSeqS (vb1 d) (wSeqS vb2 (wSeqS (vb3 d) (wSeqS (vb4 e) vb5))))) wNext := rfl
section
variable {n : Nat} {A L : Nat → Nat → Rat} {D : Nat → Rat} {E : En} {vs : List PyData}
theorem vb0_go {z8 z9 z10 : Sl} (hn : n ≤ 12) (h0 : 0 < n) (h : ∀ a o : Nat, a < n → o < n → E.nx [.ar .sta, .d (mtx n A), .d (mtx n L), .d (.tuple (row n D)), .d (.int (n : Int)), .ow vs, .d (.int (a : Int)), .d (.int (o : Int)), z8, z9, z10]) : vb0 W_draw [.ar .sta, .d (mtx n A), .d (mtx n L), .d (.tuple (row n D)), .d (.int (n : Int)), .ow vs, .no, .no, z8, z9, z10] E := by
  unfold vb0
  walk_at "dw"
  refine ⟨_, rfl, by omega, by omega, fun a a0 a1 => ?_⟩
  obtain ⟨a, rfl⟩ : ∃ j : Nat, a = j := ⟨a.toNat, by omega⟩
  refine ⟨_, rfl, by omega, by omega, fun o o0 o1 => ?_⟩
  obtain ⟨o, rfl⟩ : ∃ j : Nat, o = j := ⟨o.toNat, by omega⟩
  exact h a o (by omega) (by omega)
def pick1 (r : List PyData) : Prop := r = [.int 1, .int 1] ∨ r = [.int (-1), .int 1] ∨ r = [.int 0, .int 1] ∨ r = [.int 2, .int 1] ∨ r = [.int 1, .int 3] ∨ r = [.int 2, .int 2]
theorem vb1_go {a o : Nat} {z8 z9 z10 : Sl} (hn : n ≤ 12) (ha : a < n) (ho : o < n) (h : ∀ x : List PyData, pick1 x → E.nx [.ar .sta, .d (mtx n A), .d (mtx n L), .d (.tuple (row n D)), .d (.int (n : Int)), .ow vs, .d (.int (a : Int)), .d (.int (o : Int)), .d (.tuple ((row n (L a)).set o (.tuple x))), z9, z10]) : vb1 W_pick [.ar .sta, .d (mtx n A), .d (mtx n L), .d (.tuple (row n D)), .d (.int (n : Int)), .ow vs, .d (.int (a : Int)), .d (.int (o : Int)), z8, z9, z10] E := by
  unfold vb1 mtx
  unfold mtx at h
  walk_at "dw"
  refine ⟨_, atI_nat (rows_at L ha), ?_⟩
  dsimp only
  have lo : o < (row n (L a)).length := by rw [row_len]; exact ho
  refine ⟨_, rfl, by simp, by simp, fun d hd => ?_⟩
  obtain ⟨x, rfl, hx⟩ : ∃ x, d = .tuple x ∧ pick1 x := by
    simp only [List.mem_cons, List.not_mem_nil, or_false] at hd
    unfold pick1
    rcases hd with rfl | rfl | rfl | rfl | rfl | rfl <;> exact ⟨_, rfl, by simp⟩
  walk_at "dw"
  rw [cut_lo lo]
  refine ⟨by rw [List.length_take, row_len]; simp; omega, _, atI_nat (rows_at L ha), ?_⟩
  dsimp only
  rw [cut_hi lo]
  refine ⟨by rw [List.length_append, List.length_take, List.length_drop, row_len]; simp; omega, ?_⟩
  rw [ins_set lo]
  exact h x hx
theorem pick1_good {a o : Nat} {x : List PyData} (hn : n ≤ 12) (ha : a < n) (ho : o < n) (hf : FL n L D) (hx : pick1 x) : Good n A (.tuple [.str "positive", .tuple (((List.range n).map fun i => PyData.tuple (row n (L i))).set a (.tuple ((row n (L a)).set o (.tuple x)))), .tuple (row n D)]) := by
  have ok : ∀ y : Rat, Fr 6 12 y → Good n A (.tuple [.str "positive", .tuple (((List.range n).map fun i => PyData.tuple (row n (L i))).set a (.tuple ((row n (L a)).set o (rd y)))), .tuple (row n D)]) := fun y hy => by
    rw [row_ins, mtx_ins]
    refine good_pos (L := fun i => if i = a then fun j => if j = o then y else L a j else L i) ⟨fun i j hi hj => ?_, hf.2⟩
    by_cases c : i = a
    · simp only [if_pos c]
      split
      · exact hy
      · exact hf.1 a j ha hj
    · simp only [if_neg c]
      exact hf.1 i j hi hj
  rcases hx with rfl | rfl | rfl | rfl | rfl | rfl
  · exact ok 1 ⟨by decide, 6, by grind, by decide⟩
  · exact ok (-1) ⟨by decide, -6, by grind, by decide⟩
  · exact ok 0 ⟨by decide, 0, by grind, by decide⟩
  · exact ok 2 ⟨by decide, 12, by grind, by decide⟩
  · have e : rd (1 / 3) = .tuple [.int 1, .int 3] := by
      have h1 : ((1 : Rat) / 3).num = 1 := by decide +kernel
      have h2 : ((1 : Rat) / 3).den = 3 := by decide +kernel
      unfold rd
      rw [h1, h2]; rfl
    rw [← e]
    exact ok (1 / 3) ⟨by decide, 2, by grind, by decide⟩
  · exact row_bad hn ha ho hf
theorem vb2_go {a o : Nat} {x : List PyData} {z9 z10 : Sl} (hn : n ≤ 12) (ha : a < n) (ho : o < n) (hf : FL n L D) (hx : pick1 x) (hv : ∀ v ∈ vs, Good n A v) (hl : vs.length ≤ 920) (h : ∀ vs2, (∀ v ∈ vs2, Good n A v) → vs2.length = vs.length + 1 → E.nx [.ar .sta, .d (mtx n A), .d (mtx n L), .d (.tuple (row n D)), .d (.int (n : Int)), .ow vs2, .d (.int (a : Int)), .d (.int (o : Int)), .d (.tuple ((row n (L a)).set o (.tuple x))), z9, z10]) : vb2 [.ar .sta, .d (mtx n A), .d (mtx n L), .d (.tuple (row n D)), .d (.int (n : Int)), .ow vs, .d (.int (a : Int)), .d (.int (o : Int)), .d (.tuple ((row n (L a)).set o (.tuple x))), z9, z10] E := by
  have lo : a < ((List.range n).map fun i => PyData.tuple (row n (L i))).length := by rw [len_rows]; exact ha
  unfold vb2 mtx
  unfold mtx at h
  walk_at "dw"
  rw [cut_lo lo, cut_hi lo]
  refine ⟨by rw [List.length_take, len_rows]; simp; omega, by rw [List.length_append, List.length_take, List.length_drop, len_rows]; simp; omega, ?_⟩
  rw [ins_set lo]
  refine ⟨by omega, h _ (fun v hv2 => ?_) (by simp)⟩
  rcases List.mem_append.mp hv2 with hv2 | hv2
  · exact hv v hv2
  · rw [List.mem_singleton.mp hv2]
    exact pick1_good hn ha ho hf hx
theorem vb3_go {a : Nat} {z7 z8 z9 z10 : Sl} (hn : n ≤ 12) (ha : a < n) (hf : FL n L D) (hv : ∀ v ∈ vs, Good n A v) (hl : vs.length ≤ 920) (h : ∀ vs2, (∀ v ∈ vs2, Good n A v) → vs2.length = vs.length + 1 → E.nx [.ar .sta, .d (mtx n A), .d (mtx n L), .d (.tuple (row n D)), .d (.int (n : Int)), .ow vs2, .d (.int (a : Int)), z7, z8, z9, z10]) : vb3 W_pick [.ar .sta, .d (mtx n A), .d (mtx n L), .d (.tuple (row n D)), .d (.int (n : Int)), .ow vs, .d (.int (a : Int)), z7, z8, z9, z10] E := by
  have lo : a < (row n D).length := by rw [row_len]; exact ha
  unfold vb3 mtx
  unfold mtx at h
  walk_at "dw"
  refine ⟨_, rfl, by simp, by simp, fun d hd => ?_⟩
  obtain ⟨y, rfl, hy⟩ : ∃ y : Rat, d = rd y ∧ Fr 6 18 y := by
    simp only [List.mem_cons, List.not_mem_nil, or_false] at hd
    rcases hd with rfl | rfl | rfl | rfl
    · exact ⟨1, rfl, by decide, 6, by grind, by decide⟩
    · exact ⟨0, rfl, by decide, 0, by grind, by decide⟩
    · exact ⟨-1, rfl, by decide, -6, by grind, by decide⟩
    · refine ⟨5 / 2, ?_, by decide, 15, by grind, by decide⟩
      have h1 : ((5 : Rat) / 2).num = 5 := by decide +kernel
      have h2 : ((5 : Rat) / 2).den = 2 := by decide +kernel
      unfold rd
      rw [h1, h2]; rfl
  walk_at "dw"
  rw [cut_lo lo, cut_hi lo]
  refine ⟨by rw [List.length_take, row_len]; simp; omega, by rw [List.length_append, List.length_take, List.length_drop, row_len]; simp; omega, ?_⟩
  rw [ins_set lo]
  refine ⟨by omega, h _ (fun v hv2 => ?_) (by simp)⟩
  rcases List.mem_append.mp hv2 with hv2 | hv2
  · exact hv v hv2
  · rw [List.mem_singleton.mp hv2, row_ins]
    refine good_pos ⟨hf.1, fun i hi => ?_⟩
    show Fr 6 18 (if i = a then y else D i)
    split
    · exact hy
    · exact hf.2 i hi
theorem vb4_go {x6 x7 x8 : Ar} (hn : n ≤ 12) (hf : FL n L D) (h : E.nx [.ar .sta, .d (mtx n A), .d (mtx n L), .d (.tuple (row n D)), .d (.int (n : Int)), .ow vs, .ar x6, .ar x7, .ar x8, .d (mtx n fun i j => 0 - L i j), .no]) : vb4 (det S_fr_less) [.ar .sta, .d (mtx n A), .d (mtx n L), .d (.tuple (row n D)), .d (.int (n : Int)), .ow vs, .ar x6, .ar x7, .ar x8, .no, .no] E := by
  unfold vb4 mtx
  unfold mtx at h
  walk_at "dw"
  rw [len_rows]
  refine ⟨by omega, ?_⟩
  refine comp_rng (f := fun i => .tuple (row n fun j => 0 - L i j)) (fun i hi acc k hk => ?_) h
  walk_at "dw"
  rw [row_len]
  refine ⟨by omega, ?_⟩
  refine comp_rng (f := fun j => rd (0 - L i j)) (fun j hj acc k hk => ?_) hk
  exact ⟨_, ⟨0, _, rfl, Sz.of (Fr.zero (N := 1) (by decide)) (by decide) (by decide), Sz.of (hf.1 i j hi hj) (by decide) (by decide), rfl⟩, hk⟩
theorem vb5_go {z6 z7 z8 z10 : Sl} (hn : n ≤ 12) (hf : FL n L D) (hv : ∀ v ∈ vs, Good n A v) (hl : vs.length ≤ 920) (h : ∀ vs2, (∀ v ∈ vs2, Good n A v) → vs2.length = vs.length + 1 → E.nx [.ar .sta, .d (mtx n A), .d (mtx n L), .d (.tuple (row n D)), .d (.int (n : Int)), .ow vs2, z6, z7, z8, .d (mtx n fun i j => 0 - L i j), z10]) : vb5 [.ar .sta, .d (mtx n A), .d (mtx n L), .d (.tuple (row n D)), .d (.int (n : Int)), .ow vs, z6, z7, z8, .d (mtx n fun i j => 0 - L i j), z10] E := by
  unfold vb5
  walk_at "dw"
  refine ⟨by omega, h _ (fun v hv2 => ?_) (by simp)⟩
  rcases List.mem_append.mp hv2 with hv2 | hv2
  · exact hv v hv2
  · rw [List.mem_singleton.mp hv2]
    refine good_pos ⟨fun i j hi hj => ?_, hf.2⟩
    have := (hf.1 i j hi hj).neg
    show Fr 6 12 (0 - L i j)
    rwa [show 0 - L i j = -L i j from by grind]
end
theorem sq_go {a b : WS} {ρ : Ro} {E : En} (h : a ρ { E with nx := fun ρ' => b ρ' E }) : wSeqS a b ρ E := h
theorem va3_go {n : Nat} {A L : Nat → Nat → Rat} {D : Nat → Rat} {E : En} {vs : List PyData} (hn : n ≤ 12) (hf : FL n L D) (hv : ∀ v ∈ vs, Good n A v) (hl : vs.length ≤ 900) (h : ∀ vs2, (∀ v ∈ vs2, Good n A v) → vs2.length ≤ vs.length + 3 → ∀ z6 z7 z8 z9 z10, E.nx [.ar .sta, .d (mtx n A), .d (mtx n L), .d (.tuple (row n D)), .d (.int (n : Int)), .ow vs2, z6, z7, z8, z9, z10]) : va3 W_draw W_pick (det S_fr_less) [.ar .sta, .d (mtx n A), .d (mtx n L), .d (.tuple (row n D)), .d (.int (n : Int)), .ow vs, .no, .no, .no, .no, .no] E := by
  rw [va3_eq]
  have s0 : ∀ (K : WS), ((0 : Int) < (n : Int) → K [.ar .sta, .d (mtx n A), .d (mtx n L), .d (.tuple (row n D)), .d (.int (n : Int)), .ow vs, .no, .no, .no, .no, .no] E) → wIfS (wBT fGt (wVar 4) (wC (.int 0))) K wNext [.ar .sta, .d (mtx n A), .d (mtx n L), .d (.tuple (row n D)), .d (.int (n : Int)), .ow vs, .no, .no, .no, .no, .no] E := fun K q => by
    walk_at "dw"
    by_cases c : (0 : Int) < (n : Int)
    · rw [decide_eq_true c]; exact q c
    · rw [decide_eq_false c]; exact h vs hv (by omega) _ _ _ _ _
  refine s0 _ fun c => ?_
  refine sq_go (vb0_go hn (by omega) fun a o ha ho => ?_)
  refine sq_go (vb1_go hn ha ho fun x hx => ?_)
  refine sq_go (vb2_go hn ha ho hf hx hv (by omega) fun v2 g2 l2 => ?_)
  refine sq_go (vb3_go hn ha hf g2 (by omega) fun v3 g3 l3 => ?_)
  refine sq_go (vb4_go hn hf ?_)
  refine vb5_go hn hf g3 (by omega) fun v4 g4 l4 => ?_
  exact h v4 g4 (by omega) _ _ _ _ _
def W_values : WF := fun xs R => ∃ (n : Nat) (A L : Nat → Nat → Rat) (D : Nat → Rat), xs = [.sta, .d (mtx n A), .d (mtx n L), .d (.tuple (row n D))] ∧ n ≤ 12 ∧ FL n L D ∧ ∀ vs, vs.length ≤ 1000 → (∀ v ∈ vs, Good n A v) → R (.ow vs)
theorem W_values_mono : MonoF W_values := fun _ _ _ h ⟨n, A, L, D, e, a, b, q⟩ => ⟨n, A, L, D, e, a, b, fun v x y => h _ (q v x y)⟩
theorem p_values {xs : List Ar} {R : Rv → Prop} (h : W_values xs R) : w__law_k00_values (det S_fr_turned) W_solved W_draw W_pick (det S_fr_less) (startR N__law_k00_values.length xs) { nx := fun _ => R (.d .none), rt := R } := by
  obtain ⟨n, A, L, D, rfl, hn, hf, h⟩ := h
  have st : startR N__law_k00_values.length [.sta, .d (mtx n A), .d (mtx n L), .d (.tuple (row n D))] = [.ar .sta, .d (mtx n A), .d (mtx n L), .d (.tuple (row n D)), .no, .no, .no, .no, .no, .no, .no] := rfl
  rw [st]
  show wSeqS (va0 _) (wSeqS va1 (wSeqS (va2 _) (wSeqS (va3 _ _ _) va4))) _ _
  refine sq_go (va0_go hn hf fun v0 g0 l0 => ?_)
  refine sq_go (va1_go hn g0 (by omega) fun v1 g1 l1 => ?_)
  refine sq_go (va2_go hn hf g1 (by omega) fun v2 g2 l2 => ?_)
  refine sq_go (va3_go hn hf g2 (by omega) fun v3 g3 l3 z6 z7 z8 z9 z10 => ?_)
  exact h v3 (by omega) g3
end K00
set_option Elab.async false
set_option linter.all false
set_option maxRecDepth 100000
set_option maxHeartbeats 1000000
namespace K00
open PySem PySem.Spec PyProof.Rows L2 RZ DW Kx
set_option exponentiation.threshold 20000
def nw : Sl → Sl
  | .ow _ => .no
  | .ow2 _ => .no
  | x => x
theorem noOw_cons {z : Sl} {r : Ro} : noOw (z :: r) = nw z :: noOw r := rfl
local macro_rules | `(tactic| walk_at "dw") => `(tactic| dsimp only [wSeqS, wNext, wSet, wPar, wParN, setsR, wRet, wRetN, wRetV, wAsg, wIfS, wFor, wApp, wExt, wSetIx, wSetIx2, cFr, cIm, cNw, cNi, cN2, cCat, cNil, cCons, wVar, wC, wNil, wCons, wTup, wLst, wBin, wBT, wVT, wNotT, wAndT, wOrT, wAndV, wOrV, wNotV, wIf, wNeg, wCB, fI1, fI2, fInt2, fInt2C, fAdd, fSub, fMul, fDiv, fMod, fPow, fLt, fLe, fGt, fGe, fEq, fNe, fIs, fIsNot, fLen, fBools, fSeqTo, fIntOf, wIsi, wCall, Rv.toAr, wNCall, wN2Call, wOfN, wNLst, wNList, wSeq, wRng1, wRng2, wRngDown, wEnum, wZip, noOw_nil, noOw_no, noOw_cons, nw, noOw_ar, noOw_ow, noOw_ow2, wipeR, setR, allD, Option.map_some, Option.map_none, wExpr, wNever, fIx, wSl, wPart, wNoPart, wYes, tfName, tfTup, tfCons, tfNil, wRevT, fRep, wNRep, List.map_cons, List.map_nil, List.getElem?_cons_zero, List.getElem?_cons_succ, List.set_cons_zero, List.set_cons_succ, List.cons_append, List.nil_append, wLc, wLcN, wLc2, lcStep, lcStep2, cNd])
def lp0 (ws__law_begun : WF) : WS := (wSet 1 (cFr (wCall ws__law_begun (wCons (wVar 0) wNil))))
def lb0 (ws__law_pick : WF) : WS := (wSet 3 (cFr (wCall ws__law_pick (wCons (wVar 1) (wCons (wLst (wCons (wC (.int 0)) (wCons (wC (.int 1)) (wCons (wC (.int 2)) (wCons (wC (.int 3)) (wCons (wC (.int 5)) (wCons (wC (.int 8)) (wCons (wC (.int 12)) wNil)))))))) wNil)))))
def lb1 (ws__law_pick ws__law_fr_lower : WF) : WS := (wParN [4, 5] (cCons (cFr (wCall ws__law_fr_lower (wCons (wVar 1) (wCons (wVar 3) (wCons (wC (.int 2)) wNil))))) (cCons (cFr (wCall ws__law_pick (wCons (wVar 1) (wCons (wLst (wCons (wLst (wCons (wC (.int 1)) (wCons (wC (.int 2)) (wCons (wC (.int 3)) wNil)))) (wCons (wLst (wCons (wC (.int 1)) (wCons (wC (.int 1)) (wCons (wC (.int 2)) (wCons (wC (.int 1)) (wCons (wC (.int 0)) wNil)))))) (wCons (wLst (wCons (wC (.int 1)) (wCons (wC (.int 2)) (wCons (wNeg (wC (.int 1))) wNil)))) (wCons (wLst (wCons (wNeg (wC (.int 1))) wNil)) (wCons (wLst (wCons (wC (.int 0)) (wCons (wC (.int 1)) wNil))) wNil)))))) wNil)))) cNil)))
def lb2 (ws__law_pick ws__law_draw ws__law_fr_of : WF) : WS := (wSet 6 (cFr (wCB (fSeqTo .tuple) (wCons (wOfN (wLc (wRng1 (wVar 3)) (tfName 11) wYes (wCall ws__law_fr_of (wCons (wCall ws__law_pick (wCons (wVar 1) (wCons (wVar 5) wNil))) (wCons (wBin fAdd (wC (.int 1)) (wCall ws__law_draw (wCons (wVar 1) (wCons (wC (.int 3)) wNil)))) wNil))) [11])) wNil))))
def lb3 (ws__law_fr_along ws__law_fr_product ws__law_fr_turned : WF) : WS := (wSet 7 (cFr (wIf (wBT fGt (wVar 3) (wC (.int 0))) (wCall ws__law_fr_product (wCons (wCall ws__law_fr_product (wCons (wVar 4) (wCons (wCall ws__law_fr_along (wCons (wVar 6) wNil)) wNil))) (wCons (wCall ws__law_fr_turned (wCons (wVar 4) wNil)) wNil))) (wTup wNil))))
def lb4 : WS := (wSet 8 (cFr (wBin fEq (wOfN (wLc (wSeq (wVar 6)) (tfName 12) (wBT fLe (wBin fIx (wVar 12) (wC (.int 0))) (wC (.int 0))) (wC (.int 1)) [12])) (wLst wNil))))
def lb5 (ws_sign_paper : WF) : WS := (wSet 9 (cFr (wCall ws_sign_paper (wCons (wVar 7) wNil))))
def lb6 (ws_is_sign_paper ws__law_k00_is_paper ws_is_matrix : WF) : WS := (wIfS (wOrT (wBT fIsNot (wCall ws_is_matrix (wCons (wVar 7) wNil)) (wC (.bool true))) (wOrT (wNotT (wVT (wCall ws__law_k00_is_paper (wCons (wVar 7) (wCons (wVar 9) wNil))))) (wOrT (wBT fNe (wBin fIx (wVar 9) (wC (.int 0))) (wIf (wVT (wVar 8)) (wC (.str "positive")) (wC (.str "other")))) (wBT fIsNot (wCall ws_is_sign_paper (wCons (wVar 7) (wCons (wVar 9) wNil))) (wC (.bool true)))))) (wRet (cFr (wC (.bool false)))) wNext)
def lb7 (ws_is_sign_paper ws__law_k00_is_paper ws__law_k00_values ws__law_is_truth : WF) : WS := (wFor (wSeq (wCall ws__law_k00_values (wCons (wVar 1) (wCons (wVar 7) (wCons (wVar 4) (wCons (wVar 6) wNil)))))) (tfName 10) (wIfS (wNotT (wVT (wCall ws__law_is_truth (wCons (wCall ws_is_sign_paper (wCons (wVar 7) (wCons (wVar 10) wNil))) (wCons (wCall ws__law_k00_is_paper (wCons (wVar 7) (wCons (wVar 10) wNil))) wNil))))) (wRet (cFr (wC (.bool false)))) wNext))
def lb8 (ws_is_sign_paper ws__law_is_truth : WF) : WS := (wIfS (wNotT (wVT (wCall ws__law_is_truth (wCons (wCall ws_is_sign_paper (wCons (wVar 7) (wCons (wTup (wCons (wC (.str "positive")) (wCons (wVar 4) (wCons (wVar 6) wNil)))) wNil))) (wCons (wVar 8) wNil))))) (wRet (cFr (wC (.bool false)))) wNext)
def lbody (ws__law_pick ws__law_fr_lower ws__law_draw ws__law_fr_of ws__law_fr_along ws__law_fr_product ws__law_fr_turned ws_sign_paper ws_is_sign_paper ws__law_k00_is_paper ws_is_matrix ws__law_k00_values ws__law_is_truth : WF) : WS := (wSeqS (lb0 ws__law_pick) (wSeqS (lb1 ws__law_pick ws__law_fr_lower) (wSeqS (lb2 ws__law_pick ws__law_draw ws__law_fr_of) (wSeqS (lb3 ws__law_fr_along ws__law_fr_product ws__law_fr_turned) (wSeqS lb4 (wSeqS (lb5 ws_sign_paper) (wSeqS (lb6 ws_is_sign_paper ws__law_k00_is_paper ws_is_matrix) (wSeqS (lb7 ws_is_sign_paper ws__law_k00_is_paper ws__law_k00_values ws__law_is_truth) (lb8 ws_is_sign_paper ws__law_is_truth)))))))))
def lp1 (ws__law_pick ws__law_fr_lower ws__law_draw ws__law_fr_of ws__law_fr_along ws__law_fr_product ws__law_fr_turned ws_sign_paper ws_is_sign_paper ws__law_k00_is_paper ws_is_matrix ws__law_k00_values ws__law_is_truth : WF) : WS := (wFor (wRng1 (wBin fAdd (wC (.int 2)) (wCB (fI2 iMin) (wCons (wCB fLen (wCons (wVar 0) wNil)) (wCons (wC (.int 3)) wNil))))) (tfName 2) (lbody ws__law_pick ws__law_fr_lower ws__law_draw ws__law_fr_of ws__law_fr_along ws__law_fr_product ws__law_fr_turned ws_sign_paper ws_is_sign_paper ws__law_k00_is_paper ws_is_matrix ws__law_k00_values ws__law_is_truth))
def lp2 : WS := (wRet (cFr (wC (.bool true))))

theorem mtx_congr {n : Nat} {A B : Nat → Nat → Rat} (h : ∀ i j, i < n → j < n → A i j = B i j) : mtx n A = mtx n B := by
  unfold mtx
  congr 1
  exact List.map_congr_left fun i hi => by rw [row_congr fun j hj => h i j (List.mem_range.mp hi) hj]
theorem Tx_far : ∀ (k i j : Nat) {L : Nat → Nat → Rat}, k ≤ i → k ≤ j → Tx L k i j = if i = j then 1 else 0
  | 0, i, j, L, _, _ => rfl
  | k + 1, i, j, L, hi, hj => by
    simp only [Tx, if_pos (show k < i by omega)]
    rw [Tx_far k i j (by omega) (by omega), Tx_far k k j (by omega) (by omega), if_neg (show ¬ k = j by omega)]
    grind
theorem Tx_near {n : Nat} {L : Nat → Nat → Rat} (hL : ∀ i j, i < n → j < n → Fr 6 12 (L i j)) {j : Nat} : ∀ (d i : Nat), j + d + 1 ≤ i → i < n → Fr (6 ^ (d + 1)) (18 ^ (d + 1)) (Tx L (j + d + 1) i j)
  | 0, i, hi, hn => by
    have e : Tx L (j + 0 + 1) i j = 0 - L i j := by
      simp only [Nat.add_zero, Tx, if_pos (show j < i by omega)]
      rw [Tx_far j i j (by omega) (by omega), Tx_far j j j (by omega) (by omega), if_neg (by omega), if_pos rfl]
      grind
    rw [e]
    have := (hL i j hn (by omega)).neg
    rw [show 0 - L i j = -L i j from by grind]
    exact this.mono (by decide)
  | d + 1, i, hi, hn => by
    have a := (Tx_near hL (j := j) d i (by omega) hn).up 6 (by decide)
    have b := (hL i (j + d + 1) hn (by omega)).mul (Tx_near hL (j := j) d (j + d + 1) (by omega) (by omega))
    have e6 : 6 ^ (d + 1 + 1) = 6 ^ (d + 1) * 6 := Nat.pow_succ ..
    have e18 : 18 ^ (d + 1 + 1) = 18 ^ (d + 1) * 18 := Nat.pow_succ ..
    rw [Nat.mul_comm 6] at b
    rw [e6, e18, show j + (d + 1) + 1 = j + d + 1 + 1 from by omega]
    simp only [Tx, if_pos (show j + d + 1 < i by omega)]
    exact (a.sub b).mono (by omega)
theorem Tx_fs {n k : Nat} {L : Nat → Nat → Rat} (hL : ∀ i j, i < n → j < n → Fr 6 12 (L i j)) (hk : k < n) : FS n k (Tx L k k) := fun j hj => by
  by_cases c : j < k
  · obtain ⟨d, rfl⟩ : ∃ d, k = j + d + 1 := ⟨k - j - 1, by omega⟩
    have := Tx_near hL (j := j) d (j + d + 1) (Nat.le_refl _) hk
    rw [show j + d + 1 - j = d + 1 from by omega]
    exact this.mono (Nat.pow_le_pow_left (by decide) _)
  · rw [Tx_far k k j (Nat.le_refl _) (by omega), show k - j = 0 from by omega]
    split
    · exact ⟨by decide, 1, by simp, by decide⟩
    · exact (Fr.zero (by decide)).mono (Nat.zero_le _)
theorem Giv.mat {n : Nat} {L : Nat → Nat → Rat} {D : Nat → Rat} (g : Giv n L D) : Mat n (Mx n L D) := ⟨fun i j hi hj => Mx_fr g.n12 g.fl g.fd hi hj, fun i j _ _ => Mx_sym i j⟩
theorem Giv.lw {n : Nat} {L : Nat → Nat → Rat} {D : Nat → Rat} (g : Giv n L D) : Lw n L = true := by
  unfold Lw
  exact decide_eq_true fun i hi => ⟨g.low.one i hi, fun j hj hij => g.low.nul i j hij hj⟩
theorem facB_self {n : Nat} {L : Nat → Nat → Rat} {D : Nat → Rat} (g : Giv n L D) : facB n (Mx n L D) L D = decide (∀ i, i < n → 0 < D i) := by
  unfold facB
  have := (tri_eq (D := D) g.mat g.lw).mp fun i _ j _ => Px_eq i j
  rw [g.lw, decide_eq_true this, Bool.true_and, Bool.and_true]
theorem first_low : ∀ {n : Nat} {D : Nat → Rat}, (¬ ∀ m, m < n → 0 < D m) → ∃ k, k < n ∧ (∀ m, m < k → 0 < D m) ∧ D k ≤ 0
  | 0, _, c => absurd (fun m hm => absurd hm (Nat.not_lt_zero _)) c
  | n + 1, D, c => by
    by_cases c2 : ∀ m, m < n → 0 < D m
    · refine ⟨n, by omega, c2, Rat.not_lt.mp fun z => c fun m hm => ?_⟩
      by_cases e : m = n
      · rw [e]; exact z
      · exact c2 m (by omega)
    · obtain ⟨k, h1, h2, h3⟩ := first_low c2
      exact ⟨k, by omega, h2, h3⟩
/-- what a paper told is worth -/
theorem told_ok {n : Nat} {L : Nat → Nat → Rat} {D : Nat → Rat} (g : Giv n L D) {r : Rv} (h : (∃ k, k < n ∧ (∀ m, m < k → 0 < D m) ∧ D k ≤ 0 ∧ r = .d (othPaper n (Tx L k k))) ∨ ((∀ m, m < n → 0 < D m) ∧ r = .d (posPaper n L D))) :
    ∃ (x : Str) (ds : List PyData), r = .d (.tuple (.str x :: ds)) ∧ VF n (Mx n L D) (.tuple (.str x :: ds)) true ∧ ((x = "positive" ∧ ∀ m, m < n → 0 < D m) ∨ (x = "other" ∧ ¬ ∀ m, m < n → 0 < D m)) := by
  rcases h with ⟨k, hk, _, hD, rfl⟩ | ⟨hD, rfl⟩
  · have fs := fsE g.n12 hk (Tx_fs g.fl hk)
    refine ⟨_, _, rfl, .inr (.inr (.inl ⟨_, rfl, fs.1, fs.2, ?_⟩)), .inr ⟨rfl, fun z => absurd (z k hk) (Rat.not_lt.mpr hD)⟩⟩
    unfold lowB
    rw [Wx_Tx g.low hk, decide_eq_true hD, Bool.and_true]
    obtain ⟨j, hj, hne⟩ := Tx_ne g.low hk
    rw [decide_eq_false (fun z => hne (z j hj))]; rfl
  · refine ⟨_, _, rfl, .inr (.inr (.inr (.inr (.inr ⟨L, D, rfl, ⟨g.fl, g.fd⟩, ?_⟩)))), .inl ⟨rfl, hD⟩⟩
    exact ((facB_self g).trans (decide_eq_true hD)).symm
theorem lp0_go {ns : List Int} {E : En} {z2 z3 z4 z5 z6 z7 z8 z9 z10 z11 z12 : Sl} (hl : ns.length ≤ 1000) (h : E.nx [.d (.list (ns.map .int)), .ar .sta, z2, z3, z4, z5, z6, z7, z8, z9, z10, z11, z12]) : lp0 W_begun [.d (.list (ns.map .int)), .no, z2, z3, z4, z5, z6, z7, z8, z9, z10, z11, z12] E := by
  unfold lp0
  walk_at "dw"
  exact ⟨ns, rfl, hl, h⟩
theorem lp1_rng {ns : List Int} {E : En} {b : WS} {z1 z2 z3 z4 z5 z6 z7 z8 z9 z10 z11 z12 : Sl} (hl : ns.length ≤ 1000) (h : ∀ m : Nat, m ≤ 5 → forW (tfName 2) b (rngD 0 m) [.d (.list (ns.map .int)), z1, z2, z3, z4, z5, z6, z7, z8, z9, z10, z11, z12] E) : wFor (wRng1 (wBin fAdd (wC (.int 2)) (wCB (fI2 iMin) (wCons (wCB fLen (wCons (wVar 0) wNil)) (wCons (wC (.int 3)) wNil))))) (tfName 2) b [.d (.list (ns.map .int)), z1, z2, z3, z4, z5, z6, z7, z8, z9, z10, z11, z12] E := by
  walk_at "dw"
  rw [List.length_map]
  have e : iMin (ns.length : Int) 3 ≤ 3 ∧ 0 ≤ iMin (ns.length : Int) 3 := by
    unfold iMin
    split <;> omega
  refine ⟨⟨by omega, by omega⟩, ?_, ?_⟩
  · rw [rngD_length]; omega
  · exact h _ (by omega)
section
variable {n : Nat} {L : Nat → Nat → Rat} {D : Nat → Rat} {E : En} {s : PyData}
theorem lb0_go {z2 z3 z4 z5 z6 z7 z8 z9 z10 z11 z12 : Sl} (h : ∀ n : Nat, n ≤ 12 → E.nx [.d s, .ar .sta, z2, .d (.int (n : Int)), z4, z5, z6, z7, z8, z9, z10, z11, z12]) : lb0 W_pick [.d s, .ar .sta, z2, z3, z4, z5, z6, z7, z8, z9, z10, z11, z12] E := by
  unfold lb0
  walk_at "dw"
  refine ⟨_, rfl, by simp, by simp, fun d hd => ?_⟩
  obtain ⟨n, rfl, hn⟩ : ∃ n : Nat, d = .int (n : Int) ∧ n ≤ 12 := by
    simp only [List.mem_cons, List.not_mem_nil, or_false] at hd
    rcases hd with rfl | rfl | rfl | rfl | rfl | rfl | rfl
    · exact ⟨0, rfl, by decide⟩
    · exact ⟨1, rfl, by decide⟩
    · exact ⟨2, rfl, by decide⟩
    · exact ⟨3, rfl, by decide⟩
    · exact ⟨5, rfl, by decide⟩
    · exact ⟨8, rfl, by decide⟩
    · exact ⟨12, rfl, by decide⟩
  exact h n hn
def Signs (ds : List Int) : Prop := ds ≠ [] ∧ ds.length ≤ 10 ∧ ∀ d ∈ ds, d.natAbs ≤ 3
theorem lb1_go {z2 z4 z5 z6 z7 z8 z9 z10 z11 z12 : Sl} (hn : n ≤ 12) (h : ∀ (L : Nat → Nat → Rat) (ds : List Int), Low n L → (∀ i j, i < n → j < n → Fr 6 12 (L i j)) → Signs ds → E.nx [.d s, .ar .sta, z2, .d (.int (n : Int)), .d (mtx n L), .d (.list (ds.map .int)), z6, z7, z8, z9, z10, z11, z12]) : lb1 W_pick W_fr_lower [.d s, .ar .sta, z2, .d (.int (n : Int)), z4, z5, z6, z7, z8, z9, z10, z11, z12] E := by
  unfold lb1
  walk_at "dw"
  refine ⟨n, rfl, hn, fun L low fl => ?_⟩
  refine ⟨_, rfl, by simp, by simp, fun d hd => ?_⟩
  obtain ⟨ds, rfl, hs⟩ : ∃ ds : List Int, d = .list (ds.map .int) ∧ Signs ds := by
    simp only [List.mem_cons, List.not_mem_nil, or_false] at hd
    rcases hd with rfl | rfl | rfl | rfl | rfl
    · exact ⟨[1, 2, 3], rfl, by simp, by simp, by decide⟩
    · exact ⟨[1, 1, 2, 1, 0], rfl, by simp, by simp, by decide⟩
    · exact ⟨[1, 2, -1], rfl, by simp, by simp, by decide⟩
    · exact ⟨[-1], rfl, by simp, by simp, by decide⟩
    · exact ⟨[0, 1], rfl, by simp, by simp, by decide⟩
  exact h L ds low fl hs
theorem lb2_go {z2 z6 z7 z8 z9 z10 z11 z12 : Sl} {ds : List Int} (hn : n ≤ 12) (hs : Signs ds) (h : ∀ D : Nat → Rat, (∀ i, i < n → Fr 6 18 (D i)) → E.nx [.d s, .ar .sta, z2, .d (.int (n : Int)), .d (mtx n L), .d (.list (ds.map .int)), .d (.tuple (row n D)), z7, z8, z9, z10, z11, z12]) : lb2 W_pick W_draw (det S_fr_of) [.d s, .ar .sta, z2, .d (.int (n : Int)), .d (mtx n L), .d (.list (ds.map .int)), z6, z7, z8, z9, z10, z11, z12] E := by
  unfold lb2
  walk_at "dw"
  have e1 : (n : Int).toNat = n := by omega
  rw [e1]
  refine ⟨⟨by omega, by omega⟩, by rw [rngD_length]; omega, ?_⟩
  rw [rngD0]
  refine comp_rows (P := fun _ x => Fr 6 18 x) (fun j hj acc k hk => ?_) (fun f hf => h f hf)
  walk_at "dw"
  refine ⟨_, rfl, by simpa using hs.1, by rw [List.length_map]; have := hs.2.1; omega, fun d hd => ?_⟩
  obtain ⟨u, hu, rfl⟩ := List.mem_map.mp hd
  refine ⟨_, rfl, by decide, by decide, fun v v0 v1 => ?_⟩
  have hu3 := hs.2.2 u hu
  have big : (4 : Nat) < 2 ^ 8900 := by decide
  refine ⟨_, ⟨u, 1 + v, rfl, by omega, by omega, rfl⟩, ?_⟩
  exact hk _ (fr6 (by omega) (by omega))
theorem lb3_go {z2 z5 z7 z8 z9 z10 z11 z12 : Sl} (g : Giv n L D) (h : E.nx [.d s, .ar .sta, z2, .d (.int (n : Int)), .d (mtx n L), z5, .d (.tuple (row n D)), .d (mtx n (Mx n L D)), z8, z9, z10, z11, z12]) : lb3 (det S_fr_along) (det S_fr_product) (det S_fr_turned) [.d s, .ar .sta, z2, .d (.int (n : Int)), .d (mtx n L), z5, .d (.tuple (row n D)), z7, z8, z9, z10, z11, z12] E := by
  unfold lb3
  walk_at "dw"
  have hd := Px_data g.n12 (⟨g.fl, g.fd⟩ : FL n L D)
  by_cases c : (0 : Int) < (n : Int)
  · rw [decide_eq_true c]
    refine ⟨_, ⟨n, D, rfl, g.n12, rfl⟩, _, hd.1, _, ⟨n, L, rfl, g.n12, rfl⟩, _, hd.2, ?_⟩
    rw [mtx_congr (B := Mx n L D) fun i j _ _ => Px_eq i j]
    exact h
  · rw [decide_eq_false c]
    have : n = 0 := by omega
    subst this
    exact h
theorem any_low (n : Nat) (D : Nat → Rat) : (row n D).any lowE = !decide (∀ i, i < n → 0 < D i) := by
  unfold row
  rw [List.any_map]
  refine Bool.eq_iff_iff.mpr ?_
  simp only [List.any_eq_true, Function.comp, lowE_rd, List.mem_range, Bool.not_eq_true', decide_eq_false_iff_not, decide_eq_true_eq]
  constructor
  · rintro ⟨j, hj, hc⟩ z; exact absurd (z j hj) (Rat.not_lt.mpr hc)
  · intro z; exact Classical.byContradiction fun y => z fun i hi => Classical.byContradiction fun w => y ⟨i, hi, Rat.not_lt.mp w⟩
theorem lb4_go {z2 z3 z4 z5 z7 z8 z9 z10 z11 z12 : Sl} (hn : n ≤ 12) (h : E.nx [.d s, .ar .sta, z2, z3, z4, z5, .d (.tuple (row n D)), z7, .d (.bool (decide (∀ i, i < n → 0 < D i))), z9, z10, z11, z12]) : lb4 [.d s, .ar .sta, z2, z3, z4, z5, .d (.tuple (row n D)), z7, z8, z9, z10, z11, z12] E := by
  unfold lb4
  walk_at "dw"
  refine ⟨by rw [row_len]; omega, ?_⟩
  refine comp_flag (b := lowE) _ (fun d hd acc k hk => ?_) (fun fm sh e => ?_)
  · obtain ⟨j, hj, rfl⟩ := List.mem_map.mp hd
    refine ⟨_, rd_num _, ?_⟩
    rw [lowE_rd] at hk
    walk_at "dw"
    have e : decide ((D j).num ≤ 0) = decide (D j ≤ 0) := Bool.eq_iff_iff.mpr (by simp only [decide_eq_true_eq]; exact num_le _)
    rw [e]
    by_cases c : D j ≤ 0
    · rw [decide_eq_true c] at hk ⊢; exact hk
    · rw [decide_eq_false c] at hk ⊢
      have hk2 : k acc := by simpa using hk
      exact hk2
  · refine ⟨sh, rfl, ?_⟩
    rw [e, any_low, Bool.not_not]
    exact h
theorem lb5_go {z2 z3 z4 z5 z6 z8 z9 z10 z11 z12 : Sl} (g : Giv n L D) (h : ∀ (x : Str) (ds : List PyData), VF n (Mx n L D) (.tuple (.str x :: ds)) true → ((x = "positive" ∧ ∀ m, m < n → 0 < D m) ∨ (x = "other" ∧ ¬ ∀ m, m < n → 0 < D m)) → E.nx [.d s, .ar .sta, z2, z3, z4, z5, z6, .d (mtx n (Mx n L D)), z8, .d (.tuple (.str x :: ds)), z10, z11, z12]) : lb5 (det S_sign_paper) [.d s, .ar .sta, z2, z3, z4, z5, z6, .d (mtx n (Mx n L D)), z8, z9, z10, z11, z12] E := by
  unfold lb5
  walk_at "dw"
  by_cases c : ∀ m, m < n → 0 < D m
  · obtain ⟨x, ds, e, hv, hx⟩ := told_ok g (r := .d (posPaper n L D)) (.inr ⟨c, rfl⟩)
    refine ⟨_, ⟨n, L, D, rfl, g, .inr ⟨c, rfl⟩⟩, ?_⟩
    rw [e]
    exact h x ds hv hx
  · obtain ⟨k, hk, hm, hD⟩ : ∃ k, k < n ∧ (∀ m, m < k → 0 < D m) ∧ D k ≤ 0 := first_low c
    obtain ⟨x, ds, e, hv, hx⟩ := told_ok g (r := .d (othPaper n (Tx L k k))) (.inl ⟨k, hk, hm, hD, rfl⟩)
    refine ⟨_, ⟨n, L, D, rfl, g, .inl ⟨k, hk, hm, hD, rfl⟩⟩, ?_⟩
    rw [e]
    exact h x ds hv hx
theorem lb6_go {z2 z3 z4 z5 z6 z10 z11 z12 : Sl} {x : Str} {ds : List PyData} (g : Giv n L D) (hv : VF n (Mx n L D) (.tuple (.str x :: ds)) true) (hx : (x = "positive" ∧ ∀ m, m < n → 0 < D m) ∨ (x = "other" ∧ ¬ ∀ m, m < n → 0 < D m)) (h : E.nx [.d s, .ar .sta, z2, z3, z4, z5, z6, .d (mtx n (Mx n L D)), .d (.bool (decide (∀ i, i < n → 0 < D i))), .d (.tuple (.str x :: ds)), z10, z11, z12]) : lb6 (det S_is_sign_paper) (det S_is_paper) (det S_is_matrix) [.d s, .ar .sta, z2, z3, z4, z5, z6, .d (mtx n (Mx n L D)), .d (.bool (decide (∀ i, i < n → 0 < D i))), .d (.tuple (.str x :: ds)), z10, z11, z12] E := by
  have hA := g.mat
  have n12 := g.n12
  unfold lb6
  walk_at "dw"
  refine ⟨_, ⟨n, _, rfl, by omega, hA.2, rfl⟩, ?_⟩
  walk_at "dw"
  refine ⟨_, ⟨n, _, _, true, rfl, n12, hA, hv, rfl⟩, ?_⟩
  walk_at "dw"
  refine ⟨.str x, atI_nat (xs := .str x :: ds) (j := 0) rfl, ?_⟩
  have sx : SeqAt.shaped (.str x) = true := by rcases hx with ⟨rfl, _⟩ | ⟨rfl, _⟩ <;> decide +kernel
  have fin : det S_is_sign_paper [.d (mtx n (Mx n L D)), .d (.tuple (.str x :: ds))] fun r => match (r.toAr : Ar) with | .d (.bool a) => (match !decide (a = true) with | true => E.rt (.d (.bool false)) | false => E.nx [.d s, .ar .sta, z2, z3, z4, z5, z6, .d (mtx n (Mx n L D)), .d (.bool (decide (∀ i, i < n → 0 < D i))), .d (.tuple (.str x :: ds)), z10, z11, z12]) | _ => False := ⟨_, hv.sign n12 hA, h⟩
  rcases hx with ⟨rfl, hD⟩ | ⟨rfl, hD⟩
  · rw [decide_eq_true hD]
    refine ⟨sx, sx, ?_⟩
    rw [eqv_pp]
    rw [decide_eq_true hD] at fin
    obtain ⟨r, h1, h2⟩ := fin
    exact ⟨_, hv.sign n12 hA, by rw [decide_eq_true hD] at h; exact h⟩
  · rw [decide_eq_false hD]
    refine ⟨sx, sx, ?_⟩
    rw [eqv_oo]
    exact ⟨_, hv.sign n12 hA, by rw [decide_eq_false hD] at h; exact h⟩
theorem is_truth_self (b : Bool) : S_is_truth [.d (.bool b), .d (.bool b)] (.d (.bool true)) := ⟨b, b, rfl, by simp⟩
theorem lb7_go {z2 z3 z5 z8 z9 z10 z11 z12 : Sl} (g : Giv n L D) (h : ∀ z10, E.nx [.d s, .ar .sta, z2, z3, .d (mtx n L), z5, .d (.tuple (row n D)), .d (mtx n (Mx n L D)), z8, z9, z10, z11, z12]) : lb7 (det S_is_sign_paper) (det S_is_paper) W_values (det S_is_truth) [.d s, .ar .sta, z2, z3, .d (mtx n L), z5, .d (.tuple (row n D)), .d (mtx n (Mx n L D)), z8, z9, z10, z11, z12] E := by
  have hA := g.mat
  have n12 := g.n12
  unfold lb7
  walk_at "dw"
  refine ⟨n, _, L, D, rfl, n12, ⟨g.fl, g.fd⟩, fun vs hl hv => ?_⟩
  refine ⟨by omega, ?_⟩
  refine forW_ind (fun i ρ => ∃ z10, ρ = [.d s, .ar .sta, z2, z3, .d (mtx n L), z5, .d (.tuple (row n D)), .d (mtx n (Mx n L D)), z8, z9, z10, z11, z12]) (fun i d ρ k hd hI hk => ?_) (fun ρ hI => ?_) ⟨_, rfl⟩
  · obtain ⟨z10, rfl⟩ := hI
    obtain ⟨b, hb⟩ := hv d (List.mem_of_getElem? hd)
    refine ⟨_, rfl, ?_⟩
    walk_at "dw"
    exact ⟨_, hb.sign n12 hA, _, ⟨n, _, _, b, rfl, n12, hA, hb, rfl⟩, _, is_truth_self b, hk _ ⟨_, rfl⟩⟩
  · obtain ⟨z10, rfl⟩ := hI
    exact h z10
theorem lb8_go {z2 z3 z5 z9 z10 z11 z12 : Sl} (g : Giv n L D) (h : E.nx [.d s, .ar .sta, z2, z3, .d (mtx n L), z5, .d (.tuple (row n D)), .d (mtx n (Mx n L D)), .d (.bool (decide (∀ i, i < n → 0 < D i))), z9, z10, z11, z12]) : lb8 (det S_is_sign_paper) (det S_is_truth) [.d s, .ar .sta, z2, z3, .d (mtx n L), z5, .d (.tuple (row n D)), .d (mtx n (Mx n L D)), .d (.bool (decide (∀ i, i < n → 0 < D i))), z9, z10, z11, z12] E := by
  have hA := g.mat
  have n12 := g.n12
  unfold lb8
  walk_at "dw"
  have hv : VF n (Mx n L D) (.tuple [.str "positive", mtx n L, .tuple (row n D)]) (decide (∀ i, i < n → 0 < D i)) := .inr (.inr (.inr (.inr (.inr ⟨L, D, rfl, ⟨g.fl, g.fd⟩, (facB_self g).symm⟩))))
  exact ⟨_, hv.sign n12 hA, _, is_truth_self _, h⟩
end
def W_law : WF := fun xs R => ∃ ns : List Int, xs = [.d (.list (ns.map .int))] ∧ ns.length ≤ 1000 ∧ R (.d (.bool true))
theorem p_law {xs : List Ar} {R : Rv → Prop} (h : W_law xs R) : w_law W_begun W_pick W_fr_lower W_draw (det S_fr_of) (det S_fr_along) (det S_fr_product) (det S_fr_turned) (det S_sign_paper) (det S_is_sign_paper) (det S_is_paper) (det S_is_matrix) W_values (det S_is_truth) (startR N_law.length xs) { nx := fun _ => R (.d .none), rt := R } := by
  obtain ⟨ns, rfl, hl, h⟩ := h
  have st : startR N_law.length [.d (.list (ns.map .int))] = [.d (.list (ns.map .int)), .no, .no, .no, .no, .no, .no, .no, .no, .no, .no, .no, .no] := rfl
  rw [st]
  show wSeqS (lp0 _) (wSeqS (lp1 _ _ _ _ _ _ _ _ _ _ _ _ _) lp2) _ _
  refine sq_go (lp0_go hl ?_)
  dsimp only
  refine sq_go ?_
  unfold lp1
  refine lp1_rng hl fun m hm => ?_
  refine forW_ind (fun i ρ => ∃ z2 z3 z4 z5 z6 z7 z8 z9 z10 z11 z12, ρ = [.d (.list (ns.map .int)), .ar .sta, z2, z3, z4, z5, z6, z7, z8, z9, z10, z11, z12]) (fun i d ρ k hd hI hk => ?_) (fun ρ hI => ?_) ⟨_, _, _, _, _, _, _, _, _, _, _, rfl⟩
  · obtain ⟨z2, z3, z4, z5, z6, z7, z8, z9, z10, z11, z12, rfl⟩ := hI
    refine ⟨_, rfl, ?_⟩
    unfold lbody
    refine sq_go (lb0_go fun n hn => ?_)
    refine sq_go (lb1_go hn fun L ds low fl hs => ?_)
    refine sq_go (lb2_go hn hs fun D fd => ?_)
    have g : Giv n L D := ⟨hn, low, fl, fd⟩
    refine sq_go (lb3_go g ?_)
    refine sq_go (lb4_go hn ?_)
    refine sq_go (lb5_go g fun x ds hv hx => ?_)
    refine sq_go (lb6_go g hv hx ?_)
    refine sq_go (lb7_go g fun z10 => ?_)
    refine lb8_go g ?_
    exact hk _ ⟨_, _, _, _, _, _, _, _, _, _, _, rfl⟩
  · obtain ⟨z2, z3, z4, z5, z6, z7, z8, z9, z10, z11, z12, rfl⟩ := hI
    exact h
end K00
set_option Elab.async false
set_option linter.all false
set_option maxRecDepth 100000
set_option maxHeartbeats 0
namespace K00
open PySem PySem.Spec PyProof.Rows L2 RZ DW Kx
def fn : List He.DefD := [d_common, d_lowest, d_whole, d_summed, d_lessened, d_multiplied, d_divided, d_total, d_is_ratio, d_are_ratios, d_is_matrix, d_need_matrix, d_unit_rows, d_less_times, d_paper_of, d_sign_paper, d_worth_of, d_is_low, d_are_factors, d_is_sign_paper, d__law_begun, d__law_blended, d__law_draw, d__law_pick, d__law_is_truth, d__law_is_whole, d__law_fr_of, d__law_fr_less, d__law_fr_times, d__law_fr_sum, d__law_fr_are, d__law_fr_product, d__law_fr_turned, d__law_fr_lower, d__law_fr_along, d__law_fr_worth, d__law_k00_solved, d__law_k00_is_paper, d__law_k00_values, d_law]
def fa : List He.Fa := [.glo "common", .glo "lowest", .glo "whole", .glo "summed", .glo "lessened", .glo "multiplied", .glo "divided", .glo "total", .glo "is_ratio", .glo "are_ratios", .glo "is_matrix", .glo "need_matrix", .glo "unit_rows", .glo "less_times", .glo "paper_of", .glo "sign_paper", .glo "worth_of", .glo "is_low", .glo "are_factors", .glo "is_sign_paper", .glo "_law_begun", .glo "_law_blended", .glo "_law_draw", .glo "_law_pick", .glo "_law_is_truth", .glo "_law_is_whole", .glo "_law_fr_of", .glo "_law_fr_less", .glo "_law_fr_times", .glo "_law_fr_sum", .glo "_law_fr_are", .glo "_law_fr_product", .glo "_law_fr_turned", .glo "_law_fr_lower", .glo "_law_fr_along", .glo "_law_fr_worth", .glo "_law_k00_solved", .glo "_law_k00_is_paper", .glo "_law_k00_values", .glo "law", .free "abs", .free "all", .free "any", .free "bool", .free "enumerate", .free "int", .free "isinstance", .free "len", .free "list", .free "min", .free "range", .free "str", .free "tuple", .free "zip"]
def ex (K : Fg) : Bool := bltB K "gcd" "math.gcd" && cstB K "MOST_SIZE" (.int 16) && cstB K "NOUGHT" (.tuple [.int 0, .int 1])
abbrev R : PySem.W.OpenRow := PySem.W.OpenLaw.row PySem.Challenge.rw_treehung_k00_whole_factors_with_pivots_o
abbrev hk : PySem.W.Hook := hookM 4 fa fn ex
def ob (s : PySem.W.SharedT) : AlM := obsM 4 fa fn ex (HandSHeadRun.getT s)
theorem ob_eq (s : PySem.W.SharedT) : ob s = hk.obs s.abs := obsM_eq (HandSHeadRun.getT_eq s)
def names0 : List PySem.Str := ["__name__", "HungError", "BadMatrix", "common", "lowest", "whole", "summed", "lessened", "multiplied", "divided", "total", "MOST_SIZE", "NOUGHT", "is_ratio", "are_ratios", "is_matrix", "need_matrix", "unit_rows", "less_times", "paper_of", "sign_paper", "worth_of", "is_low", "are_factors", "is_sign_paper", "_law_begun", "_law_blended", "_law_draw", "_law_pick", "_law_is_truth"]
def names1 : List PySem.Str := ["_law_is_whole", "_law_fr_of", "_law_fr_less", "_law_fr_times", "_law_fr_sum", "_law_fr_are", "_law_fr_product", "_law_fr_turned", "_law_fr_lower", "_law_fr_along", "_law_fr_worth", "_law_k00_solved", "_law_k00_is_paper", "_law_k00_values"]
def names : List PySem.Str := names0 ++ names1
theorem run (w : World) : HandSHeadRun.RunEqI R (PySem.W.view R.prog [0, 48]) hk ob 4000 names w := by
  delta HandSHeadRun.RunEqI
  kernel_rfl
theorem l_common : ∀ xs R, (det S_common) xs R → xs.length = 2 := fun xs R h => by
    obtain ⟨_, h, _⟩ := h
    repeat (first | (obtain ⟨rfl, _⟩ := h; rfl) | (obtain ⟨_, h⟩ := h))
theorem k_common {P : Program} {w : World} {K : Fg} {mg : Str → Option Value} {base : Heap} (M : Mo K mg) {f : Addr} {fd : FuncData} (F : FunD K "common" "common" (defArgs s_common) (defBody s_common) (defScope s_common) [] [] f fd) (g : mg "common" = some (.ref f)) : Kn P w K mg base 1 "common" ["one", "other"] (det S_common) 0 :=
  kn_of F g sc_common (fun _ _ _ _ _ _ us hl => match us, hl with | [_, _], _ => rfl) (det_mono _) l_common (fun cdv A outer s H E hr => b_common M f cdv A outer s H E hr) (fun xs R h => p_common h)
theorem l_lowest : ∀ xs R, (det S_lowest) xs R → xs.length = 2 := fun xs R h => by
    obtain ⟨_, h, _⟩ := h
    repeat (first | (obtain ⟨rfl, _⟩ := h; rfl) | (obtain ⟨_, h⟩ := h))
theorem k_lowest {P : Program} {w : World} {K : Fg} {mg : Str → Option Value} {base : Heap} (M : Mo K mg) {f : Addr} {fd : FuncData} (F : FunD K "lowest" "lowest" (defArgs s_lowest) (defBody s_lowest) (defScope s_lowest) [] [] f fd) (g : mg "lowest" = some (.ref f)) : Kn P w K mg base 1 "lowest" ["upper", "lower"] (det S_lowest) 0 :=
  kn_of F g sc_lowest (fun _ _ _ _ _ _ us hl => match us, hl with | [_, _], _ => rfl) (det_mono _) l_lowest (fun cdv A outer s H E hr => b_lowest M f cdv A outer s H E hr) (fun xs R h => p_lowest h)
theorem l_whole : ∀ xs R, (det S_whole) xs R → xs.length = 1 := fun xs R h => by
    obtain ⟨_, h, _⟩ := h
    repeat (first | (obtain ⟨rfl, _⟩ := h; rfl) | (obtain ⟨_, h⟩ := h))
theorem k_whole {P : Program} {w : World} {K : Fg} {mg : Str → Option Value} {base : Heap} (M : Mo K mg) {f : Addr} {fd : FuncData} (F : FunD K "whole" "whole" (defArgs s_whole) (defBody s_whole) (defScope s_whole) [] [] f fd) (g : mg "whole" = some (.ref f)) : Kn P w K mg base 1 "whole" ["number"] (det S_whole) 0 :=
  kn_of F g sc_whole (fun _ _ _ _ _ _ us hl => match us, hl with | [_], _ => rfl) (det_mono _) l_whole (fun cdv A outer s H E hr => b_whole M f cdv A outer s H E hr) (fun xs R h => p_whole h)
theorem l_unit_rows : ∀ xs R, (det S_unit_rows) xs R → xs.length = 1 := fun xs R h => by
    obtain ⟨_, h, _⟩ := h
    repeat (first | (obtain ⟨rfl, _⟩ := h; rfl) | (obtain ⟨_, h⟩ := h))
theorem k_unit_rows {P : Program} {w : World} {K : Fg} {mg : Str → Option Value} {base : Heap} (M : Mo K mg) {f : Addr} {fd : FuncData} (F : FunD K "unit_rows" "unit_rows" (defArgs s_unit_rows) (defBody s_unit_rows) (defScope s_unit_rows) [] [] f fd) (g : mg "unit_rows" = some (.ref f)) : Kn P w K mg base 1 "unit_rows" ["many"] (det S_unit_rows) 0 :=
  kn_of F g sc_unit_rows (fun _ _ _ _ _ _ us hl => match us, hl with | [_], _ => rfl) (det_mono _) l_unit_rows (fun cdv A outer s H E hr => b_unit_rows M f cdv A outer s H E hr) (fun xs R h => p_unit_rows h)
theorem l__law_begun : ∀ xs R, W_begun xs R → xs.length = 1 := fun xs R h => by
    repeat (first | (obtain ⟨rfl, _⟩ := h; rfl) | (obtain ⟨_, h⟩ := h))
theorem k__law_begun {P : Program} {w : World} {K : Fg} {mg : Str → Option Value} {base : Heap} (M : Mo K mg) {f : Addr} {fd : FuncData} (F : FunD K "_law_begun" "_law_begun" (defArgs s__law_begun) (defBody s__law_begun) (defScope s__law_begun) [] [] f fd) (g : mg "_law_begun" = some (.ref f)) : Kn P w K mg base 1 "_law_begun" ["script"] W_begun 0 :=
  kn_of F g sc__law_begun (fun _ _ _ _ _ _ us hl => match us, hl with | [_], _ => rfl) W_begun_mono l__law_begun (fun cdv A outer s H E hr => b__law_begun M f cdv A outer s H E hr) (fun xs R h => p_begun h)
theorem l__law_blended : ∀ xs R, W_blended xs R → xs.length = 1 := fun xs R h => by
    repeat (first | (obtain ⟨rfl, _⟩ := h; rfl) | (obtain ⟨_, h⟩ := h))
theorem k__law_blended {P : Program} {w : World} {K : Fg} {mg : Str → Option Value} {base : Heap} (M : Mo K mg) {f : Addr} {fd : FuncData} (F : FunD K "_law_blended" "_law_blended" (defArgs s__law_blended) (defBody s__law_blended) (defScope s__law_blended) [] [] f fd) (g : mg "_law_blended" = some (.ref f)) : Kn P w K mg base 1 "_law_blended" ["state"] W_blended 1 :=
  kn_of F g sc__law_blended (fun _ _ _ _ _ _ us hl => match us, hl with | [_], _ => rfl) W_blended_mono l__law_blended (fun cdv A outer s H E hr => b__law_blended M f cdv A outer s H E hr) (fun xs R h => p_blended h)
theorem l__law_is_truth : ∀ xs R, (det S_is_truth) xs R → xs.length = 2 := fun xs R h => by
    obtain ⟨_, h, _⟩ := h
    repeat (first | (obtain ⟨rfl, _⟩ := h; rfl) | (obtain ⟨_, h⟩ := h))
theorem k__law_is_truth {P : Program} {w : World} {K : Fg} {mg : Str → Option Value} {base : Heap} (M : Mo K mg) {f : Addr} {fd : FuncData} (F : FunD K "_law_is_truth" "_law_is_truth" (defArgs s__law_is_truth) (defBody s__law_is_truth) (defScope s__law_is_truth) [] [] f fd) (g : mg "_law_is_truth" = some (.ref f)) : Kn P w K mg base 1 "_law_is_truth" ["found", "due"] (det S_is_truth) 0 :=
  kn_of F g sc__law_is_truth (fun _ _ _ _ _ _ us hl => match us, hl with | [_, _], _ => rfl) (det_mono _) l__law_is_truth (fun cdv A outer s H E hr => b__law_is_truth M f cdv A outer s H E hr) (fun xs R h => p_is_truth h)
theorem l__law_is_whole : ∀ xs R, (det S_is_whole) xs R → xs.length = 1 := fun xs R h => by
    obtain ⟨_, h, _⟩ := h
    repeat (first | (obtain ⟨rfl, _⟩ := h; rfl) | (obtain ⟨_, h⟩ := h))
theorem k__law_is_whole {P : Program} {w : World} {K : Fg} {mg : Str → Option Value} {base : Heap} (M : Mo K mg) {f : Addr} {fd : FuncData} (F : FunD K "_law_is_whole" "_law_is_whole" (defArgs s__law_is_whole) (defBody s__law_is_whole) (defScope s__law_is_whole) [] [] f fd) (g : mg "_law_is_whole" = some (.ref f)) : Kn P w K mg base 1 "_law_is_whole" ["item"] (det S_is_whole) 0 :=
  kn_of F g sc__law_is_whole (fun _ _ _ _ _ _ us hl => match us, hl with | [_], _ => rfl) (det_mono _) l__law_is_whole (fun cdv A outer s H E hr => b__law_is_whole M f cdv A outer s H E hr) (fun xs R h => p_is_whole h)
theorem l__law_fr_of : ∀ xs R, (det S_fr_of) xs R → xs.length = 2 := fun xs R h => by
    obtain ⟨_, h, _⟩ := h
    repeat (first | (obtain ⟨rfl, _⟩ := h; rfl) | (obtain ⟨_, h⟩ := h))
theorem k__law_fr_of {P : Program} {w : World} {K : Fg} {mg : Str → Option Value} {base : Heap} (M : Mo K mg) {f : Addr} {fd : FuncData} (F : FunD K "_law_fr_of" "_law_fr_of" (defArgs s__law_fr_of) (defBody s__law_fr_of) (defScope s__law_fr_of) [] [] f fd) (g : mg "_law_fr_of" = some (.ref f)) : Kn P w K mg base 1 "_law_fr_of" ["over", "under"] (det S_fr_of) 0 :=
  kn_of F g sc__law_fr_of (fun _ _ _ _ _ _ us hl => match us, hl with | [_, _], _ => rfl) (det_mono _) l__law_fr_of (fun cdv A outer s H E hr => b__law_fr_of M f cdv A outer s H E hr) (fun xs R h => p_fr_of h)
theorem l__law_fr_turned : ∀ xs R, (det S_fr_turned) xs R → xs.length = 1 := fun xs R h => by
    obtain ⟨_, h, _⟩ := h
    repeat (first | (obtain ⟨rfl, _⟩ := h; rfl) | (obtain ⟨_, h⟩ := h))
theorem k__law_fr_turned {P : Program} {w : World} {K : Fg} {mg : Str → Option Value} {base : Heap} (M : Mo K mg) {f : Addr} {fd : FuncData} (F : FunD K "_law_fr_turned" "_law_fr_turned" (defArgs s__law_fr_turned) (defBody s__law_fr_turned) (defScope s__law_fr_turned) [] [] f fd) (g : mg "_law_fr_turned" = some (.ref f)) : Kn P w K mg base 1 "_law_fr_turned" ["rows"] (det S_fr_turned) 0 :=
  kn_of F g sc__law_fr_turned (fun _ _ _ _ _ _ us hl => match us, hl with | [_], _ => rfl) (det_mono _) l__law_fr_turned (fun cdv A outer s H E hr => b__law_fr_turned M f cdv A outer s H E hr) (fun xs R h => p_fr_turned h)
theorem l__law_fr_along : ∀ xs R, (det S_fr_along) xs R → xs.length = 1 := fun xs R h => by
    obtain ⟨_, h, _⟩ := h
    repeat (first | (obtain ⟨rfl, _⟩ := h; rfl) | (obtain ⟨_, h⟩ := h))
theorem k__law_fr_along {P : Program} {w : World} {K : Fg} {mg : Str → Option Value} {base : Heap} (M : Mo K mg) {f : Addr} {fd : FuncData} (F : FunD K "_law_fr_along" "_law_fr_along" (defArgs s__law_fr_along) (defBody s__law_fr_along) (defScope s__law_fr_along) [] [] f fd) (g : mg "_law_fr_along" = some (.ref f)) : Kn P w K mg base 1 "_law_fr_along" ["pivots"] (det S_fr_along) 0 :=
  kn_of F g sc__law_fr_along (fun _ _ _ _ _ _ us hl => match us, hl with | [_], _ => rfl) (det_mono _) l__law_fr_along (fun cdv A outer s H E hr => b__law_fr_along M f cdv A outer s H E hr) (fun xs R h => p_fr_along h)
theorem l_summed : ∀ xs R, (det S_summed) xs R → xs.length = 2 := fun xs R h => by
    obtain ⟨_, h, _⟩ := h
    repeat (first | (obtain ⟨rfl, _⟩ := h; rfl) | (obtain ⟨_, h⟩ := h))
theorem k_summed {P : Program} {w : World} {K : Fg} {mg : Str → Option Value} {base : Heap} (M : Mo K mg) (c_lowest : Kn P w K mg base 1 "lowest" ["upper", "lower"] (det S_lowest) 0) {f : Addr} {fd : FuncData} (F : FunD K "summed" "summed" (defArgs s_summed) (defBody s_summed) (defScope s_summed) [] [] f fd) (g : mg "summed" = some (.ref f)) : Kn P w K mg base 2 "summed" ["one", "other"] (det S_summed) 0 :=
  kn_of F g sc_summed (fun _ _ _ _ _ _ us hl => match us, hl with | [_, _], _ => rfl) (det_mono _) l_summed (fun cdv A outer s H E hr => b_summed M c_lowest f cdv A outer s H E hr) (fun xs R h => p_summed h)
theorem l_lessened : ∀ xs R, (det S_lessened) xs R → xs.length = 2 := fun xs R h => by
    obtain ⟨_, h, _⟩ := h
    repeat (first | (obtain ⟨rfl, _⟩ := h; rfl) | (obtain ⟨_, h⟩ := h))
theorem k_lessened {P : Program} {w : World} {K : Fg} {mg : Str → Option Value} {base : Heap} (M : Mo K mg) (c_lowest : Kn P w K mg base 1 "lowest" ["upper", "lower"] (det S_lowest) 0) {f : Addr} {fd : FuncData} (F : FunD K "lessened" "lessened" (defArgs s_lessened) (defBody s_lessened) (defScope s_lessened) [] [] f fd) (g : mg "lessened" = some (.ref f)) : Kn P w K mg base 2 "lessened" ["one", "other"] (det S_lessened) 0 :=
  kn_of F g sc_lessened (fun _ _ _ _ _ _ us hl => match us, hl with | [_, _], _ => rfl) (det_mono _) l_lessened (fun cdv A outer s H E hr => b_lessened M c_lowest f cdv A outer s H E hr) (fun xs R h => p_lessened h)
theorem l_multiplied : ∀ xs R, (det S_multiplied) xs R → xs.length = 2 := fun xs R h => by
    obtain ⟨_, h, _⟩ := h
    repeat (first | (obtain ⟨rfl, _⟩ := h; rfl) | (obtain ⟨_, h⟩ := h))
theorem k_multiplied {P : Program} {w : World} {K : Fg} {mg : Str → Option Value} {base : Heap} (M : Mo K mg) (c_lowest : Kn P w K mg base 1 "lowest" ["upper", "lower"] (det S_lowest) 0) {f : Addr} {fd : FuncData} (F : FunD K "multiplied" "multiplied" (defArgs s_multiplied) (defBody s_multiplied) (defScope s_multiplied) [] [] f fd) (g : mg "multiplied" = some (.ref f)) : Kn P w K mg base 2 "multiplied" ["one", "other"] (det S_multiplied) 0 :=
  kn_of F g sc_multiplied (fun _ _ _ _ _ _ us hl => match us, hl with | [_, _], _ => rfl) (det_mono _) l_multiplied (fun cdv A outer s H E hr => b_multiplied M c_lowest f cdv A outer s H E hr) (fun xs R h => p_multiplied h)
theorem l_divided : ∀ xs R, (det S_divided) xs R → xs.length = 2 := fun xs R h => by
    obtain ⟨_, h, _⟩ := h
    repeat (first | (obtain ⟨rfl, _⟩ := h; rfl) | (obtain ⟨_, h⟩ := h))
theorem k_divided {P : Program} {w : World} {K : Fg} {mg : Str → Option Value} {base : Heap} (M : Mo K mg) (c_lowest : Kn P w K mg base 1 "lowest" ["upper", "lower"] (det S_lowest) 0) {f : Addr} {fd : FuncData} (F : FunD K "divided" "divided" (defArgs s_divided) (defBody s_divided) (defScope s_divided) [] [] f fd) (g : mg "divided" = some (.ref f)) : Kn P w K mg base 2 "divided" ["one", "other"] (det S_divided) 0 :=
  kn_of F g sc_divided (fun _ _ _ _ _ _ us hl => match us, hl with | [_, _], _ => rfl) (det_mono _) l_divided (fun cdv A outer s H E hr => b_divided M c_lowest f cdv A outer s H E hr) (fun xs R h => p_divided h)
theorem l_is_ratio : ∀ xs R, (det S_is_ratio) xs R → xs.length = 1 := fun xs R h => by
    obtain ⟨_, h, _⟩ := h
    repeat (first | (obtain ⟨rfl, _⟩ := h; rfl) | (obtain ⟨_, h⟩ := h))
theorem k_is_ratio {P : Program} {w : World} {K : Fg} {mg : Str → Option Value} {base : Heap} (M : Mo K mg) (c_common : Kn P w K mg base 1 "common" ["one", "other"] (det S_common) 0) {f : Addr} {fd : FuncData} (F : FunD K "is_ratio" "is_ratio" (defArgs s_is_ratio) (defBody s_is_ratio) (defScope s_is_ratio) [] [] f fd) (g : mg "is_ratio" = some (.ref f)) : Kn P w K mg base 2 "is_ratio" ["value"] (det S_is_ratio) 0 :=
  kn_of F g sc_is_ratio (fun _ _ _ _ _ _ us hl => match us, hl with | [_], _ => rfl) (det_mono _) l_is_ratio (fun cdv A outer s H E hr => b_is_ratio M c_common f cdv A outer s H E hr) (fun xs R h => p_is_ratio h)
theorem l__law_draw : ∀ xs R, W_draw xs R → xs.length = 2 := fun xs R h => by
    repeat (first | (obtain ⟨rfl, _⟩ := h; rfl) | (obtain ⟨_, h⟩ := h))
theorem k__law_draw {P : Program} {w : World} {K : Fg} {mg : Str → Option Value} {base : Heap} (M : Mo K mg) (c__law_blended : Kn P w K mg base 1 "_law_blended" ["state"] W_blended 1) {f : Addr} {fd : FuncData} (F : FunD K "_law_draw" "_law_draw" (defArgs s__law_draw) (defBody s__law_draw) (defScope s__law_draw) [] [] f fd) (g : mg "_law_draw" = some (.ref f)) : Kn P w K mg base 2 "_law_draw" ["state", "size_here"] W_draw 1 :=
  kn_of F g sc__law_draw (fun _ _ _ _ _ _ us hl => match us, hl with | [_, _], _ => rfl) W_draw_mono l__law_draw (fun cdv A outer s H E hr => b__law_draw M c__law_blended f cdv A outer s H E hr) (fun xs R h => p_draw h)
theorem l__law_fr_less : ∀ xs R, (det S_fr_less) xs R → xs.length = 2 := fun xs R h => by
    obtain ⟨_, h, _⟩ := h
    repeat (first | (obtain ⟨rfl, _⟩ := h; rfl) | (obtain ⟨_, h⟩ := h))
theorem k__law_fr_less {P : Program} {w : World} {K : Fg} {mg : Str → Option Value} {base : Heap} (M : Mo K mg) (c__law_fr_of : Kn P w K mg base 1 "_law_fr_of" ["over", "under"] (det S_fr_of) 0) {f : Addr} {fd : FuncData} (F : FunD K "_law_fr_less" "_law_fr_less" (defArgs s__law_fr_less) (defBody s__law_fr_less) (defScope s__law_fr_less) [] [] f fd) (g : mg "_law_fr_less" = some (.ref f)) : Kn P w K mg base 2 "_law_fr_less" ["one", "other"] (det S_fr_less) 0 :=
  kn_of F g sc__law_fr_less (fun _ _ _ _ _ _ us hl => match us, hl with | [_, _], _ => rfl) (det_mono _) l__law_fr_less (fun cdv A outer s H E hr => b__law_fr_less M c__law_fr_of f cdv A outer s H E hr) (fun xs R h => p_fr_less h)
theorem l__law_fr_times : ∀ xs R, (det S_fr_times) xs R → xs.length = 2 := fun xs R h => by
    obtain ⟨_, h, _⟩ := h
    repeat (first | (obtain ⟨rfl, _⟩ := h; rfl) | (obtain ⟨_, h⟩ := h))
theorem k__law_fr_times {P : Program} {w : World} {K : Fg} {mg : Str → Option Value} {base : Heap} (M : Mo K mg) (c__law_fr_of : Kn P w K mg base 1 "_law_fr_of" ["over", "under"] (det S_fr_of) 0) {f : Addr} {fd : FuncData} (F : FunD K "_law_fr_times" "_law_fr_times" (defArgs s__law_fr_times) (defBody s__law_fr_times) (defScope s__law_fr_times) [] [] f fd) (g : mg "_law_fr_times" = some (.ref f)) : Kn P w K mg base 2 "_law_fr_times" ["one", "other"] (det S_fr_times) 0 :=
  kn_of F g sc__law_fr_times (fun _ _ _ _ _ _ us hl => match us, hl with | [_, _], _ => rfl) (det_mono _) l__law_fr_times (fun cdv A outer s H E hr => b__law_fr_times M c__law_fr_of f cdv A outer s H E hr) (fun xs R h => p_fr_times h)
theorem l__law_fr_sum : ∀ xs R, (det S_fr_sum) xs R → xs.length = 1 := fun xs R h => by
    obtain ⟨_, h, _⟩ := h
    repeat (first | (obtain ⟨rfl, _⟩ := h; rfl) | (obtain ⟨_, h⟩ := h))
theorem k__law_fr_sum {P : Program} {w : World} {K : Fg} {mg : Str → Option Value} {base : Heap} (M : Mo K mg) (c__law_fr_of : Kn P w K mg base 1 "_law_fr_of" ["over", "under"] (det S_fr_of) 0) {f : Addr} {fd : FuncData} (F : FunD K "_law_fr_sum" "_law_fr_sum" (defArgs s__law_fr_sum) (defBody s__law_fr_sum) (defScope s__law_fr_sum) [] [] f fd) (g : mg "_law_fr_sum" = some (.ref f)) : Kn P w K mg base 2 "_law_fr_sum" ["some"] (det S_fr_sum) 0 :=
  kn_of F g sc__law_fr_sum (fun _ _ _ _ _ _ us hl => match us, hl with | [_], _ => rfl) (det_mono _) l__law_fr_sum (fun cdv A outer s H E hr => b__law_fr_sum M c__law_fr_of f cdv A outer s H E hr) (fun xs R h => p_fr_sum h)
theorem l__law_fr_are : ∀ xs R, (det S_fr_are) xs R → xs.length = 2 := fun xs R h => by
    obtain ⟨_, h, _⟩ := h
    repeat (first | (obtain ⟨rfl, _⟩ := h; rfl) | (obtain ⟨_, h⟩ := h))
theorem k__law_fr_are {P : Program} {w : World} {K : Fg} {mg : Str → Option Value} {base : Heap} (M : Mo K mg) (c__law_fr_of : Kn P w K mg base 1 "_law_fr_of" ["over", "under"] (det S_fr_of) 0) (c__law_is_whole : Kn P w K mg base 1 "_law_is_whole" ["item"] (det S_is_whole) 0) {f : Addr} {fd : FuncData} (F : FunD K "_law_fr_are" "_law_fr_are" (defArgs s__law_fr_are) (defBody s__law_fr_are) (defScope s__law_fr_are) [] [] f fd) (g : mg "_law_fr_are" = some (.ref f)) : Kn P w K mg base 2 "_law_fr_are" ["value", "many"] (det S_fr_are) 0 :=
  kn_of F g sc__law_fr_are (fun _ _ _ _ _ _ us hl => match us, hl with | [_, _], _ => rfl) (det_mono _) l__law_fr_are (fun cdv A outer s H E hr => b__law_fr_are M c__law_fr_of c__law_is_whole f cdv A outer s H E hr) (fun xs R h => p_fr_are h)
theorem l_total : ∀ xs R, (det S_total) xs R → xs.length = 1 := fun xs R h => by
    obtain ⟨_, h, _⟩ := h
    repeat (first | (obtain ⟨rfl, _⟩ := h; rfl) | (obtain ⟨_, h⟩ := h))
theorem k_total {P : Program} {w : World} {K : Fg} {mg : Str → Option Value} {base : Heap} (M : Mo K mg) (c_whole : Kn P w K mg base 1 "whole" ["number"] (det S_whole) 0) (c_summed : Kn P w K mg base 2 "summed" ["one", "other"] (det S_summed) 0) {f : Addr} {fd : FuncData} (F : FunD K "total" "total" (defArgs s_total) (defBody s_total) (defScope s_total) [] [] f fd) (g : mg "total" = some (.ref f)) : Kn P w K mg base 3 "total" ["several"] (det S_total) 0 :=
  kn_of F g sc_total (fun _ _ _ _ _ _ us hl => match us, hl with | [_], _ => rfl) (det_mono _) l_total (fun cdv A outer s H E hr => b_total M c_whole c_summed f cdv A outer s H E hr) (fun xs R h => p_total h)
theorem l_are_ratios : ∀ xs R, (det S_are_ratios) xs R → xs.length = 2 := fun xs R h => by
    obtain ⟨_, h, _⟩ := h
    repeat (first | (obtain ⟨rfl, _⟩ := h; rfl) | (obtain ⟨_, h⟩ := h))
theorem k_are_ratios {P : Program} {w : World} {K : Fg} {mg : Str → Option Value} {base : Heap} (M : Mo K mg) (c_is_ratio : Kn P w K mg base 2 "is_ratio" ["value"] (det S_is_ratio) 0) {f : Addr} {fd : FuncData} (F : FunD K "are_ratios" "are_ratios" (defArgs s_are_ratios) (defBody s_are_ratios) (defScope s_are_ratios) [] [] f fd) (g : mg "are_ratios" = some (.ref f)) : Kn P w K mg base 3 "are_ratios" ["value", "many"] (det S_are_ratios) 0 :=
  kn_of F g sc_are_ratios (fun _ _ _ _ _ _ us hl => match us, hl with | [_, _], _ => rfl) (det_mono _) l_are_ratios (fun cdv A outer s H E hr => b_are_ratios M c_is_ratio f cdv A outer s H E hr) (fun xs R h => p_are_ratios h)
theorem l_less_times : ∀ xs R, (det S_less_times) xs R → xs.length = 3 := fun xs R h => by
    obtain ⟨_, h, _⟩ := h
    repeat (first | (obtain ⟨rfl, _⟩ := h; rfl) | (obtain ⟨_, h⟩ := h))
theorem k_less_times {P : Program} {w : World} {K : Fg} {mg : Str → Option Value} {base : Heap} (M : Mo K mg) (c_multiplied : Kn P w K mg base 2 "multiplied" ["one", "other"] (det S_multiplied) 0) (c_lessened : Kn P w K mg base 2 "lessened" ["one", "other"] (det S_lessened) 0) {f : Addr} {fd : FuncData} (F : FunD K "less_times" "less_times" (defArgs s_less_times) (defBody s_less_times) (defScope s_less_times) [] [] f fd) (g : mg "less_times" = some (.ref f)) : Kn P w K mg base 3 "less_times" ["row", "factor", "other"] (det S_less_times) 0 :=
  kn_of F g sc_less_times (fun _ _ _ _ _ _ us hl => match us, hl with | [_, _, _], _ => rfl) (det_mono _) l_less_times (fun cdv A outer s H E hr => b_less_times M c_multiplied c_lessened f cdv A outer s H E hr) (fun xs R h => p_less_times h)
theorem l__law_pick : ∀ xs R, W_pick xs R → xs.length = 2 := fun xs R h => by
    repeat (first | (obtain ⟨rfl, _⟩ := h; rfl) | (obtain ⟨_, h⟩ := h))
theorem k__law_pick {P : Program} {w : World} {K : Fg} {mg : Str → Option Value} {base : Heap} (M : Mo K mg) (c__law_draw : Kn P w K mg base 2 "_law_draw" ["state", "size_here"] W_draw 1) {f : Addr} {fd : FuncData} (F : FunD K "_law_pick" "_law_pick" (defArgs s__law_pick) (defBody s__law_pick) (defScope s__law_pick) [] [] f fd) (g : mg "_law_pick" = some (.ref f)) : Kn P w K mg base 3 "_law_pick" ["state", "several"] W_pick 1 :=
  kn_of F g sc__law_pick (fun _ _ _ _ _ _ us hl => match us, hl with | [_, _], _ => rfl) W_pick_mono l__law_pick (fun cdv A outer s H E hr => b__law_pick M c__law_draw f cdv A outer s H E hr) (fun xs R h => p_pick h)
theorem l__law_fr_product : ∀ xs R, (det S_fr_product) xs R → xs.length = 2 := fun xs R h => by
    obtain ⟨_, h, _⟩ := h
    repeat (first | (obtain ⟨rfl, _⟩ := h; rfl) | (obtain ⟨_, h⟩ := h))
theorem k__law_fr_product {P : Program} {w : World} {K : Fg} {mg : Str → Option Value} {base : Heap} (M : Mo K mg) (c__law_fr_times : Kn P w K mg base 2 "_law_fr_times" ["one", "other"] (det S_fr_times) 0) (c__law_fr_sum : Kn P w K mg base 2 "_law_fr_sum" ["some"] (det S_fr_sum) 0) {f : Addr} {fd : FuncData} (F : FunD K "_law_fr_product" "_law_fr_product" (defArgs s__law_fr_product) (defBody s__law_fr_product) (defScope s__law_fr_product) [] [] f fd) (g : mg "_law_fr_product" = some (.ref f)) : Kn P w K mg base 3 "_law_fr_product" ["one", "other"] (det S_fr_product) 0 :=
  kn_of F g sc__law_fr_product (fun _ _ _ _ _ _ us hl => match us, hl with | [_, _], _ => rfl) (det_mono _) l__law_fr_product (fun cdv A outer s H E hr => b__law_fr_product M c__law_fr_times c__law_fr_sum f cdv A outer s H E hr) (fun xs R h => p_fr_product h)
theorem l__law_fr_worth : ∀ xs R, (det S_fr_worth) xs R → xs.length = 2 := fun xs R h => by
    obtain ⟨_, h, _⟩ := h
    repeat (first | (obtain ⟨rfl, _⟩ := h; rfl) | (obtain ⟨_, h⟩ := h))
theorem k__law_fr_worth {P : Program} {w : World} {K : Fg} {mg : Str → Option Value} {base : Heap} (M : Mo K mg) (c__law_fr_times : Kn P w K mg base 2 "_law_fr_times" ["one", "other"] (det S_fr_times) 0) (c__law_fr_sum : Kn P w K mg base 2 "_law_fr_sum" ["some"] (det S_fr_sum) 0) {f : Addr} {fd : FuncData} (F : FunD K "_law_fr_worth" "_law_fr_worth" (defArgs s__law_fr_worth) (defBody s__law_fr_worth) (defScope s__law_fr_worth) [] [] f fd) (g : mg "_law_fr_worth" = some (.ref f)) : Kn P w K mg base 3 "_law_fr_worth" ["rows", "x"] (det S_fr_worth) 0 :=
  kn_of F g sc__law_fr_worth (fun _ _ _ _ _ _ us hl => match us, hl with | [_, _], _ => rfl) (det_mono _) l__law_fr_worth (fun cdv A outer s H E hr => b__law_fr_worth M c__law_fr_times c__law_fr_sum f cdv A outer s H E hr) (fun xs R h => p_fr_worth h)
theorem l__law_k00_solved : ∀ xs R, W_solved xs R → xs.length = 2 := fun xs R h => by
    repeat (first | (obtain ⟨rfl, _⟩ := h; rfl) | (obtain ⟨_, h⟩ := h))
theorem k__law_k00_solved {P : Program} {w : World} {K : Fg} {mg : Str → Option Value} {base : Heap} (M : Mo K mg) (c__law_fr_times : Kn P w K mg base 2 "_law_fr_times" ["one", "other"] (det S_fr_times) 0) (c__law_fr_sum : Kn P w K mg base 2 "_law_fr_sum" ["some"] (det S_fr_sum) 0) (c__law_fr_less : Kn P w K mg base 2 "_law_fr_less" ["one", "other"] (det S_fr_less) 0) {f : Addr} {fd : FuncData} (F : FunD K "_law_k00_solved" "_law_k00_solved" (defArgs s__law_k00_solved) (defBody s__law_k00_solved) (defScope s__law_k00_solved) [] [] f fd) (g : mg "_law_k00_solved" = some (.ref f)) : Kn P w K mg base 3 "_law_k00_solved" ["lower", "at"] W_solved 0 :=
  kn_of F g sc__law_k00_solved (fun _ _ _ _ _ _ us hl => match us, hl with | [_, _], _ => rfl) W_solved_mono l__law_k00_solved (fun cdv A outer s H E hr => b__law_k00_solved M c__law_fr_times c__law_fr_sum c__law_fr_less f cdv A outer s H E hr) (fun xs R h => p_solved h)
theorem l_is_matrix : ∀ xs R, (det S_is_matrix) xs R → xs.length = 1 := fun xs R h => by
    obtain ⟨_, h, _⟩ := h
    repeat (first | (obtain ⟨rfl, _⟩ := h; rfl) | (obtain ⟨_, h⟩ := h))
theorem k_is_matrix {P : Program} {w : World} {K : Fg} {mg : Str → Option Value} {base : Heap} (M : Mo K mg) (c_are_ratios : Kn P w K mg base 3 "are_ratios" ["value", "many"] (det S_are_ratios) 0) {f : Addr} {fd : FuncData} (F : FunD K "is_matrix" "is_matrix" (defArgs s_is_matrix) (defBody s_is_matrix) (defScope s_is_matrix) [] [] f fd) (g : mg "is_matrix" = some (.ref f)) : Kn P w K mg base 4 "is_matrix" ["value"] (det S_is_matrix) 0 :=
  kn_of F g sc_is_matrix (fun _ _ _ _ _ _ us hl => match us, hl with | [_], _ => rfl) (det_mono _) l_is_matrix (fun cdv A outer s H E hr => b_is_matrix M c_are_ratios f cdv A outer s H E hr) (fun xs R h => p_is_matrix h)
theorem l_paper_of : ∀ xs R, (det S_paper_of) xs R → xs.length = 1 := fun xs R h => by
    obtain ⟨_, h, _⟩ := h
    repeat (first | (obtain ⟨rfl, _⟩ := h; rfl) | (obtain ⟨_, h⟩ := h))
theorem k_paper_of {P : Program} {w : World} {K : Fg} {mg : Str → Option Value} {base : Heap} (M : Mo K mg) (c_unit_rows : Kn P w K mg base 1 "unit_rows" ["many"] (det S_unit_rows) 0) (c_divided : Kn P w K mg base 2 "divided" ["one", "other"] (det S_divided) 0) (c_less_times : Kn P w K mg base 3 "less_times" ["row", "factor", "other"] (det S_less_times) 0) {f : Addr} {fd : FuncData} (F : FunD K "paper_of" "paper_of" (defArgs s_paper_of) (defBody s_paper_of) (defScope s_paper_of) [] [] f fd) (g : mg "paper_of" = some (.ref f)) : Kn P w K mg base 4 "paper_of" ["matrix"] (det S_paper_of) 0 :=
  kn_of F g sc_paper_of (fun _ _ _ _ _ _ us hl => match us, hl with | [_], _ => rfl) (det_mono _) l_paper_of (fun cdv A outer s H E hr => b_paper_of M c_unit_rows c_divided c_less_times f cdv A outer s H E hr) (fun xs R h => p_paper_of h)
theorem l_worth_of : ∀ xs R, (det S_worth_of) xs R → xs.length = 2 := fun xs R h => by
    obtain ⟨_, h, _⟩ := h
    repeat (first | (obtain ⟨rfl, _⟩ := h; rfl) | (obtain ⟨_, h⟩ := h))
theorem k_worth_of {P : Program} {w : World} {K : Fg} {mg : Str → Option Value} {base : Heap} (M : Mo K mg) (c_multiplied : Kn P w K mg base 2 "multiplied" ["one", "other"] (det S_multiplied) 0) (c_total : Kn P w K mg base 3 "total" ["several"] (det S_total) 0) {f : Addr} {fd : FuncData} (F : FunD K "worth_of" "worth_of" (defArgs s_worth_of) (defBody s_worth_of) (defScope s_worth_of) [] [] f fd) (g : mg "worth_of" = some (.ref f)) : Kn P w K mg base 4 "worth_of" ["matrix", "x"] (det S_worth_of) 0 :=
  kn_of F g sc_worth_of (fun _ _ _ _ _ _ us hl => match us, hl with | [_, _], _ => rfl) (det_mono _) l_worth_of (fun cdv A outer s H E hr => b_worth_of M c_multiplied c_total f cdv A outer s H E hr) (fun xs R h => p_worth_of h)
theorem l_are_factors : ∀ xs R, (det S_are_factors) xs R → xs.length = 3 := fun xs R h => by
    obtain ⟨_, h, _⟩ := h
    repeat (first | (obtain ⟨rfl, _⟩ := h; rfl) | (obtain ⟨_, h⟩ := h))
theorem k_are_factors {P : Program} {w : World} {K : Fg} {mg : Str → Option Value} {base : Heap} (M : Mo K mg) (c_are_ratios : Kn P w K mg base 3 "are_ratios" ["value", "many"] (det S_are_ratios) 0) (c_multiplied : Kn P w K mg base 2 "multiplied" ["one", "other"] (det S_multiplied) 0) (c_total : Kn P w K mg base 3 "total" ["several"] (det S_total) 0) {f : Addr} {fd : FuncData} (F : FunD K "are_factors" "are_factors" (defArgs s_are_factors) (defBody s_are_factors) (defScope s_are_factors) [] [] f fd) (g : mg "are_factors" = some (.ref f)) : Kn P w K mg base 4 "are_factors" ["matrix", "lower", "pivots"] (det S_are_factors) 0 :=
  kn_of F g sc_are_factors (fun _ _ _ _ _ _ us hl => match us, hl with | [_, _, _], _ => rfl) (det_mono _) l_are_factors (fun cdv A outer s H E hr => b_are_factors M c_are_ratios c_multiplied c_total f cdv A outer s H E hr) (fun xs R h => p_are_factors h)
theorem l__law_fr_lower : ∀ xs R, W_fr_lower xs R → xs.length = 3 := fun xs R h => by
    repeat (first | (obtain ⟨rfl, _⟩ := h; rfl) | (obtain ⟨_, h⟩ := h))
theorem k__law_fr_lower {P : Program} {w : World} {K : Fg} {mg : Str → Option Value} {base : Heap} (M : Mo K mg) (c__law_draw : Kn P w K mg base 2 "_law_draw" ["state", "size_here"] W_draw 1) (c__law_pick : Kn P w K mg base 3 "_law_pick" ["state", "several"] W_pick 1) (c__law_fr_of : Kn P w K mg base 1 "_law_fr_of" ["over", "under"] (det S_fr_of) 0) {f : Addr} {fd : FuncData} (F : FunD K "_law_fr_lower" "_law_fr_lower" (defArgs s__law_fr_lower) (defBody s__law_fr_lower) (defScope s__law_fr_lower) [] [] f fd) (g : mg "_law_fr_lower" = some (.ref f)) : Kn P w K mg base 4 "_law_fr_lower" ["state", "many", "most"] W_fr_lower 20000000000 :=
  kn_of F g sc__law_fr_lower (fun _ _ _ _ _ _ us hl => match us, hl with | [_, _, _], _ => rfl) W_fr_lower_mono l__law_fr_lower (fun cdv A outer s H E hr => b__law_fr_lower M c__law_draw c__law_pick c__law_fr_of f cdv A outer s H E hr) (fun xs R h => p_fr_lower h)
theorem l__law_k00_is_paper : ∀ xs R, (det S_is_paper) xs R → xs.length = 2 := fun xs R h => by
    obtain ⟨_, h, _⟩ := h
    repeat (first | (obtain ⟨rfl, _⟩ := h; rfl) | (obtain ⟨_, h⟩ := h))
theorem k__law_k00_is_paper {P : Program} {w : World} {K : Fg} {mg : Str → Option Value} {base : Heap} (M : Mo K mg) (c__law_fr_worth : Kn P w K mg base 3 "_law_fr_worth" ["rows", "x"] (det S_fr_worth) 0) (c__law_fr_are : Kn P w K mg base 2 "_law_fr_are" ["value", "many"] (det S_fr_are) 0) (c__law_fr_along : Kn P w K mg base 1 "_law_fr_along" ["pivots"] (det S_fr_along) 0) (c__law_fr_product : Kn P w K mg base 3 "_law_fr_product" ["one", "other"] (det S_fr_product) 0) (c__law_fr_turned : Kn P w K mg base 1 "_law_fr_turned" ["rows"] (det S_fr_turned) 0) {f : Addr} {fd : FuncData} (F : FunD K "_law_k00_is_paper" "_law_k00_is_paper" (defArgs s__law_k00_is_paper) (defBody s__law_k00_is_paper) (defScope s__law_k00_is_paper) [] [] f fd) (g : mg "_law_k00_is_paper" = some (.ref f)) : Kn P w K mg base 4 "_law_k00_is_paper" ["matrix", "value"] (det S_is_paper) 0 :=
  kn_of F g sc__law_k00_is_paper (fun _ _ _ _ _ _ us hl => match us, hl with | [_, _], _ => rfl) (det_mono _) l__law_k00_is_paper (fun cdv A outer s H E hr => b__law_k00_is_paper M c__law_fr_worth c__law_fr_are c__law_fr_along c__law_fr_product c__law_fr_turned f cdv A outer s H E hr) (fun xs R h => p_is_paper h)
theorem l__law_k00_values : ∀ xs R, W_values xs R → xs.length = 4 := fun xs R h => by
    repeat (first | (obtain ⟨rfl, _⟩ := h; rfl) | (obtain ⟨_, h⟩ := h))
theorem k__law_k00_values {P : Program} {w : World} {K : Fg} {mg : Str → Option Value} {base : Heap} (M : Mo K mg) (c__law_fr_turned : Kn P w K mg base 1 "_law_fr_turned" ["rows"] (det S_fr_turned) 0) (c__law_k00_solved : Kn P w K mg base 3 "_law_k00_solved" ["lower", "at"] W_solved 0) (c__law_draw : Kn P w K mg base 2 "_law_draw" ["state", "size_here"] W_draw 1) (c__law_pick : Kn P w K mg base 3 "_law_pick" ["state", "several"] W_pick 1) (c__law_fr_less : Kn P w K mg base 2 "_law_fr_less" ["one", "other"] (det S_fr_less) 0) {f : Addr} {fd : FuncData} (F : FunD K "_law_k00_values" "_law_k00_values" (defArgs s__law_k00_values) (defBody s__law_k00_values) (defScope s__law_k00_values) [] [] f fd) (g : mg "_law_k00_values" = some (.ref f)) : Kn P w K mg base 4 "_law_k00_values" ["state", "matrix", "lower", "pivots"] W_values 4 :=
  kn_of F g sc__law_k00_values (fun _ _ _ _ _ _ us hl => match us, hl with | [_, _, _, _], _ => rfl) W_values_mono l__law_k00_values (fun cdv A outer s H E hr => b__law_k00_values M c__law_fr_turned c__law_k00_solved c__law_draw c__law_pick c__law_fr_less f cdv A outer s H E hr) (fun xs R h => p_values h)
theorem l_need_matrix : ∀ xs R, (det S_need_matrix) xs R → xs.length = 1 := fun xs R h => by
    obtain ⟨_, h, _⟩ := h
    repeat (first | (obtain ⟨rfl, _⟩ := h; rfl) | (obtain ⟨_, h⟩ := h))
theorem k_need_matrix {P : Program} {w : World} {K : Fg} {mg : Str → Option Value} {base : Heap} (M : Mo K mg) (c_is_matrix : Kn P w K mg base 4 "is_matrix" ["value"] (det S_is_matrix) 0) {f : Addr} {fd : FuncData} (F : FunD K "need_matrix" "need_matrix" (defArgs s_need_matrix) (defBody s_need_matrix) (defScope s_need_matrix) [] [] f fd) (g : mg "need_matrix" = some (.ref f)) : Kn P w K mg base 5 "need_matrix" ["matrix"] (det S_need_matrix) 0 :=
  kn_of F g sc_need_matrix (fun _ _ _ _ _ _ us hl => match us, hl with | [_], _ => rfl) (det_mono _) l_need_matrix (fun cdv A outer s H E hr => b_need_matrix M c_is_matrix f cdv A outer s H E hr) (fun xs R h => p_need_matrix h)
theorem l_is_low : ∀ xs R, (det S_is_low) xs R → xs.length = 2 := fun xs R h => by
    obtain ⟨_, h, _⟩ := h
    repeat (first | (obtain ⟨rfl, _⟩ := h; rfl) | (obtain ⟨_, h⟩ := h))
theorem k_is_low {P : Program} {w : World} {K : Fg} {mg : Str → Option Value} {base : Heap} (M : Mo K mg) (c_are_ratios : Kn P w K mg base 3 "are_ratios" ["value", "many"] (det S_are_ratios) 0) (c_worth_of : Kn P w K mg base 4 "worth_of" ["matrix", "x"] (det S_worth_of) 0) {f : Addr} {fd : FuncData} (F : FunD K "is_low" "is_low" (defArgs s_is_low) (defBody s_is_low) (defScope s_is_low) [] [] f fd) (g : mg "is_low" = some (.ref f)) : Kn P w K mg base 5 "is_low" ["matrix", "value"] (det S_is_low) 0 :=
  kn_of F g sc_is_low (fun _ _ _ _ _ _ us hl => match us, hl with | [_, _], _ => rfl) (det_mono _) l_is_low (fun cdv A outer s H E hr => b_is_low M c_are_ratios c_worth_of f cdv A outer s H E hr) (fun xs R h => p_is_low h)
theorem l_sign_paper : ∀ xs R, (det S_sign_paper) xs R → xs.length = 1 := fun xs R h => by
    obtain ⟨_, h, _⟩ := h
    repeat (first | (obtain ⟨rfl, _⟩ := h; rfl) | (obtain ⟨_, h⟩ := h))
theorem k_sign_paper {P : Program} {w : World} {K : Fg} {mg : Str → Option Value} {base : Heap} (M : Mo K mg) (c_need_matrix : Kn P w K mg base 5 "need_matrix" ["matrix"] (det S_need_matrix) 0) (c_paper_of : Kn P w K mg base 4 "paper_of" ["matrix"] (det S_paper_of) 0) {f : Addr} {fd : FuncData} (F : FunD K "sign_paper" "sign_paper" (defArgs s_sign_paper) (defBody s_sign_paper) (defScope s_sign_paper) [] [] f fd) (g : mg "sign_paper" = some (.ref f)) : Kn P w K mg base 6 "sign_paper" ["matrix"] (det S_sign_paper) 0 :=
  kn_of F g sc_sign_paper (fun _ _ _ _ _ _ us hl => match us, hl with | [_], _ => rfl) (det_mono _) l_sign_paper (fun cdv A outer s H E hr => b_sign_paper M c_need_matrix c_paper_of f cdv A outer s H E hr) (fun xs R h => p_sign_paper h)
theorem l_is_sign_paper : ∀ xs R, (det S_is_sign_paper) xs R → xs.length = 2 := fun xs R h => by
    obtain ⟨_, h, _⟩ := h
    repeat (first | (obtain ⟨rfl, _⟩ := h; rfl) | (obtain ⟨_, h⟩ := h))
theorem k_is_sign_paper {P : Program} {w : World} {K : Fg} {mg : Str → Option Value} {base : Heap} (M : Mo K mg) (c_need_matrix : Kn P w K mg base 5 "need_matrix" ["matrix"] (det S_need_matrix) 0) (c_is_low : Kn P w K mg base 5 "is_low" ["matrix", "value"] (det S_is_low) 0) (c_are_factors : Kn P w K mg base 4 "are_factors" ["matrix", "lower", "pivots"] (det S_are_factors) 0) {f : Addr} {fd : FuncData} (F : FunD K "is_sign_paper" "is_sign_paper" (defArgs s_is_sign_paper) (defBody s_is_sign_paper) (defScope s_is_sign_paper) [] [] f fd) (g : mg "is_sign_paper" = some (.ref f)) : Kn P w K mg base 6 "is_sign_paper" ["matrix", "value"] (det S_is_sign_paper) 0 :=
  kn_of F g sc_is_sign_paper (fun _ _ _ _ _ _ us hl => match us, hl with | [_, _], _ => rfl) (det_mono _) l_is_sign_paper (fun cdv A outer s H E hr => b_is_sign_paper M c_need_matrix c_is_low c_are_factors f cdv A outer s H E hr) (fun xs R h => p_is_sign_paper h)
theorem l_law : ∀ xs R, W_law xs R → xs.length = 1 := fun xs R h => by
    repeat (first | (obtain ⟨rfl, _⟩ := h; rfl) | (obtain ⟨_, h⟩ := h))
theorem facts {P : Program} {w : World} {K : Fg} {h : Heap} {mg : Str → Option Value} {f : Addr} (X : K.In h) (G : h.Ns mainGlobals mg) (hfa : mg ("law" : Str) = some (.ref f)) (c : SaysM fa fn ex K) :
    ∃ fd : FuncData, (∀ (s : Shared) (v : Value), BindsTo s fd ⟨[v], []⟩ [("script", v)]) ∧ ∀ base : Heap, K.In base → base.Ns mainGlobals mg → FnOk P w K mg base CX0 7 f fd ["script"] (spF P w K W_law 2000020000600000) := by
  obtain ⟨fd_common, F_common⟩ := c.d.def_ 0 (d := d_common) rfl
  have g_common := He.glo_ok X G (c.d.fact 0 (f := .glo "common") rfl)
  obtain ⟨fd_lowest, F_lowest⟩ := c.d.def_ 1 (d := d_lowest) rfl
  have g_lowest := He.glo_ok X G (c.d.fact 1 (f := .glo "lowest") rfl)
  obtain ⟨fd_whole, F_whole⟩ := c.d.def_ 2 (d := d_whole) rfl
  have g_whole := He.glo_ok X G (c.d.fact 2 (f := .glo "whole") rfl)
  obtain ⟨fd_summed, F_summed⟩ := c.d.def_ 3 (d := d_summed) rfl
  have g_summed := He.glo_ok X G (c.d.fact 3 (f := .glo "summed") rfl)
  obtain ⟨fd_lessened, F_lessened⟩ := c.d.def_ 4 (d := d_lessened) rfl
  have g_lessened := He.glo_ok X G (c.d.fact 4 (f := .glo "lessened") rfl)
  obtain ⟨fd_multiplied, F_multiplied⟩ := c.d.def_ 5 (d := d_multiplied) rfl
  have g_multiplied := He.glo_ok X G (c.d.fact 5 (f := .glo "multiplied") rfl)
  obtain ⟨fd_divided, F_divided⟩ := c.d.def_ 6 (d := d_divided) rfl
  have g_divided := He.glo_ok X G (c.d.fact 6 (f := .glo "divided") rfl)
  obtain ⟨fd_total, F_total⟩ := c.d.def_ 7 (d := d_total) rfl
  have g_total := He.glo_ok X G (c.d.fact 7 (f := .glo "total") rfl)
  obtain ⟨fd_is_ratio, F_is_ratio⟩ := c.d.def_ 8 (d := d_is_ratio) rfl
  have g_is_ratio := He.glo_ok X G (c.d.fact 8 (f := .glo "is_ratio") rfl)
  obtain ⟨fd_are_ratios, F_are_ratios⟩ := c.d.def_ 9 (d := d_are_ratios) rfl
  have g_are_ratios := He.glo_ok X G (c.d.fact 9 (f := .glo "are_ratios") rfl)
  obtain ⟨fd_is_matrix, F_is_matrix⟩ := c.d.def_ 10 (d := d_is_matrix) rfl
  have g_is_matrix := He.glo_ok X G (c.d.fact 10 (f := .glo "is_matrix") rfl)
  obtain ⟨fd_need_matrix, F_need_matrix⟩ := c.d.def_ 11 (d := d_need_matrix) rfl
  have g_need_matrix := He.glo_ok X G (c.d.fact 11 (f := .glo "need_matrix") rfl)
  obtain ⟨fd_unit_rows, F_unit_rows⟩ := c.d.def_ 12 (d := d_unit_rows) rfl
  have g_unit_rows := He.glo_ok X G (c.d.fact 12 (f := .glo "unit_rows") rfl)
  obtain ⟨fd_less_times, F_less_times⟩ := c.d.def_ 13 (d := d_less_times) rfl
  have g_less_times := He.glo_ok X G (c.d.fact 13 (f := .glo "less_times") rfl)
  obtain ⟨fd_paper_of, F_paper_of⟩ := c.d.def_ 14 (d := d_paper_of) rfl
  have g_paper_of := He.glo_ok X G (c.d.fact 14 (f := .glo "paper_of") rfl)
  obtain ⟨fd_sign_paper, F_sign_paper⟩ := c.d.def_ 15 (d := d_sign_paper) rfl
  have g_sign_paper := He.glo_ok X G (c.d.fact 15 (f := .glo "sign_paper") rfl)
  obtain ⟨fd_worth_of, F_worth_of⟩ := c.d.def_ 16 (d := d_worth_of) rfl
  have g_worth_of := He.glo_ok X G (c.d.fact 16 (f := .glo "worth_of") rfl)
  obtain ⟨fd_is_low, F_is_low⟩ := c.d.def_ 17 (d := d_is_low) rfl
  have g_is_low := He.glo_ok X G (c.d.fact 17 (f := .glo "is_low") rfl)
  obtain ⟨fd_are_factors, F_are_factors⟩ := c.d.def_ 18 (d := d_are_factors) rfl
  have g_are_factors := He.glo_ok X G (c.d.fact 18 (f := .glo "are_factors") rfl)
  obtain ⟨fd_is_sign_paper, F_is_sign_paper⟩ := c.d.def_ 19 (d := d_is_sign_paper) rfl
  have g_is_sign_paper := He.glo_ok X G (c.d.fact 19 (f := .glo "is_sign_paper") rfl)
  obtain ⟨fd__law_begun, F__law_begun⟩ := c.d.def_ 20 (d := d__law_begun) rfl
  have g__law_begun := He.glo_ok X G (c.d.fact 20 (f := .glo "_law_begun") rfl)
  obtain ⟨fd__law_blended, F__law_blended⟩ := c.d.def_ 21 (d := d__law_blended) rfl
  have g__law_blended := He.glo_ok X G (c.d.fact 21 (f := .glo "_law_blended") rfl)
  obtain ⟨fd__law_draw, F__law_draw⟩ := c.d.def_ 22 (d := d__law_draw) rfl
  have g__law_draw := He.glo_ok X G (c.d.fact 22 (f := .glo "_law_draw") rfl)
  obtain ⟨fd__law_pick, F__law_pick⟩ := c.d.def_ 23 (d := d__law_pick) rfl
  have g__law_pick := He.glo_ok X G (c.d.fact 23 (f := .glo "_law_pick") rfl)
  obtain ⟨fd__law_is_truth, F__law_is_truth⟩ := c.d.def_ 24 (d := d__law_is_truth) rfl
  have g__law_is_truth := He.glo_ok X G (c.d.fact 24 (f := .glo "_law_is_truth") rfl)
  obtain ⟨fd__law_is_whole, F__law_is_whole⟩ := c.d.def_ 25 (d := d__law_is_whole) rfl
  have g__law_is_whole := He.glo_ok X G (c.d.fact 25 (f := .glo "_law_is_whole") rfl)
  obtain ⟨fd__law_fr_of, F__law_fr_of⟩ := c.d.def_ 26 (d := d__law_fr_of) rfl
  have g__law_fr_of := He.glo_ok X G (c.d.fact 26 (f := .glo "_law_fr_of") rfl)
  obtain ⟨fd__law_fr_less, F__law_fr_less⟩ := c.d.def_ 27 (d := d__law_fr_less) rfl
  have g__law_fr_less := He.glo_ok X G (c.d.fact 27 (f := .glo "_law_fr_less") rfl)
  obtain ⟨fd__law_fr_times, F__law_fr_times⟩ := c.d.def_ 28 (d := d__law_fr_times) rfl
  have g__law_fr_times := He.glo_ok X G (c.d.fact 28 (f := .glo "_law_fr_times") rfl)
  obtain ⟨fd__law_fr_sum, F__law_fr_sum⟩ := c.d.def_ 29 (d := d__law_fr_sum) rfl
  have g__law_fr_sum := He.glo_ok X G (c.d.fact 29 (f := .glo "_law_fr_sum") rfl)
  obtain ⟨fd__law_fr_are, F__law_fr_are⟩ := c.d.def_ 30 (d := d__law_fr_are) rfl
  have g__law_fr_are := He.glo_ok X G (c.d.fact 30 (f := .glo "_law_fr_are") rfl)
  obtain ⟨fd__law_fr_product, F__law_fr_product⟩ := c.d.def_ 31 (d := d__law_fr_product) rfl
  have g__law_fr_product := He.glo_ok X G (c.d.fact 31 (f := .glo "_law_fr_product") rfl)
  obtain ⟨fd__law_fr_turned, F__law_fr_turned⟩ := c.d.def_ 32 (d := d__law_fr_turned) rfl
  have g__law_fr_turned := He.glo_ok X G (c.d.fact 32 (f := .glo "_law_fr_turned") rfl)
  obtain ⟨fd__law_fr_lower, F__law_fr_lower⟩ := c.d.def_ 33 (d := d__law_fr_lower) rfl
  have g__law_fr_lower := He.glo_ok X G (c.d.fact 33 (f := .glo "_law_fr_lower") rfl)
  obtain ⟨fd__law_fr_along, F__law_fr_along⟩ := c.d.def_ 34 (d := d__law_fr_along) rfl
  have g__law_fr_along := He.glo_ok X G (c.d.fact 34 (f := .glo "_law_fr_along") rfl)
  obtain ⟨fd__law_fr_worth, F__law_fr_worth⟩ := c.d.def_ 35 (d := d__law_fr_worth) rfl
  have g__law_fr_worth := He.glo_ok X G (c.d.fact 35 (f := .glo "_law_fr_worth") rfl)
  obtain ⟨fd__law_k00_solved, F__law_k00_solved⟩ := c.d.def_ 36 (d := d__law_k00_solved) rfl
  have g__law_k00_solved := He.glo_ok X G (c.d.fact 36 (f := .glo "_law_k00_solved") rfl)
  obtain ⟨fd__law_k00_is_paper, F__law_k00_is_paper⟩ := c.d.def_ 37 (d := d__law_k00_is_paper) rfl
  have g__law_k00_is_paper := He.glo_ok X G (c.d.fact 37 (f := .glo "_law_k00_is_paper") rfl)
  obtain ⟨fd__law_k00_values, F__law_k00_values⟩ := c.d.def_ 38 (d := d__law_k00_values) rfl
  have g__law_k00_values := He.glo_ok X G (c.d.fact 38 (f := .glo "_law_k00_values") rfl)
  obtain ⟨fd_law, F_law⟩ := c.d.def_ 39 (d := d_law) rfl
  have g_law := He.glo_ok X G (c.d.fact 39 (f := .glo "law") rfl)
  have xs := c.more
  unfold ex at xs
  obtain ⟨xs, x2⟩ := Bool.and_eq_true_iff.mp xs
  obtain ⟨xs, x1⟩ := Bool.and_eq_true_iff.mp xs
  have x0 := xs
  have M : Mo K mg := ⟨He.free_ok X G (c.d.fact 40 (f := .free "abs") rfl), He.free_ok X G (c.d.fact 41 (f := .free "all") rfl), He.free_ok X G (c.d.fact 42 (f := .free "any") rfl), He.free_ok X G (c.d.fact 43 (f := .free "bool") rfl), He.free_ok X G (c.d.fact 44 (f := .free "enumerate") rfl), He.free_ok X G (c.d.fact 45 (f := .free "int") rfl), He.free_ok X G (c.d.fact 46 (f := .free "isinstance") rfl), He.free_ok X G (c.d.fact 47 (f := .free "len") rfl), He.free_ok X G (c.d.fact 48 (f := .free "list") rfl), He.free_ok X G (c.d.fact 49 (f := .free "min") rfl), He.free_ok X G (c.d.fact 50 (f := .free "range") rfl), He.free_ok X G (c.d.fact 51 (f := .free "str") rfl), He.free_ok X G (c.d.fact 52 (f := .free "tuple") rfl), He.free_ok X G (c.d.fact 53 (f := .free "zip") rfl), bltB_ok X G x0, cstB_ok X G x1, cstB_ok X G x2⟩
  have e := hfa.symm.trans g_law
  cases e
  have b := FunD.bindsA (ps := ["script"]) F_law fun _ _ _ _ _ _ us hl => match us, hl with | [_], _ => rfl
  refine ⟨fd_law, fun s v => b s [v] rfl, fun base _ _ => ?_⟩
  have c_common := k_common (P := P) (w := w) (base := base) M F_common g_common
  have c_lowest := k_lowest (P := P) (w := w) (base := base) M F_lowest g_lowest
  have c_whole := k_whole (P := P) (w := w) (base := base) M F_whole g_whole
  have c_unit_rows := k_unit_rows (P := P) (w := w) (base := base) M F_unit_rows g_unit_rows
  have c__law_begun := k__law_begun (P := P) (w := w) (base := base) M F__law_begun g__law_begun
  have c__law_blended := k__law_blended (P := P) (w := w) (base := base) M F__law_blended g__law_blended
  have c__law_is_truth := k__law_is_truth (P := P) (w := w) (base := base) M F__law_is_truth g__law_is_truth
  have c__law_is_whole := k__law_is_whole (P := P) (w := w) (base := base) M F__law_is_whole g__law_is_whole
  have c__law_fr_of := k__law_fr_of (P := P) (w := w) (base := base) M F__law_fr_of g__law_fr_of
  have c__law_fr_turned := k__law_fr_turned (P := P) (w := w) (base := base) M F__law_fr_turned g__law_fr_turned
  have c__law_fr_along := k__law_fr_along (P := P) (w := w) (base := base) M F__law_fr_along g__law_fr_along
  have c_summed := k_summed (P := P) (w := w) (base := base) M c_lowest F_summed g_summed
  have c_lessened := k_lessened (P := P) (w := w) (base := base) M c_lowest F_lessened g_lessened
  have c_multiplied := k_multiplied (P := P) (w := w) (base := base) M c_lowest F_multiplied g_multiplied
  have c_divided := k_divided (P := P) (w := w) (base := base) M c_lowest F_divided g_divided
  have c_is_ratio := k_is_ratio (P := P) (w := w) (base := base) M c_common F_is_ratio g_is_ratio
  have c__law_draw := k__law_draw (P := P) (w := w) (base := base) M c__law_blended F__law_draw g__law_draw
  have c__law_fr_less := k__law_fr_less (P := P) (w := w) (base := base) M c__law_fr_of F__law_fr_less g__law_fr_less
  have c__law_fr_times := k__law_fr_times (P := P) (w := w) (base := base) M c__law_fr_of F__law_fr_times g__law_fr_times
  have c__law_fr_sum := k__law_fr_sum (P := P) (w := w) (base := base) M c__law_fr_of F__law_fr_sum g__law_fr_sum
  have c__law_fr_are := k__law_fr_are (P := P) (w := w) (base := base) M c__law_fr_of c__law_is_whole F__law_fr_are g__law_fr_are
  have c_total := k_total (P := P) (w := w) (base := base) M c_whole c_summed F_total g_total
  have c_are_ratios := k_are_ratios (P := P) (w := w) (base := base) M c_is_ratio F_are_ratios g_are_ratios
  have c_less_times := k_less_times (P := P) (w := w) (base := base) M c_multiplied c_lessened F_less_times g_less_times
  have c__law_pick := k__law_pick (P := P) (w := w) (base := base) M c__law_draw F__law_pick g__law_pick
  have c__law_fr_product := k__law_fr_product (P := P) (w := w) (base := base) M c__law_fr_times c__law_fr_sum F__law_fr_product g__law_fr_product
  have c__law_fr_worth := k__law_fr_worth (P := P) (w := w) (base := base) M c__law_fr_times c__law_fr_sum F__law_fr_worth g__law_fr_worth
  have c__law_k00_solved := k__law_k00_solved (P := P) (w := w) (base := base) M c__law_fr_times c__law_fr_sum c__law_fr_less F__law_k00_solved g__law_k00_solved
  have c_is_matrix := k_is_matrix (P := P) (w := w) (base := base) M c_are_ratios F_is_matrix g_is_matrix
  have c_paper_of := k_paper_of (P := P) (w := w) (base := base) M c_unit_rows c_divided c_less_times F_paper_of g_paper_of
  have c_worth_of := k_worth_of (P := P) (w := w) (base := base) M c_multiplied c_total F_worth_of g_worth_of
  have c_are_factors := k_are_factors (P := P) (w := w) (base := base) M c_are_ratios c_multiplied c_total F_are_factors g_are_factors
  have c__law_fr_lower := k__law_fr_lower (P := P) (w := w) (base := base) M c__law_draw c__law_pick c__law_fr_of F__law_fr_lower g__law_fr_lower
  have c__law_k00_is_paper := k__law_k00_is_paper (P := P) (w := w) (base := base) M c__law_fr_worth c__law_fr_are c__law_fr_along c__law_fr_product c__law_fr_turned F__law_k00_is_paper g__law_k00_is_paper
  have c__law_k00_values := k__law_k00_values (P := P) (w := w) (base := base) M c__law_fr_turned c__law_k00_solved c__law_draw c__law_pick c__law_fr_less F__law_k00_values g__law_k00_values
  have c_need_matrix := k_need_matrix (P := P) (w := w) (base := base) M c_is_matrix F_need_matrix g_need_matrix
  have c_is_low := k_is_low (P := P) (w := w) (base := base) M c_are_ratios c_worth_of F_is_low g_is_low
  have c_sign_paper := k_sign_paper (P := P) (w := w) (base := base) M c_need_matrix c_paper_of F_sign_paper g_sign_paper
  have c_is_sign_paper := k_is_sign_paper (P := P) (w := w) (base := base) M c_need_matrix c_is_low c_are_factors F_is_sign_paper g_is_sign_paper
  exact fn_ok F_law sc_law l_law (fun cdv A outer s H E hr => b_law M c__law_begun c__law_pick c__law_fr_lower c__law_draw c__law_fr_of c__law_fr_along c__law_fr_product c__law_fr_turned c_sign_paper c_is_sign_paper c__law_k00_is_paper c_is_matrix c__law_k00_values c__law_is_truth _ cdv A outer s H E hr) (fun xs R h => p_law h)
end K00
open PySem PySem.W PySem.Calls PyProof.Rows
theorem PySem.Challenge.cw_treehung_k00_whole_factors_with_pivots_o_holds : PySem.Challenge.rw_treehung_k00_whole_factors_with_pivots_o.Holds := by
  w_on; o_law
  refine HandSHeadRun.head_imp (r := OpenLaw.row PySem.Challenge.rw_treehung_k00_whole_factors_with_pivots_o) (q := view (OpenLaw.row PySem.Challenge.rw_treehung_k00_whole_factors_with_pivots_o).prog [0, 48]) (H := K00.hk) (ob := K00.ob) (M := 4000) (loose := K00.names) (d := HandSHeadRun.topDef (OpenLaw.row PySem.Challenge.rw_treehung_k00_whole_factors_with_pivots_o).prog 48) (kwd := []) K00.ob_eq
    K00.run (by kernel_rfl) (by kernel_rfl) (by kernel_rfl) (by rfl) (by first | assumption | decide +kernel) (by decide +kernel) ⟨rfl, rfl, rfl, rfl, rfl, by decide +kernel⟩ ?hw ?hc
  case hw => w_witness2
  case hc =>
    refine L2.walk_ofE (l := PySem.Challenge.rw_treehung_k00_whole_factors_with_pivots_o) (n := 63) (k := 7) (x := "script") (CX := L2.CX0) rfl (by decide) (by kernel_rfl) ⟨rfl, by decide, by decide⟩ ?F (fun _ _ _ _ z => z)
    intro w mg fa h Y G hmg0
    obtain ⟨K, KX, c⟩ := Y
    have hmg : mg ("law" : PySem.Str) = some (.ref fa) := by
      have e : (HandSHeadRun.topDef (OpenLaw.row PySem.Challenge.rw_treehung_k00_whole_factors_with_pivots_o).prog 48).name = ("law" : PySem.Str) := by kernel_rfl
      rw [← e]
      exact hmg0
    obtain ⟨fd, hb, hF⟩ := K00.facts (P := (PySem.Challenge.rw_treehung_k00_whole_factors_with_pivots_o).prog) (w := w) KX G hmg c
    exact ⟨K, fd, DW.spF _ w K K00.W_law 2000020000600000, KX, hb, fun H a ns hl hO hS => DW.law_sp (by decide) (fun ns R l q => ⟨ns, rfl, Nat.le_trans l (by decide), q⟩) hl hO hS _, hF⟩
