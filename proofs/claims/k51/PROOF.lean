import PyProof.Rows.All
import Wide.All
import OpenK.AllK
import Wide.FinOn
import HandS.ForMost
import HandS.Exc
import HandS.WordsExc
import HandS.ExcInit
import HandS.ExcField
import HandS.ExcIs
import HandS.Defaults
import HandS.IsInst
import HandS.CallLocal
import HandS.StrMore
import HandS.Wide
import HandS.TupLe
import HandS.SortInts
import HandS.More
import HandS.Style
import HandS.Conv
import HandS.TupLen
import HandS.RaiseMore
import KE.KExcIs
import KE.KSuper
import KE.KExcSuper
import HandS.ExcSuper
import HandS.ExcOwn
import HandS.CallSlots
import HandS.Codes
import HandS.Iter
import HandS.Small
import HandS.TryOnly
import HandS.Head0
import HandS.Head1
import HandS.Head2
import HandS.HeadEnd
import HandS.HeadHook1
import HandS.HeadHook2
import HandS.HeadHook3
import HandS.HeadHook4
import HandS.Ends
import KE.KStrOpen
import PySem.Challenge.RW_seamhouse_k51_edit_lines
set_option Elab.async false
set_option linter.all false
set_option maxRecDepth 100000
set_option maxHeartbeats 4000000
namespace Q
open PySem PySem.Spec PyProof.Rows L2

/-- a key of a dict -/
abbrev MK := Sum Int (List Nat)
abbrev sS (cs : List Nat) : Str := ⟨cs.toArray⟩
def kk : MK → Key
  | .inl i => .inl i
  | .inr cs => .inr (sS cs)
/-- a value as a tree; o: it may be changed here (nobody else holds it) -/
inductive M where
  | non
  | bl (b : Bool)
  | int (i : Int)
  | str (cs : List Nat)
  | lst (o : Bool) (xs : List M)
  | tup (xs : List M)
  | ktup (xs : List M)
  | dK (o : Bool) (ks : List MK) (vs : List M)
  | dT (o : Bool) (ks : List (List MK)) (vs : List M)
  | obj (o : Bool) (C : String) (vs : List M)
  | fn (n : String)
  | cl (n : String)
  | ty (n : String)
  | gd (n : String)
  | scr (ns : List Int)
  | exc (a : Addr) (d : Option Addr) (C : String) (vs : List M)
  | hole

abbrev Cn := Addr → Nat
def zr (c : Cn) : Prop := ∀ b, c b = 0
def one (a : Addr) : Cn := fun b => if b = a then 1 else 0
structure Gi where
  P : Program
  w : World
  K : PySem.W.Frag
  mg : Str → Option Value
  base : Heap
  fa : String → Addr
  ca : String → Addr
  ga : String → Addr
  fl : String → List Str
  gds : List String
  xcs : List String


/-- an exception's own dict, frozen -/
def ExD (g : Gi) (G : Hp) (d : Option Addr) (C : String) (ws : List V) : Prop := match d with
  | none => ws = []
  | some dd => G dd = some (.xd ((g.fl C).zip ws)) ∧ ws.length ≤ (g.fl C).length
mutual
def Own (g : Gi) (G H : Hp) : V → M → Cn → Prop
  | v, .non, c => v = .non ∧ zr c
  | v, .bl b, c => v = .bl b ∧ zr c
  | v, .int i, c => v = .int i ∧ zr c
  | v, .str cs, c => v = .str (sS cs) ∧ zr c
  | v, .lst true ms, c => ∃ a vs c', v = .ref a ∧ G a = none ∧ H a = some (.lst vs) ∧ OwnL g G H vs ms c' ∧ ∀ b, c b = one a b + c' b
  | v, .lst false ms, c => ∃ a vs, v = .ref a ∧ G a = some (.lst vs) ∧ OwnL g G H vs ms c ∧ zr c
  | v, .tup ms, c => ∃ a vs, v = .ref a ∧ G a = some (.tup vs) ∧ OwnL g G H vs ms c
  | v, .ktup ms, c => ∃ a vs, v = .ref a ∧ (∀ H', SqT g.K H' a vs) ∧ OwnL g G H vs ms c ∧ zr c
  | v, .dK true ks ms, c => ∃ a vs c', v = .ref a ∧ G a = none ∧ H a = some (.dK ((ks.map kk).zip vs)) ∧ ks.length = vs.length ∧ OwnL g G H vs ms c' ∧ ∀ b, c b = one a b + c' b
  | v, .dK false ks ms, c => ∃ a vs, v = .ref a ∧ G a = some (.dK ((ks.map kk).zip vs)) ∧ ks.length = vs.length ∧ OwnL g G H vs ms c ∧ zr c
  | v, .dT true ks ms, c => ∃ a vs c', v = .ref a ∧ G a = none ∧ H a = some (.dT ((ks.map (·.map kk)).zip vs)) ∧ ks.length = vs.length ∧ OwnL g G H vs ms c' ∧ ∀ b, c b = one a b + c' b
  | v, .dT false ks ms, c => ∃ a vs, v = .ref a ∧ G a = some (.dT ((ks.map (·.map kk)).zip vs)) ∧ ks.length = vs.length ∧ OwnL g G H vs ms c ∧ zr c
  | v, .obj true C ms, c => ∃ a dx vs c', v = .ref a ∧ G a = none ∧ H a = some (.ins (g.ca C) dx ((g.fl C).zip vs)) ∧ vs.length ≤ (g.fl C).length ∧ OwnL g G H vs ms c' ∧ ∀ b, c b = one a b + c' b
  | v, .obj false C ms, c => ∃ a dx vs, v = .ref a ∧ G a = some (.ins (g.ca C) dx ((g.fl C).zip vs)) ∧ vs.length ≤ (g.fl C).length ∧ OwnL g G H vs ms c ∧ zr c
  | v, .fn n, c => v = .ref (g.fa n) ∧ zr c
  | v, .cl n, c => v = .ref (g.ca n) ∧ zr c
  | v, .ty n, c => v = .ty n ∧ zr c
  | v, .gd n, c => (v = .ref (g.ga n) ∧ g.gds.contains n = true) ∧ zr c
  | v, .scr ns, c => (∃ a, v = .ref a ∧ SqL g.K G a (ns.map V.int)) ∧ zr c
  | v, .exc a d C ms, c => (∃ ws, v = .ref a ∧ ExD g G d C ws ∧ OwnL g G H ws ms c) ∧ zr c
  | v, .hole, c => zr c
def OwnL (g : Gi) (G H : Hp) : List V → List M → Cn → Prop
  | [], [], c => zr c
  | v :: vs, m :: ms, c => ∃ c1 c2, Own g G H v m c1 ∧ OwnL g G H vs ms c2 ∧ ∀ b, c b = c1 b + c2 b
  | _, _, _ => False
end

mutual
def M.fz : M → Bool
  | .lst true _ => false
  | .lst false ms => fzL ms
  | .tup ms => fzL ms
  | .ktup ms => fzL ms
  | .dK true _ _ => false
  | .dK false _ ms => fzL ms
  | .dT true _ _ => false
  | .dT false _ ms => fzL ms
  | .obj true _ _ => false
  | .obj false _ ms => fzL ms
  | .exc _ _ _ _ => false
  | .hole => false
  | _ => true
def fzL : List M → Bool
  | [] => true
  | m :: ms => m.fz && fzL ms
end
mutual
def M.frz : M → M
  | .lst _ ms => .lst false (frzL ms)
  | .tup ms => .tup (frzL ms)
  | .ktup ms => .ktup (frzL ms)
  | .dK _ ks ms => .dK false ks (frzL ms)
  | .dT _ ks ms => .dT false ks (frzL ms)
  | .obj _ C ms => .obj false C (frzL ms)
  | m => m
def frzL : List M → List M
  | [] => []
  | m :: ms => m.frz :: frzL ms
end
end Q
set_option Elab.async false
set_option linter.all false
set_option maxRecDepth 100000
set_option maxHeartbeats 4000000
namespace Q
open PySem PySem.Spec PyProof.Rows L2
variable {g : Gi} {G G' H H' : Hp}
theorem zr0 : zr (fun _ => 0) := fun _ => rfl
theorem one_self (a : Addr) : one a a = 1 := if_pos rfl
theorem one_ne {a b : Addr} (h : b ≠ a) : one a b = 0 := if_neg h
theorem one_le (a b : Addr) : one a b ≤ 1 := by unfold one; split <;> omega
theorem SqT.same {K : PySem.W.Frag} {H H' : Hp} {a : Addr} {xs : List V} (e : Same H H') (h : SqT K H a xs) : SqT K H' a xs := by
  rcases h with (h | ⟨o, h⟩) | h
  · exact .inl (.inl (e _ _ h))
  · exact .inl (.inr ⟨o, e _ _ h⟩)
  · exact .inr h
theorem ExD.same {d : Option Addr} {C : String} {ws : List V} (e : Same G G') (h : ExD g G d C ws) : ExD g G' d C ws := by
  cases d with
  | none => exact h
  | some dd => exact ⟨e _ _ h.1, h.2⟩
/-! the heap behind: nothing of its own changed -/
mutual
theorem Own.hm : ∀ (m : M) {v : V} {c : Cn}, Own g G H v m c → (∀ b, 1 ≤ c b → H' b = H b) → Own g G H' v m c
  | .non, _, _, h, _ => h
  | .bl _, _, _, h, _ => h
  | .int _, _, _, h, _ => h
  | .str _, _, _, h, _ => h
  | .lst true ms, _, _, ⟨a, vs, c', e, hg, hh, hl, hc⟩, k =>
    ⟨a, vs, c', e, hg, (k a (by rw [hc, one_self]; omega)).trans hh, OwnL.hm ms hl (fun b hb => k b (by rw [hc]; omega)), hc⟩
  | .lst false ms, _, _, ⟨a, vs, e, hg, hl, hz⟩, k => ⟨a, vs, e, hg, OwnL.hm ms hl k, hz⟩
  | .tup ms, _, _, ⟨a, vs, e, hg, hl⟩, k => ⟨a, vs, e, hg, OwnL.hm ms hl k⟩
  | .ktup ms, _, _, ⟨a, vs, e, hg, hl, hz⟩, k => ⟨a, vs, e, hg, OwnL.hm ms hl k, hz⟩
  | .dK true _ ms, _, _, ⟨a, vs, c', e, hg, hh, hn, hl, hc⟩, k =>
    ⟨a, vs, c', e, hg, (k a (by rw [hc, one_self]; omega)).trans hh, hn, OwnL.hm ms hl (fun b hb => k b (by rw [hc]; omega)), hc⟩
  | .dK false _ ms, _, _, ⟨a, vs, e, hg, hn, hl, hz⟩, k => ⟨a, vs, e, hg, hn, OwnL.hm ms hl k, hz⟩
  | .dT true _ ms, _, _, ⟨a, vs, c', e, hg, hh, hn, hl, hc⟩, k =>
    ⟨a, vs, c', e, hg, (k a (by rw [hc, one_self]; omega)).trans hh, hn, OwnL.hm ms hl (fun b hb => k b (by rw [hc]; omega)), hc⟩
  | .dT false _ ms, _, _, ⟨a, vs, e, hg, hn, hl, hz⟩, k => ⟨a, vs, e, hg, hn, OwnL.hm ms hl k, hz⟩
  | .obj true _ ms, _, _, ⟨a, dx, vs, c', e, hg, hh, hn, hl, hc⟩, k =>
    ⟨a, dx, vs, c', e, hg, (k a (by rw [hc, one_self]; omega)).trans hh, hn, OwnL.hm ms hl (fun b hb => k b (by rw [hc]; omega)), hc⟩
  | .obj false _ ms, _, _, ⟨a, dx, vs, e, hg, hn, hl, hz⟩, k => ⟨a, dx, vs, e, hg, hn, OwnL.hm ms hl k, hz⟩
  | .fn _, _, _, h, _ => h
  | .cl _, _, _, h, _ => h
  | .ty _, _, _, h, _ => h
  | .gd _, _, _, h, _ => h
  | .scr _, _, _, h, _ => h
  | .exc _ _ _ ms, _, _, ⟨⟨ws, e, hd, hl⟩, hz⟩, k => ⟨⟨ws, e, hd, OwnL.hm ms hl k⟩, hz⟩
  | .hole, _, _, h, _ => h
theorem OwnL.hm : ∀ (ms : List M) {vs : List V} {c : Cn}, OwnL g G H vs ms c → (∀ b, 1 ≤ c b → H' b = H b) → OwnL g G H' vs ms c
  | [], [], _, h, _ => h
  | [], _ :: _, _, h, _ => h
  | m :: ms, [], _, h, _ => h
  | m :: ms, v :: vs, _, ⟨c1, c2, h1, h2, hc⟩, k => ⟨c1, c2, Own.hm m h1 (fun b hb => k b (by rw [hc]; omega)), OwnL.hm ms h2 (fun b hb => k b (by rw [hc]; omega)), hc⟩
end
/-! more is frozen: nothing of its own -/
mutual
theorem Own.gm (sG : Same G G') : ∀ (m : M) {v : V} {c : Cn}, Own g G H v m c → (∀ b, 1 ≤ c b → G' b = none) → Own g G' H v m c
  | .non, _, _, h, _ => h
  | .bl _, _, _, h, _ => h
  | .int _, _, _, h, _ => h
  | .str _, _, _, h, _ => h
  | .lst true ms, _, _, ⟨a, vs, c', e, hg, hh, hl, hc⟩, k =>
    ⟨a, vs, c', e, k a (by rw [hc, one_self]; omega), hh, OwnL.gm sG ms hl (fun b hb => k b (by rw [hc]; omega)), hc⟩
  | .lst false ms, _, _, ⟨a, vs, e, hg, hl, hz⟩, k => ⟨a, vs, e, sG _ _ hg, OwnL.gm sG ms hl k, hz⟩
  | .tup ms, _, _, ⟨a, vs, e, hg, hl⟩, k => ⟨a, vs, e, sG _ _ hg, OwnL.gm sG ms hl k⟩
  | .ktup ms, _, _, ⟨a, vs, e, hg, hl, hz⟩, k => ⟨a, vs, e, hg, OwnL.gm sG ms hl k, hz⟩
  | .dK true _ ms, _, _, ⟨a, vs, c', e, hg, hh, hn, hl, hc⟩, k =>
    ⟨a, vs, c', e, k a (by rw [hc, one_self]; omega), hh, hn, OwnL.gm sG ms hl (fun b hb => k b (by rw [hc]; omega)), hc⟩
  | .dK false _ ms, _, _, ⟨a, vs, e, hg, hn, hl, hz⟩, k => ⟨a, vs, e, sG _ _ hg, hn, OwnL.gm sG ms hl k, hz⟩
  | .dT true _ ms, _, _, ⟨a, vs, c', e, hg, hh, hn, hl, hc⟩, k =>
    ⟨a, vs, c', e, k a (by rw [hc, one_self]; omega), hh, hn, OwnL.gm sG ms hl (fun b hb => k b (by rw [hc]; omega)), hc⟩
  | .dT false _ ms, _, _, ⟨a, vs, e, hg, hn, hl, hz⟩, k => ⟨a, vs, e, sG _ _ hg, hn, OwnL.gm sG ms hl k, hz⟩
  | .obj true _ ms, _, _, ⟨a, dx, vs, c', e, hg, hh, hn, hl, hc⟩, k =>
    ⟨a, dx, vs, c', e, k a (by rw [hc, one_self]; omega), hh, hn, OwnL.gm sG ms hl (fun b hb => k b (by rw [hc]; omega)), hc⟩
  | .obj false _ ms, _, _, ⟨a, dx, vs, e, hg, hn, hl, hz⟩, k => ⟨a, dx, vs, e, sG _ _ hg, hn, OwnL.gm sG ms hl k, hz⟩
  | .fn _, _, _, h, _ => h
  | .cl _, _, _, h, _ => h
  | .ty _, _, _, h, _ => h
  | .gd _, _, _, h, _ => h
  | .scr _, _, _, ⟨⟨a, e, h⟩, hz⟩, _ => ⟨⟨a, e, Same.seq sG h⟩, hz⟩
  | .exc _ _ _ ms, _, _, ⟨⟨ws, e, hd, hl⟩, hz⟩, k => ⟨⟨ws, e, hd.same sG, OwnL.gm sG ms hl k⟩, hz⟩
  | .hole, _, _, h, _ => h
theorem OwnL.gm (sG : Same G G') : ∀ (ms : List M) {vs : List V} {c : Cn}, OwnL g G H vs ms c → (∀ b, 1 ≤ c b → G' b = none) → OwnL g G' H vs ms c
  | [], [], _, h, _ => h
  | [], _ :: _, _, h, _ => h
  | m :: ms, [], _, h, _ => h
  | m :: ms, v :: vs, _, ⟨c1, c2, h1, h2, hc⟩, k => ⟨c1, c2, Own.gm sG m h1 (fun b hb => k b (by rw [hc]; omega)), OwnL.gm sG ms h2 (fun b hb => k b (by rw [hc]; omega)), hc⟩
end
/-! what is owned stands, and is not frozen -/
theorem live_one {a b : Addr} {c c' : Cn} {o : HO} (hg : G a = none) (hh : H a = some o) (hc : ∀ b, c b = one a b + c' b) (ih : 1 ≤ c' b → (∃ o, H b = some o) ∧ G b = none) (h1 : 1 ≤ c b) : (∃ o, H b = some o) ∧ G b = none := by
  by_cases e : b = a
  · subst e; exact ⟨⟨_, hh⟩, hg⟩
  · rw [hc, one_ne e] at h1
    exact ih (by omega)
mutual
theorem Own.live : ∀ (m : M) {v : V} {c : Cn}, Own g G H v m c → ∀ b, 1 ≤ c b → (∃ o, H b = some o) ∧ G b = none
  | .non, _, _, h, b, hb => by have := h.2 b; omega
  | .bl _, _, _, h, b, hb => by have := h.2 b; omega
  | .int _, _, _, h, b, hb => by have := h.2 b; omega
  | .str _, _, _, h, b, hb => by have := h.2 b; omega
  | .lst true ms, _, _, ⟨a, vs, c', e, hg, hh, hl, hc⟩, b, hb => live_one hg hh hc (OwnL.live ms hl b) hb
  | .lst false ms, _, _, ⟨a, vs, e, hg, hl, hz⟩, b, hb => by have := hz b; omega
  | .tup ms, _, _, ⟨a, vs, e, hg, hl⟩, b, hb => OwnL.live ms hl b hb
  | .ktup ms, _, _, ⟨a, vs, e, hg, hl, hz⟩, b, hb => OwnL.live ms hl b hb
  | .dK true _ ms, _, _, ⟨a, vs, c', e, hg, hh, hn, hl, hc⟩, b, hb => live_one hg hh hc (OwnL.live ms hl b) hb
  | .dK false _ ms, _, _, ⟨a, vs, e, hg, hn, hl, hz⟩, b, hb => by have := hz b; omega
  | .dT true _ ms, _, _, ⟨a, vs, c', e, hg, hh, hn, hl, hc⟩, b, hb => live_one hg hh hc (OwnL.live ms hl b) hb
  | .dT false _ ms, _, _, ⟨a, vs, e, hg, hn, hl, hz⟩, b, hb => by have := hz b; omega
  | .obj true _ ms, _, _, ⟨a, dx, vs, c', e, hg, hh, hn, hl, hc⟩, b, hb => live_one hg hh hc (OwnL.live ms hl b) hb
  | .obj false _ ms, _, _, ⟨a, dx, vs, e, hg, hn, hl, hz⟩, b, hb => by have := hz b; omega
  | .fn _, _, _, h, b, hb => by have := h.2 b; omega
  | .cl _, _, _, h, b, hb => by have := h.2 b; omega
  | .ty _, _, _, h, b, hb => by have := h.2 b; omega
  | .gd _, _, _, h, b, hb => by have := h.2 b; omega
  | .scr _, _, _, h, b, hb => by have := h.2 b; omega
  | .exc _ _ _ _, _, _, h, b, hb => by have := h.2 b; omega
  | .hole, _, _, h, b, hb => by have := h b; omega
theorem OwnL.live : ∀ (ms : List M) {vs : List V} {c : Cn}, OwnL g G H vs ms c → ∀ b, 1 ≤ c b → (∃ o, H b = some o) ∧ G b = none
  | [], [], _, h, b, hb => by have := h b; omega
  | [], _ :: _, _, h, _, _ => h.elim
  | m :: ms, [], _, h, _, _ => h.elim
  | m :: ms, v :: vs, c, ⟨c1, c2, h1, h2, hc⟩, b, hb => by
    rw [hc] at hb
    by_cases h : 1 ≤ c1 b
    · exact Own.live m h1 b h
    · exact OwnL.live ms h2 b (by omega)
end
/-! what is frozen owns nothing -/
mutual
theorem Own.fz0 : ∀ (m : M) {v : V} {c : Cn}, Own g G H v m c → m.fz = true → zr c
  | .non, _, _, h, _ => h.2
  | .bl _, _, _, h, _ => h.2
  | .int _, _, _, h, _ => h.2
  | .str _, _, _, h, _ => h.2
  | .lst true ms, _, _, _, e => nomatch e
  | .lst false ms, _, _, ⟨a, vs, _, hg, hl, hz⟩, _ => hz
  | .tup ms, _, _, ⟨a, vs, _, hg, hl⟩, e => OwnL.fz0 ms hl e
  | .ktup ms, _, _, ⟨a, vs, _, hg, hl, hz⟩, e => hz
  | .dK true _ ms, _, _, _, e => nomatch e
  | .dK false _ ms, _, _, ⟨a, vs, _, hg, hn, hl, hz⟩, _ => hz
  | .dT true _ ms, _, _, _, e => nomatch e
  | .dT false _ ms, _, _, ⟨a, vs, _, hg, hn, hl, hz⟩, _ => hz
  | .obj true _ ms, _, _, _, e => nomatch e
  | .obj false _ ms, _, _, ⟨a, dx, vs, _, hg, hn, hl, hz⟩, _ => hz
  | .fn _, _, _, h, _ => h.2
  | .cl _, _, _, h, _ => h.2
  | .ty _, _, _, h, _ => h.2
  | .gd _, _, _, h, _ => h.2
  | .scr _, _, _, h, _ => h.2
  | .exc _ _ _ _, _, _, h, e => nomatch e
  | .hole, _, _, h, e => nomatch e
theorem OwnL.fz0 : ∀ (ms : List M) {vs : List V} {c : Cn}, OwnL g G H vs ms c → fzL ms = true → zr c
  | [], [], _, h, _ => h
  | [], _ :: _, _, h, _ => h.elim
  | m :: ms, [], _, h, _ => h.elim
  | m :: ms, v :: vs, c, ⟨c1, c2, h1, h2, hc⟩, e => fun b => by
    have e' : (m.fz && fzL ms) = true := e
    rw [Bool.and_eq_true] at e'
    rw [hc, Own.fz0 m h1 e'.1 b, OwnL.fz0 ms h2 e'.2 b]
end
/-! freezing -/
mutual
theorem Own.fr (sG : Same G G') : ∀ (m : M) {v : V} {c : Cn}, Own g G H v m c → (∀ b, 1 ≤ c b → G' b = H b) → Own g G' H v m.frz (fun _ => 0)
  | .non, _, _, h, _ => ⟨h.1, zr0⟩
  | .bl _, _, _, h, _ => ⟨h.1, zr0⟩
  | .int _, _, _, h, _ => ⟨h.1, zr0⟩
  | .str _, _, _, h, _ => ⟨h.1, zr0⟩
  | .lst true ms, _, _, ⟨a, vs, c', e, hg, hh, hl, hc⟩, k =>
    ⟨a, vs, e, (k a (by rw [hc, one_self]; omega)).trans hh, OwnL.fr sG ms hl (fun b hb => k b (by rw [hc]; omega)), zr0⟩
  | .lst false ms, _, _, ⟨a, vs, e, hg, hl, hz⟩, k => ⟨a, vs, e, sG _ _ hg, OwnL.fr sG ms hl k, zr0⟩
  | .tup ms, _, _, ⟨a, vs, e, hg, hl⟩, k => ⟨a, vs, e, sG _ _ hg, OwnL.fr sG ms hl k⟩
  | .ktup ms, _, _, ⟨a, vs, e, hg, hl, hz⟩, k => ⟨a, vs, e, hg, OwnL.fr sG ms hl k, zr0⟩
  | .dK true _ ms, _, _, ⟨a, vs, c', e, hg, hh, hn, hl, hc⟩, k =>
    ⟨a, vs, e, (k a (by rw [hc, one_self]; omega)).trans hh, hn, OwnL.fr sG ms hl (fun b hb => k b (by rw [hc]; omega)), zr0⟩
  | .dK false _ ms, _, _, ⟨a, vs, e, hg, hn, hl, hz⟩, k => ⟨a, vs, e, sG _ _ hg, hn, OwnL.fr sG ms hl k, zr0⟩
  | .dT true _ ms, _, _, ⟨a, vs, c', e, hg, hh, hn, hl, hc⟩, k =>
    ⟨a, vs, e, (k a (by rw [hc, one_self]; omega)).trans hh, hn, OwnL.fr sG ms hl (fun b hb => k b (by rw [hc]; omega)), zr0⟩
  | .dT false _ ms, _, _, ⟨a, vs, e, hg, hn, hl, hz⟩, k => ⟨a, vs, e, sG _ _ hg, hn, OwnL.fr sG ms hl k, zr0⟩
  | .obj true _ ms, _, _, ⟨a, dx, vs, c', e, hg, hh, hn, hl, hc⟩, k =>
    ⟨a, dx, vs, e, (k a (by rw [hc, one_self]; omega)).trans hh, hn, OwnL.fr sG ms hl (fun b hb => k b (by rw [hc]; omega)), zr0⟩
  | .obj false _ ms, _, _, ⟨a, dx, vs, e, hg, hn, hl, hz⟩, k => ⟨a, dx, vs, e, sG _ _ hg, hn, OwnL.fr sG ms hl k, zr0⟩
  | .fn _, _, _, h, _ => ⟨h.1, zr0⟩
  | .cl _, _, _, h, _ => ⟨h.1, zr0⟩
  | .ty _, _, _, h, _ => ⟨h.1, zr0⟩
  | .gd _, _, _, h, _ => ⟨h.1, zr0⟩
  | .scr _, _, _, ⟨⟨a, e, h⟩, hz⟩, _ => ⟨⟨a, e, Same.seq sG h⟩, zr0⟩
  | .exc _ _ _ ms, _, c, ⟨⟨ws, e, hd, hl⟩, hz⟩, k => by
    have ec : c = fun _ => 0 := funext hz
    exact ⟨⟨ws, e, hd.same sG, ec ▸ OwnL.gm sG ms hl fun b hb => by have := hz b; omega⟩, zr0⟩
  | .hole, _, _, _, _ => zr0
theorem OwnL.fr (sG : Same G G') : ∀ (ms : List M) {vs : List V} {c : Cn}, OwnL g G H vs ms c → (∀ b, 1 ≤ c b → G' b = H b) → OwnL g G' H vs (frzL ms) (fun _ => 0)
  | [], [], _, h, _ => zr0
  | [], _ :: _, _, h, _ => h.elim
  | m :: ms, [], _, h, _ => h.elim
  | m :: ms, v :: vs, c, ⟨c1, c2, h1, h2, hc⟩, k => by
    refine ⟨fun _ => 0, fun _ => 0, ?_, OwnL.fr sG ms h2 (fun b hb => k b (by rw [hc]; omega)), fun _ => rfl⟩
    exact Own.fr sG m h1 (fun b hb => k b (by rw [hc]; omega))
end
local macro_rules | `(tactic| walk_at "cn") => `(tactic| ((try dsimp only at *); omega))
/-! lists of owned things -/
theorem OwnL.len : ∀ {ms : List M} {vs : List V} {c : Cn}, OwnL g G H vs ms c → vs.length = ms.length
  | [], [], _, _ => rfl
  | [], _ :: _, _, h => h.elim
  | _ :: _, [], _, h => h.elim
  | _ :: ms, _ :: vs, _, ⟨_, _, _, h2, _⟩ => congrArg Nat.succ (OwnL.len h2)
theorem OwnL.nil : OwnL g G H [] [] (fun _ => 0) := zr0
theorem OwnL.cons {v : V} {m : M} {vs : List V} {ms : List M} {c d : Cn} (h : Own g G H v m c) (t : OwnL g G H vs ms d) : OwnL g G H (v :: vs) (m :: ms) (fun b => c b + d b) := ⟨c, d, h, t, fun _ => rfl⟩
theorem OwnL.app : ∀ {ms : List M} {vs : List V} {c : Cn} {us : List V} {ns : List M} {d : Cn}, OwnL g G H vs ms c → OwnL g G H us ns d → OwnL g G H (vs ++ us) (ms ++ ns) (fun b => c b + d b)
  | [], [], c, us, ns, d, h, t => by
    have e : (fun b => c b + d b) = d := funext fun b => by have e1_ := h b; walk_at "cn"
    rw [e]; exact t
  | [], _ :: _, _, _, _, _, h, _ => h.elim
  | _ :: _, [], _, _, _, _, h, _ => h.elim
  | m :: ms, v :: vs, c, us, ns, d, ⟨c1, c2, h1, h2, hc⟩, t => ⟨c1, fun b => c2 b + d b, h1, OwnL.app h2 t, fun b => by have e1_ := hc b; walk_at "cn"⟩
theorem OwnL.app_inv : ∀ {ms : List M} {vs : List V} {c : Cn} {ns : List M}, OwnL g G H vs (ms ++ ns) c → ∃ vs1 vs2 c1 c2, vs = vs1 ++ vs2 ∧ OwnL g G H vs1 ms c1 ∧ OwnL g G H vs2 ns c2 ∧ ∀ b, c b = c1 b + c2 b
  | [], vs, c, ns, h => ⟨[], vs, fun _ => 0, c, rfl, zr0, h, fun b => by walk_at "cn"⟩
  | _ :: _, [], _, _, h => h.elim
  | m :: ms, v :: vs, c, ns, ⟨c1, c2, h1, h2, hc⟩ => by
    obtain ⟨vs1, vs2, d1, d2, rfl, k1, k2, hd⟩ := OwnL.app_inv h2
    exact ⟨v :: vs1, vs2, fun b => c1 b + d1 b, d2, rfl, OwnL.cons h1 k1, k2, fun b => by have e1_ := hc b; have e2_ := hd b; walk_at "cn"⟩
/-- one is taken out -/
theorem OwnL.take1 : ∀ {ms : List M} {vs : List V} {c : Cn} {i : Nat} {m : M}, OwnL g G H vs ms c → ms[i]? = some m →
    ∃ v c1 c2, vs[i]? = some v ∧ Own g G H v m c1 ∧ OwnL g G H vs (ms.set i .hole) c2 ∧ ∀ b, c b = c1 b + c2 b
  | [], _, _, _, _, _, e => by simp at e
  | _ :: _, [], _, _, _, h, _ => h.elim
  | m :: ms, v :: vs, c, 0, m', ⟨c1, c2, h1, h2, hc⟩, e => by
    have e' : m = m' := by simpa using e
    subst e'
    exact ⟨v, c1, c2, rfl, h1, ⟨fun _ => 0, c2, zr0, h2, fun b => by walk_at "cn"⟩, hc⟩
  | m :: ms, v :: vs, c, i + 1, m', ⟨c1, c2, h1, h2, hc⟩, e => by
    obtain ⟨v', d1, d2, k1, k2, k3, k4⟩ := OwnL.take1 (i := i) (m := m') h2 (by simpa using e)
    exact ⟨v', d1, fun b => c1 b + d2 b, by simpa using k1, k2, ⟨c1, d2, h1, k3, fun _ => rfl⟩, fun b => by have e1_ := hc b; have e2_ := k4 b; walk_at "cn"⟩
/-- one is put in -/
theorem OwnL.put1 : ∀ {ms : List M} {vs : List V} {c : Cn} {i : Nat} {v : V} {m : M} {d : Cn}, OwnL g G H vs ms c → Own g G H v m d →
    ∃ c', OwnL g G H (vs.set i v) (ms.set i m) c' ∧ ∀ b, c' b ≤ c b + d b
  | [], [], c, _, _, _, _, h, _ => ⟨c, h, fun b => by walk_at "cn"⟩
  | [], _ :: _, _, _, _, _, _, h, _ => h.elim
  | _ :: _, [], _, _, _, _, _, h, _ => h.elim
  | m0 :: ms, v0 :: vs, c, 0, v, m, d, ⟨c1, c2, h1, h2, hc⟩, k => ⟨fun b => d b + c2 b, OwnL.cons k h2, fun b => by have e1_ := hc b; walk_at "cn"⟩
  | m0 :: ms, v0 :: vs, c, i + 1, v, m, d, ⟨c1, c2, h1, h2, hc⟩, k => by
    obtain ⟨c', k1, k2⟩ := OwnL.put1 (i := i) h2 k
    exact ⟨fun b => c1 b + c' b, OwnL.cons h1 k1, fun b => by have e1_ := hc b; have e2_ := k2 b; walk_at "cn"⟩
theorem OwnL.get {ms : List M} {vs : List V} {c : Cn} {i : Nat} {m : M} (h : OwnL g G H vs ms c) (e : ms[i]? = some m) : ∃ v c1, vs[i]? = some v ∧ Own g G H v m c1 ∧ ∀ b, c1 b ≤ c b := by
  obtain ⟨v, c1, c2, k1, k2, _, k4⟩ := OwnL.take1 h e
  exact ⟨v, c1, k1, k2, fun b => by have e1_ := k4 b; walk_at "cn"⟩
theorem OwnL.cut : ∀ {ms : List M} {vs : List V} {c : Cn} (n : Nat), OwnL g G H vs ms c → ∃ c', OwnL g G H (vs.take n) (ms.take n) c' ∧ ∀ b, c' b ≤ c b
  | _, _, _, 0, _ => ⟨fun _ => 0, zr0, fun b => by walk_at "cn"⟩
  | [], [], c, n + 1, h => ⟨c, h, fun _ => Nat.le_refl _⟩
  | [], _ :: _, _, _, h => h.elim
  | _ :: _, [], _, _, h => h.elim
  | m :: ms, v :: vs, c, n + 1, ⟨c1, c2, h1, h2, hc⟩ => by
    obtain ⟨c', k1, k2⟩ := OwnL.cut n h2
    exact ⟨fun b => c1 b + c' b, OwnL.cons h1 k1, fun b => by have e1_ := hc b; have e2_ := k2 b; walk_at "cn"⟩
theorem OwnL.skip : ∀ {ms : List M} {vs : List V} {c : Cn} (n : Nat), OwnL g G H vs ms c → ∃ c', OwnL g G H (vs.drop n) (ms.drop n) c' ∧ ∀ b, c' b ≤ c b
  | ms, vs, c, 0, h => ⟨c, h, fun _ => Nat.le_refl _⟩
  | [], [], c, n + 1, h => ⟨c, h, fun _ => Nat.le_refl _⟩
  | [], _ :: _, _, _, h => h.elim
  | _ :: _, [], _, _, h => h.elim
  | m :: ms, v :: vs, c, n + 1, ⟨c1, c2, h1, h2, hc⟩ => by
    obtain ⟨c', k1, k2⟩ := OwnL.skip n h2
    exact ⟨c', k1, fun b => by have e1_ := hc b; have e2_ := k2 b; walk_at "cn"⟩
theorem OwnL.rev : ∀ {ms : List M} {vs : List V} {c : Cn}, OwnL g G H vs ms c → ∃ c', OwnL g G H vs.reverse ms.reverse c' ∧ ∀ b, c' b ≤ c b
  | [], [], c, h => ⟨c, h, fun _ => Nat.le_refl _⟩
  | [], _ :: _, _, h => h.elim
  | _ :: _, [], _, h => h.elim
  | m :: ms, v :: vs, c, ⟨c1, c2, h1, h2, hc⟩ => by
    obtain ⟨c', k1, k2⟩ := OwnL.rev h2
    refine ⟨fun b => c' b + (c1 b + 0), ?_, fun b => by have e1_ := hc b; have e2_ := k2 b; walk_at "cn"⟩
    rw [List.reverse_cons, List.reverse_cons]
    exact OwnL.app k1 ⟨c1, fun _ => 0, h1, zr0, fun _ => rfl⟩
theorem Own.z {v : V} {m : M} {c : Cn} (h : Own g G H v m c) (f : m.fz = true) : Own g G H v m (fun _ => 0) := by
  have e : c = fun _ => 0 := funext fun b => Own.fz0 m h f b
  rw [← e]; exact h
theorem OwnL.z {vs : List V} {ms : List M} {c : Cn} (h : OwnL g G H vs ms c) (f : fzL ms = true) : OwnL g G H vs ms (fun _ => 0) := by
  have e : c = fun _ => 0 := funext fun b => OwnL.fz0 ms h f b
  rw [← e]; exact h
end Q
set_option Elab.async false
set_option linter.all false
set_option maxRecDepth 100000
set_option maxHeartbeats 4000000
namespace Q
open PySem PySem.Spec PyProof.Rows L2

/-! ### the small language -/
inductive O1 where
  | neg | len | toInt | toStr | abs | sum | maxL | minL | isN | notN | upper
  | fld (C : String) (k : Nat) | isi (ts : List String)
  | listOf | tupleOf | sorted
  deriving DecidableEq
inductive O2 where
  | add | sub | mul | fdiv | mod | pow | shl | shr | band | lt | le | gt | ge | eq | ne | isin | notin | idx | min2 | max2
  | join | startswith | find | count | index | get1 | split
  deriving DecidableEq
mutual
inductive P where
  | int (i : Int) | str (cs : List Nat) | bl (b : Bool) | non
  | var (i : Nat)
  | glb (k : Nat)
  | o1 (o : O1) (a : P)
  | o2 (o : O2) (a b : P)
  | slS (a : P) (lo hi : Option P)
  | and (a b : P) | or (a b : P) | not (a : P)
  | ifx (t : T) (a b : P)
  | chain (o p : O2) (a b c : P)
  | exI (i : Nat) (cs : List String)
  | exF (i : Nat) (k : Nat) (Cs : List String)
inductive T where
  | p (a : P)
  | not (t : T) | and (a b : T) | or (a b : T)
end
/-- a step of a path -/
inductive Ps where
  | f (C : String) (k : Nat)
  | i (a : P)
/-- what is done to a container in place -/
inductive OM where
  | append | extend | pop | popAt | insert | reverse | remove | sort | clear
  deriving DecidableEq
mutual
inductive E where
  | pu (p : P)
  | vr (i : Nat)
  | mv (i : Nat)
  | sh (i : Nat) (st : List Ps)
  | o1 (o : O1) (a : A)
  | o2 (o : O2) (a b : A)
  | o2s (o : O2) (p : P) (b : A)
  | slc (a : A) (lo hi : Option P)
  | slr (a : A)
  | tup (es : List E)
  | lst (es : List E)
  | dK0 | dT0
  | dS (ks vs : List (List Nat))
  | lrg (p : P)
  | call (f : String) (as : List Ag)
  | callL (j : Nat) (as : List Ag)
  | meth (C m : String) (i : Nat) (as : List Ag)
  | make (C : String) (as : List Ag)
  | mut (o : OM) (i : Nat) (st : List Ps) (es : List E)
  | and (a b : E) | or (a b : E) | not (a : E)
  | ifx (t : TT) (a b : E)
  | comp (i : Nat) (it : I) (c : List T) (e : E)
  | get2 (a : A) (k d : P)
  | sll (a : P) (q : E)
  | mvp (i : Nat) (st : List Ps)
  | ixt (i : Nat) (st : List Ps) (q : E)
inductive A where
  | v (p : P)
  | e (q : E)
inductive Ag where
  | r (i : Nat)
  | e (q : E)
inductive I where
  | rng (es : List E)
  | val (k : Nat) (q : E)
  | vw (i : Nat)
  | pth (i : Nat) (st : List Ps)
inductive TT where
  | p (t : T)
  | e (q : E)
  | not (t : TT) | and (a b : TT) | or (a b : TT)
end
inductive S where
  | set (i : Nat) (e : E)
  | sti (i : Nat) (st : List Ps) (ix : P) (e : E)
  | stf (i : Nat) (st : List Ps) (C : String) (k : Nat) (e : E)
  | aug (i : Nat) (o : O2) (e : E)
  | stk (i : Nat) (st : List Ps) (q : E) (e : E)
  | augi (i : Nat) (st : List Ps) (ix : P) (o : O2) (e : P)
  | unp (is : List Nat) (e : E)
  | ex (e : E)
  | ite (t : TT) (a b : List S)
  | for_ (i : Nat) (it : I) (b : List S)
  | whl (t : TT) (b : List S)
  | brk | cnt | pass
  | ret (e : E) | retN
  | raise (C : String) (es : List E)
  | tryS (b : List S) (cs : List String) (i : Option Nat) (h : List S)
  | doc
  | scan (tg i : Nat) (st : List Ps) (t : T) (b : List S)
  | copyD (i j tg : Nat)

/-! ### values -/
def M.ok : M → Bool
  | .hole => false
  | .exc _ _ _ _ => false
  | _ => true
abbrev En := List M
def gt : En → Nat → M
  | [], _ => .hole
  | m :: _, 0 => m
  | _ :: r, i + 1 => gt r i
def yes (b : Bool) (p : Prop) : Prop := match b with | true => p | false => False
abbrev sl : Nat := 16777216

def numL (n : Nat) : List Nat := (Nat.toDigits 10 n).map Char.toNat
def sI (i : Int) : List Nat := if i < 0 then 45 :: numL i.natAbs else numL i.natAbs
/-- a part's place, as Python has it -/
def pIx (n d : Nat) : Option Int → Nat
  | none => d
  | some i => if i < 0 then (i + n).toNat else min i.toNat n
def cutL {α : Type} (xs : List α) (lo hi : Option Int) : List α := (xs.drop (pIx xs.length 0 lo)).take (pIx xs.length xs.length hi - pIx xs.length 0 lo)
/-- a place, from the end if it is below 0 -/
def ixL (n : Nat) (i : Int) : Option Nat := if 0 ≤ i then (if i < n then some i.toNat else none) else if -(n : Int) ≤ i then some (i + n).toNat else none
def atL {α : Type} (xs : List α) (i : Int) : Option α := match ixL xs.length i with | some k => xs[k]? | none => none

/-- flat things: numbers, texts, .. -/
def M.flat : M → Bool
  | .non => true | .bl _ => true | .int _ => true | .str _ => true | _ => false
def eqF : M → M → Bool
  | .non, .non => true
  | .bl a, .bl b => a == b
  | .bl a, .int b => (if a then 1 else 0) == b
  | .int a, .bl b => a == (if b then 1 else 0)
  | .int a, .int b => a == b
  | .str a, .str b => a == b
  | _, _ => false
/-- rows of numbers -/
def M.num : M → Bool
  | .non => true | .bl _ => true | .int _ => true | _ => false
def flT : M → Bool
  | .tup ys => ys.all M.num
  | _ => false
def eqFL : List M → List M → Bool
  | [], [] => true
  | x :: xs, y :: ys => eqF x y && eqFL xs ys
  | _, _ => false
def eqT : M → List M → Bool
  | .tup ys, xs => eqFL ys xs
  | _, _ => false
/-- pairs that == tells by the rule for flat ones -/
def scl : M → M → Bool
  | .non, .non => true | .non, .int _ => true | .int _, .non => true | .non, .bl _ => true | .bl _, .non => true | .non, .str _ => true | .str _, .non => true
  | .int _, .int _ => true | .bl _, .bl _ => true | .str _, .str _ => true
  | .int _, .str _ => true | .str _, .int _ => true | .bl _, .str _ => true | .str _, .bl _ => true
  | _, _ => false
def pre (S l : List Nat) : Bool := l.take S.length == S
def fnd (S : List Nat) : Nat → List Nat → Option Nat
  | k, [] => if S.isEmpty then some k else none
  | k, c :: r => if pre S (c :: r) then some k else fnd S (k + 1) r
def spl1 (c : Nat) : List Nat → List Nat → List (List Nat)
  | acc, [] => [acc]
  | acc, x :: r => if x = c then acc :: spl1 c [] r else spl1 c (acc ++ [x]) r
def joinL (S : List Nat) : List (List Nat) → List Nat
  | [] => []
  | [x] => x
  | x :: y :: r => x ++ S ++ joinL S (y :: r)
def strsOf : List M → Option (List (List Nat))
  | [] => some []
  | .str cs :: r => (strsOf r).map (cs :: ·)
  | _ :: _ => none
def intsOf : List M → Option (List Int)
  | [] => some []
  | .int i :: r => (intsOf r).map (i :: ·)
  | _ :: _ => none
def keyM : M → Option MK
  | .int i => some (.inl i)
  | .str cs => some (.inr cs)
  | _ => none
def keysM : List M → Option (List MK)
  | [] => some []
  | m :: r => match keyM m, keysM r with
    | some k, some ks => some (k :: ks)
    | _, _ => none
def kM : MK → M
  | .inl i => .int i
  | .inr cs => .str cs
def look {κ : Type} [DecidableEq κ] : List κ → List M → κ → Option M
  | k :: ks, v :: vs, x => if k = x then some v else look ks vs x
  | _, _, _ => none
def mapD {κ α : Type} [DecidableEq κ] (x : κ) (y : α) : List κ → List α → List α
  | k :: ks, v :: vs => (if k = x then y else v) :: mapD x y ks vs
  | _, _ => []
def putD {κ α : Type} [DecidableEq κ] (ks : List κ) (vs : List α) (x : κ) (y : α) : List κ × List α := if x ∈ ks then (ks, mapD x y ks vs) else (ks ++ [x], vs ++ [y])

/-! the world of a program -/
abbrev Tab := String → List Nat → Option M
abbrev Exc := String × List M
abbrev FSp := List M → (M → List M → Prop) → (Exc → List M → Prop) → Prop
structure Gm where
  gv : List M
  tab : Tab
  fs : String → FSp
  ms : String → String → FSp
  mks : String → FSp
  sub : String → String → Bool
  exf : String → Bool
  ex : Option (Addr × Option Addr × String) := none
  lf : String → Bool := fun _ => false

/-! one place -/
def oLen : M → (M → Prop) → Prop
  | .str cs, Q => yes (decide (cs.length ≤ sl)) (Q (.int cs.length))
  | .lst _ ms, Q => Q (.int ms.length)
  | .tup ms, Q => Q (.int ms.length)
  | .ktup ms, Q => Q (.int ms.length)
  | .dK _ ks _, Q => Q (.int ks.length)
  | .dT _ ks _, Q => Q (.int ks.length)
  | _, _ => False
/-- what isinstance may be asked of -/
def M.bas : M → Bool
  | .non => true | .bl _ => true | .int _ => true | .str _ => true | .lst _ _ => true | .tup _ => true | .ktup _ => true | .dK _ _ _ => true | .dT _ _ _ => true | _ => false
def tnm : M → String
  | .non => "NoneType" | .bl _ => "bool" | .int _ => "int" | .str _ => "str" | .lst _ _ => "list" | .tup _ => "tuple" | .ktup _ => "tuple" | .dK _ _ _ => "dict" | .dT _ _ _ => "dict"
  | _ => ""
def tyB (T t : String) : Bool := T == t || (T == "bool" && t == "int")
def tyOf (m : M) (t : String) : Bool := tyB (tnm m) t
def o1P : O1 → M → (M → Prop) → Prop
  | .neg, .int i, Q => Q (.int (-i))
  | .len, m, Q => oLen m Q
  | .toInt, .int i, Q => Q (.int i)
  | .toInt, .bl b, Q => Q (.int (if b then 1 else 0))
  | .toInt, .str cs, Q => ∃ n, PySem.intText? (sS cs) = some n ∧ cs.length ≤ 640 ∧ Q (.int n)
  | .toStr, .int i, Q => i.natAbs.log2 < 1920 ∧ Q (.str (sI i))
  | .toStr, .str cs, Q => Q (.str cs)
  | .abs, .int i, Q => Q (.int (if i < 0 then -i else i))
  | .sum, .lst _ ms, Q => ∃ ns, intsOf ms = some ns ∧ Q (.int ns.sum)
  | .maxL, .lst _ ms, Q => ∃ ns, intsOf ms = some ns ∧ 0 < ns.length ∧ ∀ m, m ∈ ns → (∀ y, y ∈ ns → y ≤ m) → Q (.int m)
  | .minL, .lst _ ms, Q => ∃ ns, intsOf ms = some ns ∧ 0 < ns.length ∧ ∀ m, m ∈ ns → (∀ y, y ∈ ns → m ≤ y) → Q (.int m)
  | .isN, .non, Q => Q (.bl true)
  | .isN, m, Q => yes m.ok (Q (.bl false))
  | .notN, .non, Q => Q (.bl false)
  | .notN, m, Q => yes m.ok (Q (.bl true))
  | .upper, .str cs, Q => cs.length ≤ 5592405 ∧ Q (.str (Txt.upper (sS cs)).cps.toList)
  | .fld C k, .obj _ C' vs, Q => yes (C == C') (match vs[k]? with | some m => yes m.ok (Q m) | none => False)
  | .isi ts, m, Q => yes m.bas (Q (.bl (ts.any (tyOf m))))
  | _, _, _ => False
/-- comparisons -/
def cmpP (tb : Tab) : O2 → M → M → (Bool → Prop) → Prop
  | .lt, .int i, .int j, Q => Q (decide (i < j))
  | .le, .int i, .int j, Q => Q (decide (i ≤ j))
  | .gt, .int i, .int j, Q => Q (decide (j < i))
  | .ge, .int i, .int j, Q => Q (decide (j ≤ i))
  | .lt, .str a, .str b, Q => Q (decide (a < b))
  | .gt, .str a, .str b, Q => Q (decide (b < a))
  | .eq, m, n, Q => yes (scl m n) (Q (eqF m n))
  | .ne, m, n, Q => yes (scl m n) (Q (!eqF m n))
  | .isin, .str a, .str b, Q => yes (a.length == 1) (Q (decide (a.getD 0 0 ∈ b)))
  | .notin, .str a, .str b, Q => yes (a.length == 1) (Q (!decide (a.getD 0 0 ∈ b)))
  | .isin, .str a, .gd t, Q => Q (tb t a).isSome
  | .notin, .str a, .gd t, Q => Q (!(tb t a).isSome)
  | .isin, .tup xs, .lst _ ms, Q => yes (xs.all M.num && ms.all flT) (Q (ms.any fun y => eqT y xs))
  | .notin, .tup xs, .lst _ ms, Q => yes (xs.all M.num && ms.all flT) (Q (!ms.any fun y => eqT y xs))
  | .isin, m, .lst _ ms, Q => yes (m.flat && ms.all M.flat) (Q (ms.any fun x => eqF x m))
  | .notin, m, .lst _ ms, Q => yes (m.flat && ms.all M.flat) (Q (!ms.any fun x => eqF x m))
  | .isin, m, .tup ms, Q => yes (m.flat && ms.all M.flat) (Q (ms.any fun x => eqF x m))
  | .notin, m, .tup ms, Q => yes (m.flat && ms.all M.flat) (Q (!ms.any fun x => eqF x m))
  | .isin, m, .ktup ms, Q => yes (m.flat && ms.all M.flat) (Q (ms.any fun x => eqF x m))
  | .notin, m, .ktup ms, Q => yes (m.flat && ms.all M.flat) (Q (!ms.any fun x => eqF x m))
  | .isin, m, .dK _ ks vs, Q => ∃ k, keyM m = some k ∧ Q (look ks vs k).isSome
  | .notin, m, .dK _ ks vs, Q => ∃ k, keyM m = some k ∧ Q (!(look ks vs k).isSome)
  | .isin, .tup ms, .dT _ ks vs, Q => ∃ k, keysM ms = some k ∧ Q (look ks vs k).isSome
  | .notin, .tup ms, .dT _ ks vs, Q => ∃ k, keysM ms = some k ∧ Q (!(look ks vs k).isSome)
  | _, _, _, _ => False
def ixP (tb : Tab) : M → M → (M → Prop) → Prop
  | .lst _ ms, .int i, Q => match atL ms i with | some m => yes m.ok (Q m) | none => False
  | .tup ms, .int i, Q => match atL ms i with | some m => yes m.ok (Q m) | none => False
  | .ktup ms, .int i, Q => match atL ms i with | some m => yes m.ok (Q m) | none => False
  | .str cs, .int i, Q => yes (decide (cs.length ≤ sl)) (match atL cs i with | some c => Q (.str [c]) | none => False)
  | .dK _ ks vs, m, Q => ∃ k, keyM m = some k ∧ (match look ks vs k with | some r => yes r.ok (Q r) | none => False)
  | .dT _ ks vs, .tup ms, Q => ∃ k, keysM ms = some k ∧ (match look ks vs k with | some r => yes r.ok (Q r) | none => False)
  | .gd t, .str a, Q => match tb t a with | some r => Q r | none => False
  | _, _, _ => False
def o2P (tb : Tab) : O2 → M → M → (M → Prop) → Prop
  | .add, .int i, .int j, Q => Q (.int (i + j))
  | .add, .str a, .str b, Q => yes (decide (a.length + b.length ≤ sl)) (Q (.str (a ++ b)))
  | .sub, .int i, .int j, Q => Q (.int (i - j))
  | .mul, .int i, .int j, Q => i.natAbs.log2 + j.natAbs.log2 < 1000000 ∧ Q (.int (i * j))
  | .fdiv, .int i, .int j, Q => 0 < j ∧ j < 1073741824 ∧ Q (.int (i / j))
  | .mod, .int i, .int j, Q => 0 < j ∧ Q (.int (i % j))
  | .pow, .int i, .int j, Q => 0 ≤ j ∧ j ≤ 1000000 ∧ i.natAbs < 2 ^ 64 ∧ Q (.int (i ^ j.toNat))
  | .shl, .int i, .int j, Q => 0 ≤ j ∧ j ≤ 1000000 ∧ i.natAbs < 2 ^ 64 ∧ Q (.int (i * 2 ^ j.toNat))
  | .shr, .int i, .int j, Q => 0 ≤ j ∧ Q (.int (i / 2 ^ j.toNat))
  | .band, .int i, .int j, Q => Q (.int (Builtin.bitAnd i j))
  | .idx, m, n, Q => ixP tb m n Q
  | .min2, .int i, .int j, Q => Q (.int (if j < i then j else i))
  | .max2, .int i, .int j, Q => Q (.int (if j > i then j else i))
  | .join, .str s, .lst _ ms, Q => ∃ ys, strsOf ms = some ys ∧ (ys.map List.length).sum + ys.length * s.length ≤ sl ∧ Q (.str (joinL s ys))
  | .join, .str s, .tup ms, Q => ∃ ys, strsOf ms = some ys ∧ (ys.map List.length).sum + ys.length * s.length ≤ sl ∧ Q (.str (joinL s ys))
  | .startswith, .str a, .str b, Q => Q (.bl (pre b a))
  | .find, .str a, .str b, Q => yes (!b.isEmpty) (Q (.int (match fnd b 0 a with | some k => (k : Int) | none => -1)))
  | .lt, m, n, Q => cmpP tb .lt m n fun b => Q (.bl b)
  | .le, m, n, Q => cmpP tb .le m n fun b => Q (.bl b)
  | .gt, m, n, Q => cmpP tb .gt m n fun b => Q (.bl b)
  | .ge, m, n, Q => cmpP tb .ge m n fun b => Q (.bl b)
  | .eq, m, n, Q => cmpP tb .eq m n fun b => Q (.bl b)
  | .ne, m, n, Q => cmpP tb .ne m n fun b => Q (.bl b)
  | .isin, m, n, Q => cmpP tb .isin m n fun b => Q (.bl b)
  | .notin, m, n, Q => cmpP tb .notin m n fun b => Q (.bl b)
  | _, _, _, _ => False
/-- what makes a new list, tuple -/
def o1E : O1 → M → (M → Prop) → Prop
  | .listOf, .lst _ ms, Q => yes (fzL ms) (Q (.lst true ms))
  | .listOf, .tup ms, Q => yes (fzL ms) (Q (.lst true ms))
  | .listOf, .ktup ms, Q => yes (fzL ms) (Q (.lst true ms))
  | .listOf, .dK _ ks _, Q => Q (.lst true (ks.map kM))
  | .tupleOf, .lst _ ms, Q => yes (fzL ms) (Q (.tup ms))
  | .tupleOf, .tup ms, Q => yes (fzL ms) (Q (.tup ms))
  | .sorted, .lst _ ms, Q => ∃ ns, intsOf ms = some ns ∧ ∀ ns' : List Int, ns'.Perm ns → ns'.Pairwise (· ≤ ·) → Q (.lst true (ns'.map M.int))
  | o, m, Q => o1P o m (fun r => yes r.fz (Q r))
def o2E (tb : Tab) : O2 → M → M → (M → Prop) → Prop
  | .add, .lst _ xs, .lst _ ys, Q => yes (fzL xs && fzL ys) (xs.length + ys.length ≤ sl ∧ Q (.lst true (xs ++ ys)))
  | .add, .tup xs, .tup ys, Q => yes (fzL xs && fzL ys && !xs.isEmpty) (xs.length + ys.length ≤ sl ∧ Q (.tup (xs ++ ys)))
  | .mul, .lst _ xs, .int k, Q => yes (fzL xs) (k < 9223372036854775808 ∧ -9223372036854775808 ≤ k ∧ xs.length * k.toNat ≤ sl ∧ Q (.lst true (List.replicate k.toNat xs).flatten))
  | .split, .str a, .str b, Q => yes (b.length == 1 && decide (b.getD 0 0 < 256)) (a.length + 2 ≤ sl ∧ Q (.lst true ((spl1 (b.getD 0 0) [] a).map M.str)))
  | o, m, n, Q => o2P tb o m n (fun r => yes r.fz (Q r))
def sliceE : M → Option Int → Option Int → (M → Prop) → Prop
  | .str cs, lo, hi, Q => yes (decide (cs.length ≤ sl)) (Q (.str (cutL cs lo hi)))
  | .lst _ ms, lo, hi, Q => yes (fzL ms) (Q (.lst true (cutL ms lo hi)))
  | .tup ms, lo, hi, Q => yes (fzL ms) (¬ (pIx ms.length 0 lo = 0 ∧ pIx ms.length ms.length hi = ms.length) ∧ Q (.tup (cutL ms lo hi)))
  | .scr ns, lo, hi, Q => Q (.lst true ((cutL ns lo hi).map M.int))
  | _, _, _, _ => False
def truM : M → (Bool → Prop) → Prop
  | .non, Q => Q false
  | .bl b, Q => Q b
  | .int i, Q => Q (i != 0)
  | .str cs, Q => yes (decide (cs.length ≤ sl)) (Q (cs.length != 0))
  | .lst _ ms, Q => Q (!ms.isEmpty)
  | .tup ms, Q => Q (!ms.isEmpty)
  | .ktup ms, Q => Q (!ms.isEmpty)
  | .dK _ ks _, Q => Q (!ks.isEmpty)
  | _, _ => False

/-! ### readings of P, T -/
def M.isS : M → Bool
  | .str _ => true
  | _ => false
/-- a text's method wants a text -/
def rcv (o : O2) (m : M) : Bool := match o with
  | .join => m.isS
  | .startswith => m.isS
  | .find => m.isS
  | .split => m.isS
  | _ => true
def asI (m : M) (Q : Int → Prop) : Prop := match m with | .int i => Q i | _ => False
def asB (m : M) (Q : Bool → Prop) : Prop := match m with | .bl i => Q i | _ => False
mutual
def evP (Γ : Gm) (env : En) : P → (M → Prop) → Prop
  | .int i, Q => Q (.int i)
  | .str cs, Q => Q (.str cs)
  | .bl b, Q => Q (.bl b)
  | .non, Q => Q .non
  | .var i, Q => yes (gt env i).ok (Q (gt env i))
  | .glb k, Q => match Γ.gv[k]? with | some m => Q m | none => False
  | .o1 o a, Q => evP Γ env a fun m => o1P o m Q
  | .o2 o a b, Q => evP Γ env a fun m => yes (rcv o m) (evP Γ env b fun n => o2P Γ.tab o m n Q)
  | .slS a lo hi, Q => evP Γ env a fun m => evO Γ env lo fun l => evO Γ env hi fun h => match m with
    | .str cs => yes (decide (cs.length ≤ sl)) (Q (.str (cutL cs l h)))
    | _ => False
  | .and a b, Q => evP Γ env a fun m => asB m fun c => match c with | true => evP Γ env b Q | false => Q (.bl false)
  | .or a b, Q => evP Γ env a fun m => asB m fun c => match c with | true => Q (.bl true) | false => evP Γ env b Q
  | .not a, Q => evP Γ env a fun m => asB m fun c => Q (.bl (!c))
  | .ifx t a b, Q => evT Γ env t fun c => match c with | true => evP Γ env a Q | false => evP Γ env b Q
  | .chain o p a b c, Q => evP Γ env a fun x => evP Γ env b fun y => cmpP Γ.tab o x y fun k => match k with
    | true => evP Γ env c fun z => cmpP Γ.tab p y z fun b => Q (.bl b)
    | false => Q (.bl false)
  | .exI i cs, Q => match gt env i with | .exc a d C _ => Γ.ex = some (a, d, C) ∧ Q (.bl (cs.any (Γ.sub C))) | _ => False
  | .exF i k Cs, Q => match gt env i with | .exc a d C vs => Γ.ex = some (a, d, C) ∧ Cs.contains C = true ∧ (match vs[k]? with | some m => yes m.fz (Q m) | none => False) | _ => False
def evO (Γ : Gm) (env : En) : Option P → (Option Int → Prop) → Prop
  | none, Q => Q none
  | some p, Q => evP Γ env p fun m => asI m fun i => Q (some i)
def evT (Γ : Gm) (env : En) : T → (Bool → Prop) → Prop
  | .p a, Q => evP Γ env a fun m => truM m Q
  | .not t, Q => evT Γ env t fun c => Q (!c)
  | .and a b, Q => evT Γ env a fun c => match c with | true => evT Γ env b Q | false => Q false
  | .or a b, Q => evT Γ env a fun c => match c with | true => Q true | false => evT Γ env b Q
end

def evTs (Γ : Gm) (env : En) : List T → (Bool → Prop) → Prop
  | [], Q => Q true
  | [t], Q => evT Γ env t Q
  | _, _ => False
/-! ### paths in the environment -/
inductive Pt where
  | f (C : String) (k : Nat)
  | i (k : Nat)
def at1 (m : M) (s : Pt) : Option M := match s, m with
  | .f C k, .obj _ C' vs => if C = C' then vs[k]? else none
  | .i k, .lst _ ms => ms[k]?
  | .i k, .tup ms => ms[k]?
  | _, _ => none
def put1 (m : M) (s : Pt) (r : M) : M := match s, m with
  | .f _ k, .obj o C' vs => .obj o C' (vs.set k r)
  | .i k, .lst o ms => .lst o (ms.set k r)
  | .i k, .tup ms => .tup (ms.set k r)
  | _, m => m
def atP (m : M) : List Pt → Option M
  | [] => some m
  | s :: r => match at1 m s with
    | some m' => atP m' r
    | none => none
def putP (m : M) : List Pt → M → M
  | [], x => x
  | s :: r, x => match at1 m s with
    | some m' => put1 m s (putP m' r x)
    | none => m
/-- the steps, their places reckoned -/
def evS (Γ : Gm) (env : En) (m : M) : List Ps → (List Pt → M → Prop) → Prop
  | [], Q => Q [] m
  | .f C k :: r, Q => evS Γ env m r fun l x => (match at1 x (.f C k) with
    | some y => Q (l ++ [.f C k]) y
    | none => False)
  | .i p :: r, Q => evS Γ env m r fun l x => evP Γ env p fun n => asI n fun j => (match x with
    | .lst _ ms => (match ixL ms.length j with
      | some k => (match ms[k]? with
        | some y => Q (l ++ [.i k]) y
        | none => False)
      | none => False)
    | .tup ms => (match ixL ms.length j with
      | some k => (match ms[k]? with
        | some y => Q (l ++ [.i k]) y
        | none => False)
      | none => False)
    | _ => False)

/-! ### readings of E -/
abbrev QE := M → En → Prop
abbrev QX := Exc → En → Prop
/-- the arguments: what was reckoned (none: a name that is lent) -/
def fillG (env : En) : List (Option Nat) → List M → List M
  | some i :: r, ms => gt env i :: fillG env r ms
  | none :: r, m :: ms => m :: fillG env r ms
  | _, _ => []
def backG (env : En) : List (Option Nat) → List M → En
  | some i :: r, m :: ms => backG (env.set i m) r ms
  | none :: r, _ :: ms => backG env r ms
  | _, _ => env
def agI : Ag → Option Nat
  | .r i => some i
  | .e _ => none
def M.isL : M → Bool
  | .lst _ _ => true
  | _ => false
def lentOk (env : En) : List Ag → Bool
  | .r i :: r => (gt env i).ok && lentOk env r
  | .e _ :: r => lentOk env r
  | [] => true
def muE : OM → M → List M → (M → M → Prop) → Prop
  | .append, .lst true xs, [y], Q => xs.length < sl ∧ Q .non (.lst true (xs ++ [y]))
  | .extend, .lst true xs, [.lst _ ys], Q => yes (fzL ys) (xs.length + ys.length ≤ sl ∧ Q .non (.lst true (xs ++ ys)))
  | .pop, .lst true xs, [], Q => (match xs[xs.length - 1]? with | some y => Q y (.lst true xs.dropLast) | none => False)
  | .popAt, .lst true xs, [.int i], Q => -9223372036854775808 ≤ i ∧ i < 9223372036854775808 ∧ (match ixL xs.length i with
    | some k => (match xs[k]? with | some y => Q y (.lst true (xs.eraseIdx k)) | none => False)
    | none => False)
  | .reverse, .lst true xs, [], Q => Q .non (.lst true xs.reverse)
  | .clear, .lst true _, [], Q => Q .non (.lst true [])
  | .insert, .lst true xs, [.int i, y], Q => xs.length < sl ∧ 0 ≤ i ∧ i < 9223372036854775808 ∧ Q .non (.lst true (xs.take i.toNat ++ [y] ++ xs.drop i.toNat))
  | _, _, _, _ => False
/-- a loop over what was fixed -/
def cmpL (i : Nat) (C : En → (Bool → Prop) → Prop) (F : En → (M → En → Prop) → Prop) (Q : List M → En → Prop) : List M → List M → En → Prop
  | [], acc, env => Q acc env
  | m :: ms, acc, env => C (env.set i m) fun b => match b with
    | true => F (env.set i m) fun y env' => acc.length < sl ∧ cmpL i C F Q ms (acc ++ [y]) (env'.set i .hole)
    | false => cmpL i C F Q ms acc ((env.set i m).set i .hole)
def rngL (lo st : Int) : Nat → List M
  | 0 => []
  | n + 1 => .int lo :: rngL (lo + st) st n
def itemsK : Nat → M → Option (List M)
  | 0, .lst _ ms => if fzL ms then some ms else none
  | 1, .tup ms => if fzL ms then some ms else none
  | 1, .ktup ms => if fzL ms then some ms else none
  | 2, .str cs => some (cs.map fun c => .str [c])
  | _, _ => none
def itemsOf : M → Option (List M)
  | .lst false ms => if fzL ms then some ms else none
  | .lst true ms => if fzL ms then some ms else none
  | .tup ms => if fzL ms then some ms else none
  | .ktup ms => if fzL ms then some ms else none
  | .str cs => some (cs.map fun c => .str [c])
  | _ => none
def pVar : P → Option Nat
  | .var i => some i
  | _ => none
mutual
def semE (Γ : Gm) : E → En → QE → QX → Prop
  | .pu p, env, Q, _ => evP Γ env p fun m => yes m.fz (Q m env)
  | .vr i, env, Q, _ => yes (gt env i).ok (Q (gt env i).frz (env.set i (gt env i).frz))
  | .mv i, env, Q, _ => yes (gt env i).ok (Q (gt env i) (env.set i .hole))
  | .sh i st, env, Q, _ => yes (gt env i).ok (evS Γ env (gt env i) st fun l m => yes m.ok (Q m.frz (env.set i (putP (gt env i) l m.frz))))
  | .o1 o a, env, Q, X => semA Γ a env (fun m env1 => o1E o m fun r => Q r env1) X
  | .o2 o (.v p) (.v q), env, Q, _ => evP Γ env p fun m => evP Γ env q fun n => o2E Γ.tab o m n fun r => Q r env
  | .o2 o (.v p) (.e q), env, Q, X => (match pVar p with
    | some i => yes (gt env i).ok (semE Γ q env (fun n env1 => yes (gt env1 i).ok (o2E Γ.tab o (gt env1 i) n fun r => Q r env1)) X)
    | none => evP Γ env p fun m => yes m.fz (semE Γ q env (fun n env1 => o2E Γ.tab o m n fun r => Q r env1) X))
  | .o2 o (.e p) b, env, Q, X => semE Γ p env (fun m env1 => semA Γ b env1 (fun n env2 => o2E Γ.tab o m n fun r => Q r env2) X) X
  | .o2s o p b, env, Q, X => evP Γ env p fun m => yes m.isS (semA Γ b env (fun n env1 => o2E Γ.tab o m n fun r => Q r env1) X)
  | .slc a lo hi, env, Q, X => semA Γ a env (fun m env1 => evO Γ env1 lo fun l => evO Γ env1 hi fun h => sliceE m l h fun r => Q r env1) X
  | .slr a, env, Q, X => semA Γ a env (fun m env1 => match m with | .lst _ ms => yes (fzL ms) (Q (.lst true ms.reverse) env1) | _ => False) X
  | .tup es, env, Q, X => semEs Γ es env (fun ms env1 => yes (decide (ms.length ≤ sl)) (Q (.tup ms) env1)) X
  | .lst es, env, Q, X => semEs Γ es env (fun ms env1 => yes (decide (ms.length ≤ sl)) (Q (.lst true ms) env1)) X
  | .dK0, env, Q, _ => Q (.dK true [] []) env
  | .dT0, env, Q, _ => Q (.dT true [] []) env
  | .dS ks vs, env, Q, _ => yes (decide (ks.length ≤ 15) && decide (vs.length = ks.length) && decide ks.Nodup) (Q (.dK true (ks.map Sum.inr) (vs.map M.str)) env)
  | .lrg p, env, Q, _ => evP Γ env p fun m => asI m fun n => n.toNat ≤ 16777216 ∧ -4611686018427387904 ≤ n ∧ Q (.lst true (rngL 0 1 n.toNat)) env
  | .call f as, env, Q, X => lentOk env as = true ∧ semGs Γ as env (fun ms env1 => (fillG env1 (as.map agI) ms).all M.ok = true ∧ Γ.fs f (fillG env1 (as.map agI) ms) (fun r ms' => Q r (backG env1 (as.map agI) ms')) (fun x ms' => X x (backG env1 (as.map agI) ms'))) X
  | .callL j as, env, Q, X => (match gt env j with | .fn f => Γ.lf f = true ∧ lentOk env as = true ∧ semGs Γ as env (fun ms env1 => (fillG env1 (as.map agI) ms).all M.ok = true ∧ Γ.fs f (fillG env1 (as.map agI) ms) (fun r ms' => Q r (backG env1 (as.map agI) ms')) (fun x ms' => X x (backG env1 (as.map agI) ms'))) X | _ => False)
  | .meth C m i as, env, Q, X => (match gt env i with | .obj _ C' _ => C = C' | _ => False) ∧ lentOk env as = true ∧ semGs Γ as env (fun ms env1 => (fillG env1 (some i :: as.map agI) ms).all M.ok = true ∧ Γ.ms C m (fillG env1 (some i :: as.map agI) ms) (fun r ms' => Q r (backG env1 (some i :: as.map agI) ms')) (fun x ms' => X x (backG env1 (some i :: as.map agI) ms'))) X
  | .make C as, env, Q, X => lentOk env as = true ∧ semGs Γ as env (fun ms env1 => (fillG env1 (as.map agI) ms).all M.ok = true ∧ Γ.mks C (.obj true C [] :: fillG env1 (as.map agI) ms) (fun r ms' => r = .non ∧ (match ms' with | self :: r' => Q self (backG env1 (as.map agI) r') | [] => False)) (fun x ms' => X x (backG env1 (as.map agI) ms'.tail))) X
  | .mut o i [] es, env, Q, X => yes (gt env i).isL (semEs Γ es env (fun ms env1 => yes (gt env1 i).ok (muE o (gt env1 i) ms fun r c' => Q r (env1.set i c'))) X)
  | .mut o i (s :: st) es, env, Q, X => yes (gt env i).ok (evS Γ env (gt env i) (s :: st) fun l c => yes c.isL (semEs Γ es env (fun ms env1 => muE o c ms fun r c' => Q r (env1.set i (putP (gt env1 i) l c'))) X))
  | .and a b, env, Q, X => semE Γ a env (fun m env1 => asB m fun c => match c with | true => semE Γ b env1 Q X | false => Q (.bl false) env1) X
  | .or a b, env, Q, X => semE Γ a env (fun m env1 => asB m fun c => match c with | true => Q (.bl true) env1 | false => semE Γ b env1 Q X) X
  | .not a, env, Q, X => semE Γ a env (fun m env1 => asB m fun c => Q (.bl (!c)) env1) X
  | .ifx t a b, env, Q, X => semT Γ t env (fun c env1 => match c with | true => semE Γ a env1 Q X | false => semE Γ b env1 Q X) X
  | .comp i it c e, env, Q, X => semI Γ it env (fun ms env1 => cmpL i (fun en q => evTs Γ en c q) (fun en q => semE Γ e en q fun _ _ => False) (fun acc env2 => Q (.lst true acc) (env2.set i (gt env1 i))) ms [] (env1.set i .hole)) X
  | .get2 a k d, env, Q, X => semA Γ a env (fun m env1 => match m with
    | .dK _ ks vs => evP Γ env1 k fun n => evP Γ env1 d fun x => ∃ kk, keyM n = some kk ∧ (match look ks vs kk with | some r => yes (r.fz && x.fz) (Q r env1) | none => yes x.fz (Q x env1))
    | _ => False) X
  | .sll p q, env, Q, X => evP Γ env p fun m => match m with
    | .str cs => semE Γ q env (fun n env1 => asI n fun i => yes (decide (cs.length ≤ sl)) (Q (.str (cutL cs (some i) none)) env1)) X
    | _ => False
  | .mvp i st, env, Q, _ => yes (gt env i).ok (evS Γ env (gt env i) st fun l m => yes m.ok (Q m (env.set i (putP (gt env i) l .hole))))
  | .ixt i st q, env, Q, X => yes (gt env i).ok (evS Γ env (gt env i) st fun l c => semE Γ q env (fun n env1 => ixP Γ.tab c n fun r => yes r.fz (Q r env1)) X)
def semA (Γ : Gm) : A → En → QE → QX → Prop
  | .v p, env, Q, _ => evP Γ env p fun m => Q m env
  | .e q, env, Q, X => semE Γ q env Q X
def semEs (Γ : Gm) : List E → En → (List M → En → Prop) → QX → Prop
  | [], env, Q, _ => Q [] env
  | e :: es, env, Q, X => semE Γ e env (fun m env1 => semEs Γ es env1 (fun ms env2 => Q (m :: ms) env2) X) X
def semGs (Γ : Gm) : List Ag → En → (List M → En → Prop) → QX → Prop
  | [], env, Q, _ => Q [] env
  | .r _ :: as, env, Q, X => semGs Γ as env Q X
  | .e q :: as, env, Q, X => semE Γ q env (fun m env1 => semGs Γ as env1 (fun ms env2 => Q (m :: ms) env2) X) X
def semI (Γ : Gm) : I → En → (List M → En → Prop) → QX → Prop
  | .rng es, env, Q, X => semEs Γ es env (fun ms env1 => match ms with
    | [.int n] => -4611686018427387904 ≤ n ∧ n < 4611686018427387904 ∧ Q (rngL 0 1 n.toNat) env1
    | [.int a, .int b] => (-4611686018427387904 ≤ a ∧ a < 4611686018427387904 ∧ -4611686018427387904 ≤ b ∧ b < 4611686018427387904) ∧ Q (rngL a 1 (b - a).toNat) env1
    | [.int a, .int b, .int c] => (-4611686018427387904 ≤ a ∧ a < 4611686018427387904 ∧ -4611686018427387904 ≤ b ∧ b < 4611686018427387904) ∧
        ((c = -1 ∧ Q (rngL a (-1) (a - b).toNat) env1) ∨ (c = 2 ∧ Q (rngL a 2 ((b - a + 1) / 2).toNat) env1))
    | _ => False) X
  | .val k q, env, Q, X => semE Γ q env (fun m env1 => match itemsK k m with | some ms => Q ms env1 | none => False) X
  | .vw i, env, Q, _ => yes (gt env i).ok (match itemsOf (gt env i).frz with | some ms => Q ms (env.set i (gt env i).frz) | none => False)
  | .pth _ _, _, _, _ => False
def semT (Γ : Gm) : TT → En → (Bool → En → Prop) → QX → Prop
  | .p t, env, Q, _ => evT Γ env t fun c => Q c env
  | .e q, env, Q, X => semE Γ q env (fun m env1 => truM m fun c => Q c env1) X
  | .not t, env, Q, X => semT Γ t env (fun c env1 => Q (!c) env1) X
  | .and a b, env, Q, X => semT Γ a env (fun c env1 => match c with | true => semT Γ b env1 Q X | false => Q false env1) X
  | .or a b, env, Q, X => semT Γ a env (fun c env1 => match c with | true => Q true env1 | false => semT Γ b env1 Q X) X
end

/-! ### readings of S -/
structure Dn where
  nx : En → Prop
  rt : M → En → Prop
  bk : En → Prop
  ct : En → Prop
  ex : Exc → En → Prop
def forL (tg : Nat) (B : Dn → En → Prop) (D : Dn) : List M → En → Prop
  | [], env => D.nx env
  | m :: ms, env => B { nx := forL tg B D ms, ct := forL tg B D ms, bk := D.nx, rt := D.rt, ex := D.ex } (env.set tg m)
/-- over a list that a name holds, which stays as it is -/
def forV (i tg : Nat) (m0 : M) (B : Dn → En → Prop) (D : Dn) : List M → En → Prop
  | [], env => gt env i = m0 ∧ D.nx env
  | m :: ms, env => gt env i = m0 ∧ B { nx := forV i tg m0 B D ms, ct := forV i tg m0 B D ms, bk := D.nx, rt := D.rt, ex := D.ex } (env.set tg m)
/-- the first that passes a test: all ends there -/
def scanL (tg : Nat) (T : En → (Bool → Prop) → Prop) (B : En → Prop) (N : En → Prop) : List M → En → Prop
  | [], env => N env
  | m :: ms, env => T (env.set tg m) fun c => match c with | true => B (env.set tg m) | false => scanL tg T B N ms (env.set tg m)
def whlN (T : En → (Bool → En → Prop) → Prop) (B : Dn → En → Prop) (D : Dn) : Nat → En → Prop
  | 0, _ => False
  | n + 1, env => T env fun c env1 => match c with
    | true => B { nx := whlN T B D n, ct := whlN T B D n, bk := D.nx, rt := D.rt, ex := D.ex } env1
    | false => D.nx env1
def setAll (env : En) : List Nat → List M → En
  | i :: is, m :: ms => setAll (env.set i m) is ms
  | _, _ => env
/-- a dict's entries, put into another -/
def mergeD {κ α : Type} [DecidableEq κ] (ks : List κ) (vs : List α) : List κ → List α → List κ × List α
  | k :: ks2, v :: vs2 => mergeD (putD ks vs k v).1 (putD ks vs k v).2 ks2 vs2
  | _, _ => (ks, vs)
def copyS : M → M → (M → M → Prop) → Prop
  | .dK true ks vs, .dK _ ks2 vs2, Q => yes (fzL vs2) (ks2.Nodup ∧ ks.length + ks2.length ≤ sl ∧ (match ks2.getLast? with | some k => Q (.dK true (mergeD ks vs ks2 vs2).1 (mergeD ks vs ks2 vs2).2) (kM k) | none => False))
  | _, _, _ => False
def setIx : M → M → M → (M → Prop) → Prop
  | .lst true ms, .int i, y, Q => (match ixL ms.length i with | some k => Q (.lst true (ms.set k y)) | none => False)
  | .dK true ks vs, m, y, Q => yes y.fz <| ∃ k, keyM m = some k ∧ ks.length < sl ∧ Q (.dK true (putD ks vs k y).1 (putD ks vs k y).2)
  | .dT true ks vs, .tup ms, y, Q => yes y.fz <| ∃ k, keysM ms = some k ∧ ks.length < sl ∧ Q (.dT true (putD ks vs k y).1 (putD ks vs k y).2)
  | _, _, _, _ => False
mutual
def semS (Γ : Gm) : S → Dn → En → Prop
  | .set i e, D, env => semE Γ e env (fun m env1 => D.nx (env1.set i m)) D.ex
  | .sti i st ix e, D, env => semE Γ e env (fun y env1 => yes (gt env1 i).ok (evS Γ env1 (gt env1 i) st fun l c => evP Γ env1 ix fun k => setIx c k y fun c' => D.nx (env1.set i (putP (gt env1 i) l c')))) D.ex
  | .stk i st q e, D, env => semE Γ e env (fun y env1 => yes (gt env1 i).ok (evS Γ env1 (gt env1 i) st fun l c => semE Γ q env1 (fun k env2 => setIx c k y fun c' => D.nx (env2.set i (putP (gt env2 i) l c'))) D.ex)) D.ex
  | .stf i st C k e, D, env => semE Γ e env (fun y env1 => yes (gt env1 i).ok (evS Γ env1 (gt env1 i) st fun l c => (match c with
      | .obj true C' vs => C = C' ∧ (if k < vs.length then D.nx (env1.set i (putP (gt env1 i) l (.obj true C' (vs.set k y)))) else k = vs.length ∧ D.nx (env1.set i (putP (gt env1 i) l (.obj true C' (vs ++ [y])))))
      | _ => False))) D.ex
  | .aug i o e, D, env => yes (gt env i).ok (semE Γ e env (fun y env1 => yes (gt env1 i).ok (o2P Γ.tab o (gt env1 i) y fun r => yes r.fz (D.nx (env1.set i r)))) D.ex)
  | .augi i st ix o e, D, env => yes (gt env i).ok (evS Γ env (gt env i) st fun l c => evP Γ env ix fun k => ixP Γ.tab c k fun x => evP Γ env e fun y => o2P Γ.tab o x y fun r => yes r.fz (setIx c k r fun c' => D.nx (env.set i (putP (gt env i) l c'))))
  | .unp is e, D, env => semE Γ e env (fun m env1 => (match m with
      | .tup ms => ms.length = is.length ∧ D.nx (setAll env1 is ms)
      | _ => False)) D.ex
  | .ex e, D, env => semE Γ e env (fun _ env1 => D.nx env1) D.ex
  | .ite t a b, D, env => semT Γ t env (fun c env1 => match c with | true => semSs Γ a D env1 | false => semSs Γ b D env1) D.ex
  | .for_ tg (.vw i) b, D, env => yes (gt env i).ok (match itemsOf (gt env i) with | some ms => forV i tg (gt env i) (semSs Γ b) D ms env | none => False)
  | .for_ tg it b, D, env => semI Γ it env (fun ms env1 => forL tg (semSs Γ b) D ms env1) D.ex
  | .whl t b, D, env => ∃ n, whlN (fun en q => semT Γ t en q D.ex) (semSs Γ b) D n env
  | .brk, D, env => D.bk env
  | .cnt, D, env => D.ct env
  | .pass, D, env => D.nx env
  | .ret e, D, env => semE Γ e env D.rt D.ex
  | .retN, D, env => D.rt .non env
  | .raise C es, D, env => semEs Γ es env (fun ms env1 => yes (fzL ms) (D.ex (C, (match Γ.exf C with | true => ms | false => [])) env1)) D.ex
  | .tryS b cs i h, D, env => semSs Γ b { nx := D.nx, rt := D.rt, bk := D.bk, ct := D.ct, ex := fun x env1 => match cs.any (Γ.sub x.1) with
      | true => (match i with
        | some j => ∀ a d, semSs { Γ with ex := some (a, d, x.1) } h { nx := fun en => D.nx (en.set j .hole), rt := D.rt, bk := fun en => D.bk (en.set j .hole), ct := fun en => D.ct (en.set j .hole), ex := fun _ _ => False } (env1.set j (.exc a d x.1 x.2))
        | none => semSs { Γ with ex := none } h { nx := D.nx, rt := D.rt, bk := D.bk, ct := D.ct, ex := fun _ _ => False } env1)
      | false => D.ex x env1 } env
  | .doc, D, env => D.nx env
  | .copyD i j tg, D, env => yes ((gt env i).ok && (gt env j).ok && decide (tg < env.length)) (copyS (gt env i) (gt env j) fun c k => D.nx ((env.set i c).set tg k))
  | .scan tg i st t b, D, env => yes (gt env i).ok (evS Γ env (gt env i) st fun l c => (match c with
      | .lst _ ms => yes (fzL ms) (scanL tg (fun en => evT Γ en t) (semSs Γ b { nx := fun _ => False, rt := D.rt, bk := D.nx, ct := fun _ => False, ex := D.ex }) D.nx ms env)
      | _ => False))
def semSs (Γ : Gm) : List S → Dn → En → Prop
  | [], D, env => D.nx env
  | s :: r, D, env => semS Γ s { nx := semSs Γ r D, rt := D.rt, bk := D.bk, ct := D.ct, ex := D.ex } env
end
end Q
set_option Elab.async false
set_option linter.all false
set_option maxRecDepth 100000
set_option maxHeartbeats 4000000
namespace Q
open PySem PySem.Spec PyProof.Rows L2

/-! ### what is known of a def when its text is compared -/
structure Sc where
  N : List Str
  sc : Scope
  gn : List Str
  fr : List Str
  fl : String → List Str
  k : Nat
  fns : List (String × Str)
  mts : List (String × Str)
  mks : List (String × Str)
  xrs : List (String × Str) := []
  xri : List (String × Str) := []
  xns : List (String × Str) := []
  hot : Bool := false
def visB (sc : Scope) (x : Str) : Bool := match sc.names.lookup x with
  | some .local => true
  | some .cell => true
  | some .free => true
  | _ => false
def locB (sc : Scope) (x : Str) : Bool := match sc.names.lookup x with
  | some .local => true
  | some .cell => true
  | _ => false
def glB (sc : Scope) (x : Str) : Bool := decide (sc.names.lookup x = some .globalImplicit)
def dbg (x : Str) : Bool := !(x == ("__debug__" : Str)) && !(x == ("__classdict__" : Str)) && !(x == ("__name__" : Str))
def slB (c : Sc) (x : Str) (i : Nat) : Bool := decide (c.N[i]? = some x) && dbg x
/-- the built-in b, by its name -/
def blB (c : Sc) (x : Str) (b : String) : Bool := decide (x = Str.ofString b) && glB c.sc x && c.fr.contains x && dbg x
def nStar : Expr → Bool
  | .Starred _ _ => false
  | _ => true
def nSup : Expr → Bool
  | .Call (.Name id _) [] [] _ => id != ("super" : Str)
  | _ => true
def nSli : Expr → Bool
  | .Slice _ _ _ _ => false
  | _ => true
def nSet : Expr → Bool
  | .Set _ _ _ => false
  | _ => true
/-- no test of its own -/
def nTst : Expr → Bool
  | .UnaryOp .Not _ _ => false
  | .BoolOp _ _ _ => false
  | .IfExp _ _ _ _ => false
  | .Compare _ _ _ _ => false
  | _ => true
def isCmp : Expr → Bool
  | .Compare _ _ _ _ => true
  | _ => false
def nComp : Expr → Bool
  | .ListComp _ _ _ _ => false
  | .SetComp _ _ _ _ => false
  | .DictComp _ _ _ _ _ => false
  | _ => true
theorem starEach_n {e : Expr} {es : List Expr} {env : Env} (h : nStar e = true) : starEach (e :: es) env = (false, eval e env) :: starEach es env := by
  cases e <;> first
    | (cases h; done)
    | rfl
theorem base_n {o : Expr} {f : Str} {env : Env} {whole : Sem Value} (h : nSup o = true) : attributeBase o f env whole = whole := by
  unfold attributeBase
  split
  · rename_i id _ _
    have h : (id != ("super" : Str)) = true := h
    simp [h]
  · rfl
theorem subs_n {i : Expr} {o v : Value} (h : nSli i = true) : subscripted i false o v = operate [o, v] (getItem o v) := by
  unfold subscripted
  split
  · cases h
  · rename_i hh; cases hh
  · rfl
theorem mark_n {op : CmpOp} {e : Expr} (h : nSet e = true) : behindInMarks op e = false := by
  unfold behindInMarks
  split
  · cases h
  · rfl
theorem tst_n {e : Expr} {env : Env} (h : nTst e = true) : ∀ whole, isTrue e env whole = (do let v ← whole; standAt e.pos; holding [v] (truthy v)) := by
  intro whole
  cases e <;> first
    | (cases h; done)
    | rfl
    | (rename_i op _ _; cases op <;> first | (cases h; done) | rfl)
theorem swp_n {e : Expr} {t : Option Expr} {n : Nat} {env : Env} (h : nComp e = true) : swapsWith e t n env = pure false := by
  cases e <;> first
    | (cases h; done)
    | rfl

/-! views of a text -/
def vBin : Expr → Option (Operator × Expr × Expr)
  | .BinOp a op b _ => some (op, a, b)
  | _ => none
theorem vBin_i {e : Expr} {op a b} (h : vBin e = some (op, a, b)) : ∃ p, e = .BinOp a op b p := by
  unfold vBin at h; split at h
  · cases h; exact ⟨_, rfl⟩
  · cases h
def vCmp : Expr → Option (CmpOp × Expr × Expr)
  | .Compare a [op] [b] _ => some (op, a, b)
  | _ => none
theorem vCmp_i {e : Expr} {op a b} (h : vCmp e = some (op, a, b)) : ∃ p, e = .Compare a [op] [b] p := by
  unfold vCmp at h; split at h
  · cases h; exact ⟨_, rfl⟩
  · cases h
def vCmp2 : Expr → Option (CmpOp × CmpOp × Expr × Expr × Expr)
  | .Compare a [op, op2] [b, c] _ => some (op, op2, a, b, c)
  | _ => none
theorem vCmp2_i {e : Expr} {op op2 a b c} (h : vCmp2 e = some (op, op2, a, b, c)) : ∃ p, e = .Compare a [op, op2] [b, c] p := by
  unfold vCmp2 at h; split at h
  · cases h; exact ⟨_, rfl⟩
  · cases h
def vSub : Expr → Option (Expr × Expr)
  | .Subscript a b _ => some (a, b)
  | _ => none
theorem vSub_i {e : Expr} {a b} (h : vSub e = some (a, b)) : ∃ p, e = .Subscript a b p := by
  unfold vSub at h; split at h
  · cases h; exact ⟨_, rfl⟩
  · cases h
def vSli : Expr → Option (Expr × Option Expr × Option Expr)
  | .Subscript a (.Slice lo hi none _) _ => some (a, lo, hi)
  | _ => none
theorem vSli_i {e : Expr} {a lo hi} (h : vSli e = some (a, lo, hi)) : ∃ p q, e = .Subscript a (.Slice lo hi none p) q := by
  unfold vSli at h; split at h
  · cases h; exact ⟨_, _, rfl⟩
  · cases h
def vCall : Expr → Option (Str × List Expr)
  | .Call (.Name f _) es [] _ => some (f, es)
  | _ => none
theorem vCall_i {e : Expr} {f es} (h : vCall e = some (f, es)) : ∃ p q, e = .Call (.Name f p) es [] q := by
  unfold vCall at h; split at h
  · cases h; exact ⟨_, _, rfl⟩
  · cases h
def vAtt : Expr → Option (Expr × Str)
  | .Attribute a f _ => some (a, f)
  | _ => none
theorem vAtt_i {e : Expr} {a f} (h : vAtt e = some (a, f)) : ∃ p, e = .Attribute a f p := by
  unfold vAtt at h; split at h
  · cases h; exact ⟨_, rfl⟩
  · cases h
/-- o.m(es): the receiver, the name, the arguments, whether they stand on one line -/
def vMet : Expr → Option (Expr × Str × List Expr × Bool)
  | .Call (.Attribute o m ap) es [] p => some (o, m, es, ap.endLine == p.line)
  | _ => none
theorem vMet_i {e : Expr} {o m es l} (h : vMet e = some (o, m, es, l)) : ∃ ap p, e = .Call (.Attribute o m ap) es [] p ∧ l = (ap.endLine == p.line) := by
  unfold vMet at h; split at h
  · cases h; exact ⟨_, _, rfl, rfl⟩
  · cases h
def vUn : Expr → Option (UnaryOp × Expr)
  | .UnaryOp op a _ => some (op, a)
  | _ => none
theorem vUn_i {e : Expr} {op a} (h : vUn e = some (op, a)) : ∃ p, e = .UnaryOp op a p := by
  unfold vUn at h; split at h
  · cases h; exact ⟨_, rfl⟩
  · cases h
def vBoo : Expr → Option (BoolOp × List Expr)
  | .BoolOp op es _ => some (op, es)
  | _ => none
theorem vBoo_i {e : Expr} {op es} (h : vBoo e = some (op, es)) : ∃ p, e = .BoolOp op es p := by
  unfold vBoo at h; split at h
  · cases h; exact ⟨_, rfl⟩
  · cases h
def vIfx : Expr → Option (Expr × Expr × Expr)
  | .IfExp t a b _ => some (t, a, b)
  | _ => none
theorem vIfx_i {e : Expr} {t a b} (h : vIfx e = some (t, a, b)) : ∃ p, e = .IfExp t a b p := by
  unfold vIfx at h; split at h
  · cases h; exact ⟨_, rfl⟩
  · cases h
def vNam : Expr → Option Str
  | .Name x _ => some x
  | _ => none
theorem vNam_i {e : Expr} {x} (h : vNam e = some x) : ∃ p, e = .Name x p := by
  unfold vNam at h; split at h
  · cases h; exact ⟨_, rfl⟩
  · cases h
def isNon : Expr → Bool
  | .Constant .none _ _ => true
  | _ => false
theorem isNon_i {e : Expr} (h : isNon e = true) : ∃ k p, e = .Constant .none k p := by
  unfold isNon at h; split at h
  · exact ⟨_, _, rfl⟩
  · cases h

/-! ### the comparison of a text with P, T -/
def bOp : O2 → Option Operator
  | .add => some .Add | .sub => some .Sub | .mul => some .Mult | .fdiv => some .FloorDiv | .mod => some .Mod
  | .pow => some .Pow | .shl => some .LShift | .shr => some .RShift | .band => some .BitAnd | _ => none
def cOp : O2 → Option CmpOp
  | .lt => some .Lt | .le => some .LtE | .gt => some .Gt | .ge => some .GtE | .eq => some .Eq | .ne => some .NotEq
  | .isin => some .In | .notin => some .NotIn | _ => none
def f2Op : O2 → Option String
  | .min2 => some "min" | .max2 => some "max" | _ => none
def m1Op : O2 → Option String
  | .join => some "join" | .startswith => some "startswith" | .find => some "find" | _ => none
/-- a built-in of one argument: a function (true) or a class -/
def f1Op : O1 → Option (String × Bool)
  | .len => some ("len", true) | .abs => some ("abs", true) | .sum => some ("sum", true) | .maxL => some ("max", true) | .minL => some ("min", true)
  | .toInt => some ("int", false) | .toStr => some ("str", false) | _ => none
def tyName (c : Sc) (e : Expr) (t : String) : Bool := match vNam e with
  | some x => blB c x t
  | none => false
/-- the text of one place under an operator, a built-in .. -/
theorem cold_s {c : Sc} (h : (!c.hot || false) = true) : c.hot = false := by simpa using h
theorem cold_n {c : Sc} (h : (!c.hot) = true) : c.hot = false := by simpa using h
/-- in an except suite: not these -/
def coldO (c : Sc) (o : O1) : Bool := !c.hot || (match o with | .sum => false | .maxL => false | .minL => false | _ => true)
def xcOk (c : Sc) (e : Expr) (C : String) : Bool := match vNam e with
  | some x => c.xns.contains (C, x) && glB c.sc x && dbg x
  | none => false
def xcsOk (c : Sc) : List Expr → List String → Bool
  | [], [] => true
  | e :: es, C :: cs => nStar e && xcOk c e C && xcsOk c es cs
  | _, _ => false
def chk1 (c : Sc) (o : O1) (ca : Expr → Bool) (e : Expr) : Bool := match o with
  | .neg => (match vUn e with | some (.USub, x) => ca x | _ => false)
  | .isN => (match vCmp e with | some (.Is, x, n) => isNon n && ca x | _ => false)
  | .notN => (match vCmp e with | some (.IsNot, x, n) => isNon n && ca x | _ => false)
  | .fld C k => (match vAtt e with | some (x, f) => nSup x && decide ((c.fl C)[k]? = some f) && ca x | none => false)
  | .isi ts => (match vCall e, ts with
    | some (f, [x, t]), [n] => blB c f "isinstance" && nStar x && nStar t && ca x && tyName c t n && ["bool", "int", "str", "list", "tuple", "dict"].contains n
    | _, _ => false)
  | .upper => (match vMet e with | some (x, m, [], l) => l && decide (m = Str.ofString "upper") && nSup x && ca x | _ => false)
  | o => (match f1Op o, vCall e with
    | some (n, _), some (f, [x]) => coldO c o && blB c f n && nStar x && ca x
    | _, _ => false)
def chk2 (c : Sc) (o : O2) (ca cb : Expr → Bool) (e : Expr) : Bool := match o with
  | .idx => (match vSub e with | some (x, y) => nSli y && ca x && cb y | none => false)
  | o => (match vBin e with
    | some (op, x, y) => decide (bOp o = some op) && ca x && cb y
    | none => (match vCmp e with
      | some (op, x, y) => decide (cOp o = some op) && nSet y && ca x && cb y
      | none => (match vCall e, f2Op o with
        | some (f, [x, y]), some n => !c.hot && blB c f n && nStar x && nStar y && ca x && cb y
        | _, _ => (match vMet e, m1Op o with
          | some (x, m, [y], l), some n => l && decide (m = Str.ofString n) && nSup x && nStar y && ca x && cb y
          | _, _ => false))))
mutual
def chkP (c : Sc) : P → Expr → Bool
  | .int i, e => (match e with | .Constant (.int j) _ _ => decide (i = j) | _ => false)
  | .str cs, e => (match e with | .Constant (.str x) _ _ => decide (x.cps.toList = cs) | _ => false)
  | .bl b, e => (match e with | .Constant (.bool j) _ _ => decide (b = j) | _ => false)
  | .non, e => isNon e
  | .var i, e => (match vNam e with | some x => slB c x i && visB c.sc x | none => false)
  | .glb k, e => (match vNam e with | some x => decide (c.gn[k]? = some x) && glB c.sc x && dbg x | none => false)
  | .o1 o a, e => chk1 c o (chkP c a) e
  | .o2 o a b, e => chk2 c o (chkP c a) (chkP c b) e
  | .slS a lo hi, e => (match vSli e with
    | some (x, l, h) => chkP c a x && chkO c lo l && chkO c hi h
    | none => false)
  | .and a b, e => (match vBoo e with
    | some (.And, [x, y]) => chkP c a x && chkP c b y
    | some (.And, x :: y :: z :: r) => chkP c a x && chkP c b (.BoolOp .And (y :: z :: r) e.pos)
    | _ => false)
  | .or a b, e => (match vBoo e with
    | some (.Or, [x, y]) => chkP c a x && chkP c b y
    | some (.Or, x :: y :: z :: r) => chkP c a x && chkP c b (.BoolOp .Or (y :: z :: r) e.pos)
    | _ => false)
  | .not a, e => (match vUn e with | some (.Not, x) => chkP c a x | _ => false)
  | .ifx t a b, e => (match vIfx e with | some (x, y, z) => chkT c t x && chkP c a y && chkP c b z | _ => false)
  | .chain o p a b d, e => (match vCmp2 e with
    | some (op, op2, x, y, z) => decide (cOp o = some op) && decide (cOp p = some op2) && nSet z && chkP c a x && chkP c b y && chkP c d z
    | none => false)
  | .exI i cs, e => (match vCall e with
    | some (f, [x, t]) => c.hot && blB c f "isinstance" && (match vNam x with | some n => slB c n i && visB c.sc n | none => false) && nStar t && (match cs with
      | [C] => xcOk c t C
      | _ => false)
    | _ => false)
  | .exF i k Cs, e => (match vAtt e with
    | some (x, f) => c.hot && (match vNam x with | some n => slB c n i && visB c.sc n | none => false) && Cs.all fun C => decide ((c.fl C)[k]? = some f)
    | none => false)
def chkO (c : Sc) : Option P → Option Expr → Bool
  | none, none => true
  | some p, some e => chkP c p e
  | _, _ => false
def chkT (c : Sc) : T → Expr → Bool
  | .p a, e => (nTst e || isCmp e) && chkP c a e
  | .not t, e => (match vUn e with | some (.Not, x) => chkT c t x | _ => false)
  | .and a b, e => (match vBoo e with
    | some (.And, [x, y]) => chkT c a x && chkT c b y
    | some (.And, x :: y :: z :: r) => chkT c a x && chkT c b (.BoolOp .And (y :: z :: r) e.pos)
    | _ => false)
  | .or a b, e => (match vBoo e with
    | some (.Or, [x, y]) => chkT c a x && chkT c b y
    | some (.Or, x :: y :: z :: r) => chkT c a x && chkT c b (.BoolOp .Or (y :: z :: r) e.pos)
    | _ => false)
end

/-! ### the state -/
structure Bs where
  G0 : Hp
  H0 : Hp
  c0 : Cn
  s0 : L2.St
  fx : List Nat
abbrev gv (o : Option V) : V := o.getD .non
structure Rel (g : Gi) (B : Bs) (env : En) (Fr : List (V × M)) (σ : L2.St) (H G : Hp) : Prop where
  sGH : Same G H
  sG0 : Same B.G0 G
  len : σ.length = env.length
  own : ∃ c d, OwnL g G H (σ.map gv) env c ∧ OwnL g G H (Fr.map (·.1)) (Fr.map (·.2)) d ∧ (∀ b, c b + d b ≤ 1) ∧ (∀ b, 1 ≤ c b + d b → 1 ≤ B.c0 b ∨ B.H0 b = none)
  asg : ∀ i, gt env i ≠ .hole → ∃ v, σ[i]? = some (some v)
  off : ∀ b x, B.H0 b = some x → B.c0 b = 0 → H b = some x
  fro : ∀ b, G b ≠ none → B.G0 b ≠ none ∨ 1 ≤ B.c0 b ∨ B.H0 b = none
  fix : ∀ i ∈ B.fx, σ[i]? = B.s0[i]?
theorem gt_get : ∀ {env : En} {i : Nat}, gt env i ≠ .hole → env[i]? = some (gt env i)
  | [], _, h => absurd rfl h
  | m :: r, 0, _ => rfl
  | m :: r, i + 1, h => by
    have h' : gt r i ≠ .hole := h
    exact (List.getElem?_cons_succ).trans (gt_get (env := r) (i := i) h')
theorem get_gt : ∀ {env : En} {i : Nat} {m : M}, env[i]? = some m → gt env i = m
  | [], _, _, h => by simp at h
  | m :: r, 0, _, h => Option.some.inj (List.getElem?_cons_zero.symm.trans h)
  | m :: r, i + 1, _, h => get_gt (env := r) (i := i) (by simpa using h)
theorem ok_hole {m : M} (h : m.ok = true) : m ≠ .hole := fun e => by rw [e] at h; cases h
section
variable {g : Gi} {B : Bs} {env : En} {Fr : List (V × M)} {σ : L2.St} {H G : Hp}
theorem Rel.var (r : Rel g B env Fr σ H G) {i : Nat} (h : gt env i ≠ .hole) : ∃ v c, σ[i]? = some (some v) ∧ Own g G H v (gt env i) c := by
  obtain ⟨c, d, hc, _, _, _⟩ := r.own
  obtain ⟨v, c1, hv, ho, _⟩ := OwnL.get hc (gt_get h)
  obtain ⟨v', hv'⟩ := r.asg i h
  rw [List.getElem?_map, hv'] at hv
  have e : v' = v := by simpa using hv
  exact ⟨v, c1, e ▸ hv', ho⟩
end

/-- what a dict of the top holds at a text -/
def KD (K : PySem.W.Frag) (w : World) (a : Addr) (x : Str) (r : Option V) : Prop :=
  ∃ es n u, K.lookup a = some ⟨.type "dict", none, .dict es n, #[]⟩ ∧ PySem.W.KeysLit w.params es.toList ∧ (a == sysModules) = false ∧ PySem.W.nsIn K a x = some u ∧ RelO r u
/-! ### the context -/
/-- the name x of a class C that isinstance, except ask of -/
structure XName (g : Gi) (Γ : Gm) (C : String) (x : Str) : Prop where
  nm : ∃ u : Value, (g.mg x = some u ∨ (g.mg x = none ∧ bootBuiltins x = some u)) ∧ (∃ v : V, RelV v u ∧ ∀ w, RelV v w → w = u) ∧ ∀ D, D ∈ g.xcs → PySem.W.kitOne g.K (.ref (g.ca D)) u = some (Γ.sub D C) ∧ PySem.W.exmOne g.K (.ref (g.ca D)) u = some (Γ.sub D C)
/-- an exception class of the program -/
structure XCls (g : Gi) (C : String) : Prop where
  xf : XfC g.K (g.ca C)
  xc : ExcC g.K (g.ca C)
  no : ∀ f, f ∈ g.fl C → PySem.W.findIn g.K (.ref (g.ca C)) f = some none

structure Good (g : Gi) (c : Sc) (Γ : Gm) (X : Cx) : Prop where
  eK : X.K = g.K
  eP : X.prog = g.P
  ew : X.w = g.w
  emg : X.mg = g.mg
  ebase : X.base = g.base
  eN : X.N = c.N
  esc : X.env.scope = c.sc
  nd : X.N.Nodup
  calm : c.hot = false → X.calm = true
  room : c.hot = false → Room c.k X.A
  un : X.A.units + 8 < cLine
  hotx : c.hot = true → Γ.ex = none ∨ ∃ (X0 : Cx) (a : Addr) (oe : Obj) (pn : List (Addr × Obj)) (cls : Value) (d : Option Addr) (C : String), X = X0.suite a ((a, oe) :: pn) ∧ Zc cls d oe ∧ (∃ vs, oe.data = .fields vs) ∧ Γ.ex = some (a, d, C) ∧ cls = .ref (g.ca C) ∧ C ∈ g.xcs
  xcl : ∀ C x, (C, x) ∈ c.xns → XName g Γ C x
  xok : ∀ C, C ∈ g.xcs → XCls g C
  fl : g.fl = c.fl
  fr : ∀ x : Str, c.fr.contains x = true → g.mg x = none
  gl : ∀ (k : Nat) (x : Str), c.gn[k]? = some x → ∃ m v u, Γ.gv[k]? = some m ∧ RelV v u ∧ g.mg x = some u ∧ ∀ G H, Own g G H v m (fun _ => 0)
  tab : ∀ (n : String), g.gds.contains n = true → ∀ (cs : List Nat), match Γ.tab n cs with
    | some r => ∃ v, KD g.K g.w (g.ga n) (sS cs) (some v) ∧ ∀ G H, Own g G H v r (fun _ => 0)
    | none => KD g.K g.w (g.ga n) (sS cs) none
  cls : ∀ (C : String) (k : Nat) (f : Str), (c.fl C)[k]? = some f → Cls g.K (g.ca C) ∧ NoAttr g.K (g.ca C) f
  fnd : ∀ C : String, (c.fl C).Nodup
end Q
set_option Elab.async false
set_option linter.all false
set_option maxRecDepth 100000
set_option maxHeartbeats 4000000
namespace Q
open PySem PySem.Spec PyProof.Rows L2
local macro_rules | `(tactic| walk_at "cn") => `(tactic| ((try dsimp only at *); omega))
variable {g : Gi} {G H : Hp} {x y : V} {m n : M} {c d : Cn}

theorem sl_line : sizeLine = 16777216 := sizeLine_eq
theorem sS_len (cs : List Nat) : (sS cs).length = cs.length := by simp [Str.length]
theorem sS_app (a b : List Nat) : sS a ++ sS b = sS (a ++ b) := by
  apply TL.ext_tl
  show (sS a ++ sS b).cps.toList = _
  first | rfl | simp [TL.tl_append] | (have e := TL.tl_append (sS a) (sS b); exact e)
theorem sS_of (z : Str) : sS z.cps.toList = z := TL.mk_tl z
theorem sS_inj {a b : List Nat} (h : sS a = sS b) : a = b := congrArg TL.tl h
theorem pIx_eq (n d : Nat) (o : Option Int) : pIx n d o = HT.sIx n d o := by
  cases o with
  | none => rfl
  | some i =>
    have h := HT.clip_eq i n d
    unfold pIx
    dsimp only
    split at h
    · rename_i h0; rw [if_pos h0]; omega
    · rename_i h0; rw [if_neg h0]; omega
theorem cutL_eq {α : Type} (xs : List α) (lo hi : Option Int) : cutL xs lo hi = (xs.drop (HT.sIx xs.length 0 lo)).take (HT.sIx xs.length xs.length hi - HT.sIx xs.length 0 lo) := by
  unfold cutL
  rw [pIx_eq, pIx_eq]
theorem ixL_eq (n : Nat) (i : Int) : ixL n i = ixN n i := rfl
theorem atL_eq {α : Type} (xs : List α) (i : Int) : atL xs i = atI xs i := by
  unfold atL atI
  rw [ixL_eq]
  cases ixN xs.length i <;> rfl

/-! flat things -/
theorem Own.flat {v : V} (h : Own g G H v m c) (f : m.flat = true) : flatV v = true := by
  cases m <;> first
    | (cases f; done)
    | (obtain ⟨rfl, _⟩ := h; rfl)
theorem Own.eqV {v u : V} (h : Own g G H v m c) (f : m.flat = true) (k : Own g G H u n d) (e : n.flat = true) : L2.eqV v u = eqF m n := by
  cases m <;> first
    | (cases f; done)
    | (obtain ⟨rfl, _⟩ := h
       cases n <;> first
        | (cases e; done)
        | (obtain ⟨rfl, _⟩ := k
           first
            | rfl
            | (show (sS _ == sS _) = (_ == _)
               rw [Bool.eq_iff_iff]
               simp only [beq_iff_eq]
               exact ⟨sS_inj, fun e => by rw [e]⟩)))
theorem OwnL.flat : ∀ {ms : List M} {vs : List V} {c : Cn}, OwnL g G H vs ms c → ms.all M.flat = true → vs.all flatV = true
  | [], [], _, _, _ => rfl
  | [], _ :: _, _, h, _ => h.elim
  | _ :: _, [], _, h, _ => h.elim
  | m :: ms, v :: vs, _, ⟨c1, c2, h1, h2, _⟩, e => by
    rw [List.all_cons, Bool.and_eq_true] at e ⊢
    exact ⟨Own.flat h1 e.1, OwnL.flat h2 e.2⟩
theorem OwnL.inV {x : V} (hx : Own g G H x n d) (fx : n.flat = true) : ∀ {ms : List M} {vs : List V} {c : Cn}, OwnL g G H vs ms c → ms.all M.flat = true → L2.inV x vs = ms.any fun y => eqF y n
  | [], [], _, _, _ => rfl
  | [], _ :: _, _, h, _ => h.elim
  | _ :: _, [], _, h, _ => h.elim
  | m :: ms, v :: vs, _, ⟨c1, c2, h1, h2, _⟩, e => by
    rw [List.all_cons, Bool.and_eq_true] at e
    show (L2.eqV v x || L2.inV x vs) = (eqF m n || ms.any fun y => eqF y n)
    rw [Own.eqV h1 e.1 hx fx, OwnL.inV hx fx h2 e.2]
theorem Own.scal {v u : V} (h : Own g G H v m c) (k : Own g G H u n d) (s : scl m n = true) : L2.scal v u = true ∧ decide (v = u) = eqF m n := by
  cases m <;> first
    | (cases s; done)
    | (obtain ⟨rfl, _⟩ := h
       cases n <;> first
        | (cases s; done)
        | (obtain ⟨rfl, _⟩ := k
           refine ⟨rfl, ?_⟩
           first
            | rfl
            | (show decide _ = (_ == _)
               rw [Bool.eq_iff_iff]
               simp [V.int.injEq, V.bl.injEq, V.str.injEq])
            | (show decide _ = (_ == _)
               rw [Bool.eq_iff_iff]
               simp only [decide_eq_true_eq, beq_iff_eq, V.str.injEq]
               exact ⟨sS_inj, fun e => by rw [e]⟩)
            | (show decide _ = false
               exact decide_eq_false (fun z => nomatch z))))
theorem Own.key {v : V} {k : MK} (h : Own g G H v m c) (e : keyM m = some k) : v = kV (kk k) := by
  cases m <;> first
    | (cases e; done)
    | (obtain ⟨rfl, _⟩ := h; cases e; rfl)
theorem OwnL.keys : ∀ {ms : List M} {vs : List V} {c : Cn} {ks : List MK}, OwnL g G H vs ms c → keysM ms = some ks → vs = (ks.map kk).map kV
  | [], [], _, _, _, e => by cases e; rfl
  | [], _ :: _, _, _, h, _ => h.elim
  | _ :: _, [], _, _, h, _ => h.elim
  | m :: ms, v :: vs, _, ks, ⟨c1, c2, h1, h2, _⟩, e => by
    unfold keysM at e
    split at e
    · rename_i k ks' e1 e2
      cases e
      rw [Own.key h1 e1, OwnL.keys h2 e2] <;> rfl
    · cases e
theorem OwnL.ints : ∀ {ms : List M} {vs : List V} {c : Cn} {ns : List Int}, OwnL g G H vs ms c → intsOf ms = some ns → vs = ns.map V.int
  | [], [], _, _, _, e => by cases e; rfl
  | [], _ :: _, _, _, h, _ => h.elim
  | _ :: _, [], _, _, h, _ => h.elim
  | .int i :: ms, v :: vs, _, ns, ⟨c1, c2, ⟨ev, _⟩, h2, _⟩, e => by
    subst ev
    unfold intsOf at e
    obtain ⟨ns', e1, rfl⟩ := Option.map_eq_some_iff.mp e
    rw [OwnL.ints h2 e1] <;> rfl
  | .non :: _, _ :: _, _, _, _, e => nomatch e
  | .bl _ :: _, _ :: _, _, _, _, e => nomatch e
  | .str _ :: _, _ :: _, _, _, _, e => nomatch e
  | .lst _ _ :: _, _ :: _, _, _, _, e => nomatch e
  | .tup _ :: _, _ :: _, _, _, _, e => nomatch e
  | .ktup _ :: _, _ :: _, _, _, _, e => nomatch e
  | .dK _ _ _ :: _, _ :: _, _, _, _, e => nomatch e
  | .dT _ _ _ :: _, _ :: _, _, _, _, e => nomatch e
  | .obj _ _ _ :: _, _ :: _, _, _, _, e => nomatch e
  | .fn _ :: _, _ :: _, _, _, _, e => nomatch e
  | .cl _ :: _, _ :: _, _, _, _, e => nomatch e
  | .ty _ :: _, _ :: _, _, _, _, e => nomatch e
  | .gd _ :: _, _ :: _, _, _, _, e => nomatch e
  | .scr _ :: _, _ :: _, _, _, _, e => nomatch e
  | .exc _ _ _ _ :: _, _ :: _, _, _, _, e => nomatch e
  | .hole :: _, _ :: _, _, _, _, e => nomatch e
theorem OwnL.strs : ∀ {ms : List M} {vs : List V} {c : Cn} {ns : List (List Nat)}, OwnL g G H vs ms c → strsOf ms = some ns → vs = (ns.map sS).map V.str
  | [], [], _, _, _, e => by cases e; rfl
  | [], _ :: _, _, _, h, _ => h.elim
  | _ :: _, [], _, _, h, _ => h.elim
  | .str i :: ms, v :: vs, _, ns, ⟨c1, c2, ⟨ev, _⟩, h2, _⟩, e => by
    subst ev
    unfold strsOf at e
    obtain ⟨ns', e1, rfl⟩ := Option.map_eq_some_iff.mp e
    rw [OwnL.strs h2 e1] <;> rfl
  | .non :: _, _ :: _, _, _, _, e => nomatch e
  | .bl _ :: _, _ :: _, _, _, _, e => nomatch e
  | .int _ :: _, _ :: _, _, _, _, e => nomatch e
  | .lst _ _ :: _, _ :: _, _, _, _, e => nomatch e
  | .tup _ :: _, _ :: _, _, _, _, e => nomatch e
  | .ktup _ :: _, _ :: _, _, _, _, e => nomatch e
  | .dK _ _ _ :: _, _ :: _, _, _, _, e => nomatch e
  | .dT _ _ _ :: _, _ :: _, _, _, _, e => nomatch e
  | .obj _ _ _ :: _, _ :: _, _, _, _, e => nomatch e
  | .fn _ :: _, _ :: _, _, _, _, e => nomatch e
  | .cl _ :: _, _ :: _, _, _, _, e => nomatch e
  | .ty _ :: _, _ :: _, _, _, _, e => nomatch e
  | .gd _ :: _, _ :: _, _, _, _, e => nomatch e
  | .scr _ :: _, _ :: _, _, _, _, e => nomatch e
  | .exc _ _ _ _ :: _, _ :: _, _, _, _, e => nomatch e
  | .hole :: _, _ :: _, _, _, _, e => nomatch e

/-! dicts -/
theorem kk_inj {a b : MK} (h : kk a = kk b) : a = b := by
  cases a <;> cases b <;> first
    | (cases h; rfl)
    | (have e := Sum.inr.inj h; rw [sS_inj e])
    | (cases h; done)
theorem kks_inj {a b : List MK} (h : a.map kk = b.map kk) : a = b := by
  induction a generalizing b with
  | nil => cases b with
    | nil => rfl
    | cons _ _ => cases h
  | cons x r ih => cases b with
    | nil => cases h
    | cons y s =>
      obtain ⟨h1, h2⟩ := List.cons.inj (show kk x :: r.map kk = kk y :: s.map kk from h)
      rw [kk_inj h1, ih h2]
theorem look_val {κ κ' : Type} [DecidableEq κ] [DecidableEq κ'] {f : κ → κ'} (inj : ∀ a b, f a = f b → a = b) {k : κ} : ∀ {ks : List κ} {vs : List V} {ms : List M} {c : Cn}, OwnL g G H vs ms c → ks.length = vs.length →
    (match look ks ms k with
    | some r => ∃ v c', valV ((ks.map f).zip vs) (f k) = some v ∧ Own g G H v r c' ∧ ∀ b, c' b ≤ c b
    | none => valV ((ks.map f).zip vs) (f k) = none)
  | [], [], _, _, h, _ => by
    cases h' : look ([] : List κ) _ k with
    | none => rfl
    | some r => simp [look] at h'
  | [], _ :: _, _, _, _, e => by cases e
  | _ :: _, [], _, _, _, e => by cases e
  | j :: ks, v :: vs, [], _, h, _ => h.elim
  | j :: ks, v :: vs, m :: ms, c, ⟨c1, c2, h1, h2, hc⟩, e => by
    unfold look
    by_cases hj : j = k
    · rw [if_pos hj]
      exact ⟨v, c1, valV_pos (congrArg f hj), h1, fun b => by rw [hc]; omega⟩
    · rw [if_neg hj]
      have hn : ¬ f j = f k := fun z => hj (inj _ _ z)
      have ih := look_val inj (k := k) h2 (Nat.succ.inj e)
      show (match look ks ms k with
        | some r => ∃ v', ∃ c', valV ((f j, v) :: (ks.map f).zip vs) (f k) = some v' ∧ Own g G H v' r c' ∧ ∀ b, c' b ≤ c b
        | none => valV ((f j, v) :: (ks.map f).zip vs) (f k) = none)
      rw [valV_neg hn]
      cases hl : look ks ms k with
      | none => rw [hl] at ih; exact ih
      | some r =>
        rw [hl] at ih
        obtain ⟨v', c', a1, a2, a3⟩ := ih
        exact ⟨v', c', a1, a2, fun b => by have := a3 b; rw [hc]; omega⟩
/-- a dict as it stands: it may be asked -/
theorem Own.dk {o : Bool} {ks : List MK} {vs : List M} (sG : Same G H) (h : Own g G H x (.dK o ks vs) c) : ∃ a us c', x = .ref a ∧ H a = some (.dK ((ks.map kk).zip us)) ∧ ks.length = us.length ∧ OwnL g G H us vs c' ∧ ∀ b, c' b ≤ c b := by
  cases o with
  | true =>
    obtain ⟨a, us, c', rfl, _, hh, hn, hl, hc⟩ := h
    exact ⟨a, us, c', rfl, hh, hn, hl, fun b => by rw [hc]; omega⟩
  | false =>
    obtain ⟨a, us, rfl, hg, hn, hl, _⟩ := h
    exact ⟨a, us, c, rfl, sG _ _ hg, hn, hl, fun b => Nat.le_refl _⟩
theorem Own.dt {o : Bool} {ks : List (List MK)} {vs : List M} (sG : Same G H) (h : Own g G H x (.dT o ks vs) c) : ∃ a us c', x = .ref a ∧ H a = some (.dT ((ks.map (·.map kk)).zip us)) ∧ ks.length = us.length ∧ OwnL g G H us vs c' ∧ ∀ b, c' b ≤ c b := by
  cases o with
  | true =>
    obtain ⟨a, us, c', rfl, _, hh, hn, hl, hc⟩ := h
    exact ⟨a, us, c', rfl, hh, hn, hl, fun b => by rw [hc]; omega⟩
  | false =>
    obtain ⟨a, us, rfl, hg, hn, hl, _⟩ := h
    exact ⟨a, us, c, rfl, sG _ _ hg, hn, hl, fun b => Nat.le_refl _⟩
theorem Own.ls {o : Bool} {vs : List M} (sG : Same G H) (h : Own g G H x (.lst o vs) c) : ∃ a us c', x = .ref a ∧ H a = some (.lst us) ∧ OwnL g G H us vs c' ∧ ∀ b, c' b ≤ c b := by
  cases o with
  | true =>
    obtain ⟨a, us, c', rfl, _, hh, hl, hc⟩ := h
    exact ⟨a, us, c', rfl, hh, hl, fun b => by rw [hc]; omega⟩
  | false =>
    obtain ⟨a, us, rfl, hg, hl, _⟩ := h
    exact ⟨a, us, c, rfl, sG _ _ hg, hl, fun b => Nat.le_refl _⟩
theorem Own.dget {ks : List MK} {vs : List M} {o : Bool} {k : MK} (sG : Same G H) (h : Own g G H x (.dK o ks vs) c) : ∃ a r, x = .ref a ∧ DGet H a (kV (kk k)) r ∧ (match look ks vs k with
    | some m => ∃ v c', r = some v ∧ Own g G H v m c' ∧ ∀ b, c' b ≤ c b
    | none => r = none) := by
  obtain ⟨a, us, c', rfl, hh, hn, hl, hc⟩ := Own.dk sG h
  refine ⟨a, _, rfl, DGet.k (k := kk k) hh, ?_⟩
  have q := look_val (fun a b => kk_inj (a := a) (b := b)) (k := k) hl hn
  cases e : look ks vs k with
  | none => rw [e] at q; exact q
  | some m =>
    rw [e] at q
    obtain ⟨v, c1, a1, a2, a3⟩ := q
    exact ⟨v, c1, a1, a2, fun b => Nat.le_trans (a3 b) (hc b)⟩
theorem Own.dgett {ks : List (List MK)} {vs ms : List M} {o : Bool} {k : List MK} (sG : Same G H) (h : Own g G H x (.dT o ks vs) c) (hk : Own g G H y (.tup ms) d) (e : keysM ms = some k) : ∃ a r, x = .ref a ∧ DGet H a y r ∧ (match look ks vs k with
    | some m => ∃ v c', r = some v ∧ Own g G H v m c' ∧ ∀ b, c' b ≤ c b
    | none => r = none) := by
  obtain ⟨a, us, c', rfl, hh, hn, hl, hc⟩ := Own.dt sG h
  obtain ⟨b, ws, rfl, hb, hw⟩ := hk
  have ew := OwnL.keys hw e
  subst ew
  refine ⟨a, _, rfl, DGet.t (k := k.map kk) hh (sG _ _ hb), ?_⟩
  have q := look_val (f := fun (l : List MK) => l.map kk) (fun a b => kks_inj (a := a) (b := b)) (k := k) hl hn
  cases e : look ks vs k with
  | none => rw [e] at q; exact q
  | some m =>
    rw [e] at q
    obtain ⟨v, c1, a1, a2, a3⟩ := q
    exact ⟨v, c1, a1, a2, fun b => Nat.le_trans (a3 b) (hc b)⟩
end Q
set_option Elab.async false
set_option linter.all false
set_option maxRecDepth 100000
set_option maxHeartbeats 4000000
namespace Q
open PySem PySem.Spec PyProof.Rows L2
variable {g : Gi} {G H : Hp} {x y : V} {m n : M} {c d : Cn}
theorem yes_i {b : Bool} {p : Prop} (h : yes b p) : b = true ∧ p := by
  cases b with
  | true => exact ⟨rfl, h⟩
  | false => exact h.elim

/-! ### the readings of the operators -/
def rInD (neg : Bool) : R2 := fun x y H Q => ∃ a o, y = .ref a ∧ DGet H a x o ∧ Q (.bl (if neg then !o.isSome else o.isSome)) H
def rIxD' : R2 := fun x y H Q => ∃ a v, x = .ref a ∧ DGet H a y (some v) ∧ Q v H
section
variable {X : Cx}
theorem op_inD (hu : X.A.units + 1 < cLine) : OpR X (compareOp .In) (rInD false) := by
  intro pins s σ H x y v u Q I rx ry h
  obtain ⟨a, o, rfl, gq, q⟩ := h
  cases ry
  exact d_in hu I gq rx fun s' I' => ⟨.bl o.isSome, H, I', rfl, q⟩
theorem op_notinD (hu : X.A.units + 1 < cLine) : OpR X (compareOp .NotIn) (rInD true) := by
  intro pins s σ H x y v u Q I rx ry h
  obtain ⟨a, o, rfl, gq, q⟩ := h
  cases ry
  exact d_notIn hu I gq rx fun s' I' => ⟨.bl (!o.isSome), H, I', rfl, q⟩
theorem ix_dictT (hu : X.A.units + 1 < cLine) : IxR X rIxD' := by
  intro value slice pins s σ H x y v u Q I rx ry h hs
  obtain ⟨a, r, rfl, gq, q⟩ := h
  cases rx
  exact tail_any (dict_typeIs I gq) PySem.F.slot_dict_getitem.lookup (d_getItem hu I gq ry fun w' s' I' rw' => ⟨r, H, I', rw', q⟩) hs
end
/-! rows in a list -/
def rInT (K : PySem.W.Frag) (neg : Bool) : R2 := fun x y H Q => ∃ d ds, Dp K H x d ∧ Dp K H y (.list ds) ∧ PyData.canLay0 d = true ∧ PyData.canLayAll0 ds = true ∧ d.depth ≤ 3 ∧ Q (.bl (if neg then !ds.any (fun z => PyData.eqv z d) else ds.any fun z => PyData.eqv z d)) H
section
variable {X : Cx}
theorem op_inT (hu : X.A.units + 8 < cLine) : OpR X (compareOp .In) (rInT X.K false) := by
  intro pins s σ H x y v u Q I rx ry h
  obtain ⟨d, ds, hd, he, sd, se, dp, q⟩ := h
  obtain ⟨as, r1⟩ := Dp.reads I d x v hd rx
  obtain ⟨bs, r2⟩ := Dp.reads I (.list ds) y u he ry
  have hm : min (PyData.depthAll ds) d.depth ≤ d.depth := Nat.min_le_right _ _
  exact SeqAt.in_list_reads r2 r1 se sd (by omega) ⟨.bl _, H, I, rfl, q⟩
theorem op_notinT (hu : X.A.units + 8 < cLine) : OpR X (compareOp .NotIn) (rInT X.K true) := by
  intro pins s σ H x y v u Q I rx ry h
  obtain ⟨d, ds, hd, he, sd, se, dp, q⟩ := h
  obtain ⟨as, r1⟩ := Dp.reads I d x v hd rx
  obtain ⟨bs, r2⟩ := Dp.reads I (.list ds) y u he ry
  have hm : min (PyData.depthAll ds) d.depth ≤ d.depth := Nat.min_le_right _ _
  exact SeqAt.notIn_list_reads r2 r1 se sd (by omega) ⟨.bl _, H, I, rfl, q⟩
end
/-- a flat thing, a row of such, as data -/
def toD : M → PyData
  | .bl b => .bool b
  | .int i => .int i
  | _ => .none
def toR : M → PyData
  | .tup ms => .tuple (ms.map toD)
  | _ => .none
theorem Own.toD {m : M} {v : V} {c : Cn} (hf : m.num = true) (h : Own g G H v m c) : Dp g.K H v (toD m) := by
  cases m <;> first
    | (cases hf; done)
    | (obtain ⟨rfl, _⟩ := h; constructor)
theorem OwnL.toD : ∀ {ms : List M} {vs : List V} {c : Cn}, ms.all M.num = true → OwnL g G H vs ms c → DpAll g.K H vs (ms.map Q.toD)
  | [], [], _, _, _ => .nil
  | [], _ :: _, _, _, h => h.elim
  | _ :: _, [], _, _, h => h.elim
  | m :: ms, v :: vs, _, hf, ⟨_, _, h1, h2, _⟩ => by
    rw [List.all_cons, Bool.and_eq_true] at hf
    exact .cons (Own.toD hf.1 h1) (OwnL.toD hf.2 h2)
theorem eqv_toD {a b : M} (ha : a.num = true) (hb : b.num = true) : PyData.eqv (toD a) (toD b) = eqF a b := by
  cases a <;> first
    | (cases ha; done)
    | (cases b <;> first
      | (cases hb; done)
      | rfl)
theorem eqv_all : ∀ {a b : List M}, a.all M.num = true → b.all M.num = true → PyData.eqvAll (a.map toD) (b.map toD) = eqFL a b
  | [], [], _, _ => by simp [PyData.eqvAll, eqFL]
  | [], _ :: _, _, _ => by simp [PyData.eqvAll, eqFL]
  | _ :: _, [], _, _ => by simp [PyData.eqvAll, eqFL]
  | x :: a, y :: b, ha, hb => by
    rw [List.all_cons, Bool.and_eq_true] at ha hb
    simp only [List.map_cons, PyData.eqvAll, eqFL, eqv_toD ha.1 hb.1, eqv_all ha.2 hb.2]
theorem lay_toD (m : M) : PyData.canLay0 (toD m) = true := by cases m <;> simp [toD, PyData.canLay0]
theorem lay_toDs : ∀ ms : List M, PyData.canLayAll0 (ms.map toD) = true
  | [] => by simp [PyData.canLayAll0]
  | m :: ms => by simp [PyData.canLayAll0, lay_toD m, lay_toDs ms]
theorem dep_toD (m : M) : (toD m).depth ≤ 1 := by cases m <;> simp [toD, PyData.depth]
theorem dep_toDs : ∀ ms : List M, PyData.depthAll (ms.map toD) ≤ 1
  | [] => by simp [PyData.depthAll]
  | m :: ms => by
    have := dep_toD m
    have := dep_toDs ms
    simp only [List.map_cons, PyData.depthAll]
    omega
def rInK (K : PySem.W.Frag) (w : World) (neg : Bool) : R2 := fun x y H Q => ∃ a z r, x = .str z ∧ y = .ref a ∧ KD K w a z r ∧ Q (.bl (if neg then !r.isSome else r.isSome)) H
section
variable {X : Cx}
theorem op_inK : OpR X (compareOp .In) (rInK X.K X.w false) := by
  intro pins s σ H x y v u Q I rx ry h
  obtain ⟨a, z, r, rfl, rfl, ⟨es, n, u0, hl, hk, lo, e, ro⟩, q⟩ := h
  obtain ⟨t, rfl⟩ := rx
  cases ry
  have hm := PySem.W.mapOf_K (prog := X.prog) (w := X.w) I.kIn hl hk
  refine wpAny_in_of (strKind_is X.prog X.w z t) lo hm ⟨.bl r.isSome, H, I.tok _, ?_, q⟩
  rw [PySem.W.find_K hl e]
  show _ = Value.bool _
  rw [ro.isSome_eq]
theorem op_notinK : OpR X (compareOp .NotIn) (rInK X.K X.w true) := by
  intro pins s σ H x y v u Q I rx ry h
  obtain ⟨a, z, r, rfl, rfl, ⟨es, n, u0, hl, hk, lo, e, ro⟩, q⟩ := h
  obtain ⟨t, rfl⟩ := rx
  cases ry
  have hm := PySem.W.mapOf_K (prog := X.prog) (w := X.w) I.kIn hl hk
  refine wpAny_notIn_of (strKind_is X.prog X.w z t) lo hm ⟨.bl (!r.isSome), H, I.tok _, ?_, q⟩
  rw [PySem.W.find_K hl e]
  show _ = Value.bool _
  rw [ro.isSome_eq]
end
def r2 (g : Gi) : O2 → R2
  | .add => fun x y H Q => rI0 (fun i j => .int (i + j)) x y H Q ∨ ∃ i j, x = .str i ∧ y = .str j ∧ i.length + j.length ≤ sizeLine ∧ Q (.str (i ++ j)) H
  | .sub => rI0 fun i j => .int (i - j)
  | .mul => rI CMulW fun i j => .int (i * j)
  | .fdiv => rI CDiv fun i j => .int (i / j)
  | .mod => rI (fun _ j => 0 < j) fun i j => .int (i % j)
  | .pow => rI CPow fun i j => .int (i ^ j.toNat)
  | .shl => rI CPow fun i j => .int (i * 2 ^ j.toNat)
  | .shr => rI (fun _ j => 0 ≤ j) fun i j => .int (i / 2 ^ j.toNat)
  | .band => rI0 fun i j => .int (Builtin.bitAnd i j)
  | .lt => fun x y H Q => rI0 (fun i j => .bl (decide (i < j))) x y H Q ∨ ∃ i j, x = .str i ∧ y = .str j ∧ Q (.bl (decide (i.cps.toList < j.cps.toList))) H
  | .le => rI0 fun i j => .bl (decide (i ≤ j))
  | .gt => fun x y H Q => rI0 (fun i j => .bl (decide (j < i))) x y H Q ∨ ∃ i j, x = .str i ∧ y = .str j ∧ Q (.bl (decide (j.cps.toList < i.cps.toList))) H
  | .ge => rI0 fun i j => .bl (decide (j ≤ i))
  | .eq => rEq
  | .ne => rNe
  | .isin => fun x y H Q => ((∃ (c : Nat) (z : Str), x = .str ⟨#[c]⟩ ∧ y = .str z ∧ Q (.bl (decide (c ∈ z.cps.toList))) H) ∨ rIn g.K false x y H Q) ∨ (rInD false x y H Q ∨ (rInK g.K g.w false x y H Q ∨ rInT g.K false x y H Q))
  | .notin => fun x y H Q => ((∃ (c : Nat) (z : Str), x = .str ⟨#[c]⟩ ∧ y = .str z ∧ Q (.bl (!decide (c ∈ z.cps.toList))) H) ∨ rIn g.K true x y H Q) ∨ (rInD true x y H Q ∨ (rInK g.K g.w true x y H Q ∨ rInT g.K true x y H Q))
  | .idx => fun x y H Q => (rIx g.K x y H Q ∨ rIxD' x y H Q) ∨ rIxD g.K g.w x y H Q
  | .min2 => fun x y H Q => ∃ i j, x = .int i ∧ y = .int j ∧ Q (.int (if j < i then j else i)) H
  | .max2 => fun x y H Q => ∃ i j, x = .int i ∧ y = .int j ∧ Q (.int (if j > i then j else i)) H
  | _ => fun _ _ _ _ => False

section
variable {X : Cx} {c : Sc} {Γ : Gm}
theorem Good.hu (h : Good g c Γ X) : X.A.units + 1 < cLine := Nat.lt_of_le_of_lt (Nat.add_le_add_left (by decide : 1 ≤ 8) _) h.un
theorem op_bin (h : Good g c Γ X) {o : O2} {op : Operator} (e : bOp o = some op) : OpR X (binaryOp op) (r2 g o) := by
  cases o <;> first
    | (cases e; done)
    | (cases e
       first
        | exact op_add.or op_add_str
        | exact op_sub
        | exact op_mulW
        | exact op_fdiv
        | exact op_mod
        | exact op_pow
        | exact op_shl
        | exact op_shr
        | exact op_and)
theorem op_cmp (h : Good g c Γ X) {o : O2} {op : CmpOp} (e : cOp o = some op) : OpR X (compareOp op) (r2 g o) := by
  have eK := h.eK
  cases o <;> first
    | (cases e; done)
    | (cases e
       first
        | exact op_lt.or op_lt_str
        | exact op_le
        | exact op_gt.or op_gt_str
        | exact op_ge
        | exact op_eq
        | exact op_ne
        | (show OpR X (compareOp .In) (fun x y H Q => ((_ ∨ rIn g.K false x y H Q) ∨ _)); rw [← eK, ← h.ew]; exact (op_in_sign.or op_in_seq).or ((op_inD h.hu).or (op_inK.or (op_inT h.un))))
        | (show OpR X (compareOp .NotIn) (fun x y H Q => ((_ ∨ rIn g.K true x y H Q) ∨ _)); rw [← eK, ← h.ew]; exact (op_notIn_sign.or op_notIn_seq).or ((op_notinD h.hu).or (op_notinK.or (op_notinT h.un)))))
theorem ix_all (h : Good g c Γ X) : IxR X (r2 g .idx) := by
  show IxR X (fun x y H Q => (rIx g.K x y H Q ∨ rIxD' x y H Q) ∨ rIxD g.K g.w x y H Q)
  rw [← h.eK, ← h.ew]
  exact (ix_seq.or (ix_dictT h.hu)).or ix_kdict
end

/-! ### each operator does what the small language says -/
theorem o_int (i : Int) : Own g G H (.int i) (.int i) (fun _ => 0) := ⟨rfl, zr0⟩
theorem o_bl (i : Bool) : Own g G H (.bl i) (.bl i) (fun _ => 0) := ⟨rfl, zr0⟩
theorem o_str (z : List Nat) : Own g G H (.str (sS z)) (.str z) (fun _ => 0) := ⟨rfl, zr0⟩
abbrev Fin2 (g : Gi) (G H : Hp) (Q : M → Prop) (R : VK) : Prop := ∀ r v c', Q r → Own g G H v r c' → R v H
theorem lt_tl (a b : List Nat) : decide ((sS a).cps.toList < (sS b).cps.toList) = decide (a < b) := rfl
local macro_rules | `(tactic| walk_at "ii") => `(tactic| (
  rename M => m1; rename M => m2
  skip))
/-- the dicts of the top say what tb says -/
def Tb (g : Gi) (tb : Tab) : Prop := ∀ (n : String), g.gds.contains n = true → ∀ (cs : List Nat), match tb n cs with
    | some r => ∃ v, KD g.K g.w (g.ga n) (sS cs) (some v) ∧ ∀ G H, Own g G H v r (fun _ => 0)
    | none => KD g.K g.w (g.ga n) (sS cs) none
variable {tb : Tab}
theorem s2_num {o : O2} {Q : M → Prop} {R : VK} (h : o2P tb o m n Q) (hx : Own g G H x m c) (hy : Own g G H y n d) (k : Fin2 g G H Q R) (e : o ∈ [O2.add, .sub, .mul, .fdiv, .mod, .pow, .shl, .shr, .band, .min2, .max2]) : r2 g o x y H R := by
  cases o <;> first
    | (simp at e; done)
    | (cases m <;> first
        | exact (show False from h).elim
        | (cases n <;> first
            | exact (show False from h).elim
            | (obtain ⟨rfl, _⟩ := hx
               obtain ⟨rfl, _⟩ := hy
               first
                | exact .inl ⟨_, _, rfl, rfl, k _ _ _ h (o_int _)⟩
                | exact ⟨_, _, rfl, rfl, k _ _ _ h (o_int _)⟩
                | exact ⟨_, _, rfl, rfl, h.1, k _ _ _ h.2 (o_int _)⟩
                | exact ⟨_, _, rfl, rfl, ⟨h.1, h.2.1⟩, k _ _ _ h.2.2 (o_int _)⟩
                | exact ⟨_, _, rfl, rfl, ⟨h.1, h.2.1, h.2.2.1⟩, k _ _ _ h.2.2.2 (o_int _)⟩
                | (obtain ⟨hl, h⟩ := yes_i h
                   refine .inr ⟨_, _, rfl, rfl, ?_, ?_⟩
                   · rw [sS_len, sS_len, sl_line]; exact of_decide_eq_true hl
                   · rw [sS_app]; exact k _ _ _ h (o_str _)))))
theorem one_sign {a : List Nat} (h : (a.length == 1) = true) : sS a = ⟨#[a.getD 0 0]⟩ := by
  match a, h with
  | [z], _ => rfl
theorem seq_of {o : Bool} {ms : List M} (sG : Same G H) (hy : Own g G H y (.lst o ms) d) : ∃ a us c', y = .ref a ∧ SqL g.K H a us ∧ OwnL g G H us ms c' ∧ ∀ b, c' b ≤ d b := by
  obtain ⟨a, us, c', e, hh, hl, hc⟩ := Own.ls sG hy
  exact ⟨a, us, c', e, SqL.of hh, hl, hc⟩
theorem tup_of {ms : List M} (sG : Same G H) (hy : Own g G H y (.tup ms) d) : ∃ a us, y = .ref a ∧ SqT g.K H a us ∧ OwnL g G H us ms d := by
  obtain ⟨a, us, e, hh, hl⟩ := hy
  exact ⟨a, us, e, SqT.of (sG _ _ hh), hl⟩
theorem ktup_of {ms : List M} (hy : Own g G H y (.ktup ms) d) : ∃ a us, y = .ref a ∧ SqT g.K H a us ∧ OwnL g G H us ms d := by
  obtain ⟨a, us, e, hh, hl, _⟩ := hy
  exact ⟨a, us, e, hh H, hl⟩
abbrev FinB (H : Hp) (Q : Bool → Prop) (R : VK) : Prop := ∀ b, Q b → R (.bl b) H
theorem sc_ord {o : O2} {Q : Bool → Prop} {R : VK} (h : cmpP tb o m n Q) (hx : Own g G H x m c) (hy : Own g G H y n d) (k : FinB H Q R) (e : o ∈ [O2.lt, .le, .gt, .ge]) : r2 g o x y H R := by
  cases o <;> first
    | (simp at e; done)
    | (cases m <;> first
        | exact (show False from h).elim
        | (cases n <;> first
            | exact (show False from h).elim
            | (obtain ⟨rfl, _⟩ := hx
               obtain ⟨rfl, _⟩ := hy
               first
                | exact .inl ⟨_, _, rfl, rfl, k _ h⟩
                | exact .inr ⟨_, _, rfl, rfl, k _ h⟩
                | exact ⟨_, _, rfl, rfl, k _ h⟩)))
theorem sc_eq {Q : Bool → Prop} {R : VK} (h : cmpP tb .eq m n Q) (hx : Own g G H x m c) (hy : Own g G H y n d) (k : FinB H Q R) : r2 g .eq x y H R := by
  obtain ⟨hs, h⟩ := yes_i (show yes (scl m n) (Q (eqF m n)) from h)
  obtain ⟨a1, a2⟩ := Own.scal hx hy hs
  refine ⟨a1, ?_⟩
  rw [a2]
  exact k _ h
theorem sc_ne {Q : Bool → Prop} {R : VK} (h : cmpP tb .ne m n Q) (hx : Own g G H x m c) (hy : Own g G H y n d) (k : FinB H Q R) : r2 g .ne x y H R := by
  obtain ⟨hs, h⟩ := yes_i (show yes (scl m n) (Q (!eqF m n)) from h)
  obtain ⟨a1, a2⟩ := Own.scal hx hy hs
  refine ⟨a1, ?_⟩
  rw [a2]
  exact k _ h
theorem sc_in {neg : Bool} {Q : Bool → Prop} {R : VK} (ht : Tb g tb) (sG : Same G H) (h : cmpP tb (if neg then .notin else .isin) m n Q) (hx : Own g G H x m c) (hy : Own g G H y n d) (k : FinB H Q R) : r2 g (if neg then .notin else .isin) x y H R := by
  have seqs : ∀ {a : Addr} {us : List V} {ms : List M} {c' : Cn}, y = .ref a → (SqL g.K H a us ∨ SqT g.K H a us) → OwnL g G H us ms c' → yes (m.flat && ms.all M.flat) (Q (if neg then !ms.any fun x => eqF x m else ms.any fun x => eqF x m)) →
      rIn g.K neg x y H R := fun {a us ms c'} e hs hl hq => by
    obtain ⟨hf, hq⟩ := yes_i hq
    rw [Bool.and_eq_true] at hf
    refine ⟨a, us, e, hs, Own.flat hx hf.1, OwnL.flat hl hf.2, ?_⟩
    rw [OwnL.inV hx hf.1 hl hf.2]
    exact k _ hq
  cases n with
  | str b =>
    cases m with
    | str a =>
      obtain ⟨rfl, _⟩ := hx
      obtain ⟨rfl, _⟩ := hy
      cases neg with
      | true =>
        obtain ⟨hl, h⟩ := yes_i h
        rw [one_sign hl]
        exact .inl (.inl ⟨_, _, rfl, rfl, k _ h⟩)
      | false =>
        obtain ⟨hl, h⟩ := yes_i h
        rw [one_sign hl]
        exact .inl (.inl ⟨_, _, rfl, rfl, k _ h⟩)
    | _ => cases neg <;> exact (show False from h).elim
  | lst o ms =>
    obtain ⟨a, us, c', e, hs, hl, _⟩ := seq_of sG hy
    by_cases ht : ∃ xs, m = .tup xs
    · obtain ⟨xs, rfl⟩ := ht
      have hq : yes (xs.all M.num && ms.all flT) (Q (if neg then !ms.any fun y => eqT y xs else ms.any fun y => eqT y xs)) := by cases neg <;> exact h
      obtain ⟨hf, hq⟩ := yes_i hq
      rw [Bool.and_eq_true] at hf
      obtain ⟨b, vs, ex, hsx, hlx⟩ := tup_of sG hx
      have rows : ∀ {ms : List M} {us : List V} {c' : Cn}, ms.all flT = true → OwnL g G H us ms c' → DpAll g.K H us (ms.map toR) := by
        intro ms
        induction ms with
        | nil =>
          intro us c' _ hl
          cases us with
          | nil => exact .nil
          | cons _ _ => exact hl.elim
        | cons m ms ih =>
          intro us c' hf hl
          cases us with
          | nil => exact hl.elim
          | cons u us =>
            obtain ⟨c1, c2, h1, h2, _⟩ := hl
            rw [List.all_cons, Bool.and_eq_true] at hf
            refine .cons ?_ (ih hf.2 h2)
            cases m with
            | tup ys =>
              obtain ⟨b, vs, rfl, hs, hl⟩ := tup_of sG h1
              exact .tup hs (OwnL.toD hf.1 hl)
            | _ => cases hf.1
      have lay : ∀ ms : List M, ms.all flT = true → PyData.canLayAll0 (ms.map toR) = true := by
        intro ms
        induction ms with
        | nil => intro _; simp [PyData.canLayAll0]
        | cons m ms ih =>
          intro hf
          rw [List.all_cons, Bool.and_eq_true] at hf
          cases m with
          | tup ys => simp [PyData.canLayAll0, PyData.canLay0, toR, lay_toDs ys, ih hf.2]
          | _ => cases hf.1
      have any : ∀ ms : List M, ms.all flT = true → ((ms.map toR).any fun z => PyData.eqv z (.tuple (xs.map toD))) = ms.any fun y => eqT y xs := by
        intro ms
        induction ms with
        | nil => intro _; rfl
        | cons m ms ih =>
          intro hf2
          rw [List.all_cons, Bool.and_eq_true] at hf2
          cases m with
          | tup ys =>
            have e : PyData.eqv (toR (.tup ys)) (.tuple (xs.map toD)) = eqT (.tup ys) xs := by
              show PyData.eqv (.tuple (ys.map toD)) (.tuple (xs.map toD)) = eqFL ys xs
              rw [← eqv_all hf2.1 hf.1]
              simp only [PyData.eqv]
            rw [List.map_cons, List.any_cons, List.any_cons, e, ih hf2.2]
          | _ => cases hf2.1
      have z : rInT g.K neg x y H R := ⟨.tuple (xs.map toD), ms.map toR, by rw [ex]; exact .tup hsx (OwnL.toD hf.1 hlx), by rw [e]; exact .lst hs (rows hf.2 hl), by simp [PyData.canLay0, lay_toDs xs], lay ms hf.2, by
        have := dep_toDs xs
        simp only [PyData.depth]
        omega, by rw [any ms hf.2]; exact k _ hq⟩
      cases neg <;> exact .inr (.inr (.inr z))
    have hq : yes (m.flat && ms.all M.flat) (Q (if neg then !ms.any fun x => eqF x m else ms.any fun x => eqF x m)) := by cases neg <;> cases m <;> first | exact h | exact (ht ⟨_, rfl⟩).elim
    have z := seqs e (.inl hs) hl hq
    cases neg <;> exact .inl (.inr z)
  | tup ms =>
    obtain ⟨a, us, e, hs, hl⟩ := tup_of sG hy
    have hq : yes (m.flat && ms.all M.flat) (Q (if neg then !ms.any fun x => eqF x m else ms.any fun x => eqF x m)) := by cases neg <;> cases m <;> exact h
    have z := seqs e (.inr hs) hl hq
    cases neg <;> exact .inl (.inr z)
  | ktup ms =>
    obtain ⟨a, us, e, hs, hl⟩ := ktup_of hy
    have hq : yes (m.flat && ms.all M.flat) (Q (if neg then !ms.any fun x => eqF x m else ms.any fun x => eqF x m)) := by cases neg <;> cases m <;> exact h
    have z := seqs e (.inr hs) hl hq
    cases neg <;> exact .inl (.inr z)
  | dK o ks vs =>
    have hq : ∃ kx, keyM m = some kx ∧ Q (if neg then !(look ks vs kx).isSome else (look ks vs kx).isSome) := by cases neg <;> cases m <;> exact h
    obtain ⟨kx, ek, hq⟩ := hq
    obtain ⟨a, r, e, hd, hr⟩ := Own.dget (k := kx) sG hy
    have es : r.isSome = (look ks vs kx).isSome := by
      cases q : look ks vs kx with
      | none => rw [q] at hr; rw [hr] <;> rfl
      | some z => rw [q] at hr; obtain ⟨v, _, e1, _⟩ := hr; rw [e1] <;> rfl
    have ex := Own.key hx ek
    have z : rInD neg x y H R := ⟨a, r, e, ex ▸ hd, by rw [es]; exact k _ hq⟩
    cases neg <;> exact .inr (.inl z)
  | dT o ks vs =>
    cases m with
    | tup ms =>
      have hq : ∃ kx, keysM ms = some kx ∧ Q (if neg then !(look ks vs kx).isSome else (look ks vs kx).isSome) := by cases neg <;> exact h
      obtain ⟨kx, ek, hq⟩ := hq
      obtain ⟨a, r, e, hd, hr⟩ := Own.dgett (k := kx) sG hy hx ek
      have es : r.isSome = (look ks vs kx).isSome := by
        cases q : look ks vs kx with
        | none => rw [q] at hr; rw [hr] <;> rfl
        | some z => rw [q] at hr; obtain ⟨v, _, e1, _⟩ := hr; rw [e1] <;> rfl
      have z : rInD neg x y H R := ⟨a, r, e, hd, by rw [es]; exact k _ hq⟩
      cases neg <;> exact .inr (.inl z)
    | _ => cases neg <;> exact (show False from h).elim
  | gd t =>
    cases m with
    | str a =>
      obtain ⟨rfl, _⟩ := hx
      obtain ⟨⟨rfl, hgd⟩, _⟩ := hy
      have q := ht t hgd a
      have hq : Q (if neg then !(tb t a).isSome else (tb t a).isSome) := by cases neg <;> exact h
      obtain ⟨r, hr, er⟩ : ∃ r, KD g.K g.w (g.ga t) (sS a) r ∧ r.isSome = (tb t a).isSome := by
        cases e : tb t a with
        | none => rw [e] at q; exact ⟨none, q, rfl⟩
        | some z => rw [e] at q; obtain ⟨v, kd, _⟩ := q; exact ⟨some v, kd, rfl⟩
      have z : rInK g.K g.w neg (.str (sS a)) (.ref (g.ga t)) H R := ⟨_, _, r, rfl, rfl, hr, by rw [er]; exact k _ hq⟩
      cases neg <;> exact .inr (.inr (.inl z))
    | _ => cases neg <;> exact (show False from h).elim
  | _ => cases neg <;> cases m <;> exact (show False from h).elim
theorem atL_own {ms : List M} {us : List V} {c' : Cn} {i : Int} {r : M} (hl : OwnL g G H us ms c') (e : atL ms i = some r) : ∃ v c1, atI us i = some v ∧ Own g G H v r c1 ∧ ∀ b, c1 b ≤ c' b := by
  have el := OwnL.len hl
  unfold atL at e
  rw [ixL_eq] at e
  cases q : ixN ms.length i with
  | none => rw [q] at e; cases e
  | some j =>
    rw [q] at e
    obtain ⟨v, c1, a1, a2, a3⟩ := OwnL.get hl e
    refine ⟨v, c1, ?_, a2, a3⟩
    unfold atI
    rw [el, q]
    exact a1
theorem s2_idx {Q : M → Prop} {R : VK} (ht : Tb g tb) (sG : Same G H) (h : ixP tb m n Q) (hx : Own g G H x m c) (hy : Own g G H y n d) (k : Fin2 g G H Q R) : r2 g .idx x y H R := by
  have mt : ∀ {o : Option M} {P : Prop}, (match o with | some m => yes m.ok (Q m) | none => False) → ∃ r, o = some r ∧ Q r := fun {o P} hh => by
    cases o with
    | none => exact hh.elim
    | some r => exact ⟨r, rfl, (yes_i hh).2⟩
  cases m with
  | str cs =>
    cases n with
    | int i =>
      obtain ⟨rfl, _⟩ := hx
      obtain ⟨rfl, _⟩ := hy
      obtain ⟨hl, h⟩ := yes_i h
      cases q : atL cs i with
      | none => rw [q] at h; exact h.elim
      | some z =>
        rw [q] at h
        refine .inl (.inl (.inr (.inr ⟨_, i, z, rfl, rfl, ?_, ?_, k _ _ _ h (o_str [z])⟩)))
        · rw [sS_len, sl_line]; exact of_decide_eq_true hl
        · rw [← atL_eq]; exact q
    | _ => exact (show False from h).elim
  | lst o ms =>
    cases n with
    | int i =>
      obtain ⟨rfl, _⟩ := hy
      obtain ⟨r, q, h⟩ := mt (P := True) h
      obtain ⟨a, us, c', e, hs, hl, _⟩ := seq_of sG hx
      obtain ⟨v, c1, a1, a2, a3⟩ := atL_own hl q
      exact .inl (.inl (.inl ⟨a, us, i, v, e, rfl, hs, a1, k _ _ _ h a2⟩))
    | _ => exact (show False from h).elim
  | tup ms =>
    cases n with
    | int i =>
      obtain ⟨rfl, _⟩ := hy
      obtain ⟨r, q, h⟩ := mt (P := True) h
      obtain ⟨a, us, e, hs, hl⟩ := tup_of sG hx
      obtain ⟨v, c1, a1, a2, a3⟩ := atL_own hl q
      exact .inl (.inl (.inr (.inl ⟨a, us, i, v, e, rfl, hs, a1, k _ _ _ h a2⟩)))
    | _ => exact (show False from h).elim
  | ktup ms =>
    cases n with
    | int i =>
      obtain ⟨rfl, _⟩ := hy
      obtain ⟨r, q, h⟩ := mt (P := True) h
      obtain ⟨a, us, e, hs, hl⟩ := ktup_of hx
      obtain ⟨v, c1, a1, a2, a3⟩ := atL_own hl q
      exact .inl (.inl (.inr (.inl ⟨a, us, i, v, e, rfl, hs, a1, k _ _ _ h a2⟩)))
    | _ => exact (show False from h).elim
  | dK o ks vs =>
    have hq : ∃ kx, keyM n = some kx ∧ (match look ks vs kx with | some r => yes r.ok (Q r) | none => False) := by cases n <;> exact h
    obtain ⟨kx, ek, hq⟩ := hq
    obtain ⟨r, q, hq⟩ := mt (P := True) hq
    obtain ⟨a, r', e, hd, hr⟩ := Own.dget (k := kx) sG hx
    rw [q] at hr
    obtain ⟨v, c1, e1, a2, a3⟩ := hr
    subst e1
    exact .inl (.inr ⟨a, v, e, Own.key hy ek ▸ hd, k _ _ _ hq a2⟩)
  | dT o ks vs =>
    cases n with
    | tup ms =>
      obtain ⟨kx, ek, hq⟩ := (show ∃ kx, keysM ms = some kx ∧ (match look ks vs kx with | some r => yes r.ok (Q r) | none => False) from h)
      obtain ⟨r, q, hq⟩ := mt (P := True) hq
      obtain ⟨a, r', e, hd, hr⟩ := Own.dgett (k := kx) sG hx hy ek
      rw [q] at hr
      obtain ⟨v, c1, e1, a2, a3⟩ := hr
      subst e1
      exact .inl (.inr ⟨a, v, e, hd, k _ _ _ hq a2⟩)
    | _ => exact (show False from h).elim
  | gd t =>
    cases n with
    | str a =>
      obtain ⟨⟨rfl, hgd⟩, _⟩ := hx
      obtain ⟨rfl, _⟩ := hy
      have q := ht t hgd a
      cases e : tb t a with
      | none =>
        have h2 : (match tb t a with | some r => Q r | none => False) := h
        rw [e] at h2
        exact h2.elim
      | some z =>
        have h2 : (match tb t a with | some r => Q r | none => False) := h
        rw [e] at h2 q
        obtain ⟨v, ⟨es, n, u, hl, hk, lo, e1, ro⟩, ho⟩ := q
        obtain ⟨u', e2, rv⟩ := ro.some_of
        subst e2
        exact .inr ⟨_, _, v, rfl, rfl, ⟨es, n, u', hl, hk, e1, rv⟩, k _ _ _ h2 (ho G H)⟩
    | _ => exact (show False from h).elim
  | _ => cases n <;> exact (show False from h).elim
end Q
set_option Elab.async false
set_option linter.all false
set_option maxRecDepth 100000
set_option maxHeartbeats 4000000
namespace Q
open PySem PySem.Spec PyProof.Rows L2
variable {g : Gi} {G H : Hp} {x y : V} {m n : M} {c d : Cn}

theorem sI_str (i : Int) : Str.ofString (toString i) = sS (sI i) := by
  apply TL.ext_tl
  show TL.tl (Str.ofString (toString i)) = sI i
  unfold sI
  split
  · rename_i h
    obtain ⟨n, rfl⟩ : ∃ n : Nat, i = Int.negSucc n := by
      cases i with
      | ofNat n => exact absurd h (by simp)
      | negSucc n => exact ⟨n, rfl⟩
    rw [TL.tl_ofString]
    show (("-" : String) ++ Nat.repr (n + 1)).toList.map Char.toNat = 45 :: numL (n + 1)
    rw [String.toList_append, List.map_append, Nat.toList_repr] <;> rfl
  · rename_i h
    have e : i = ((i.natAbs : Nat) : Int) := by omega
    rw [e]
    have q := TL.tl_num i.natAbs
    rw [q] <;> rfl
def r1 (g : Gi) : O1 → List V → Hp → VK → Prop
  | .len => fun xs H Q => (((∃ p ys, xs = [.ref p] ∧ (SqL g.K H p ys ∨ SqT g.K H p ys) ∧ Q (.int ys.length) H) ∨ (∃ z, xs = [.str z] ∧ z.length ≤ sizeLine ∧ Q (.int z.length) H)) ∨ (∃ a kvs, xs = [V.ref a] ∧ H a = some (.dK kvs) ∧ Q (.int kvs.length) H)) ∨ rLenT xs H Q
  | .abs => fun xs H Q => ∃ i, xs = [.int i] ∧ Q (.int (if i < 0 then -i else i)) H
  | .sum => rSum g.K
  | .maxL => rMax g.K
  | .minL => rMin g.K
  | .toInt => fun xs H Q => ((∃ i, xs = [.int i] ∧ Q (.int i) H) ∨ ∃ k, xs = [.bl k] ∧ Q (.int (if k then 1 else 0)) H) ∨ ∃ a n, xs = [.str a] ∧ PySem.intText? a = some n ∧ a.length ≤ 640 ∧ Q (.int n) H
  | .toStr => fun xs H Q => (∃ i, xs = [.int i] ∧ i.natAbs.log2 < 1920 ∧ Q (.str (toString i)) H) ∨ ∃ a, xs = [.str a] ∧ Q (.str a) H
  | _ => fun _ _ _ => False
section
variable {X : Cx} {cc : Sc} {Γ : Gm}
theorem c1_fn (h : Good g cc Γ X) {o : O1} {n : String} (hc : coldO cc o = true) (e : f1Op o = some (n, true)) : CallR X (.builtin n) (r1 g o) ∧ bootBuiltins (Str.ofString n) = some (.builtin n) := by
  have eK := h.eK
  cases o <;> first
    | (cases e; done)
    | (cases e
       first
        | exact ⟨by show CallR X _ (fun xs H Q => (((∃ p ys, xs = [V.ref p] ∧ (SqL g.K H p ys ∨ SqT g.K H p ys) ∧ Q (.int ys.length) H) ∨ _) ∨ _) ∨ _); rw [← eK]; exact ((call_len_seq.or call_len_str).or call_lenD).or call_len_dT, PySem.boot_len⟩
        | exact ⟨call_abs, boot_abs⟩
        | exact ⟨by show CallR X _ (rSum g.K); rw [← eK]; exact cr_sum (h.calm (cold_s hc)), by decide +kernel⟩
        | exact ⟨by show CallR X _ (rMax g.K); rw [← eK]; exact cr_max (h.calm (cold_s hc)), by decide +kernel⟩
        | exact ⟨by show CallR X _ (rMin g.K); rw [← eK]; exact cr_min (h.calm (cold_s hc)), by decide +kernel⟩)
theorem c1_ty (h : Good g cc Γ X) {o : O1} {n : String} (e : f1Op o = some (n, false)) : CallR X (.type n) (r1 g o) ∧ bootBuiltins (Str.ofString n) = some (.type n) := by
  cases o <;> first
    | (cases e; done)
    | (cases e
       first
        | exact ⟨call_int1.or call_int_str, boot_int⟩
        | exact ⟨call_str_int.or SkE.call_str_str, boot_str⟩)
end
theorem s1_call {o : O1} {nb : String × Bool} {Q : M → Prop} {R : VK} (e : f1Op o = some nb) (sG : Same G H) (h : o1P o m Q) (hx : Own g G H x m c) (k : Fin2 g G H Q R) : r1 g o [x] H R := by
  cases o with
  | len =>
    cases m with
    | str cs =>
      obtain ⟨rfl, _⟩ := hx
      obtain ⟨hl, h⟩ := yes_i (show yes _ _ from h)
      refine .inl (.inl (.inr ⟨_, rfl, ?_, ?_⟩))
      · rw [sS_len, sl_line]; exact of_decide_eq_true hl
      · rw [sS_len]; exact k _ _ _ h (o_int _)
    | lst o ms =>
      obtain ⟨a, us, c', rfl, hs, hl, _⟩ := seq_of sG hx
      refine .inl (.inl (.inl ⟨a, us, rfl, .inl hs, ?_⟩))
      rw [OwnL.len hl]
      exact k _ _ _ h (o_int _)
    | tup ms =>
      obtain ⟨a, us, rfl, hs, hl⟩ := tup_of sG hx
      refine .inl (.inl (.inl ⟨a, us, rfl, .inr hs, ?_⟩))
      rw [OwnL.len hl]
      exact k _ _ _ h (o_int _)
    | ktup ms =>
      obtain ⟨a, us, rfl, hs, hl⟩ := ktup_of hx
      refine .inl (.inl (.inl ⟨a, us, rfl, .inr hs, ?_⟩))
      rw [OwnL.len hl]
      exact k _ _ _ h (o_int _)
    | dK o ks vs =>
      obtain ⟨a, us, c', rfl, hh, hn, _⟩ := Own.dk sG hx
      refine .inl (.inr ⟨a, _, rfl, hh, ?_⟩)
      rw [List.length_zip, List.length_map, ← hn, Nat.min_self]
      exact k _ _ _ h (o_int _)
    | dT o ks vs =>
      obtain ⟨a, us, c', rfl, hh, hn, _⟩ := Own.dt sG hx
      refine .inr ⟨a, _, rfl, hh, ?_⟩
      rw [List.length_zip, List.length_map, ← hn, Nat.min_self]
      exact k _ _ _ h (o_int _)
    | _ => exact (show False from h).elim
  | abs =>
    cases m with
    | int i => obtain ⟨rfl, _⟩ := hx; exact ⟨i, rfl, k _ _ _ h (o_int _)⟩
    | _ => exact (show False from h).elim
  | sum =>
    cases m with
    | lst o ms =>
      obtain ⟨a, us, c', rfl, hs, hl, _⟩ := seq_of sG hx
      obtain ⟨ns, en, h⟩ := h
      have eu := OwnL.ints hl en
      subst eu
      exact ⟨a, ns, rfl, hs, k _ _ _ h (o_int _)⟩
    | _ => exact (show False from h).elim
  | maxL =>
    cases m with
    | lst o ms =>
      obtain ⟨a, us, c', rfl, hs, hl, _⟩ := seq_of sG hx
      obtain ⟨ns, en, hp, h⟩ := h
      have eu := OwnL.ints hl en
      subst eu
      exact ⟨a, ns, rfl, hs, hp, fun z h1 h2 => k _ _ _ (h z h1 h2) (o_int _)⟩
    | _ => exact (show False from h).elim
  | minL =>
    cases m with
    | lst o ms =>
      obtain ⟨a, us, c', rfl, hs, hl, _⟩ := seq_of sG hx
      obtain ⟨ns, en, hp, h⟩ := h
      have eu := OwnL.ints hl en
      subst eu
      exact ⟨a, ns, rfl, hs, hp, fun z h1 h2 => k _ _ _ (h z h1 h2) (o_int _)⟩
    | _ => exact (show False from h).elim
  | toInt =>
    cases m with
    | int i => obtain ⟨rfl, _⟩ := hx; exact .inl (.inl ⟨i, rfl, k _ _ _ h (o_int _)⟩)
    | bl i => obtain ⟨rfl, _⟩ := hx; exact .inl (.inr ⟨i, rfl, k _ _ _ h (o_int _)⟩)
    | str cs =>
      obtain ⟨rfl, _⟩ := hx
      obtain ⟨z, h1, h2, h⟩ := h
      exact .inr ⟨_, z, rfl, h1, by rw [sS_len]; exact h2, k _ _ _ h (o_int _)⟩
    | _ => exact (show False from h).elim
  | toStr =>
    cases m with
    | int i =>
      obtain ⟨rfl, _⟩ := hx
      exact .inl ⟨i, rfl, h.1, by rw [sI_str]; exact k _ _ _ h.2 (o_str _)⟩
    | str cs =>
      obtain ⟨rfl, _⟩ := hx
      exact .inr ⟨_, rfl, k _ _ _ h (o_str _)⟩
    | _ => exact (show False from h).elim
  | _ => cases e
theorem own_non {Q : M → Prop} (ok : m.ok = true) (hx : Own g G H x m c) : (x = .non ∧ m = .non) ∨ (x ≠ .non ∧ m ≠ .non) := by
  cases m with
  | non => exact .inl ⟨hx.1, rfl⟩
  | bl b => exact .inr ⟨(by rw [hx.1]; exact fun z => nomatch z), fun z => nomatch z⟩
  | int i => exact .inr ⟨(by rw [hx.1]; exact fun z => nomatch z), fun z => nomatch z⟩
  | str cs => exact .inr ⟨(by rw [hx.1]; exact fun z => nomatch z), fun z => nomatch z⟩
  | fn n => exact .inr ⟨(by rw [hx.1]; exact fun z => nomatch z), fun z => nomatch z⟩
  | cl n => exact .inr ⟨(by rw [hx.1]; exact fun z => nomatch z), fun z => nomatch z⟩
  | ty n => exact .inr ⟨(by rw [hx.1]; exact fun z => nomatch z), fun z => nomatch z⟩
  | gd n => exact .inr ⟨(by rw [hx.1.1]; exact fun z => nomatch z), fun z => nomatch z⟩
  | scr ns => obtain ⟨⟨a, rfl, _⟩, _⟩ := hx; exact .inr ⟨(fun z => nomatch z), fun z => nomatch z⟩
  | lst o ms => cases o <;> (obtain ⟨a, _, e, _⟩ := hx) <;> (exact .inr ⟨(by intro z; simp_all), fun z => nomatch z⟩)
  | tup ms => obtain ⟨a, us, rfl, _⟩ := hx; exact .inr ⟨(fun z => nomatch z), fun z => nomatch z⟩
  | ktup ms => obtain ⟨a, us, rfl, _⟩ := hx; exact .inr ⟨(fun z => nomatch z), fun z => nomatch z⟩
  | dK o ks vs => cases o with
    | true => obtain ⟨a, us, c', rfl, _⟩ := hx; exact .inr ⟨(fun z => nomatch z), fun z => nomatch z⟩
    | false => obtain ⟨a, us, rfl, _⟩ := hx; exact .inr ⟨(fun z => nomatch z), fun z => nomatch z⟩
  | dT o ks vs => cases o with
    | true => obtain ⟨a, us, c', rfl, _⟩ := hx; exact .inr ⟨(fun z => nomatch z), fun z => nomatch z⟩
    | false => obtain ⟨a, us, rfl, _⟩ := hx; exact .inr ⟨(fun z => nomatch z), fun z => nomatch z⟩
  | obj o C vs => cases o with
    | true => obtain ⟨a, dx, us, c', rfl, _⟩ := hx; exact .inr ⟨(fun z => nomatch z), fun z => nomatch z⟩
    | false => obtain ⟨a, dx, us, rfl, _⟩ := hx; exact .inr ⟨(fun z => nomatch z), fun z => nomatch z⟩
  | exc C vs => cases ok
  | hole => cases ok
theorem s1_isN {Q : M → Prop} (h : o1P .isN m Q) (hx : Own g G H x m c) : Q (.bl (decide (x = .non))) := by
  cases m <;> first
    | (rw [show x = .non from hx.1, decide_eq_true rfl]; exact h)
    | exact (show False from h).elim
    | (have h2 : Q (.bl false) := h
       rcases own_non (Q := Q) rfl hx with ⟨_, z⟩ | ⟨z, _⟩
       · cases z
       · rw [decide_eq_false z]; exact h2)
theorem s1_notN {Q : M → Prop} (h : o1P .notN m Q) (hx : Own g G H x m c) : Q (.bl (!decide (x = .non))) := by
  cases m <;> first
    | (rw [show x = .non from hx.1, decide_eq_true rfl]; exact h)
    | exact (show False from h).elim
    | (have h2 : Q (.bl true) := h
       rcases own_non (Q := Q) rfl hx with ⟨_, z⟩ | ⟨z, _⟩
       · cases z
       · rw [decide_eq_false z]; exact h2)
/-- a field -/
theorem zip_look {ns : List Str} {us : List V} {k : Nat} {f : Str} {v : V} (nd : ns.Nodup) (hf : ns[k]? = some f) (hv : us[k]? = some v) : (ns.zip us).lookup f = some v := by
  induction ns generalizing us k with
  | nil => simp at hf
  | cons a r ih =>
    cases us with
    | nil => simp at hv
    | cons u us =>
      cases k with
      | zero =>
        have e1 : a = f := by simpa using hf
        have e2 : u = v := by simpa using hv
        subst e1 e2
        simp [List.lookup_cons]
      | succ k =>
        have hf' : r[k]? = some f := by simpa using hf
        have hv' : us[k]? = some v := by simpa using hv
        have hne : (f == a) = false := by
          rw [List.nodup_cons] at nd
          exact beq_eq_false_iff_ne.mpr fun e => nd.1 (e ▸ List.mem_of_getElem? hf')
        rw [List.zip_cons_cons, List.lookup_cons, hne]
        exact ih (List.nodup_cons.mp nd).2 hf' hv'
theorem s1_fld {C : String} {k : Nat} {f : Str} {Q : M → Prop} {R : VK} (sG : Same G H) (nd : (g.fl C).Nodup) (hf : (g.fl C)[k]? = some f) (hc : Cls g.K (g.ca C)) (hn : NoAttr g.K (g.ca C) f)
    (h : o1P (.fld C k) m Q) (hx : Own g G H x m c) (kf : Fin2 g G H Q R) : ∃ a C dx fs v, x = .ref a ∧ H a = some (.ins C dx fs) ∧ Cls g.K C ∧ NoAttr g.K C f ∧ fs.lookup f = some v ∧ R v H := by
  cases m with
  | obj o C' vs =>
    obtain ⟨eC, h2⟩ := yes_i (show yes (C == C') (match vs[k]? with | some m => yes m.ok (Q m) | none => False) from h)
    clear h
    have eC : C = C' := by simpa using eC
    subst eC
    cases hv : vs[k]? with
    | none => rw [hv] at h2; exact h2.elim
    | some r =>
      rw [hv] at h2
      obtain ⟨_, h2⟩ := yes_i h2
      obtain ⟨a, dx, us, c', e, hh, hl⟩ : ∃ a dx us c', x = .ref a ∧ H a = some (.ins (g.ca C) dx ((g.fl C).zip us)) ∧ OwnL g G H us vs c' := by
        cases o with
        | true => obtain ⟨a, dx, us, c', rfl, _, hh, _, hl, _⟩ := hx; exact ⟨a, dx, us, c', rfl, hh, hl⟩
        | false => obtain ⟨a, dx, us, rfl, hg, _, hl, _⟩ := hx; exact ⟨a, dx, us, c, rfl, sG _ _ hg, hl⟩
      obtain ⟨v, c1, a1, a2, _⟩ := OwnL.get hl hv
      exact ⟨a, _, dx, _, v, e, hh, hc, hn, zip_look nd hf a1, kf _ _ _ h2 a2⟩
  | _ => exact (show False from h).elim
/-- isinstance of a value of a built-in type -/
theorem kit_tab : ∀ T ∈ ["NoneType", "bool", "int", "str", "list", "tuple", "dict"], ∀ t ∈ ["bool", "int", "str", "list", "tuple", "dict"], kitB T t = some (tyB T t) := by decide +kernel
theorem ty_of (sG : Same G H) (hb : m.bas = true) (hx : Own g G H x m c) : TyX g.K H x (.type (tnm m)) ∧ tnm m ∈ ["NoneType", "bool", "int", "str", "list", "tuple", "dict"] := by
  cases m with
  | non => obtain ⟨rfl, _⟩ := hx; exact ⟨.base .non, by simp [tnm]⟩
  | bl b => obtain ⟨rfl, _⟩ := hx; exact ⟨.base (.bl b), by simp [tnm]⟩
  | int i => obtain ⟨rfl, _⟩ := hx; exact ⟨.base (.int i), by simp [tnm]⟩
  | str cs => obtain ⟨rfl, _⟩ := hx; exact ⟨.base (.str _), by simp [tnm]⟩
  | lst o ms => obtain ⟨a, us, c', rfl, hh, _⟩ := Own.ls sG hx; exact ⟨.base (.lst hh), by simp [tnm]⟩
  | tup ms => obtain ⟨a, us, rfl, hh, _⟩ := hx; exact ⟨.base (.tup (sG _ _ hh)), by simp [tnm]⟩
  | ktup ms =>
    obtain ⟨a, us, rfl, hh, _⟩ := hx
    refine ⟨?_, by simp [tnm]⟩
    rcases hh (fun _ => none) with (z | ⟨o, z⟩) | ⟨o, its, n, e1, e2, _⟩
    · cases z
    · cases z
    · exact .kTuple e1 e2
  | dK o ks vs => obtain ⟨a, us, c', rfl, hh, _⟩ := Own.dk sG hx; exact ⟨.base (.dK hh), by simp [tnm]⟩
  | dT o ks vs => obtain ⟨a, us, c', rfl, hh, _⟩ := Own.dt sG hx; exact ⟨.base (.dT hh), by simp [tnm]⟩
  | _ => cases hb
theorem s1_isi {t : String} {Q : M → Prop} {R : VK} (sG : Same G H) (ht : t ∈ ["bool", "int", "str", "list", "tuple", "dict"]) (h : o1P (.isi [t]) m Q) (hx : Own g G H x m c) (kf : Fin2 g G H Q R) : rIsi g.K [x, .ty t] H R := by
  have h1 : yes m.bas (Q (.bl ([t].any (tyOf m)))) := by cases m <;> exact h
  obtain ⟨hb, h2⟩ := yes_i h1
  have e : [t].any (tyOf m) = tyOf m t := by simp
  rw [e] at h2
  obtain ⟨ty, hT⟩ := ty_of sG hb hx
  exact ⟨x, .ty t, _, .type t, _, rfl, ClsV.ty t, ty, kit_ty (kit_tab _ hT _ ht), kf _ _ _ h2 (o_bl _)⟩
/-- truth -/
theorem s_tru {Q : Bool → Prop} (sG : Same G H) (h : truM m Q) (hx : Own g G H x m c) : ∃ k, TruV g.K x H k ∧ Q k := by
  cases m with
  | non => obtain ⟨rfl, _⟩ := hx; exact ⟨false, rfl, h⟩
  | bl b => obtain ⟨rfl, _⟩ := hx; exact ⟨b, rfl, h⟩
  | int i => obtain ⟨rfl, _⟩ := hx; exact ⟨_, rfl, h⟩
  | str cs =>
    obtain ⟨rfl, _⟩ := hx
    obtain ⟨hl, h⟩ := yes_i (show yes _ _ from h)
    refine ⟨_, ⟨by rw [sS_len, sl_line]; exact of_decide_eq_true hl, ?_⟩, h⟩
    rw [sS_len]
    rw [Bool.eq_iff_iff]; simp
  | lst o ms =>
    obtain ⟨a, us, c', rfl, hs, hl, _⟩ := seq_of sG hx
    refine ⟨_, .inl ⟨us, hs, rfl⟩, ?_⟩
    have e : us.isEmpty = ms.isEmpty := by have := OwnL.len hl; cases us <;> cases ms <;> first | rfl | (simp at this)
    rw [e]; exact h
  | tup ms =>
    obtain ⟨a, us, rfl, hs, hl⟩ := tup_of sG hx
    refine ⟨_, .inr (.inl ⟨us, hs, rfl⟩), ?_⟩
    have e : us.isEmpty = ms.isEmpty := by have := OwnL.len hl; cases us <;> cases ms <;> first | rfl | (simp at this)
    rw [e]; exact h
  | ktup ms =>
    obtain ⟨a, us, rfl, hs, hl⟩ := ktup_of hx
    refine ⟨_, .inr (.inl ⟨us, hs, rfl⟩), ?_⟩
    have e : us.isEmpty = ms.isEmpty := by have := OwnL.len hl; cases us <;> cases ms <;> first | rfl | (simp at this)
    rw [e]; exact h
  | dK o ks vs =>
    obtain ⟨a, us, c', rfl, hh, hn, _⟩ := Own.dk sG hx
    refine ⟨_, .inr (.inr ⟨_, hh, rfl⟩), ?_⟩
    have e : ((ks.map kk).zip us).isEmpty = ks.isEmpty := by cases us <;> cases ks <;> first | rfl | (simp at hn)
    rw [e]; exact h
  | _ => exact (show False from h).elim
end Q
set_option Elab.async false
set_option linter.all false
set_option maxRecDepth 100000
set_option maxHeartbeats 4000000
namespace Q
open PySem PySem.Spec PyProof.Rows L2

/-- what P says of a text, as a value and as a test of its own (a comparison) -/
def PV (g : Gi) (Γ : Gm) (X : Cx) (p : P) (e : Expr) : Prop := ∃ t : TE, PE X e t ∧ ∀ (B : Bs) (env : En) (Fr : List (V × M)) (σ : L2.St) (H G : Hp) (Q : M → Prop) (R : VK),
  Rel g B env Fr σ H G → evP Γ env p Q → (∀ m v c, Q m → Own g G H v m c → R v H) → t σ H R
def PC' (g : Gi) (Γ : Gm) (X : Cx) (p : P) (e : Expr) : Prop := isCmp e = true → ∃ t : L2.TT, PT X e t ∧ ∀ (B : Bs) (env : En) (Fr : List (V × M)) (σ : L2.St) (H G : Hp) (Q : Bool → Prop) (R : Bool → Hp → Prop),
  Rel g B env Fr σ H G → evP Γ env p (fun m => truM m Q) → (∀ b, Q b → R b H) → t σ H R
def PTs' (g : Gi) (Γ : Gm) (X : Cx) (p : T) (e : Expr) : Prop := ∃ t : L2.TT, PT X e t ∧ ∀ (B : Bs) (env : En) (Fr : List (V × M)) (σ : L2.St) (H G : Hp) (Q : Bool → Prop) (R : Bool → Hp → Prop),
  Rel g B env Fr σ H G → evT Γ env p Q → (∀ b, Q b → R b H) → t σ H R
def POs (g : Gi) (Γ : Gm) (X : Cx) (p : Option P) (e : Option Expr) : Prop := ∃ t : TO, PO X e t ∧ ∀ (B : Bs) (env : En) (Fr : List (V × M)) (σ : L2.St) (H G : Hp) (Q : Option Int → Prop) (R : Option Int → Hp → Prop),
  Rel g B env Fr σ H G → evO Γ env p Q → (∀ b, Q b → R b H) → t σ H R

section
variable {g : Gi} {cc : Sc} {Γ : Gm} {X : Cx}
theorem ba2 {a b : Bool} (h : (a && b) = true) : a = true ∧ b = true := Bool.and_eq_true_iff.mp h
theorem vis_of (hg : Good g cc Γ X) {x : Str} (h : visB cc.sc x = true) : Vis X.env.scope x := by
  rw [hg.esc]
  unfold visB at h
  split at h
  · rename_i e; exact .inl e
  · rename_i e; exact .inr (.inl e)
  · rename_i e; exact .inr (.inr e)
  · cases h
theorem loc_of (hg : Good g cc Γ X) {x : Str} (h : locB cc.sc x = true) : Loc X.env.scope x := by
  rw [hg.esc]
  unfold locB at h
  split at h
  · rename_i e; exact .inl e
  · rename_i e; exact .inr e
  · cases h
theorem gl_of (hg : Good g cc Γ X) {x : Str} (h : glB cc.sc x = true) : Gl X x := by
  show X.env.scope.names.lookup x = _
  rw [hg.esc]
  exact of_decide_eq_true h
theorem dbg_of {x : Str} (h : dbg x = true) : (x == ("__debug__" : Str)) = false ∧ (x == ("__classdict__" : Str)) = false ∧ x ≠ "__name__" := by
  unfold dbg at h
  obtain ⟨h1, h3⟩ := ba2 h
  obtain ⟨h1, h2⟩ := ba2 h1
  refine ⟨by simpa using h1, by simpa using h2, ?_⟩
  intro e
  subst e
  simp at h3
structure Blt (X : Cx) (x : Str) (b : String) : Prop where
  e : x = Str.ofString b
  g : Gl X x
  m : X.mg x = none
  d : (x == ("__debug__" : Str)) = false
  n : x ≠ "__name__"
theorem bl_of (hg : Good g cc Γ X) {x : Str} {b : String} (h : blB cc x b = true) : Blt X x b := by
  unfold blB at h
  obtain ⟨h, h4⟩ := ba2 h
  obtain ⟨h, h3⟩ := ba2 h
  obtain ⟨h1, h2⟩ := ba2 h
  obtain ⟨d1, d2, d3⟩ := dbg_of h4
  exact ⟨of_decide_eq_true h1, gl_of hg h2, by rw [hg.emg]; exact hg.fr x h3, d1, d3⟩
theorem slot_of (hg : Good g cc Γ X) {x : Str} {i : Nat} (h : slB cc x i = true) : X.N[i]? = some x ∧ (x == ("__debug__" : Str)) = false ∧ (x == ("__classdict__" : Str)) = false := by
  unfold slB at h
  obtain ⟨h1, h2⟩ := ba2 h
  obtain ⟨d1, d2, _⟩ := dbg_of h2
  exact ⟨by rw [hg.eN]; exact of_decide_eq_true h1, d1, d2⟩
/-- a constant of the text -/
theorem pv_const {e : Expr} {v : V} {m : M} {p : P} (h : PE X e (tC v)) (ho : ∀ G H, Own g G H v m (fun _ => 0)) (hp : ∀ env Q, evP Γ env p Q → Q m) : PV g Γ X p e :=
  ⟨_, h, fun B env Fr σ H G Q R r hq k => k m v _ (hp env Q hq) (ho G H)⟩
theorem nc {e : Expr} {p : P} (h : isCmp e = false) : PC' g Γ X p e := fun z => by rw [h] at z; cases z
/-- two operands under an operator -/
theorem pv_bin {a b p : P} {e x y : Expr} {op : Operator} {pos : Pos} {r : R2} (he : e = .BinOp x op y pos) (ha : PV g Γ X a x) (hb : PV g Γ X b y) (ho : OpR X (binaryOp op) r)
    (hs : ∀ {G H : Hp} {env : En} {Q : M → Prop}, Same G H → evP Γ env p Q → evP Γ env a fun m => evP Γ env b fun n => ∀ (R : VK) v u c d, Own g G H v m c → Own g G H u n d → Fin2 g G H Q R → r v u H R) : PV g Γ X p e := by
  subst he
  obtain ⟨ta, h1, k1⟩ := ha
  obtain ⟨tb, h2, k2⟩ := hb
  refine ⟨_, pe_op ho h1 h2, fun B env Fr σ H G Q R rl hq k => ?_⟩
  refine k1 B env Fr σ H G _ _ rl (hs rl.sGH hq) fun m v c hm ho1 => ?_
  exact k2 B env Fr σ H G _ _ rl hm fun n u d hn ho2 => hn R v u c d ho1 ho2 fun r v c' q o => k r v c' q o
theorem pv_cmp {a b : P} {o : O2} {e x y : Expr} {op : CmpOp} {pos : Pos} (hg : Good g cc Γ X) (he : e = .Compare x [op] [y] pos) (ha : PV g Γ X a x) (hb : PV g Γ X b y) (ho : cOp o = some op) (hm : behindInMarks op y = false) :
    PV g Γ X (.o2 o a b) e ∧ PC' g Γ X (.o2 o a b) e := by
  subst he
  obtain ⟨ta, h1, k1⟩ := ha
  obtain ⟨tb, h2, k2⟩ := hb
  have HO := op_cmp hg ho
  have hq : ∀ {env : En} {Q : M → Prop}, evP Γ env (.o2 o a b) Q → evP Γ env a fun m => evP Γ env b fun n => cmpP Γ.tab o m n fun k => Q (.bl k) := by
    intro env Q h
    cases o <;> first | (cases ho; done) | exact h
  have hs : ∀ {G H : Hp} {m n : M} {v u : V} {c d : Cn} {Q : Bool → Prop} {R : VK}, Same G H → cmpP Γ.tab o m n Q → Own g G H v m c → Own g G H u n d → FinB H Q R → r2 g o v u H R := by
    intro G H m n v u c d Q R sG h ho1 ho2 k
    cases o <;> first
      | (cases ho; done)
      | exact sc_eq h ho1 ho2 k
      | exact sc_ne h ho1 ho2 k
      | exact sc_in (neg := false) hg.tab sG h ho1 ho2 k
      | exact sc_in (neg := true) hg.tab sG h ho1 ho2 k
      | exact sc_ord h ho1 ho2 k (by decide)
  constructor
  · refine ⟨_, pe_cmpR HO h1 h2 hm, fun B env Fr σ H G Q R rl h k => ?_⟩
    refine k1 B env Fr σ H G _ _ rl (hq h) fun m v c hm ho1 => ?_
    exact k2 B env Fr σ H G _ _ rl hm fun n u d hn ho2 => hs rl.sGH hn ho1 ho2 fun b q => k _ _ _ q (o_bl b)
  · intro _
    refine ⟨_, pt_cmpR HO h1 h2 hm, fun B env Fr σ H G Q R rl h k => ?_⟩
    refine k1 B env Fr σ H G _ _ rl (hq h) fun m v c hm ho1 => ?_
    exact k2 B env Fr σ H G _ _ rl hm fun n u d hn ho2 => hs rl.sGH hn ho1 ho2 fun b q => ⟨b, rfl, k b q⟩
/-- one argument list -/
theorem pa_n {e : Expr} {es : List Expr} {te : TE} {t : TA} (h : nStar e = true) (ha : PE X e te) (hr : PA X es t) : PA X (e :: es) (tCons te t) := pa_cons ha hr (starEach_n h)
theorem no_star {es : List Expr} {p : Pos} {env : Env} (h : es.all nStar = true) : (backTo p (starEach es env)).any (·.1) = false := by
  induction es with
  | nil => rfl
  | cons e r ih =>
    rw [List.all_cons, Bool.and_eq_true] at h
    rw [starEach_n h.1]
    show (false || (backTo p (starEach r env)).any (·.1)) = false
    rw [ih h.2] <;> rfl
theorem pv_call1 {a : P} {o : O1} {e : Expr} (hg : Good g cc Γ X) {ca : Expr → Bool} (ih : ∀ e, ca e = true → PV g Γ X a e) (hp : ∀ env Q, evP Γ env (.o1 o a) Q → evP Γ env a fun m => o1P o m Q)
    (h : (match f1Op o, vCall e with
    | some (n, _), some (f, [x]) => coldO cc o && blB cc f n && nStar x && ca x
    | _, _ => false) = true) : PV g Γ X (.o1 o a) e ∧ isCmp e = false := by
  split at h
  · rename_i n isf f x e1 e2
    obtain ⟨h, h3⟩ := ba2 h
    obtain ⟨h, h2⟩ := ba2 h
    obtain ⟨hco, h1⟩ := ba2 h
    have hb := bl_of hg h1
    obtain ⟨p, q, rfl⟩ := vCall_i e2
    obtain ⟨ta, t1, k1⟩ := ih x h3
    refine ⟨?_, rfl⟩
    have he := hb.e
    have HA : PA X [x] (tCons ta tNil) := pa_n h2 t1 pa_nil
    have fin : ∀ (t : TE), t = tCB (r1 g o) (tCons ta tNil) → PE X (.Call (.Name f p) [x] [] q) t → PV g Γ X (.o1 o a) (.Call (.Name f p) [x] [] q) := by
      intro t et ht
      subst et
      refine ⟨_, ht, fun B env Fr σ H G Q R rl hq k => ?_⟩
      refine k1 B env Fr σ H G _ _ rl (hp env Q hq) fun m v c hm ho1 => ?_
      exact s1_call e1 rl.sGH hm ho1 k
    cases isf with
    | true =>
      obtain ⟨c1, c2⟩ := c1_fn hg hco e1
      exact fin _ rfl (pe_callB c1 hb.g hb.m (he ▸ c2) HA hb.n hb.d (starEach_n h2) rfl)
    | false =>
      obtain ⟨c1, c2⟩ := c1_ty hg e1
      exact fin _ rfl (pe_callTy c1 hb.g hb.m (he ▸ c2) HA hb.n hb.d (starEach_n h2) rfl)
  · cases h
theorem pt_of {e : Expr} {p : P} (hg : Good g cc Γ X) (h : PV g Γ X p e ∧ PC' g Γ X p e) (ht : (nTst e || isCmp e) = true) : PTs' g Γ X (.p p) e := by
  cases hc : isCmp e with
  | true => exact h.2 hc
  | false =>
    rw [hc, Bool.or_false] at ht
    obtain ⟨t, h1, k1⟩ := h.1
    refine ⟨_, pt_truth h1 (tst_n ht), fun B env Fr σ H G Q R rl hq k => ?_⟩
    refine k1 B env Fr σ H G _ _ rl hq fun m v c hm ho1 => ?_
    obtain ⟨z, z1, z2⟩ := s_tru rl.sGH hm ho1
    exact ⟨z, by rw [hg.eK]; exact z1, k z z2⟩
theorem pv_chk1 {a : P} {o : O1} {e : Expr} (hg : Good g cc Γ X) (ih : ∀ e, chkP cc a e = true → PV g Γ X a e) (h : chk1 cc o (chkP cc a) e = true) : PV g Γ X (.o1 o a) e ∧ PC' g Γ X (.o1 o a) e := by
  have ca : ∀ {o : O1}, (match f1Op o, vCall e with
    | some (n, _), some (f, [x]) => coldO cc o && blB cc f n && nStar x && chkP cc a x
    | _, _ => false) = true → PV g Γ X (.o1 o a) e ∧ PC' g Γ X (.o1 o a) e := fun {o} h => by
    obtain ⟨z1, z2⟩ := pv_call1 hg ih (fun env Q h => h) h
    exact ⟨z1, nc z2⟩
  cases o with
  | neg =>
    have h : (match vUn e with | some (.USub, x) => chkP cc a x | _ => false) = true := h
    split at h
    · rename_i x e1
      obtain ⟨p, rfl⟩ := vUn_i e1
      obtain ⟨ta, t1, k1⟩ := ih x h
      refine ⟨⟨_, pe_un un_neg t1, fun B env Fr σ H G Q R rl hq k => ?_⟩, nc rfl⟩
      refine k1 B env Fr σ H G (fun m => o1P .neg m Q) _ rl hq fun m v c hm ho1 => ?_
      cases m with
      | int i => obtain ⟨rfl, _⟩ := ho1; exact ⟨i, rfl, k _ _ _ hm (o_int _)⟩
      | _ => exact (show False from hm).elim
    · cases h
  | isN =>
    have h : (match vCmp e with | some (.Is, x, n) => isNon n && chkP cc a x | _ => false) = true := h
    split at h
    · rename_i x n e1
      obtain ⟨h1, h2⟩ := ba2 h
      obtain ⟨p, rfl⟩ := vCmp_i e1
      obtain ⟨kq, pq, rfl⟩ := isNon_i h1
      obtain ⟨ta, t1, k1⟩ := ih x h2
      constructor
      · refine ⟨_, pe_cmpR op_isN t1 pe_non (nomark _), fun B env Fr σ H G Q R rl hq k => ?_⟩
        refine k1 B env Fr σ H G (fun m => o1P .isN m Q) _ rl hq fun m v c hm ho1 => ?_
        exact ⟨rfl, k _ _ _ (s1_isN hm ho1) (o_bl _)⟩
      · intro _
        refine ⟨_, pt_cmpR op_isN t1 pe_non (nomark _), fun B env Fr σ H G Q R rl hq k => ?_⟩
        refine k1 B env Fr σ H G (fun m => o1P .isN m (fun r => truM r Q)) _ rl hq fun m v c hm ho1 => ?_
        exact ⟨rfl, _, rfl, k _ (s1_isN hm ho1)⟩
    · cases h
  | notN =>
    have h : (match vCmp e with | some (.IsNot, x, n) => isNon n && chkP cc a x | _ => false) = true := h
    split at h
    · rename_i x n e1
      obtain ⟨h1, h2⟩ := ba2 h
      obtain ⟨p, rfl⟩ := vCmp_i e1
      obtain ⟨kq, pq, rfl⟩ := isNon_i h1
      obtain ⟨ta, t1, k1⟩ := ih x h2
      constructor
      · refine ⟨_, pe_cmpR op_notN t1 pe_non (nomark _), fun B env Fr σ H G Q R rl hq k => ?_⟩
        refine k1 B env Fr σ H G (fun m => o1P .notN m Q) _ rl hq fun m v c hm ho1 => ?_
        exact ⟨rfl, k _ _ _ (s1_notN hm ho1) (o_bl _)⟩
      · intro _
        refine ⟨_, pt_cmpR op_notN t1 pe_non (nomark _), fun B env Fr σ H G Q R rl hq k => ?_⟩
        refine k1 B env Fr σ H G (fun m => o1P .notN m (fun r => truM r Q)) _ rl hq fun m v c hm ho1 => ?_
        exact ⟨rfl, _, rfl, k _ (s1_notN hm ho1)⟩
    · cases h
  | fld C k =>
    have h : (match vAtt e with | some (x, f) => nSup x && decide ((cc.fl C)[k]? = some f) && chkP cc a x | none => false) = true := h
    split at h
    · rename_i x f e1
      obtain ⟨h, h3⟩ := ba2 h
      obtain ⟨h1, h2⟩ := ba2 h
      obtain ⟨p, rfl⟩ := vAtt_i e1
      obtain ⟨ta, t1, k1⟩ := ih x h3
      have hf := of_decide_eq_true h2
      obtain ⟨q1, q2⟩ := hg.cls C k f hf
      refine ⟨⟨_, pe_fld t1 (base_n h1), fun B env Fr σ H G Q R rl hq kf => ?_⟩, nc rfl⟩
      refine k1 B env Fr σ H G (fun m => o1P (.fld C k) m Q) _ rl hq fun m v c hm ho1 => ?_
      rw [hg.eK]
      exact s1_fld rl.sGH (by rw [hg.fl]; exact hg.fnd C) (by rw [hg.fl]; exact hf) q1 q2 hm ho1 kf
    · cases h
  | isi ts =>
    have h : (match (generalizing := false) vCall e, ts with
    | some (f, [x, t]), [n] => blB cc f "isinstance" && nStar x && nStar t && chkP cc a x && tyName cc t n && ["bool", "int", "str", "list", "tuple", "dict"].contains n
    | _, _ => false) = true := h
    split at h
    · rename_i f x t n e1 h0_
      obtain ⟨h, h6⟩ := ba2 h
      obtain ⟨h, h5⟩ := ba2 h
      obtain ⟨h, h4⟩ := ba2 h
      obtain ⟨h, h3⟩ := ba2 h
      obtain ⟨h1, h2⟩ := ba2 h
      have hb := bl_of hg h1
      obtain ⟨p, q, rfl⟩ := vCall_i e1
      obtain ⟨ta, t1, k1⟩ := ih x h4
      have hn : n ∈ ["bool", "int", "str", "list", "tuple", "dict"] := by simpa using h6
      have ht : ∃ y q, t = .Name y q ∧ Blt X y n := by
        unfold tyName at h5
        split at h5
        · rename_i y ey
          obtain ⟨q, rfl⟩ := vNam_i ey
          exact ⟨y, q, rfl, bl_of hg h5⟩
        · cases h5
      obtain ⟨y, q', rfl, hy⟩ := ht
      have bt : bootBuiltins (Str.ofString n) = some (.type n) := by
        simp only [List.mem_cons, List.not_mem_nil, or_false] at hn
        rcases hn with rfl | rfl | rfl | rfl | rfl | rfl
        · exact boot_bool
        · exact boot_int
        · exact boot_str
        · exact boot_list
        · exact boot_tuple
        · exact boot_dict
      have hT : PE X (.Name y q') (tC (.ty n)) := pe_bltn hy.g hy.m (hy.e ▸ bt) rfl hy.n hy.d
      have HA : PA X [x, .Name y q'] (tCons ta (tCons (tC (.ty n)) tNil)) := pa_n h2 t1 (pa_n rfl hT pa_nil)
      have HC : CallR X (.builtin "isinstance") (rIsi g.K) := by rw [← hg.eK]; exact call_isi
      refine ⟨⟨_, pe_callB HC hb.g hb.m (hb.e ▸ boot_isinstance) HA hb.n hb.d (starEach_n h2) (no_star rfl), fun B env Fr σ H G Q R rl hq k => ?_⟩, nc rfl⟩
      refine k1 B env Fr σ H G (fun m => o1P (.isi [n]) m Q) _ rl hq fun m v c hm ho1 => ?_
      exact s1_isi rl.sGH hn hm ho1 k
    · cases h
  | upper =>
    have h : (match vMet e with | some (x, m, [], l) => l && decide (m = Str.ofString "upper") && nSup x && chkP cc a x | _ => false) = true := h
    split at h
    · rename_i x m l e1
      obtain ⟨h, h4⟩ := ba2 h
      obtain ⟨h, h3⟩ := ba2 h
      obtain ⟨h1, h2⟩ := ba2 h
      obtain ⟨ap, p, rfl, el⟩ := vMet_i e1
      have em := of_decide_eq_true h2
      subst em
      obtain ⟨ta, t1, k1⟩ := ih x h4
      refine ⟨⟨_, pe_upper t1 (base_n h3) (el ▸ h1), fun B env Fr σ H G Q R rl hq k => ?_⟩, nc rfl⟩
      refine k1 B env Fr σ H G (fun m => o1P .upper m Q) _ rl hq fun m v c hm ho1 => ?_
      cases m with
      | str cs =>
        obtain ⟨rfl, _⟩ := ho1
        exact ⟨⟨_, rfl⟩, _, rfl, rfl, by rw [sS_len]; exact hm.1, k _ _ _ hm.2 ⟨by rw [sS_of], zr0⟩⟩
      | _ => exact (show False from hm).elim
    · cases h
  | len => exact ca (o := .len) h
  | toInt => exact ca (o := .toInt) h
  | toStr => exact ca (o := .toStr) h
  | abs => exact ca (o := .abs) h
  | sum => exact ca (o := .sum) h
  | maxL => exact ca (o := .maxL) h
  | minL => exact ca (o := .minL) h
  | listOf => exact ca (o := .listOf) h
  | tupleOf => exact ca (o := .tupleOf) h
  | sorted => exact ca (o := .sorted) h
end
end Q
set_option Elab.async false
set_option linter.all false
set_option maxRecDepth 100000
set_option maxHeartbeats 4000000
namespace Q
open PySem PySem.Spec PyProof.Rows L2

/-! ### texts -/
theorem pre_eq (S l : List Nat) : pre S l = TL.pre S l := rfl
theorem joinL_eq (S : List Nat) : ∀ l : List (List Nat), joinL S l = TL.joinL S l
  | [] => rfl
  | [x] => rfl
  | x :: y :: r => by
    show x ++ S ++ joinL S (y :: r) = _
    rw [joinL_eq S (y :: r)]
    first | rfl | (rw [List.append_assoc]; rfl)
theorem join_sS (s : List Nat) (ys : List (List Nat)) : Txt.join (sS s) (ys.map sS) = sS (joinL s ys) := by
  rw [TL.join_eq]
  apply TL.ext_tl
  rw [TL.tl_join, List.map_map]
  show TL.joinL s (ys.map fun y => TL.tl (sS y)) = joinL s ys
  rw [joinL_eq]
  have e : ys.map (fun y => TL.tl (sS y)) = ys := by
    induction ys with
    | nil => rfl
    | cons y r ih => rw [List.map_cons, ih] <;> rfl
  rw [e]
theorem starts_sS (a b : List Nat) : Txt.startswith (sS a) (sS b) = pre b a := by
  cases b with
  | nil =>
    have e : pre [] a = true := rfl
    rw [e]
    unfold Txt.startswith
    rw [Bool.and_eq_true]
    refine ⟨decide_eq_true (by show 0 + (sS []).length ≤ _; simp [Str.length]), ?_⟩
    rw [StrLaws.subAt_eq]; rfl
  | cons z r =>
    have hne : TL.tl (sS (z :: r)) ≠ [] := fun h => by cases h
    have q := TL.at_iff (x := sS a) (y := sS (z :: r)) hne 0
    rw [Bool.eq_iff_iff]
    unfold Txt.startswith
    rw [Bool.and_eq_true, decide_eq_true_eq]
    exact q
theorem fnd_hit {S : List Nat} (hS : S ≠ []) : ∀ (L : List Nat) (k i : Nat), pre S (L.drop i) = true → (∀ j, j < i → pre S (L.drop j) = false) → fnd S k L = some (k + i)
  | [], k, i, h, _ => by
    rw [List.drop_nil] at h
    have e : S.isEmpty = false := by cases S with
      | nil => exact absurd rfl hS
      | cons _ _ => rfl
    have z : (([] : List Nat).take S.length == S) = true := h
    rw [List.take_nil] at z
    have z2 : ([] : List Nat) = S := by simpa using z
    exact absurd z2.symm hS
  | c :: r, k, 0, h, _ => by
    unfold fnd
    rw [if_pos (show pre S (c :: r) = true from h)] <;> rfl
  | c :: r, k, i + 1, h, hn => by
    unfold fnd
    have h0 : pre S (c :: r) = false := hn 0 (Nat.succ_pos _)
    rw [if_neg (by rw [h0]; exact Bool.false_ne_true)]
    rw [fnd_hit hS r (k + 1) i h fun j hj => hn (j + 1) (Nat.succ_lt_succ hj)]
    exact congrArg some (by omega)
theorem fnd_miss {S : List Nat} (hS : S ≠ []) : ∀ (L : List Nat) (k : Nat), (∀ j, pre S (L.drop j) = false) → fnd S k L = none
  | [], k, _ => by
    unfold fnd
    cases S with
    | nil => exact absurd rfl hS
    | cons _ _ => rfl
  | c :: r, k, hn => by
    unfold fnd
    have h0 : pre S (c :: r) = false := hn 0
    rw [if_neg (by rw [h0]; exact Bool.false_ne_true)]
    exact fnd_miss hS r (k + 1) fun j => hn (j + 1)
theorem find_sS (a b : List Nat) (hb : b ≠ []) : Txt.find (sS a) (sS b) = (match fnd b 0 a with | some k => (k : Int) | none => -1) := by
  have hne : TL.tl (sS b) ≠ [] := hb
  unfold Txt.find
  rcases StrLaws.occ_head (sS a) (sS b) 1 (Nat.le_refl _) with ⟨h0, hn⟩ | ⟨i, r, h0, ha, hn⟩
  · rw [h0, fnd_miss hb a 0 fun j => TL.no_at hne (hn j)]
  · rw [h0, fnd_hit hb a 0 i ((TL.at_iff hne i).mp ha) fun j hj => TL.no_at hne (hn j hj)]
    show (i : Int) = ((0 + i : Nat) : Int)
    rw [Nat.zero_add]

section
variable {g : Gi} {cc : Sc} {Γ : Gm} {X : Cx}
/-- a pair of places under a method of a text -/
theorem pv_met {a b : P} {o : O2} {x y : Expr} {ap pos : Pos} {nm : Str} {id : String} {r : V → List V → Hp → VK → Prop} (hg : Good g cc Γ X)
    (ha : PV g Γ X a x) (hb : PV g Γ X b y) (slot : Slot "str" nm id) (ty : typeOf (.builtin id) = pure (.type "method_descriptor")) (rule : MtR X id r)
    (hl : (ap.endLine == pos.line) = true) (hs : nStar y = true) (hsup : nSup x = true)
    (hq : ∀ {env : En} {Q : M → Prop}, evP Γ env (.o2 o a b) Q → evP Γ env a fun m => yes m.isS (evP Γ env b fun n => o2P Γ.tab o m n Q))
    (hr : ∀ {G H : Hp} {m n : M} {v u : V} {c d : Cn} {Q : M → Prop} {R : VK}, Same G H → o2P Γ.tab o m n Q → Own g G H v m c → Own g G H u n d → Fin2 g G H Q R → r v [u] H R) : PV g Γ X (.o2 o a b) (.Call (.Attribute x nm ap) [y] [] pos) := by
  obtain ⟨ta, h1, k1⟩ := ha
  obtain ⟨tb, h2, k2⟩ := hb
  refine ⟨_, pe_m1 slot ty rule h1 h2 (starEach_n hs) (base_n hsup) hl, fun B env Fr σ H G Q R rl h k => ?_⟩
  refine k1 B env Fr σ H G _ _ rl (hq h) fun m v c hm ho1 => ?_
  obtain ⟨hm1, hm2⟩ := yes_i hm
  have z : ∃ z, v = .str z := by
    cases m with
    | str cs => exact ⟨_, ho1.1⟩
    | _ => cases hm1
  exact ⟨z, k2 B env Fr σ H G _ _ rl hm2 fun n u d hn ho2 => hr rl.sGH hn ho1 ho2 k⟩
theorem sm_join {G H : Hp} {m n : M} {v u : V} {c d : Cn} {Q : M → Prop} {R : VK} {tb : Tab} (sG : Same G H) (h : o2P tb .join m n Q) (ho1 : Own g G H v m c) (ho2 : Own g G H u n d) (k : Fin2 g G H Q R) :
    ∃ a p, ∃ ys : List Str, v = .str a ∧ [u] = [.ref p] ∧ (SqL g.K H p (ys.map V.str) ∨ SqT g.K H p (ys.map V.str)) ∧ (ys.map (·.length)).sum + ys.length * a.length ≤ 16777216 ∧ R (.str (Txt.join a ys)) H := by
  have fin : ∀ {s : List Nat} {ys : List (List Nat)} {p : Addr} {us : List V}, us = (ys.map sS).map V.str → (SqL g.K H p us ∨ SqT g.K H p us) → (ys.map List.length).sum + ys.length * s.length ≤ sl → Q (.str (joinL s ys)) →
      ∃ a p', ∃ ys : List Str, V.str (sS s) = .str a ∧ [V.ref p] = [.ref p'] ∧ (SqL g.K H p' (ys.map V.str) ∨ SqT g.K H p' (ys.map V.str)) ∧ (ys.map (·.length)).sum + ys.length * a.length ≤ 16777216 ∧ R (.str (Txt.join a ys)) H := by
    intro s ys p us e hs hl hq
    subst e
    refine ⟨_, p, ys.map sS, rfl, rfl, hs, ?_, ?_⟩
    · rw [List.map_map, List.length_map, sS_len]
      have e : (ys.map ((fun z : Str => z.length) ∘ sS)) = ys.map List.length := List.map_congr_left fun y _ => sS_len y
      rw [e]; exact hl
    · rw [join_sS]; exact k _ _ _ hq (o_str _)
  cases m with
  | str s =>
    cases n with
    | lst o ms =>
      obtain ⟨rfl, _⟩ := ho1
      obtain ⟨ys, e, hl, hq⟩ := h
      obtain ⟨a, us, c', rfl, hs, hl2, _⟩ := seq_of sG ho2
      exact fin (OwnL.strs hl2 e) (.inl hs) hl hq
    | tup ms =>
      obtain ⟨rfl, _⟩ := ho1
      obtain ⟨ys, e, hl, hq⟩ := h
      obtain ⟨a, us, rfl, hs, hl2⟩ := tup_of sG ho2
      exact fin (OwnL.strs hl2 e) (.inr hs) hl hq
    | _ => exact (show False from h).elim
  | _ => exact (show False from h).elim
theorem sm_starts {G H : Hp} {m n : M} {v u : V} {c d : Cn} {Q : M → Prop} {R : VK} {tb : Tab} (sG : Same G H) (h : o2P tb .startswith m n Q) (ho1 : Own g G H v m c) (ho2 : Own g G H u n d) (k : Fin2 g G H Q R) :
    ∃ a b, v = .str a ∧ [u] = [.str b] ∧ R (.bl (Txt.startswith a b)) H := by
  cases m with
  | str s =>
    cases n with
    | str t =>
      obtain ⟨rfl, _⟩ := ho1
      obtain ⟨rfl, _⟩ := ho2
      exact ⟨_, _, rfl, rfl, by rw [starts_sS]; exact k _ _ _ h (o_bl _)⟩
    | _ => exact (show False from h).elim
  | _ => exact (show False from h).elim
theorem sm_find {G H : Hp} {m n : M} {v u : V} {c d : Cn} {Q : M → Prop} {R : VK} {tb : Tab} (sG : Same G H) (h : o2P tb .find m n Q) (ho1 : Own g G H v m c) (ho2 : Own g G H u n d) (k : Fin2 g G H Q R) :
    ∃ a b, v = .str a ∧ [u] = [.str b] ∧ R (.int (Txt.find a b)) H := by
  cases m with
  | str s =>
    cases n with
    | str t =>
      obtain ⟨rfl, _⟩ := ho1
      obtain ⟨rfl, _⟩ := ho2
      obtain ⟨hn, h⟩ := yes_i (show yes (!t.isEmpty) _ from h)
      refine ⟨_, _, rfl, rfl, ?_⟩
      rw [find_sS s t (by cases t with
        | nil => cases hn
        | cons _ _ => exact List.cons_ne_nil _ _)]
      exact k _ _ _ h (o_int _)
    | _ => exact (show False from h).elim
  | _ => exact (show False from h).elim
theorem pv_chk2 {a b : P} {o : O2} {e : Expr} (hg : Good g cc Γ X) (iha : ∀ e, chkP cc a e = true → PV g Γ X a e) (ihb : ∀ e, chkP cc b e = true → PV g Γ X b e) (h : chk2 cc o (chkP cc a) (chkP cc b) e = true) :
    PV g Γ X (.o2 o a b) e ∧ PC' g Γ X (.o2 o a b) e := by
  by_cases ho : o = .idx
  · subst ho
    have h : (match vSub e with | some (x, y) => nSli y && chkP cc a x && chkP cc b y | none => false) = true := h
    split at h
    · rename_i x y e1
      obtain ⟨h, h3⟩ := ba2 h
      obtain ⟨h1, h2⟩ := ba2 h
      obtain ⟨p, rfl⟩ := vSub_i e1
      obtain ⟨ta, t1, k1⟩ := iha x h2
      obtain ⟨tb, t2, k2⟩ := ihb y h3
      refine ⟨⟨_, pe_ix (ix_all hg) t1 t2 (fun _ _ => subs_n h1), fun B env Fr σ H G Q R rl hq k => ?_⟩, nc rfl⟩
      refine k1 B env Fr σ H G (fun m => evP Γ env b fun n => ixP Γ.tab m n Q) _ rl hq fun m v c hm ho1 => ?_
      exact k2 B env Fr σ H G _ _ rl hm fun n u d hn ho2 => s2_idx hg.tab rl.sGH hn ho1 ho2 k
    · cases h
  · have h : (match vBin e with
    | some (op, x, y) => decide (bOp o = some op) && chkP cc a x && chkP cc b y
    | none => (match vCmp e with
      | some (op, x, y) => decide (cOp o = some op) && nSet y && chkP cc a x && chkP cc b y
      | none => (match vCall e, f2Op o with
        | some (f, [x, y]), some n => !cc.hot && blB cc f n && nStar x && nStar y && chkP cc a x && chkP cc b y
        | _, _ => (match vMet e, m1Op o with
          | some (x, m, [y], l), some n => l && decide (m = Str.ofString n) && nSup x && nStar y && chkP cc a x && chkP cc b y
          | _, _ => false)))) = true := by
      cases o <;> first | exact absurd rfl ho | exact h
    split at h
    · rename_i op x y e1
      obtain ⟨h, h3⟩ := ba2 h
      obtain ⟨h1, h2⟩ := ba2 h
      obtain ⟨p, rfl⟩ := vBin_i e1
      have hop := of_decide_eq_true h1
      obtain ⟨ta, t1, k1⟩ := iha x h2
      obtain ⟨tb, t2, k2⟩ := ihb y h3
      refine ⟨⟨_, pe_op (op_bin hg hop) t1 t2, fun B env Fr σ H G Q R rl hq k => ?_⟩, nc rfl⟩
      have hq' : evP Γ env a fun m => evP Γ env b fun n => o2P Γ.tab o m n Q := by
        cases o <;> first | (cases hop; done) | exact hq
      refine k1 B env Fr σ H G _ _ rl hq' fun m v c hm ho1 => ?_
      refine k2 B env Fr σ H G _ _ rl hm fun n u d hn ho2 => s2_num hn ho1 ho2 k ?_
      cases o <;> first | (cases hop; done) | decide
    · split at h
      · rename_i op x y e1
        obtain ⟨h, h4⟩ := ba2 h
        obtain ⟨h, h3⟩ := ba2 h
        obtain ⟨h1, h2⟩ := ba2 h
        obtain ⟨p, rfl⟩ := vCmp_i e1
        exact pv_cmp hg rfl (iha x h3) (ihb y h4) (of_decide_eq_true h1) (mark_n h2)
      · split at h
        · rename_i f x y n e1 e2
          obtain ⟨h, h5⟩ := ba2 h
          obtain ⟨h, h4⟩ := ba2 h
          obtain ⟨h, h3⟩ := ba2 h
          obtain ⟨h, h2⟩ := ba2 h
          obtain ⟨hco, h1⟩ := ba2 h
          have hb := bl_of hg h1
          obtain ⟨p, q, rfl⟩ := vCall_i e1
          obtain ⟨ta, t1, k1⟩ := iha x h4
          obtain ⟨tb, t2, k2⟩ := ihb y h5
          have HA : PA X [x, y] (tCons ta (tCons tb tNil)) := pa_n h2 t1 (pa_n h3 t2 pa_nil)
          cases o <;> first
            | (cases e2; done)
            | (cases e2
               first
                | (refine ⟨⟨_, pe_callB (call_min2 (hg.calm (cold_n hco))) hb.g hb.m (by rw [hb.e]; decide +kernel) HA hb.n hb.d (starEach_n h2) (no_star (by simp [h3])), fun B env Fr σ H G Q R rl hq k => ?_⟩, nc rfl⟩
                   refine k1 B env Fr σ H G (fun m => evP Γ env b fun n => o2P Γ.tab .min2 m n Q) _ rl hq fun m v c hm ho1 => ?_
                   refine k2 B env Fr σ H G _ _ rl hm fun n u d hn ho2 => ?_
                   obtain ⟨i, j, e1, e2, q⟩ := s2_num (o := .min2) hn ho1 ho2 k (by decide)
                   exact ⟨i, j, by rw [e1, e2], q⟩)
                | (refine ⟨⟨_, pe_callB (call_max2 (hg.calm (cold_n hco))) hb.g hb.m (by rw [hb.e]; decide +kernel) HA hb.n hb.d (starEach_n h2) (no_star (by simp [h3])), fun B env Fr σ H G Q R rl hq k => ?_⟩, nc rfl⟩
                   refine k1 B env Fr σ H G (fun m => evP Γ env b fun n => o2P Γ.tab .max2 m n Q) _ rl hq fun m v c hm ho1 => ?_
                   refine k2 B env Fr σ H G _ _ rl hm fun n u d hn ho2 => ?_
                   obtain ⟨i, j, e1, e2, q⟩ := s2_num (o := .max2) hn ho1 ho2 k (by decide)
                   exact ⟨i, j, by rw [e1, e2], q⟩))
        · split at h
          · rename_i x m y l n e1 e2
            obtain ⟨h, h6⟩ := ba2 h
            obtain ⟨h, h5⟩ := ba2 h
            obtain ⟨h, h4⟩ := ba2 h
            obtain ⟨h, h3⟩ := ba2 h
            obtain ⟨h1, h2⟩ := ba2 h
            obtain ⟨ap, p, rfl, el⟩ := vMet_i e1
            have em := of_decide_eq_true h2
            subst em
            have hl : (ap.endLine == p.line) = true := el ▸ h1
            refine ⟨?_, nc rfl⟩
            cases o <;> first
              | (cases e2; done)
              | (cases e2
                 first
                  | exact pv_met hg (iha x h5) (ihb y h6) F.slot_str_join F.type_str_join (by exact mt_join) hl h4 h3 (fun h => h) (fun sG h o1 o2 k => by rw [hg.eK]; exact sm_join sG h o1 o2 k)
                  | exact pv_met hg (iha x h5) (ihb y h6) F.slot_str_startswith F.type_str_startswith mt_startswith hl h4 h3 (fun h => h) (fun sG h o1 o2 k => sm_starts sG h o1 o2 k)
                  | exact pv_met hg (iha x h5) (ihb y h6) F.slot_str_find F.type_str_find mt_find hl h4 h3 (fun h => h) (fun sG h o1 o2 k => sm_find sG h o1 o2 k))
          · cases h
end
end Q
set_option Elab.async false
set_option linter.all false
set_option maxRecDepth 100000
set_option maxHeartbeats 4000000
namespace Q
open PySem PySem.Spec PyProof.Rows L2
section
variable {g : Gi} {cc : Sc} {Γ : Gm} {X : Cx}
theorem s_int {v : V} {G H : Hp} {m : M} {c : Cn} {Q : Int → Prop} (h : asI m Q) (ho : Own g G H v m c) : ∃ i, v = .int i ∧ Q i := by
  cases m with
  | int i => obtain ⟨rfl, _⟩ := ho; exact ⟨i, rfl, h⟩
  | _ => exact (show False from h).elim
theorem s_bool {v : V} {G H : Hp} {m : M} {c : Cn} {Q : Bool → Prop} (h : asB m Q) (ho : Own g G H v m c) : ∃ i, v = .bl i ∧ Q i := by
  cases m with
  | bl i => obtain ⟨rfl, _⟩ := ho; exact ⟨i, rfl, h⟩
  | _ => exact (show False from h).elim
theorem str_slice {cs : List Nat} {lo hi : Option Int} : cutS (sS cs) lo hi = sS (cutL cs lo hi) := by
  apply TL.ext_tl
  rw [cutL_eq]
  first
    | rfl
    | (unfold cutS; rfl)
/-- x and y, x and y and z .. as values -/
theorem pv_and {a b : P} {x : Expr} {es : List Expr} {pos : Pos} (hg : Good g cc Γ X) (ha : PV g Γ X a x) {y : Expr} (hb : PV g Γ X b (.BoolOp .And (y :: es) pos)) : PV g Γ X (.and a b) (.BoolOp .And (x :: y :: es) pos) := by
  obtain ⟨ta, h1, k1⟩ := ha
  obtain ⟨tb, h2, k2⟩ := hb
  refine ⟨_, pe_and h1 h2, fun B env Fr σ H G Q R rl hq k => ?_⟩
  refine k1 B env Fr σ H G (fun m => asB m fun c => match c with | true => evP Γ env b Q | false => Q (.bl false)) _ rl hq fun m v c hm ho => ?_
  obtain ⟨z, e, hz⟩ := s_bool hm ho
  refine ⟨z, e, ?_⟩
  cases z with
  | true => exact iteT (k2 B env Fr σ H G Q R rl hz k)
  | false => exact iteF (k _ _ _ hz (o_bl _))
theorem pv_or {a b : P} {x : Expr} {es : List Expr} {pos : Pos} (hg : Good g cc Γ X) (ha : PV g Γ X a x) {y : Expr} (hb : PV g Γ X b (.BoolOp .Or (y :: es) pos)) : PV g Γ X (.or a b) (.BoolOp .Or (x :: y :: es) pos) := by
  obtain ⟨ta, h1, k1⟩ := ha
  obtain ⟨tb, h2, k2⟩ := hb
  refine ⟨_, pe_or h1 h2, fun B env Fr σ H G Q R rl hq k => ?_⟩
  refine k1 B env Fr σ H G (fun m => asB m fun c => match c with | true => Q (.bl true) | false => evP Γ env b Q) _ rl hq fun m v c hm ho => ?_
  obtain ⟨z, e, hz⟩ := s_bool hm ho
  refine ⟨z, e, ?_⟩
  cases z with
  | true => exact iteT (k _ _ _ hz (o_bl _))
  | false => exact iteF (k2 B env Fr σ H G Q R rl hz k)
theorem pv_one {b : P} {op : BoolOp} {y : Expr} {pos : Pos} (h : PV g Γ X b y) : PV g Γ X b (.BoolOp op [y] pos) := by
  obtain ⟨ta, h1, k1⟩ := h
  exact ⟨ta, pe_one h1, k1⟩
/-- .. as tests -/
def PWs (g : Gi) (Γ : Gm) (X : Cx) (p : T) (e : Expr) : Prop := ∃ t : L2.TT, PW X e t ∧ ∀ (B : Bs) (env : En) (Fr : List (V × M)) (σ : L2.St) (H G : Hp) (Q : Bool → Prop) (R : Bool → Hp → Prop),
  Rel g B env Fr σ H G → evT Γ env p Q → (∀ b, Q b → R b H) → t σ H R
theorem pw_an {a b : T} {x y : Expr} {es : List Expr} {pos : Pos} (ha : PTs' g Γ X a x) (hb : PWs g Γ X b (.BoolOp .And (y :: es) pos)) : PWs g Γ X (.and a b) (.BoolOp .And (x :: y :: es) pos) := by
  obtain ⟨ta, h1, k1⟩ := ha
  obtain ⟨tb, h2, k2⟩ := hb
  refine ⟨_, pw_and h1 h2, fun B env Fr σ H G Q R rl hq k => ?_⟩
  refine k1 B env Fr σ H G (fun c => match c with | true => evT Γ env b Q | false => Q false) _ rl hq fun z hz => ?_
  cases z with
  | true => exact iteT (k2 B env Fr σ H G Q R rl hz k)
  | false => exact iteF (k _ hz)
theorem pw_orr {a b : T} {x y : Expr} {es : List Expr} {pos : Pos} (ha : PTs' g Γ X a x) (hb : PWs g Γ X b (.BoolOp .Or (y :: es) pos)) : PWs g Γ X (.or a b) (.BoolOp .Or (x :: y :: es) pos) := by
  obtain ⟨ta, h1, k1⟩ := ha
  obtain ⟨tb, h2, k2⟩ := hb
  refine ⟨_, pw_or h1 h2, fun B env Fr σ H G Q R rl hq k => ?_⟩
  refine k1 B env Fr σ H G (fun c => match c with | true => Q true | false => evT Γ env b Q) _ rl hq fun z hz => ?_
  cases z with
  | true => exact iteT (k _ hz)
  | false => exact iteF (k2 B env Fr σ H G Q R rl hz k)
theorem pw_1 {b : T} {y : Expr} {pos : Pos} (op : BoolOp) (h : PTs' g Γ X b y) : PWs g Γ X b (.BoolOp op [y] pos) := by
  obtain ⟨ta, h1, k1⟩ := h
  cases op with
  | And => exact ⟨ta, pw_and1 h1, k1⟩
  | Or => exact ⟨ta, pw_or1 h1, k1⟩
theorem pw_t {b : T} {e : Expr} (h : PWs g Γ X b e) : PTs' g Γ X b e := by
  obtain ⟨ta, h1, k1⟩ := h
  exact ⟨ta, PW.pt h1, k1⟩
/-- what a chain of and, or gives as a test, either way -/
def PTW (g : Gi) (Γ : Gm) (X : Cx) (p : T) (e : Expr) : Prop := PTs' g Γ X p e ∧ (∀ op es pos, e = .BoolOp op es pos → PWs g Γ X p e)
theorem pos_boo {op : BoolOp} {es : List Expr} {p : Pos} : (Expr.BoolOp op es p).pos = p := rfl
/-! ### the exception in hand -/
/-- isinstance(e, c), e the exception that the suite holds, with a dict of its own or none -/
def rIsX (K : PySem.W.Frag) (D a : Addr) (d : Option Addr) : List V → Hp → VK → Prop := fun xs H Q => ∃ (c : V) (cv : Value) (b : Bool), xs = [.ref a, c] ∧ (∀ u, RelV c u → u = cv) ∧ (∀ dd, d = some dd → ∃ fs, H dd = some (.xd fs)) ∧ PySem.W.kitOne K (.ref D) cv = some b ∧ Q (.bl b) H
theorem call_isX {X : Cx} {a D : Addr} {d : Option Addr} {oe : Obj} {pn : List (Addr × Obj)} (C : ExcC X.K D) (hz : Zc (.ref D) d oe) (hf : ∃ vs, oe.data = .fields vs) : CallR (X.suite a ((a, oe) :: pn)) (.builtin "isinstance") (rIsX X.K D a d) := by
  intro pins s σ H xs us Q I r h
  obtain ⟨c, cv, b, rfl, hcv, hd, e, q⟩ := h
  cases r with
  | cons rx rr =>
    cases rr with
    | cons rt rr =>
      cases rr
      cases rx
      have ec := hcv _ rt
      subst ec
      obtain ⟨hget, _⟩ := I.pin (a, oe) (List.mem_append.mpr (.inl List.mem_cons_self))
      obtain ⟨vs, hv⟩ := hf
      have hcl : (PySem.W.clsIn X.K D).isSome = true := by
        obtain ⟨cd, hc, _⟩ := PySem.W.any_some C.hd
        rw [hc]; rfl
      have J : ∃ od, PySem.W.InstAt s.heap a oe D od := by
        obtain ⟨oc, od, oda, osl⟩ := oe
        obtain ⟨h1, h2⟩ := hz
        dsimp only at h1 h2 hv
        subst h1 h2 hv
        cases od with
        | none => exact ⟨none, hget, rfl, rfl, trivial⟩
        | some dd =>
          obtain ⟨fs, ea⟩ := hd dd rfl
          have hx : ObjOk X.prog X.w H s.heap dd (.xd fs) := I.hok dd _ ea
          obtain ⟨mA, hns, hr⟩ := hx
          obtain ⟨o2, ho, hl⟩ := lookIn_ns hns
          exact ⟨some o2, hget, rfl, rfl, ho⟩
      obtain ⟨od, J⟩ := J
      exact PySem.W.kia_one (PySem.W.kitx_exc hcl C.hg C.hk C.hs C.ha C.hn C.ht C.hm) I.kIn J e (fun z => nomatch z) fun tk => ⟨.bl b, H, I.kept (t' := tk) fun _ _ z => z, rfl, q⟩
theorem xc_pe {x : Str} {C : String} {pos : Pos} (hg : Good g cc Γ X) (h : xcOk cc (.Name x pos) C = true) : ∃ (v : V) (u : Value), PE X (.Name x pos) (tC v) ∧ (∀ w, RelV v w → w = u) ∧ ∀ D, D ∈ g.xcs → PySem.W.kitOne g.K (.ref (g.ca D)) u = some (Γ.sub D C) := by
  obtain ⟨h, h3⟩ := ba2 (show (cc.xns.contains (C, x) && glB cc.sc x && dbg x) = true from h)
  obtain ⟨h1, h2⟩ := ba2 h
  obtain ⟨u, q1, ⟨v, r, ru⟩, q3⟩ := (hg.xcl C x (by simpa using h1)).nm
  obtain ⟨d1, d2, d3⟩ := dbg_of h3
  refine ⟨v, u, ?_, ru, fun D hD => (q3 D hD).1⟩
  rcases q1 with q1 | ⟨q1, q2⟩
  · exact pe_glob (gl_of hg h2) (by rw [hg.emg]; exact q1) r d1
  · exact pe_bltn (gl_of hg h2) (by rw [hg.emg]; exact q1) q2 r d3 d1
theorem pv_exI {i : Nat} {cs : List String} {e : Expr} (hg : Good g cc Γ X) (h : chkP cc (.exI i cs) e = true) : PV g Γ X (.exI i cs) e ∧ isCmp e = false := by
  have h : (match (generalizing := false) vCall e with
    | some (f, [x, t]) => cc.hot && blB cc f "isinstance" && (match (generalizing := false) vNam x with | some n => slB cc n i && visB cc.sc n | none => false) && nStar t && (match (generalizing := false) cs with
      | [C] => xcOk cc t C
      | _ => false)
    | _ => false) = true := h
  split at h
  · rename_i f x t e1
    obtain ⟨h, h5⟩ := ba2 h
    obtain ⟨h, h4⟩ := ba2 h
    obtain ⟨h, h3⟩ := ba2 h
    obtain ⟨h1, h2⟩ := ba2 h
    have hb := bl_of hg h2
    obtain ⟨p, q, rfl⟩ := vCall_i e1
    split at h5
    · rename_i C _
      split at h3
      · rename_i n e2
        obtain ⟨p1, rfl⟩ := vNam_i e2
        obtain ⟨s0, s1⟩ := ba2 h3
        obtain ⟨z1, z2, z3⟩ := slot_of hg s0
        have hv := pe_var (pos := p1) z1 (vis_of hg s1) z2 z3
        have ht : ∃ y q, t = .Name y q := by
          unfold xcOk at h5
          split at h5
          · rename_i y ey
            obtain ⟨q, rfl⟩ := vNam_i ey
            exact ⟨y, q, rfl⟩
          · cases h5
        obtain ⟨y, q2, rfl⟩ := ht
        obtain ⟨v, u, t2, ru, hk⟩ := xc_pe hg h5
        rcases hg.hotx h1 with hnone | ⟨X0, a, oe, pn, cls, d, D, hX, hz, hf, hex, rfl, hD⟩
        · refine ⟨⟨fun σ H Q => False, ⟨fun _ _ _ _ _ _ h => h.elim⟩, fun B env Fr σ H G Q R rl hq k => ?_⟩, rfl⟩
          have hq : (match gt env i with | .exc a d C' _ => Γ.ex = some (a, d, C') ∧ Q (.bl ([C].any (Γ.sub C'))) | _ => False) := hq
          split at hq
          · rw [hnone] at hq
            cases hq.1
          · exact hq
        have XC := (hg.xok D hD).xc
        rw [← hg.eK] at XC hk
        subst hX
        refine ⟨⟨_, pe_callB (call_isX XC hz hf) hb.g hb.m (by rw [hb.e]; decide +kernel) (pa_n rfl hv (pa_n h4 t2 pa_nil)) hb.n hb.d (starEach_n rfl) (no_star (by simp [h4])), fun B env Fr σ H G Q R rl hq k => ?_⟩, rfl⟩
        have hq : (match gt env i with | .exc a d C' _ => Γ.ex = some (a, d, C') ∧ Q (.bl ([C].any (Γ.sub C'))) | _ => False) := hq
        split at hq
        · rename_i a' d' C' vs eg
          obtain ⟨hx, hq⟩ := hq
          rw [hex] at hx
          simp only [Option.some.injEq, Prod.mk.injEq] at hx
          obtain ⟨rfl, rfl, rfl⟩ := hx
          obtain ⟨w, c, hw, ow⟩ := rl.var (i := i) (by rw [eg]; exact fun z => by cases z)
          rw [eg] at ow
          obtain ⟨⟨ws, rfl, hd, _⟩, _⟩ := ow
          refine ⟨_, hw, v, u, _, rfl, ru, fun dd e => ?_, hk _ hD, ?_⟩
          · subst e
            exact ⟨_, rl.sGH _ _ hd.1⟩
          · have hq : Q (.bl (Γ.sub D C)) := by simpa using hq
            exact k _ _ _ hq (o_bl _)
        · exact hq.elim
      · cases h3
    · cases h5
  · cases h
theorem pv_exF {i j : Nat} {Cs : List String} {e : Expr} (hg : Good g cc Γ X) (h : chkP cc (.exF i j Cs) e = true) : PV g Γ X (.exF i j Cs) e ∧ isCmp e = false := by
  have h : (match (generalizing := false) vAtt e with
    | some (x, f) => cc.hot && (match (generalizing := false) vNam x with | some n => slB cc n i && visB cc.sc n | none => false) && Cs.all fun C => decide ((cc.fl C)[j]? = some f)
    | none => false) = true := h
  split at h
  · rename_i x f e1
    obtain ⟨h, h3⟩ := ba2 h
    obtain ⟨h1, h2⟩ := ba2 h
    obtain ⟨p, rfl⟩ := vAtt_i e1
    split at h2
    · rename_i n e2
      obtain ⟨p1, rfl⟩ := vNam_i e2
      obtain ⟨s0, s1⟩ := ba2 h2
      obtain ⟨z1, z2, z3⟩ := slot_of hg s0
      have hv := pe_var (pos := p1) z1 (vis_of hg s1) z2 z3
      rcases hg.hotx h1 with hnone | ⟨X0, a, oe, pn, cls, d, D, hX, hz, hf, hex, rfl, hD⟩
      · refine ⟨⟨fun σ H Q => False, ⟨fun _ _ _ _ _ _ h => h.elim⟩, fun B env Fr σ H G Q R rl hq k => ?_⟩, rfl⟩
        have hq : (match gt env i with | .exc a d C vs => Γ.ex = some (a, d, C) ∧ Cs.contains C = true ∧ (match vs[j]? with | some m => yes m.fz (Q m) | none => False) | _ => False) := hq
        split at hq
        · rw [hnone] at hq
          cases hq.1
        · exact hq
      have XO := hg.xok D hD
      have hfl : ∀ C, g.fl C = cc.fl C := fun C => by rw [hg.fl]
      have eK := hg.eK
      refine ⟨?_, rfl⟩
      by_cases hDC : D ∈ Cs
      · have hj : (cc.fl D)[j]? = some f := of_decide_eq_true (List.all_eq_true.mp h3 D hDC)
        have hno := XO.no f (by rw [hfl]; exact List.mem_of_getElem? hj)
        have hnd := hg.fnd D
        have XF := XO.xf
        rw [← eK] at hno XF
        subst hX
        refine ⟨_, pe_xf XF hno hz hf hv rfl, fun B env Fr σ H G Q R rl hq k => ?_⟩
        have hq : (match gt env i with | .exc a d C vs => Γ.ex = some (a, d, C) ∧ Cs.contains C = true ∧ (match vs[j]? with | some m => yes m.fz (Q m) | none => False) | _ => False) := hq
        split at hq
        · rename_i a' d' C' vs eg
          obtain ⟨hx, _, hq⟩ := hq
          rw [hex] at hx
          simp only [Option.some.injEq, Prod.mk.injEq] at hx
          obtain ⟨rfl, rfl, rfl⟩ := hx
          obtain ⟨w, c, hw, ow⟩ := rl.var (i := i) (by rw [eg]; exact fun z => by cases z)
          rw [eg] at ow
          obtain ⟨⟨ws, rfl, hd, ol⟩, _⟩ := ow
          cases em : vs[j]? with
          | none => rw [em] at hq; exact hq.elim
          | some m =>
            rw [em] at hq
            obtain ⟨y1, y2⟩ := yes_i hq
            obtain ⟨y, c1, hy, oy, _⟩ := OwnL.get ol em
            cases d with
            | none =>
              have hd : ws = [] := hd
              subst hd
              simp at hy
            | some dd =>
              obtain ⟨d1, d2⟩ := hd
              refine ⟨_, hw, rfl, rfl, dd, _, y, rfl, rl.sGH _ _ d1, ?_, k _ _ _ y2 oy⟩
              rw [hfl]
              exact zip_look hnd hj hy
        · exact hq.elim
      · subst hX
        refine ⟨fun σ H Q => False, ⟨fun _ _ _ _ _ _ h => h.elim⟩, fun B env Fr σ H G Q R rl hq k => ?_⟩
        have hq : (match gt env i with | .exc a d C vs => Γ.ex = some (a, d, C) ∧ Cs.contains C = true ∧ (match vs[j]? with | some m => yes m.fz (Q m) | none => False) | _ => False) := hq
        split at hq
        · rename_i a' d' C' vs eg
          obtain ⟨hx, hc, _⟩ := hq
          rw [hex] at hx
          simp only [Option.some.injEq, Prod.mk.injEq] at hx
          obtain ⟨rfl, rfl, rfl⟩ := hx
          exact hDC (by simpa using hc)
        · exact hq.elim
    · cases h2
  · cases h
mutual
theorem P_ok (hg : Good g cc Γ X) : ∀ (p : P) (e : Expr), chkP cc p e = true → PV g Γ X p e ∧ PC' g Γ X p e
  | .int i, e, h => by
    have h : (match (generalizing := false) e with | .Constant (.int j) _ _ => decide (i = j) | _ => false) = true := h
    split at h
    · rename_i j k p
      have e1 := of_decide_eq_true h
      subst e1
      exact ⟨pv_const pe_int (fun G H => o_int i) (fun _ _ h => h), nc rfl⟩
    · cases h
  | .str cs, e, h => by
    have h : (match (generalizing := false) e with | .Constant (.str x) _ _ => decide (x.cps.toList = cs) | _ => false) = true := h
    split at h
    · rename_i x k p _
      have e1 := of_decide_eq_true h
      subst e1
      exact ⟨pv_const (m := .str (Str.cps x).toList) pe_str (fun G H => ⟨by rw [sS_of], zr0⟩) (fun _ _ h => h), nc rfl⟩
    · cases h
  | .bl b, e, h => by
    have h : (match (generalizing := false) e with | .Constant (.bool j) _ _ => decide (b = j) | _ => false) = true := h
    split at h
    · rename_i j k p
      have e1 := of_decide_eq_true h
      subst e1
      exact ⟨pv_const pe_bl (fun G H => o_bl b) (fun _ _ h => h), nc rfl⟩
    · cases h
  | .non, e, h => by
    obtain ⟨k, p, rfl⟩ := isNon_i h
    exact ⟨pv_const pe_non (m := .non) (fun G H => ⟨rfl, zr0⟩) (fun _ _ h => h), nc rfl⟩
  | .var i, e, h => by
    have h : (match vNam e with | some x => slB cc x i && visB cc.sc x | none => false) = true := h
    split at h
    · rename_i x e1
      obtain ⟨h1, h2⟩ := ba2 h
      obtain ⟨p, rfl⟩ := vNam_i e1
      obtain ⟨s1, s2, s3⟩ := slot_of hg h1
      refine ⟨⟨_, pe_var s1 (vis_of hg h2) s2 s3, fun B env Fr σ H G Q R rl hq k => ?_⟩, nc rfl⟩
      obtain ⟨h1, h2⟩ := yes_i (show yes (gt env i).ok (Q (gt env i)) from hq)
      obtain ⟨v, c, hv, ho⟩ := rl.var (ok_hole h1)
      exact ⟨v, hv, k _ _ _ h2 ho⟩
    · cases h
  | .glb k, e, h => by
    have h : (match vNam e with | some x => decide (cc.gn[k]? = some x) && glB cc.sc x && dbg x | none => false) = true := h
    split at h
    · rename_i x e1
      obtain ⟨h, h3⟩ := ba2 h
      obtain ⟨h1, h2⟩ := ba2 h
      obtain ⟨p, rfl⟩ := vNam_i e1
      obtain ⟨m, v, u, q1, q2, q3, q4⟩ := hg.gl k x (of_decide_eq_true h1)
      obtain ⟨d1, d2, d3⟩ := dbg_of h3
      refine ⟨pv_const (pe_glob (gl_of hg h2) (by rw [hg.emg]; exact q3) q2 d1) q4 (fun env Q hq => ?_), nc rfl⟩
      have hq : (match Γ.gv[k]? with | some m => Q m | none => False) := hq
      rw [q1] at hq
      exact hq
    · cases h
  | .o1 o a, e, h => pv_chk1 hg (fun e h => (P_ok hg a e h).1) h
  | .o2 o a b, e, h => pv_chk2 hg (fun e h => (P_ok hg a e h).1) (fun e h => (P_ok hg b e h).1) h
  | .slS a lo hi, e, h => by
    have h : (match vSli e with
      | some (x, l, u) => chkP cc a x && chkO cc lo l && chkO cc hi u
      | none => false) = true := h
    split at h
    · rename_i x l u e1
      obtain ⟨h, h3⟩ := ba2 h
      obtain ⟨h1, h2⟩ := ba2 h
      obtain ⟨p, q, rfl⟩ := vSli_i e1
      obtain ⟨ta, t1, k1⟩ := (P_ok hg a x h1).1
      obtain ⟨tb, t2, k2⟩ := O_ok hg lo l h2
      obtain ⟨tc, t3, k3⟩ := O_ok hg hi u h3
      refine ⟨⟨_, pe_slice sl_str t1 t2 t3, fun B env Fr σ H G Q R rl hq k => ?_⟩, nc rfl⟩
      refine k1 B env Fr σ H G _ _ rl hq fun m v c hm ho => ?_
      refine k2 B env Fr σ H G _ _ rl hm fun l' hl => ?_
      refine k3 B env Fr σ H G _ _ rl hl fun u' hu => ?_
      cases m with
      | str cs =>
        obtain ⟨rfl, _⟩ := ho
        obtain ⟨z1, z2⟩ := yes_i (show yes _ _ from hu)
        refine ⟨_, rfl, by rw [sS_len, sl_line]; exact of_decide_eq_true z1, ?_⟩
        rw [str_slice]
        exact k _ _ _ z2 (o_str _)
      | _ => exact (show False from hu).elim
    · cases h
  | .and a b, e, h => by
    have h : (match vBoo e with
      | some (.And, [x, y]) => chkP cc a x && chkP cc b y
      | some (.And, x :: y :: z :: r) => chkP cc a x && chkP cc b (.BoolOp .And (y :: z :: r) e.pos)
      | _ => false) = true := h
    split at h
    · rename_i x y e1
      obtain ⟨h1, h2⟩ := ba2 h
      obtain ⟨p, rfl⟩ := vBoo_i e1
      exact ⟨pv_and hg (P_ok hg a x h1).1 (pv_one (P_ok hg b y h2).1), nc rfl⟩
    · rename_i x y z r e1
      obtain ⟨h1, h2⟩ := ba2 h
      obtain ⟨p, rfl⟩ := vBoo_i e1
      exact ⟨pv_and hg (P_ok hg a x h1).1 (P_ok hg b _ h2).1, nc rfl⟩
    · cases h
  | .or a b, e, h => by
    have h : (match vBoo e with
      | some (.Or, [x, y]) => chkP cc a x && chkP cc b y
      | some (.Or, x :: y :: z :: r) => chkP cc a x && chkP cc b (.BoolOp .Or (y :: z :: r) e.pos)
      | _ => false) = true := h
    split at h
    · rename_i x y e1
      obtain ⟨h1, h2⟩ := ba2 h
      obtain ⟨p, rfl⟩ := vBoo_i e1
      exact ⟨pv_or hg (P_ok hg a x h1).1 (pv_one (P_ok hg b y h2).1), nc rfl⟩
    · rename_i x y z r e1
      obtain ⟨h1, h2⟩ := ba2 h
      obtain ⟨p, rfl⟩ := vBoo_i e1
      exact ⟨pv_or hg (P_ok hg a x h1).1 (P_ok hg b _ h2).1, nc rfl⟩
    · cases h
  | .not a, e, h => by
    have h : (match vUn e with | some (.Not, x) => chkP cc a x | _ => false) = true := h
    split at h
    · rename_i x e1
      obtain ⟨p, rfl⟩ := vUn_i e1
      obtain ⟨ta, t1, k1⟩ := (P_ok hg a x h).1
      refine ⟨⟨_, pe_not t1, fun B env Fr σ H G Q R rl hq k => ?_⟩, nc rfl⟩
      refine k1 B env Fr σ H G (fun m => asB m fun c => Q (.bl (!c))) _ rl hq fun m v c hm ho => ?_
      obtain ⟨z, ez, hz⟩ := s_bool hm ho
      exact ⟨z, ez, k _ _ _ hz (o_bl _)⟩
    · cases h
  | .ifx t a b, e, h => by
    have h : (match vIfx e with | some (x, y, z) => chkT cc t x && chkP cc a y && chkP cc b z | _ => false) = true := h
    split at h
    · rename_i x y z e1
      obtain ⟨h, h3⟩ := ba2 h
      obtain ⟨h1, h2⟩ := ba2 h
      obtain ⟨p, rfl⟩ := vIfx_i e1
      obtain ⟨tt, t0, k0⟩ := (T_ok hg t x h1).1
      obtain ⟨ta, t1, k1⟩ := (P_ok hg a y h2).1
      obtain ⟨tb, t2, k2⟩ := (P_ok hg b z h3).1
      refine ⟨⟨_, pe_ifExp t0 t1 t2, fun B env Fr σ H G Q R rl hq k => ?_⟩, nc rfl⟩
      refine k0 B env Fr σ H G _ _ rl hq fun w hw => ?_
      cases w with
      | true => exact iteT (k1 B env Fr σ H G Q R rl hw k)
      | false => exact iteF (k2 B env Fr σ H G Q R rl hw k)
    · cases h
  | .chain o p a b d, e, h => by
    have h : (match vCmp2 e with
      | some (op, op2, x, y, z) => decide (cOp o = some op) && decide (cOp p = some op2) && nSet z && chkP cc a x && chkP cc b y && chkP cc d z
      | none => false) = true := h
    split at h
    · rename_i op op2 x y z e1
      obtain ⟨h, h6⟩ := ba2 h
      obtain ⟨h, h5⟩ := ba2 h
      obtain ⟨h, h4⟩ := ba2 h
      obtain ⟨h, h3⟩ := ba2 h
      obtain ⟨h1, h2⟩ := ba2 h
      obtain ⟨pos, rfl⟩ := vCmp2_i e1
      have ho1 := of_decide_eq_true h1
      have ho2 := of_decide_eq_true h2
      obtain ⟨ta, t1, k1⟩ := (P_ok hg a x h4).1
      obtain ⟨tb, t2, k2⟩ := (P_ok hg b y h5).1
      obtain ⟨tc, t3, k3⟩ := (P_ok hg d z h6).1
      have hm : lastMarks [op, op2] [y, z] = false := mark_n h3
      have hs : ∀ {o : O2} {op : CmpOp}, cOp o = some op → ∀ {G H : Hp} {m n : M} {v u : V} {c d : Cn} {Q : Bool → Prop} {R : VK}, Same G H → cmpP Γ.tab o m n Q → Own g G H v m c → Own g G H u n d → FinB H Q R → r2 g o v u H R := by
        intro o op ho G H m n v u c d Q R sG h ho1 ho2 k
        cases o <;> first
          | (cases ho; done)
          | exact sc_eq h ho1 ho2 k
          | exact sc_ne h ho1 ho2 k
          | exact sc_in (neg := false) hg.tab sG h ho1 ho2 k
          | exact sc_in (neg := true) hg.tab sG h ho1 ho2 k
          | exact sc_ord h ho1 ho2 k (by decide)
      constructor
      · refine ⟨_, pe_chain (op_cmp hg ho1) (op_cmp hg ho2) t1 t2 t3 hm, fun B env Fr σ H G Q R rl hq k => ?_⟩
        refine k1 B env Fr σ H G _ _ rl hq fun m v c hm oa => ?_
        refine k2 B env Fr σ H G _ _ rl hm fun n u d' hn ob => ?_
        refine hs ho1 rl.sGH hn oa ob fun w hw => ⟨w, rfl, ?_⟩
        cases w with
        | true => exact iteT (k3 B env Fr σ H G _ _ rl hw fun r z2 d2 hr oc => hs ho2 rl.sGH hr ob oc fun b q => k _ _ _ q (o_bl b))
        | false => exact iteF (k _ _ _ hw (o_bl _))
      · intro _
        refine ⟨_, pt_chain (op_cmp hg ho1) (op_cmp hg ho2) t1 t2 t3 hm, fun B env Fr σ H G Q R rl hq k => ?_⟩
        refine k1 B env Fr σ H G _ _ rl hq fun m v c hm oa => ?_
        refine k2 B env Fr σ H G _ _ rl hm fun n u d' hn ob => ?_
        refine hs ho1 rl.sGH hn oa ob fun w hw => ⟨w, rfl, ?_⟩
        cases w with
        | true => exact iteT (k3 B env Fr σ H G _ _ rl hw fun r z2 d2 hr oc => hs ho2 rl.sGH hr ob oc fun b q => ⟨b, rfl, k b q⟩)
        | false => exact iteF ⟨false, rfl, k _ hw⟩
    · cases h
  | .exI i cs, e, h => by
    obtain ⟨z1, z2⟩ := pv_exI hg h
    exact ⟨z1, nc z2⟩
  | .exF i j Cs, e, h => by
    obtain ⟨z1, z2⟩ := pv_exF hg h
    exact ⟨z1, nc z2⟩
theorem O_ok (hg : Good g cc Γ X) : ∀ (p : Option P) (e : Option Expr), chkO cc p e = true → POs g Γ X p e
  | none, none, _ => ⟨_, po_none, fun B env Fr σ H G Q R rl hq k => k _ hq⟩
  | none, some _, h => by cases h
  | some p, none, h => by cases h
  | some p, some e, h => by
    obtain ⟨ta, t1, k1⟩ := (P_ok hg p e h).1
    refine ⟨_, po_some t1, fun B env Fr σ H G Q R rl hq k => ?_⟩
    refine k1 B env Fr σ H G (fun m => asI m fun i => Q (some i)) _ rl hq fun m v c hm ho => ?_
    obtain ⟨i, e, hi⟩ := s_int hm ho
    exact ⟨i, e, k _ hi⟩
theorem T_ok (hg : Good g cc Γ X) : ∀ (p : T) (e : Expr), chkT cc p e = true → PTW g Γ X p e
  | .p a, e, h => by
    obtain ⟨h1, h2⟩ := ba2 (show ((nTst e || isCmp e) && chkP cc a e) = true from h)
    refine ⟨pt_of hg (P_ok hg a e h2) h1, fun op es pos q => ?_⟩
    subst q
    cases h1
  | .not t, e, h => by
    have h : (match vUn e with | some (.Not, x) => chkT cc t x | _ => false) = true := h
    split at h
    · rename_i x e1
      obtain ⟨p, rfl⟩ := vUn_i e1
      obtain ⟨tt, t0, k0⟩ := (T_ok hg t x h).1
      refine ⟨⟨_, pt_not t0, fun B env Fr σ H G Q R rl hq k => ?_⟩, fun op es pos q => by cases q⟩
      exact k0 B env Fr σ H G (fun c => Q (!c)) _ rl hq fun b hb => k _ hb
    · cases h
  | .and a b, e, h => by
    have h : (match vBoo e with
      | some (.And, [x, y]) => chkT cc a x && chkT cc b y
      | some (.And, x :: y :: z :: r) => chkT cc a x && chkT cc b (.BoolOp .And (y :: z :: r) e.pos)
      | _ => false) = true := h
    split at h
    · rename_i x y e1
      obtain ⟨h1, h2⟩ := ba2 h
      obtain ⟨p, rfl⟩ := vBoo_i e1
      have w := pw_an (pos := p) (T_ok hg a x h1).1 (pw_1 (pos := p) .And (T_ok hg b y h2).1)
      exact ⟨pw_t w, fun op es pos q => w⟩
    · rename_i x y z r e1
      obtain ⟨h1, h2⟩ := ba2 h
      obtain ⟨p, rfl⟩ := vBoo_i e1
      have w := pw_an (pos := p) (T_ok hg a x h1).1 ((T_ok hg b _ h2).2 _ _ _ rfl)
      exact ⟨pw_t w, fun op es pos q => w⟩
    · cases h
  | .or a b, e, h => by
    have h : (match vBoo e with
      | some (.Or, [x, y]) => chkT cc a x && chkT cc b y
      | some (.Or, x :: y :: z :: r) => chkT cc a x && chkT cc b (.BoolOp .Or (y :: z :: r) e.pos)
      | _ => false) = true := h
    split at h
    · rename_i x y e1
      obtain ⟨h1, h2⟩ := ba2 h
      obtain ⟨p, rfl⟩ := vBoo_i e1
      have w := pw_orr (pos := p) (T_ok hg a x h1).1 (pw_1 (pos := p) .Or (T_ok hg b y h2).1)
      exact ⟨pw_t w, fun op es pos q => w⟩
    · rename_i x y z r e1
      obtain ⟨h1, h2⟩ := ba2 h
      obtain ⟨p, rfl⟩ := vBoo_i e1
      have w := pw_orr (pos := p) (T_ok hg a x h1).1 ((T_ok hg b _ h2).2 _ _ _ rfl)
      exact ⟨pw_t w, fun op es pos q => w⟩
    · cases h
end
end
end Q
set_option Elab.async false
set_option linter.all false
set_option maxRecDepth 100000
set_option maxHeartbeats 4000000
namespace Q
open PySem PySem.Spec PyProof.Rows L2
local macro_rules | `(tactic| walk_at "cn") => `(tactic| ((try dsimp only at *); omega))
/-! ### what may happen to the two heaps under a count -/
structure Stp (G H : Hp) (e : Cn) (G' H' : Hp) (e' : Cn) : Prop where
  sG : Same G G'
  sH : Same G' H'
  le : ∀ b, 1 ≤ e' b → 1 ≤ e b ∨ H b = none
  off : ∀ b x, H b = some x → e b = 0 → H' b = some x
  fro : ∀ b, G' b ≠ none → G b ≠ none ∨ 1 ≤ e b ∨ H b = none
section
variable {g : Gi} {G H G' H' G2 H2 : Hp} {e e' e2 f : Cn}
theorem Stp.id (sG : Same G H) : Stp G H e G H e := ⟨fun _ _ h => h, sG, fun _ h => .inl h, fun _ _ h _ => h, fun _ h => .inl h⟩
theorem Stp.less (s : Stp G H e G' H' e') (h : ∀ b, 1 ≤ e2 b → 1 ≤ e' b) : Stp G H e G' H' e2 := ⟨s.sG, s.sH, fun b hb => s.le b (h b hb), s.off, s.fro⟩
theorem Stp.trans (s : Stp G H e G' H' e') (t : Stp G' H' e' G2 H2 e2) : Stp G H e G2 H2 e2 := by
  have back : ∀ b, H' b = none → 1 ≤ e b ∨ H b = none := fun b hb => by
    cases q : H b with
    | none => exact .inr rfl
    | some x =>
      by_cases z : e b = 0
      · rw [s.off b x q z] at hb; cases hb
      · exact .inl (by omega)
  refine ⟨fun b x h => t.sG b x (s.sG b x h), t.sH, fun b hb => ?_, fun b x h z => ?_, fun b hb => ?_⟩
  · rcases t.le b hb with q | q
    · exact s.le b q
    · exact back b q
  · refine t.off b x (s.off b x h z) ?_
    by_cases q : e' b = 0
    · exact q
    · rcases s.le b (by omega) with r | r
      · omega
      · rw [r] at h; cases h
  · rcases t.fro b hb with q | q | q
    · exact s.fro b q
    · exact .inr (s.le b q)
    · exact .inr (back b q)
/-- what stands apart stays -/
theorem Stp.others (s : Stp G H e G' H' e') {ms : List M} {vs : List V} (h : OwnL g G H vs ms f) (ap : ∀ b, e b + f b ≤ 1) : OwnL g G' H' vs ms f := by
  have h1 : OwnL g G H' vs ms f := h.hm ms fun b hb => by
    obtain ⟨⟨o, ho⟩, _⟩ := OwnL.live ms h b hb
    rw [ho]
    exact s.off b o ho (by have := ap b; omega)
  refine h1.gm s.sG ms fun b hb => ?_
  obtain ⟨⟨o, ho⟩, hg⟩ := OwnL.live ms h b hb
  by_cases z : G' b = none
  · exact z
  · rcases s.fro b z with q | q | q
    · exact absurd hg q
    · have := ap b; omega
    · rw [q] at ho; cases ho
theorem Stp.other (s : Stp G H e G' H' e') {m : M} {v : V} (h : Own g G H v m f) (ap : ∀ b, e b + f b ≤ 1) : Own g G' H' v m f := by
  have := s.others (ms := [m]) (vs := [v]) (f := f) ⟨f, fun _ => 0, h, zr0, fun b => by walk_at "cn"⟩ ap
  obtain ⟨c1, c2, h1, h2, hc⟩ := this
  have e : f = c1 := funext fun b => by
    have e1_ := hc b
    have e2_ := h2 b
    walk_at "cn"
  rw [e]; exact h1
/-- .. and one step of a part is one of the whole -/
theorem Stp.frame (s : Stp G H e G' H' e') : Stp G H (fun b => e b + f b) G' H' (fun b => e' b + f b) := by
  refine ⟨s.sG, s.sH, fun b hb => ?_, fun b x h z => s.off b x h (by walk_at "cn"), fun b hb => ?_⟩
  · by_cases q : 1 ≤ e' b
    · rcases s.le b q with r | r
      · exact .inl (by walk_at "cn")
      · exact .inr r
    · exact .inl (by walk_at "cn")
  · rcases s.fro b hb with q | q | q
    · exact .inl q
    · exact .inr (.inl (by walk_at "cn"))
    · exact .inr (.inr q)
theorem Stp.apart (s : Stp G H e G' H' e') {ms : List M} {vs : List V} (h : OwnL g G H vs ms f) (ap : ∀ b, e b + f b ≤ 1) (l : ∀ b, e' b ≤ 1) : ∀ b, e' b + f b ≤ 1 := fun b => by
  by_cases z : 1 ≤ f b
  · obtain ⟨⟨o, ho⟩, _⟩ := OwnL.live ms h b z
    have e0 : e' b = 0 := by
      by_cases q : 1 ≤ e' b
      · rcases s.le b q with r | r
        · have := ap b; omega
        · rw [r] at ho; cases ho
      · omega
    have := ap b
    omega
  · have := l b; omega
/-- a fresh object -/
theorem Stp.alloc (sG : Same G H) {a : Addr} {o : HO} (hf : H a = none) : Stp G H e G (upd H a o) (fun b => one a b + e b) := by
  have ne : ∀ b x, H b = some x → b ≠ a := fun b x h q => by rw [q, hf] at h; cases h
  refine ⟨fun _ _ h => h, fun b x h => ?_, fun b hb => ?_, fun b x h _ => ?_, fun b h => .inl h⟩
  · have := ne b x (sG b x h)
    show (if b = a then _ else _) = _
    rw [if_neg this]; exact sG b x h
  · by_cases q : b = a
    · subst q; exact .inr hf
    · have := one_ne (a := a) q
      exact .inl (by walk_at "cn")
  · show (if b = a then _ else _) = _
    rw [if_neg (ne b x h)]; exact h
/-- what is owned is written -/
theorem Stp.write (sG : Same G H) {a : Addr} {o : HO} (ho : 1 ≤ e a) (hG : G a = none) : Stp G H e G (upd H a o) e := by
  refine ⟨fun _ _ h => h, fun b x h => ?_, fun b hb => .inl hb, fun b x h z => ?_, fun b h => .inl h⟩
  · have : b ≠ a := fun q => by rw [q, hG] at h; cases h
    show (if b = a then _ else _) = _
    rw [if_neg this]; exact sG b x h
  · have : b ≠ a := fun q => by rw [q] at z; omega
    show (if b = a then _ else _) = _
    rw [if_neg this]; exact h
open Classical in
/-- what is owned is frozen -/
noncomputable def frzH (G H : Hp) (c : Cn) : Hp := fun b => if 1 ≤ c b then H b else G b
open Classical in
theorem Stp.freeze (sG : Same G H) {m : M} {v : V} {c : Cn} (h : Own g G H v m c) : Stp G H c (frzH G H c) H (fun _ => 0) ∧ Own g (frzH G H c) H v m.frz (fun _ => 0) := by
  have s1 : Same G (frzH G H c) := fun b x hb => by
    unfold frzH
    split
    · exact sG b x hb
    · exact hb
  refine ⟨⟨s1, fun b x hb => ?_, fun b hb => absurd hb (Nat.not_succ_le_zero 0), fun b x h _ => h, fun b hb => ?_⟩, ?_⟩
  · unfold frzH at hb
    split at hb
    · exact hb
    · exact sG b x hb
  · unfold frzH at hb
    split at hb
    · rename_i q; exact .inr (.inl q)
    · exact .inl hb
  · exact Own.fr s1 m h fun b hb => by unfold frzH; rw [if_pos hb]
end

/-! ### steps of the state -/
section
variable {g : Gi} {B : Bs} {env env' : En} {Fr Fr' : List (V × M)} {σ σ' : L2.St} {H G H' G' : Hp}
structure RC (g : Gi) (env : En) (Fr : List (V × M)) (σ : L2.St) (H G : Hp) (c d : Cn) : Prop where
  oe : OwnL g G H (σ.map gv) env c
  of : OwnL g G H (Fr.map (·.1)) (Fr.map (·.2)) d
  le : ∀ b, c b + d b ≤ 1
theorem Rel.rc (r : Rel g B env Fr σ H G) : ∃ c d, RC g env Fr σ H G c d ∧ (∀ b, 1 ≤ c b + d b → 1 ≤ B.c0 b ∨ B.H0 b = none) := by
  obtain ⟨c, d, h1, h2, h3, h4⟩ := r.own
  exact ⟨c, d, ⟨h1, h2, h3⟩, h4⟩
/-- THE STEP -/
theorem Rel.stp {c d c' d' : Cn} (r : Rel g B env Fr σ H G) (h4 : ∀ b, 1 ≤ c b + d b → 1 ≤ B.c0 b ∨ B.H0 b = none) (s : Stp G H (fun b => c b + d b) G' H' (fun b => c' b + d' b)) (x : RC g env' Fr' σ' H' G' c' d') (hl : σ'.length = env'.length)
    (ha : ∀ i, gt env' i ≠ .hole → ∃ v, σ'[i]? = some (some v)) (hx : ∀ i ∈ B.fx, σ'[i]? = B.s0[i]?) : Rel g B env' Fr' σ' H' G' := by
  have back : ∀ b, H b = none → 1 ≤ B.c0 b ∨ B.H0 b = none := fun b hb => by
    cases q : B.H0 b with
    | none => exact .inr rfl
    | some x =>
      by_cases z : B.c0 b = 0
      · rw [r.off b x q z] at hb; cases hb
      · exact .inl (by omega)
  refine ⟨s.sH, fun b x h => s.sG b x (r.sG0 b x h), hl, ⟨c', d', x.oe, x.of, x.le, fun b hb => ?_⟩, ha, fun b x h z => ?_, fun b hb => ?_, hx⟩
  · rcases s.le b hb with q | q
    · exact h4 b q
    · exact back b q
  · refine s.off b x (r.off b x h z) ?_
    by_cases q : c b + d b = 0
    · exact q
    · rcases h4 b (by omega) with u | u
      · omega
      · rw [u] at h; cases h
  · rcases s.fro b hb with q | q | q
    · exact r.fro b q
    · exact .inr (h4 b q)
    · exact .inr (back b q)
/-- .. with the names as they are -/
theorem Rel.stp0 {c d c' d' : Cn} (r : Rel g B env Fr σ H G) (h4 : ∀ b, 1 ≤ c b + d b → 1 ≤ B.c0 b ∨ B.H0 b = none) (s : Stp G H (fun b => c b + d b) G' H' (fun b => c' b + d' b)) (x : RC g env Fr' σ H' G' c' d') : Rel g B env Fr' σ H' G' :=
  r.stp h4 s x r.len r.asg r.fix
theorem zrz {c : Cn} (h : zr c) : c = fun _ => 0 := funext h
/-- something that owns nothing is held -/
theorem Rel.push0 (r : Rel g B env Fr σ H G) {v : V} {m : M} (h : Own g G H v m (fun _ => 0)) : Rel g B env ((v, m) :: Fr) σ H G := by
  obtain ⟨c, d, x, h4⟩ := r.rc
  refine r.stp0 h4 (c' := c) (d' := d) (Stp.id r.sGH) ⟨x.oe, ⟨fun _ => 0, d, h, x.of, fun b => by walk_at "cn"⟩, x.le⟩
theorem Rel.pushz (r : Rel g B env Fr σ H G) {v : V} {m : M} {c : Cn} (h : Own g G H v m c) (f : m.fz = true) : Rel g B env ((v, m) :: Fr) σ H G := r.push0 (h.z f)
theorem Rel.pop (r : Rel g B env ((v, m) :: Fr) σ H G) : Rel g B env Fr σ H G := by
  obtain ⟨c, d, x, h4⟩ := r.rc
  obtain ⟨d1, d2, k1, k2, kd⟩ := x.of
  refine r.stp0 h4 (c' := c) (d' := d2) ((Stp.id r.sGH).less fun b hb => by have e1_ := kd b; walk_at "cn") ⟨x.oe, k2, fun b => by have e1_ := kd b; have e2_ := x.le b; walk_at "cn"⟩
theorem Rel.top (r : Rel g B env ((v, m) :: Fr) σ H G) : ∃ c, Own g G H v m c := by
  obtain ⟨c, d, x, h4⟩ := r.rc
  obtain ⟨d1, d2, k1, k2, kd⟩ := x.of
  exact ⟨d1, k1⟩
/-- the held ones in a row, the last on top -/
def zipR : List V → List M → List (V × M) → List (V × M)
  | v :: vs, m :: ms, Fr => zipR vs ms ((v, m) :: Fr)
  | _, _, Fr => Fr
theorem own_zipR : ∀ {vs : List V} {ms : List M} {Fr : List (V × M)} {d : Cn}, vs.length = ms.length → OwnL g G H ((zipR vs ms Fr).map (·.1)) ((zipR vs ms Fr).map (·.2)) d →
    ∃ d1 e, OwnL g G H (Fr.map (·.1)) (Fr.map (·.2)) d1 ∧ OwnL g G H vs ms e ∧ ∀ b, d b = d1 b + e b
  | [], [], Fr, d, _, h => ⟨d, fun _ => 0, h, zr0, fun b => by walk_at "cn"⟩
  | [], _ :: _, _, _, hl, _ => by simp at hl
  | _ :: _, [], _, _, hl, _ => by simp at hl
  | v :: vs, m :: ms, Fr, d, hl, h => by
    obtain ⟨d1, e, k1, k2, k3⟩ := own_zipR (vs := vs) (ms := ms) (Fr := (v, m) :: Fr) (by simpa using hl) h
    obtain ⟨c1, c2, j1, j2, j3⟩ := k1
    exact ⟨c2, fun b => c1 b + e b, j2, OwnL.cons j1 k2, fun b => by have e1_ := k3 b; have e2_ := j3 b; walk_at "cn"⟩
/-- what is held in a row, at once -/
theorem Rel.row {vs : List V} {ms : List M} (r : Rel g B env (zipR vs ms Fr) σ H G) (hl : vs.length = ms.length) :
    ∃ c d e, OwnL g G H (σ.map gv) env c ∧ OwnL g G H (Fr.map (·.1)) (Fr.map (·.2)) d ∧ OwnL g G H vs ms e ∧ (∀ b, c b + d b + e b ≤ 1) ∧ (∀ b, 1 ≤ c b + d b + e b → 1 ≤ B.c0 b ∨ B.H0 b = none) := by
  obtain ⟨c, d, x, h4⟩ := r.rc
  obtain ⟨d1, e, k1, k2, k3⟩ := own_zipR hl x.of
  exact ⟨c, d1, e, x.oe, k1, k2, fun b => by have e1_ := k3 b; have e2_ := x.le b; walk_at "cn", fun b hb => h4 b (by have e1_ := k3 b; walk_at "cn")⟩
theorem Rel.mk3 {vs : List V} {ms : List M} {Fr2 : List (V × M)} {c d e c' d' : Cn} (r : Rel g B env Fr2 σ H G) (h4 : ∀ b, 1 ≤ c b + d b + e b → 1 ≤ B.c0 b ∨ B.H0 b = none)
    (s : Stp G H (fun b => c b + d b + e b) G' H' (fun b => c' b + d' b)) (x : RC g env Fr' σ H' G' c' d') : Rel g B env Fr' σ H' G' :=
  r.stp0 (c := fun b => c b + d b) (d := e) h4 s x
/-- a fresh container of what is held -/
theorem Rel.alloc {vs : List V} {ms : List M} {a : Addr} {o : HO} {m : M} (r : Rel g B env (zipR vs ms Fr) σ H G) (hl : vs.length = ms.length) (hf : H a = none)
    (hm : ∀ {H' : Hp} {e : Cn}, G a = none → H' a = some o → OwnL g G H' vs ms e → Own g G H' (.ref a) m (fun b => one a b + e b)) : Rel g B env ((.ref a, m) :: Fr) σ (upd H a o) G := by
  obtain ⟨c, d, e, k1, k2, k3, k4, k5⟩ := r.row hl
  have ga : G a = none := by
    cases q : G a with
    | none => rfl
    | some x => rw [r.sGH a x q] at hf; cases hf
  have s : Stp G H (fun b => c b + d b + e b) G (upd H a o) (fun b => one a b + (c b + d b + e b)) := Stp.alloc r.sGH hf
  have lv : ∀ b, 1 ≤ c b + d b + e b → b ≠ a := fun b hb q => by
    subst q
    by_cases z1 : 1 ≤ c b
    · obtain ⟨⟨o', ho⟩, _⟩ := OwnL.live env k1 b z1; rw [hf] at ho; cases ho
    · by_cases z2 : 1 ≤ d b
      · obtain ⟨⟨o', ho⟩, _⟩ := OwnL.live _ k2 b z2; rw [hf] at ho; cases ho
      · obtain ⟨⟨o', ho⟩, _⟩ := OwnL.live _ k3 b (by omega); rw [hf] at ho; cases ho
  have hH : ∀ b, b ≠ a → upd H a o b = H b := fun b hb => if_neg hb
  have hup : upd H a o a = some o := if_pos rfl
  have o3 := hm ga hup (OwnL.hm (H' := upd H a o) ms k3 fun b hb => hH b (lv b (by omega)))
  refine r.stp0 (c := fun b => c b + d b) (d := e) (c' := c) (d' := fun b => (one a b + e b) + d b) (fun b hb => k5 b hb) (s.less fun b hb => by walk_at "cn") ⟨OwnL.hm env k1 fun b hb => hH b (lv b (by omega)), ?_, fun b => ?_⟩
  · exact ⟨_, d, o3, OwnL.hm _ k2 fun b hb => hH b (lv b (by omega)), fun _ => rfl⟩
  · by_cases q : b = a
    · subst q
      have z : ¬ 1 ≤ c b + d b + e b := fun z => lv b z rfl
      have := one_self b
      walk_at "cn"
    · have e1_ := one_ne (a := a) q
      have e2_ := k4 b
      walk_at "cn"
theorem map_set {σ : L2.St} {i : Nat} {v : V} : (σ.set i (some v)).map gv = (σ.map gv).set i v := by
  rw [List.map_set]; rfl
theorem gt_set : ∀ {env : En} {i j : Nat} {m : M}, gt (env.set i m) j = if i = j ∧ i < env.length then m else gt env j
  | [], i, j, m => by simp [gt]
  | x :: r, 0, 0, m => by simp [gt]
  | x :: r, 0, j + 1, m => by simp [gt]
  | x :: r, i + 1, 0, m => by simp [gt]
  | x :: r, i + 1, j + 1, m => by
    show gt (r.set i m) j = _
    rw [gt_set (env := r) (i := i) (j := j)]
    simp [gt]
/-- a name is bound to what is on top -/
theorem Rel.set {i : Nat} (r : Rel g B env ((v, m) :: Fr) σ H G) (hi : i ∉ B.fx) : Rel g B (env.set i m) Fr (σ.set i (some v)) H G := by
  obtain ⟨c, d, x, h4⟩ := r.rc
  obtain ⟨d1, d2, k1, k2, kd⟩ := x.of
  obtain ⟨c', p1, p2⟩ := OwnL.put1 (i := i) x.oe k1
  refine r.stp h4 (c' := c') (d' := d2) ((Stp.id r.sGH).less fun b hb => by have e1_ := kd b; have e2_ := p2 b; walk_at "cn") ⟨by rw [map_set]; exact p1, k2, fun b => by have e1_ := kd b; have e2_ := p2 b; have e3_ := x.le b; walk_at "cn"⟩
    (by rw [List.length_set, List.length_set]; exact r.len) (fun j hj => ?_) fun j hj => ?_
  · rw [gt_set] at hj
    by_cases q : i = j ∧ i < env.length
    · obtain ⟨rfl, q⟩ := q
      exact ⟨v, by rw [List.getElem?_set_self (by rw [r.len]; exact q)]⟩
    · rw [if_neg q] at hj
      obtain ⟨u, hu⟩ := r.asg j hj
      by_cases q2 : i = j
      · subst q2
        have : σ.length ≤ i := by rw [r.len]; exact Nat.le_of_not_lt fun z => q ⟨rfl, z⟩
        rw [List.getElem?_eq_none this] at hu
        cases hu
      · exact ⟨u, by rw [List.getElem?_set_ne q2]; exact hu⟩
  · rw [List.getElem?_set_ne (fun q => hi (by rw [q]; exact hj))]
    exact r.fix j hj
/-- a name's value is taken -/
theorem Rel.take {i : Nat} (r : Rel g B env Fr σ H G) (h : gt env i ≠ .hole) : ∃ v, σ[i]? = some (some v) ∧ Rel g B (env.set i .hole) ((v, gt env i) :: Fr) σ H G := by
  obtain ⟨c, d, x, h4⟩ := r.rc
  obtain ⟨v, c1, c2, hv, k1, k2, k3⟩ := OwnL.take1 x.oe (gt_get h)
  obtain ⟨v', hv'⟩ := r.asg i h
  rw [List.getElem?_map, hv'] at hv
  have e : v' = v := by simpa using hv
  subst e
  refine ⟨v', hv', r.stp h4 (c' := c2) (d' := fun b => c1 b + d b) ((Stp.id r.sGH).less fun b hb => by have e1_ := k3 b; walk_at "cn") ⟨k2, ⟨c1, d, k1, x.of, fun _ => rfl⟩, fun b => by have e1_ := k3 b; have e2_ := x.le b; walk_at "cn"⟩
    (by rw [List.length_set]; exact r.len) (fun j hj => ?_) r.fix⟩
  rw [gt_set] at hj
  split at hj
  · exact absurd rfl hj
  · exact r.asg j hj
/-- .. and given back -/
theorem set_back {σ : List V} {i : Nat} {v : V} (h : σ[i]? = some v) : σ.set i v = σ := by
  apply List.ext_getElem?
  intro j
  by_cases q : i = j
  · subst q
    have hi : i < σ.length := (List.getElem?_eq_some_iff.mp h).1
    rw [List.getElem?_set_self hi, h]
  · rw [List.getElem?_set_ne q]
theorem Rel.give {i : Nat} (r : Rel g B env ((v, m) :: Fr) σ H G) (h : σ[i]? = some (some v)) : Rel g B (env.set i m) Fr σ H G := by
  obtain ⟨c, d, x, h4⟩ := r.rc
  obtain ⟨d1, d2, k1, k2, kd⟩ := x.of
  obtain ⟨c', p1, p2⟩ := OwnL.put1 (i := i) x.oe k1
  have hb : (σ.map gv).set i v = σ.map gv := set_back (by rw [List.getElem?_map, h]; rfl)
  rw [hb] at p1
  refine r.stp h4 (c' := c') (d' := d2) ((Stp.id r.sGH).less fun b hb => by have e1_ := kd b; have e2_ := p2 b; walk_at "cn") ⟨p1, k2, fun b => by have e1_ := kd b; have e2_ := p2 b; have e3_ := x.le b; walk_at "cn"⟩
    (by rw [List.length_set]; exact r.len) (fun j hj => ?_) r.fix
  rw [gt_set] at hj
  by_cases q : i = j ∧ i < env.length
  · obtain ⟨rfl, q⟩ := q
    exact ⟨v, h⟩
  · rw [if_neg q] at hj
    exact r.asg j hj
/-- what is on top is frozen -/
theorem Rel.frz (r : Rel g B env ((v, m) :: Fr) σ H G) : ∃ G', Same G G' ∧ Rel g B env ((v, m.frz) :: Fr) σ H G' := by
  obtain ⟨c, d, x, h4⟩ := r.rc
  obtain ⟨d1, d2, k1, k2, kd⟩ := x.of
  obtain ⟨s, o⟩ := Stp.freeze r.sGH k1
  have sf := s.frame (f := fun b => c b + d2 b)
  refine ⟨_, s.sG, r.stp0 h4 (c' := c) (d' := d2) ?_ ⟨s.others x.oe fun b => by have e1_ := kd b; have e2_ := x.le b; walk_at "cn", ⟨fun _ => 0, d2, o, s.others k2 fun b => by have e1_ := kd b; have e2_ := x.le b; walk_at "cn", fun b => by walk_at "cn"⟩, fun b => by have e1_ := kd b; have e2_ := x.le b; walk_at "cn"⟩⟩
  have e1 : (fun b => d1 b + (c b + d2 b)) = fun b => c b + d b := funext fun b => by have e1_ := kd b; walk_at "cn"
  rw [e1] at sf
  exact sf.less fun b hb => by walk_at "cn"
end
end Q
namespace Q
open PySem PySem.Spec PyProof.Rows L2
local macro_rules | `(tactic| walk_at "cn") => `(tactic| ((try dsimp only at *); omega))
section
variable {g : Gi} {B : Bs} {env env' : En} {Fr Fr' : List (V × M)} {σ σ' : L2.St} {H G H' G' : Hp}
/-- a name's value is frozen, and held too -/
theorem Rel.share {i : Nat} (r : Rel g B env Fr σ H G) (h : gt env i ≠ .hole) : ∃ v G', σ[i]? = some (some v) ∧ Rel g B (env.set i (gt env i).frz) ((v, (gt env i).frz) :: Fr) σ H G' := by
  obtain ⟨v, hv, r1⟩ := r.take h
  obtain ⟨c, d, x, h4⟩ := r1.rc
  obtain ⟨d1, d2, k1, k2, kd⟩ := x.of
  obtain ⟨s, o⟩ := Stp.freeze r1.sGH k1
  have sf := s.frame (f := fun b => c b + d2 b)
  have ap1 : ∀ b, d1 b + c b ≤ 1 := fun b => by have e1_ := kd b; have e2_ := x.le b; walk_at "cn"
  have ap2 : ∀ b, d1 b + d2 b ≤ 1 := fun b => by have e1_ := kd b; have e2_ := x.le b; walk_at "cn"
  obtain ⟨c', p1, p2⟩ := OwnL.put1 (i := i) (s.others x.oe ap1) o
  have hb : (σ.map gv).set i v = σ.map gv := set_back (by rw [List.getElem?_map, hv]; rfl)
  rw [hb, List.set_set] at p1
  refine ⟨v, _, hv, r1.stp h4 (c' := c') (d' := d2) ?_ ⟨p1, ⟨fun _ => 0, d2, o, s.others k2 ap2, fun b => by walk_at "cn"⟩, fun b => by have e1_ := kd b; have e2_ := x.le b; have e3_ := p2 b; walk_at "cn"⟩
    (by rw [List.length_set]; exact r.len) (fun j hj => ?_) r.fix⟩
  · have e1 : (fun b => d1 b + (c b + d2 b)) = fun b => c b + d b := funext fun b => by have e1_ := kd b; walk_at "cn"
    rw [e1] at sf
    exact sf.less fun b hb => by have e3_ := p2 b; walk_at "cn"
  · rw [gt_set] at hj
    by_cases q : i = j ∧ i < env.length
    · obtain ⟨rfl, q⟩ := q
      exact ⟨v, hv⟩
    · rw [if_neg q] at hj
      exact r.asg j hj
/-! what is lent to a call -/
def holG : En → List (Option Nat) → En
  | env, some i :: r => holG (env.set i .hole) r
  | env, none :: r => holG env r
  | env, [] => env
def Args (σ : L2.St) : List (Option Nat) → List V → List V → Prop
  | some i :: r, es, v :: vs => σ[i]? = some (some v) ∧ Args σ r es vs
  | none :: r, e :: es, v :: vs => e = v ∧ Args σ r es vs
  | [], [], [] => True
  | _, _, _ => False
/-- the slots that are lent, each once -/
def sepG : List (Option Nat) → Bool
  | some i :: r => !r.contains (some i) && sepG r
  | none :: r => sepG r
  | [] => true
theorem holG_set {i : Nat} {m : M} : ∀ {is : List (Option Nat)} {env : En}, is.contains (some i) = false → (holG env is).set i m = holG (env.set i m) is
  | [], env, _ => rfl
  | none :: r, env, h => by
    have h' : r.contains (some i) = false := by simpa using h
    exact holG_set (is := r) (env := env) h'
  | some j :: r, env, h => by
    have h1 : j ≠ i ∧ r.contains (some i) = false := by
      simp only [List.contains_cons, Bool.or_eq_false_iff] at h
      refine ⟨fun q => ?_, h.2⟩
      rw [q] at h
      simp at h
    show (holG (env.set j .hole) r).set i m = holG ((env.set i m).set j .hole) r
    rw [holG_set (is := r) h1.2, List.set_comm _ _ h1.1]
theorem fill_ne {i : Nat} {m : M} : ∀ {is : List (Option Nat)} {env : En} {ms : List M}, is.contains (some i) = false → fillG (env.set i m) is ms = fillG env is ms
  | [], _, _, _ => rfl
  | none :: r, env, [], h => rfl
  | none :: r, env, x :: ms, h => by
    have h' : r.contains (some i) = false := by simpa using h
    show x :: fillG (env.set i m) r ms = x :: fillG env r ms
    rw [fill_ne h']
  | some j :: r, env, ms, h => by
    have h1 : j ≠ i ∧ r.contains (some i) = false := by
      simp only [List.contains_cons, Bool.or_eq_false_iff] at h
      refine ⟨fun q => ?_, h.2⟩
      rw [q] at h
      simp at h
    show gt (env.set i m) j :: fillG (env.set i m) r ms = gt env j :: fillG env r ms
    rw [fill_ne h1.2, gt_set, if_neg (fun q => h1.1 q.1.symm)]
theorem lend : ∀ {is : List (Option Nat)} {env : En} {es vs : List V} {ms : List M} {c e : Cn}, sepG is = true → Args σ is es vs → (fillG env is ms).all M.ok = true → es.length = ms.length → OwnL g G H (σ.map gv) env c → OwnL g G H es ms e →
    ∃ c' f, OwnL g G H (σ.map gv) (holG env is) c' ∧ OwnL g G H vs (fillG env is ms) f ∧ ∀ b, c b + e b = c' b + f b
  | [], env, [], [], ms, c, e, _, _, _, hl, h1, h2 => by
    cases ms with
    | nil => exact ⟨c, e, h1, h2, fun _ => rfl⟩
    | cons _ _ => simp at hl
  | [], _, _ :: _, _, _, _, _, _, h, _, _, _, _ => h.elim
  | [], _, [], _ :: _, _, _, _, _, h, _, _, _, _ => h.elim
  | none :: r, env, [], _, _, _, _, _, h, _, _, _, _ => h.elim
  | none :: r, env, _ :: _, [], _, _, _, _, h, _, _, _, _ => h.elim
  | none :: r, env, x :: es, v :: vs, [], c, e, _, _, _, hl, _, _ => by simp at hl
  | none :: r, env, x :: es, v :: vs, m :: ms, c, e, hs, ⟨q, ha⟩, hk, hl, h1, ⟨e1, e2, k1, k2, ke⟩ => by
    have hk' : (m.ok && (fillG env r ms).all M.ok) = true := hk
    rw [Bool.and_eq_true] at hk'
    obtain ⟨c', f, j1, j2, j3⟩ := lend (is := r) (env := env) hs ha hk'.2 (by simpa using hl) h1 k2
    exact ⟨c', fun b => e1 b + f b, j1, ⟨e1, f, by rw [← q]; exact k1, j2, fun _ => rfl⟩, fun b => by have e1_ := ke b; have e2_ := j3 b; walk_at "cn"⟩
  | some i :: r, env, es, [], ms, c, e, _, h, _, _, _, _ => by cases es <;> exact h.elim
  | some i :: r, env, es, v :: vs, ms, c, e, hs, ha, hk, hl, h1, h2 => by
    have ha' : σ[i]? = some (some v) ∧ Args σ r es vs := by cases es <;> exact ha
    obtain ⟨hv, ha⟩ := ha'
    have hk' : ((gt env i).ok && (fillG env r ms).all M.ok) = true := hk
    rw [Bool.and_eq_true] at hk'
    have hs' : (!r.contains (some i) && sepG r) = true := hs
    rw [Bool.and_eq_true] at hs'
    have hn : r.contains (some i) = false := by simpa using hs'.1
    obtain ⟨u, c1, c2, hu, t1, t2, t3⟩ := OwnL.take1 h1 (gt_get (ok_hole hk'.1))
    rw [List.getElem?_map, hv] at hu
    have eu : v = u := by simpa using hu
    subst eu
    obtain ⟨c', f, j1, j2, j3⟩ := lend (is := r) (env := env.set i .hole) (ms := ms) hs'.2 ha (by rw [fill_ne hn]; exact hk'.2) hl t2 h2
    rw [fill_ne hn] at j2
    exact ⟨c', fun b => c1 b + f b, j1, ⟨c1, f, t1, j2, fun _ => rfl⟩, fun b => by have e1_ := t3 b; have e2_ := j3 b; walk_at "cn"⟩
theorem giveB : ∀ {is : List (Option Nat)} {env : En} {es vs : List V} {ms : List M} {c f : Cn}, sepG is = true → Args σ is es vs → OwnL g G H (σ.map gv) (holG env is) c → OwnL g G H vs ms f →
    ∃ c', OwnL g G H (σ.map gv) (backG env is ms) c' ∧ (∀ b, c' b ≤ c b + f b) ∧ (∀ j, gt (backG env is ms) j ≠ .hole → gt env j ≠ .hole ∨ ∃ v, σ[j]? = some (some v)) ∧ (backG env is ms).length = env.length
  | [], env, es, vs, ms, c, f, _, _, h1, h2 => ⟨c, by cases ms <;> exact h1, fun b => by walk_at "cn", fun j hj => .inl (by cases ms <;> exact hj), by cases ms <;> rfl⟩
  | none :: r, env, [], _, _, _, _, _, h, _, _ => h.elim
  | none :: r, env, _ :: _, [], _, _, _, _, h, _, _ => h.elim
  | none :: r, env, x :: es, v :: vs, [], c, f, _, _, _, h2 => h2.elim
  | none :: r, env, x :: es, v :: vs, m :: ms, c, f, hs, ⟨_, ha⟩, h1, ⟨e1, e2, k1, k2, ke⟩ => by
    obtain ⟨c', j1, j2, j3, j4⟩ := giveB (is := r) (env := env) hs ha h1 k2
    exact ⟨c', j1, fun b => by have e1_ := ke b; have e2_ := j2 b; walk_at "cn", j3, j4⟩
  | some i :: r, env, es, [], ms, c, f, _, h, _, _ => by cases es <;> exact h.elim
  | some i :: r, env, es, v :: vs, [], c, f, _, _, _, h2 => h2.elim
  | some i :: r, env, es, v :: vs, m :: ms, c, f, hs, ha, h1, ⟨e1, e2, k1, k2, ke⟩ => by
    have ha' : σ[i]? = some (some v) ∧ Args σ r es vs := by cases es <;> exact ha
    obtain ⟨hv, ha⟩ := ha'
    have hs' : (!r.contains (some i) && sepG r) = true := hs
    rw [Bool.and_eq_true] at hs'
    have hn : r.contains (some i) = false := by simpa using hs'.1
    obtain ⟨c1, p1, p2⟩ := OwnL.put1 (i := i) h1 k1
    have hb : (σ.map gv).set i v = σ.map gv := set_back (by rw [List.getElem?_map, hv]; rfl)
    rw [hb] at p1
    have p1' : OwnL g G H (σ.map gv) (holG (env.set i m) r) c1 := by
      have q : (holG (env.set i .hole) r).set i m = holG (env.set i m) r := by rw [holG_set hn, List.set_set]
      rw [← q]; exact p1
    obtain ⟨c', j1, j2, j3, j4⟩ := giveB (is := r) (env := env.set i m) hs'.2 ha p1' k2
    refine ⟨c', j1, fun b => by have e1_ := ke b; have e2_ := j2 b; have e3_ := p2 b; walk_at "cn", fun j hj => ?_, by rw [show backG env (some i :: r) (m :: ms) = backG (env.set i m) r ms from rfl, j4, List.length_set]⟩
    rcases j3 j hj with q | q
    · rw [gt_set] at q
      by_cases z : i = j ∧ i < env.length
      · exact .inr ⟨v, by rw [← z.1]; exact hv⟩
      · rw [if_neg z] at q; exact .inl q
    · exact .inr q
end
end Q
set_option Elab.async false
set_option linter.all false
set_option maxRecDepth 100000
set_option maxHeartbeats 4000000
namespace Q
open PySem PySem.Spec PyProof.Rows L2
theorem form_ok {es : List Expr} {env : Env} {pos : Pos} (ns : es.all nStar = true) (hn : es.length < 30) : methodCallForm (es.length + ([] : List Keyword).length) (backTo pos (starEach es env)) (backToKw pos (keywordEach [] env)) = true := by
  have h1 := no_star (p := pos) (env := env) ns
  have h2 : (backTo pos (starEach es env)).all (fun x => !x.1) = true := by
    rw [List.all_eq_true]
    rw [List.any_eq_false] at h1
    intro x hx
    have := h1 x hx
    simpa using this
  unfold methodCallForm
  rw [h2]
  show (true && true && decide (es.length + 0 + 0 < 30)) = true
  simpa using hn
end Q
/-! ### an own exception's __init__ that says super().__init__("..") and stores one field -/
namespace SX
open PySem PySem.W PySem.Calls PyProof.Rows
section
variable {prog : Program} {w : World} {A : Around} {E : Value → Shared → Prop} {h : Heap} {g : Array GenState} {d : Drawn} {t : Nat} {os : OsState}
variable {nm q : Str} {C N : Addr} {bs bm : List Value} {hdct : Bool} {sn : List Str} {sub : List Value} {ab : Bool} {col : Option Bool} {dd : Option Addr} {k0 k1 k2 k3 k5 : Option Value}
theorem call_mw {u e t0 : Addr} {rest : List Value} {Q : Value → Shared → Prop}
    (hC : h.get? C = some (excClassObj nm q C N bs bm hdct sn sub ab col dd k0 k1 k2 k3 k5 "ValueError.__new__")) (he : h.get? e = some (HandSPX.excO C t0)) (hu : h.get? u = some (kxs_mw "ValueError.__init__" e)) (hrest : rest.length ≤ sizeLine)
    (hq : ∀ h' t1, (∀ b o, b ≠ e → h.get? b = some o → h'.get? b = some o) → h'.get? e = some (HandSPX.excO C t1) → Q .none ⟨h', g, d, t, os⟩) :
    wpAny (model prog w) A (call (.ref u) rest) Q E ⟨h, g, d, t, os⟩ := by
  refine wpAny_call (codeAny_of_tree ?_)
  show wpAny _ A.in1 (callAny (.ref u) ⟨rest, []⟩) _ _ _
  simp only [callAny]
  refine wpAny_bind (wpAny_load hu ?_)
  simp only [kxs_mw, show (Value.type "method-wrapper" == Value.type "method" || Value.type "method-wrapper" == Value.type "builtin_function_or_method" || Value.type "method-wrapper" == Value.type "method-wrapper") = true by decide, if_true]
  refine W.KFB.if_so (by decide) ?_
  refine wpAny_bind (ESX.check_bound F.excBase_ValueError hC he rfl ?_)
  refine wpAny_bind (wpAny_pure (wpAny_pure ?_))
  refine ⟨Code.quiet_builtin _ (by decide +kernel), codeAny_builtin F.excBase_ValueError.initEntry ?_⟩
  rw [Around.under_plainId F.excBase_ValueError.init.plain _]
  wp_walk
  refine hq _ h.objs.size (fun b o hb ho => ?_) ?_
  · rw [Heap.get?_update_other _ _ (Ne.symm hb)]
    exact Heap.get?_push_of_some _ ho
  · rw [Heap.get?_update_self _ (Heap.get?_push_of_some _ he) rfl]
    rfl
end
/-- the body -/
def bodyOf (m : Str) (f a : Str) (p : Nat → Pos) (j : Nat) : List Stmt :=
  [.Expr (.Call (.Attribute (.Call (.Name "super" (p 0)) [] [] (p 1)) "__init__" (p 2)) [.Constant (.str m) j (p 3)] [] (p 4)) (p 5), .Assign [.Attribute (.Name "self" (p 6)) f (p 7)] (.Name a (p 8)) (p 9)]
structure ScOk (sc : Scope) (a : Str) : Prop where
  kind : sc.kind = .function
  co : sc.isCoroutine = false
  gen : sc.isGenerator = false
  nocell : ∀ x ∈ sc.names, x.2 ≠ .cell
  self : sc.names.lookup ("self" : Str) = some .local
  arg : sc.names.lookup a = some .local
  sup : sc.names.lookup ("super" : Str) = some .globalImplicit
  cls : sc.names.lookup ("__class__" : Str) = some .free
/-- what the written part says of such an __init__ -/
structure SupF (P : Program) (K : Frag) (fI D : Addr) (f : Str) : Prop where
  ex : ∃ (oc : Value) (od : Option Addr) (osl : Array (Option Value)) (qual : Str) (params : Arguments) (scope : Scope) (kV doc pm : Value) (an : Option Addr) (cda : Addr) (ct : Value) (cc : Addr) (m a : Str) (p : Nat → Pos) (j : Nat)
    (ccl : Value) (cdd : Option Addr) (vs : Array Value) (ccs : Array (Option Value)) (file : Str) (tf : Tok) (cl : Value) (cld : Option Addr) (csl : Array (Option Value)),
    K.lookup fI = some ⟨oc, od, .func (ksFn "__init__" qual params (bodyOf m f a p j) scope .none kV doc pm an (.ref cda) ct cc), osl⟩ ∧ codeIn K (.ref cda) qual = true ∧
    K.lookup cda = some ⟨ccl, cdd, .fields vs, ccs⟩ ∧ vs[2]? = some (.str file tf) ∧ ((P.main.file : Str) == file) = true ∧ K.lookup cc = some ⟨cl, cld, .cell (some (.ref D)), csl⟩ ∧
    ((p 2).endLine == (p 4).line) = true ∧ ScOk scope a ∧ a ≠ "self" ∧ (a == ("__debug__" : Str)) = false ∧ (∀ u v : Value, bindArgs (ksFn "__init__" qual params (bodyOf m f a p j) scope .none kV doc pm an (.ref cda) ct cc) ⟨[u, v], []⟩ = pure [(("self" : Str), u), (a, v)]) ∧ ∃ ar : Arg, (params.posonlyargs ++ params.args).head? = some ar ∧ ar.arg = "self"
theorem sup_form {o : Expr} {mm : Str} {ap pos : Pos} {es : List Expr} {env : Env} (hl : (ap.endLine == pos.line) = true) (ns : es.all Q.nStar = true) (hn : es.length < 30) :
    ∃ pl : Sem Bool, eval (.Call (.Attribute o mm ap) es [] pos) env = (do
      let ov ← attributeBase o mm env (eval o env)
      standAt ap.atName
      let (f, first) ← holding [ov] (getMethod ov mm pl)
      callWith pos f first (backTo pos (starEach es env)) []) := by
  have h : eval (.Call (.Attribute o mm ap) es [] pos) env = (do
      let ov ← attributeBase o mm env (eval o env)
      standAt ap.atName
      methodCall o mm ap pos env ov (es.length + ([] : List Keyword).length) (backTo pos (starEach es env)) (backToKw pos (keywordEach [] env))) := rfl
  refine ⟨(do return (← importBound o env).getD true), ?_⟩
  rw [h]
  have h2 : ∀ ov, methodCall o mm ap pos env ov (es.length + ([] : List Keyword).length) (backTo pos (starEach es env)) (backToKw pos (keywordEach [] env)) = (do
      let (f, first) ← holding [ov] (getMethod ov mm (do return (← importBound o env).getD true))
      callWith pos f first (backTo pos (starEach es env)) []) := by
    intro ov
    unfold methodCall
    rw [Q.form_ok ns hn]
    unfold methodCallPos calleeOf
    rw [hl]
    rfl
  simp only [h2]
theorem ld_free {M : Model} {A : Around} {E : Value → Shared → Prop} {s : Shared} {env : Env} {x : Str} {c : Addr} {v : Value} {Q : Value → Shared → Prop} (hk : env.scope.kind = .function) (hl : env.kindOf x = some .free) (hc : env.cells.lookup x = some c) (hv : s.heap.IsCell c (some v)) (h : Q v s)
    (hn : (x == ("__classdict__" : Str)) = false := by decide) : wpAny M A (loadName env x) Q E s := wpAny_loadName_free hk hl hc hv h hn
theorem sup_init {prog : Program} {w : World} {A : Around} {R : Result → Shared → Prop} {hp : Heap} {g : Array GenState} {d : Drawn} {t : Nat} {os : OsState} {K : Frag} {fI C D x t0 : Addr} {f : Str} {v : Value} {mg mb : Str → Option Value}
    {nm q : Str} {N : Addr} {bs bm : List Value} {sn : List Str} {sub : List Value} {ab : Bool} {col : Option Bool} {dd : Option Addr} {k0 k1 k2 k3 k5 : Option Value}
    (hroom : A.depth < recursionLimit) (X : K.In hp) (lim : hp.NoLimit) (S : SupF prog K fI D f) (hg : hp.Ns mainGlobals mg) (hsup : mg "super" = none) (hb : hp.Ns builtinsNs mb) (hbs : mb "super" = some (.type "super")) (htop : (prog.main.scope.names.lookup ("super" : Str)).isSome = false)
    (hC : hp.get? C = some (excClassObj nm q C N bs bm true sn sub ab col dd k0 k1 k2 k3 k5 "ValueError.__new__")) (hbm : HandSPX.refsVE bm = true) (hKC : K.lookup C = some (excClassObj nm q C N bs bm true sn sub ab col dd k0 k1 k2 k3 k5 "ValueError.__new__"))
    (hx : hp.get? x = some (HandSPX.excO C t0)) (hD : (clsIn K D).isSome = true) (hsubD : mroIn K C (.ref D) = some true) (hno : nsIn K cStatics "thirdparty.any" = some none) (hm : ks_superIn K C D "__init__" = some (some (.builtin "ValueError.__init__"))) (hVE : subIn K (.ref C) (.type "ValueError") = some true)
    (hsa : findIn K (.ref C) "__setattr__" = some (some (.builtin "object.__setattr__"))) (hnf : findIn K (.ref C) f = some none) (hxc : x ≠ C) (hKx : K.lookup x = none)
    (hq : ∀ h' tk t1 dx, (∀ b o, b ≠ x → hp.get? b = some o → h'.get? b = some o) → hp.objs.size ≤ dx → dx ≠ x → h'.get? x = some ({ cls := .ref C, dict := some dx, data := .fields #[.ref t1, .none, .none, .none, .bool false, .none] } : Obj) →
      h'.Ns1 dx (fun y => if y = f then some v else none) → R (.ok (.ret .none)) ⟨h', g, d, tk, os⟩) :
    codeAny (model prog w) A (.call (.ref fI) ⟨[.ref x, v], []⟩) R ⟨hp, g, d, t, os⟩ := by
  obtain ⟨oc, od, osl, qual, params, scope, kV, doc, pm, an, cda, ct, cc, m, a, p, j, ccl, cdd, vs, ccs, file, tf, cl, cld, csl, lk, hcd, lcd, hvs, hfile, lcc, hln, sc, ha, had, hbind, ar, har, hars⟩ := S.ex
  have hloc : ∀ y ∈ [(("self" : Str), Value.ref x), (a, v)], (ksFn "__init__" qual params (bodyOf m f a p j) scope .none kV doc pm an (.ref cda) ct cc).scope.names.lookup y.1 = some .local := fun y hy => by
    rcases List.mem_cons.mp hy with rfl | hy
    · exact sc.self
    · rcases List.mem_cons.mp hy with rfl | hy
      · exact sc.arg
      · cases hy
  refine ks_codeAny_call_defAt (fd := ksFn "__init__" qual params (bodyOf m f a p j) scope .none kV doc pm an (.ref cda) ct cc) (body := bodyOf m f a p j) (binds := [("self", .ref x), (a, v)]) hroom (X _ _ lk) rfl lim (codeRec_of X hcd) rfl (.of_eq (hbind _ _)) sc.nocell hloc
    (fun h₁ hns hk => ?_) sc.co sc.gen sc.kind
  have X1 : K.In h₁ := X.keeps hk
  have hx1 := hk _ _ hx
  have hC1 := hk _ _ hC
  have eenv : callEnv (ksFn "__init__" qual params (bodyOf m f a p j) scope .none kV doc pm an (.ref cda) ct cc) hp.objs.size fI = ksEnv qual scope hp.objs.size fI (.ref cda) cc := rfl
  rw [eenv]
  have hself : (fun y => List.lookup y ([(("self" : Str), Value.ref x), (a, v)] : List (Str × Value)).reverse) "self" = some (.ref x) := by
    show List.lookup ("self" : Str) [(a, v), ("self", Value.ref x)] = _
    have e : (("self" : Str) == a) = false := by simpa using (Ne.symm ha)
    simp [List.lookup, e]
  have harg : (fun y => List.lookup y ([(("self" : Str), Value.ref x), (a, v)] : List (Str × Value)).reverse) a = some v := by
    show List.lookup a [(a, v), ("self", Value.ref x)] = _
    simp [List.lookup]
  obtain ⟨oD, hD1, cdD, hD2⟩ : ∃ oD, h₁.get? D = some oD ∧ ∃ cdD, oD.data = .cls cdD := by
    obtain ⟨cdD, hD⟩ := Option.isSome_iff_exists.mp hD
    unfold clsIn at hD
    split at hD
    · rename_i c d cd' sl ho
      exact ⟨_, X1 _ _ ho, cd', rfl⟩
    · cases hD
  have hcl : clsIn K C = some { name := nm, bases := bs, mro := .ref C :: bm, ns := N, qualname := q, hasDict := true, slotNames := sn, subclasses := sub, abstract := ab, collection := col, hasDel := false } := by unfold clsIn; rw [hKC] <;> rfl
  have ltx : x < hp.objs.size := Heap.lt_size hx
  obtain ⟨pl, hform⟩ := sup_form (o := .Call (.Name "super" (p 0)) [] [] (p 1)) (mm := "__init__") (es := [.Constant (.str m) j (p 3)]) (env := ksEnv qual scope hp.objs.size fI (.ref cda) cc) hln rfl (by show 1 < 30; decide)
  have hint : interactive (ksEnv qual scope hp.objs.size fI (.ref cda) cc) = false := by
    unfold interactive
    rw [show (ksEnv qual scope hp.objs.size fI (.ref cda) cc).scope.kind = .function from sc.kind]
    rfl
  refine ks_wpAt_execs_cons (ks_wpAt_Expr_any (hi := hint) (ks_wpAt_MethodCall (pl := pl) (he := hform) (ks_wpAt_super_base (env := ksEnv qual scope hp.objs.size fI (.ref cda) cc) (cc := cda) sc.sup sc.cls (by decide) rfl (X1 _ _ lk) rfl har rfl (X1 _ _ lcd) rfl hvs hfile htop ?_)))
  refine ks_loadName_global sc.kind sc.sup (loadGlobal_builtin (env := ksEnv qual scope hp.objs.size fI (.ref cda) cc) (hg.keeps hk) hsup (hb.keeps hk) hbs ⟨rfl, ?_⟩)
  refine ld_free sc.kind sc.cls rfl ⟨_, X1 _ _ lcc, rfl⟩ ?_
  rw [hars]
  refine wpAny_loadName_local sc.kind sc.self hns hself ?_
  refine ks_wpAny_isType_cls hD1 hD2 ⟨rfl, ?_⟩
  have I1 : InstAt h₁ x (HandSPX.excO C t0) C none := ⟨hx1, rfl, rfl, trivial⟩
  refine ks_wpAny_call_super hD1 hD2 hx1 rfl (fun c e => by cases e) (looks_mroIn X1 hsubD) (fun h2 e2 k2 => ?_)
  -- super().__init__
  have X2 : K.In h2 := X1.keeps k2
  have hx2 := k2 _ _ hx1
  have hC2 := k2 _ _ hC1
  have I2 : InstAt h2 x (HandSPX.excO C t0) C none := ⟨hx2, rfl, rfl, trivial⟩
  have hal : alongIn K "__init__" (((Value.ref C :: bm).dropWhile (· != .ref D)).drop 1) = some (some (.builtin "ValueError.__init__")) := by
    unfold ks_superIn at hm
    rw [hcl] at hm
    exact hm
  refine kxs_getMethod kxs_ValueError (l₀ := .ref C :: bm) e2 (looks_opaque X2 hno) ?_ rfl X2 hal (I2.type.andThen (looks_subIn X2 hVE)) hxc (by decide) ?_
  · exact fun A Q E s k q => wpAny_bind ((looks_clsIn X2 hcl) A _ E s k (wpAny_pure q))
  have hu : (h2.push (kxs_mw "ValueError.__init__" x)).get? h2.objs.size = some (kxs_mw "ValueError.__init__" x) := Heap.get?_push_at rfl rfl
  have k3 : ∀ b o, h2.get? b = some o → (h2.push (kxs_mw "ValueError.__init__" x)).get? b = some o := fun b o e => Heap.get?_push_of_some _ e
  refine kxs_callWith (i := "ValueError.__init__") (x := x) (by rfl) ?_
  rw [show starEach [Expr.Constant (Const.str m) j (p 3)] (ksEnv qual scope hp.objs.size fI (.ref cda) cc) = (false, eval (Expr.Constant (Const.str m) j (p 3)) (ksEnv qual scope hp.objs.size fI (.ref cda) cc)) :: starEach [] (ksEnv qual scope hp.objs.size fI (.ref cda) cc) from rfl]
  refine evalArgs_plain ?_
  show wpAny _ _ (spliced ((false, eval (Expr.Constant (Const.str m) j (p 3)) (ksEnv qual scope hp.objs.size fI (.ref cda) cc)) :: backTo (p 4) (starEach [] (ksEnv qual scope hp.objs.size fI (.ref cda) cc)))) _ _ _
  refine Calls.spliced_cons (Calls.Constant_str (Calls.spliced_nil ?_))
  refine ⟨hu, ?_⟩
  refine call_mw (k3 _ _ hC2) (k3 _ _ hx2) hu (by show 1 ≤ sizeLine; decide) fun h4 t1 k4 hx4 => ?_
  -- self.f = a
  refine ks_wpAt_execs_cons (wpAt_of_wpAny ?_)
  have kk : ∀ b o, b ≠ x → h₁.get? b = some o → h4.get? b = some o := fun b o hb e => k4 b o hb (k3 b o (k2 b o e))
  have ns4 : h4.Ns hp.objs.size (fun y => List.lookup y ([(("self" : Str), Value.ref x), (a, v)] : List (Str × Value)).reverse) := by
    obtain ⟨o, es, ep, h1, h2', h3⟩ := hns
    exact ⟨o, es, ep, kk _ _ (Nat.ne_of_gt ltx) h1, h2', h3⟩
  have X4 : K.In h4 := fun b o e => by
    have e1 := X1 b o e
    by_cases hb : b = x
    · subst hb
      rw [hKx] at e
      cases e
    · exact kk b o hb e1
  refine plainObj_wpAny_Assign_Attribute (ESX.ldL ns4 harg (ESX.ldL ns4 hself ?_ sc.kind sc.self) sc.kind sc.arg had) rfl
  have I4 : InstAt h4 x (HandSPX.excO C t1) C none := ⟨hx4, rfl, rfl, trivial⟩
  refine set_plain X4 I4 hsa ?_
  refine HandSPX.exc_osa X4 hx4 hcl (show HandSPX.refsVE (.ref C :: bm) = true from hbm) rfl hnf fun h5 tk dx k5 hsz ne hx5 hn5 => ?_
  refine wpAt_of_wpAny (wpAny_execs_nil ?_)
  refine hq h5 _ _ dx (fun b o hb e => k5 b o hb (kk b o hb (hk b o e))) (Nat.le_trans (Nat.le_of_lt ns4.lt) hsz) ne hx5 hn5
end SX
namespace Q
open PySem PySem.Spec PyProof.Rows L2
local macro_rules | `(tactic| walk_at "cn") => `(tactic| ((try dsimp only at *); omega))
/-- a class whose instances are made by such an __init__ -/
structure SupC (P : Program) (K : PySem.W.Frag) (mg : Str → Option Value) (C fI D : Addr) (f : Str) : Prop where
  T : OexC K C
  F : SX.SupF P K fI D f
  msup : mg "super" = none
  top : (P.main.scope.names.lookup ("super" : Str)).isSome = false
  iC : PySem.W.findIn K (.ref C) "__init__" = some (some (.ref fI))
  tI : PySem.W.typeIn K (.ref fI) = some (.type "function")
  hD : (PySem.W.clsIn K D).isSome = true
  sub : PySem.W.mroIn K C (.ref D) = some true
  op : PySem.W.nsIn K PySem.cStatics "thirdparty.any" = some none
  sm : PySem.W.ks_superIn K C D "__init__" = some (some (.builtin "ValueError.__init__"))
  ve : PySem.W.subIn K (.ref C) (.type "ValueError") = some true
  nf : PySem.W.findIn K (.ref C) f = some none
section
variable {X : Cx} {x : Str} {C fI D : Addr} {f : Str} {e : Expr} {te : TE} {p pos : Pos}
theorem pmk_sup (S : SupC X.prog X.K X.mg C fI D f) (hg : Gl X x) (hm : X.mg x = some (.ref C)) (hr : Room 1 X.A) (he : PE X e te) (ns : nStar e = true) (hdb : (x == ("__debug__" : Str)) = false) :
    L2.PMk X (.Call (.Name x p) [e] [] pos) (fun σ H Q => te σ H fun y H1 => ∀ d, H1 d = none → Q (.ref C) (some d) (upd H1 d (.xd [(f, y)]))) := by
  intro pins s σ H Q I h
  obtain ⟨nm, q, N, bs, bm, sn, sub, ab, col, dd, k0, k1, k2, k3, k5, hC, hbm⟩ := S.T.cls
  refine wpAny_Call_Name_kw (ld_glob I hg hm ?_ hdb)
  have pa : PA X [e] (tCons te tNil) := pa_n ns he pa_nil
  refine PySem.W.callWith_K (h₀ := X.base) I.ok.mod.kin S.T.kC (thn (pa.run pos pins s σ H (fun vs H1 => ∃ y, vs = [y] ∧ ∀ d, H1 d = none → Q (.ref C) (some d) (upd H1 d (.xd [(f, y)]))) I ?_) fun us s1 ⟨vs, H1, I1, r1, y, ev, q1⟩ => ⟨I1.kIn, ?_⟩) (starEach_n ns) (no_star rfl)
  · show te σ H fun y H1 => _
    have e1 : (fun (y : V) (H1 : Hp) => ∀ d, H1 d = none → Q (.ref C) (some d) (upd H1 d (.xd [(f, y)]))) = fun y H1 => (fun (vs : List V) (H1 : Hp) => ∃ y, vs = [y] ∧ ∀ d, H1 d = none → Q (.ref C) (some d) (upd H1 d (.xd [(f, y)]))) [y] H1 := by
      funext y H1
      refine propext ⟨fun h => ⟨y, rfl, h⟩, fun ⟨y', e', h⟩ => ?_⟩
      cases e'
      exact h
    rw [e1] at h
    exact h
  subst ev
  obtain ⟨u, eu, ru⟩ := vals1 r1
  subst eu
  show wpAny _ _ (call (.ref C) [u]) _ _ _
  obtain ⟨hp, g, dr, tk, os⟩ := s1
  have hsz : hp.objs.size ≤ hp.objs.size + 1 := Nat.le_succ _
  have hn : H1 (hp.objs.size + 1) = none := I1.hok.fresh hsz
  have kk : ∀ b o, hp.get? b = some o → ((hp.push (PySem.W.kdv_tup [u])).push (PySem.HandSPX.excO C hp.objs.size)).get? b = some o := fun b o e => Heap.get?_push_of_some _ (Heap.get?_push_of_some _ e)
  have hget : ((hp.push (PySem.W.kdv_tup [u])).push (PySem.HandSPX.excO C hp.objs.size)).get? (hp.objs.size + 1) = some (PySem.HandSPX.excO C hp.objs.size) := by heap_get
  have I2 : Inv X pins σ (upd H1 (hp.objs.size + 1) (exo (hp.objs.size + 1) C none)) ⟨(hp.push (PySem.W.kdv_tup [u])).push (PySem.HandSPX.excO C hp.objs.size), g, dr, tk, os⟩ :=
    I1.laid (t' := tk) (a := hp.objs.size + 1) (o := exo (hp.objs.size + 1) C none) (h' := (hp.push (PySem.W.kdv_tup [u])).push (PySem.HandSPX.excO C hp.objs.size)) kk hsz (exo_ok hget)
  have KX : X.K.lookup (hp.objs.size + 1) = none := by
    cases z : X.K.lookup (hp.objs.size + 1) with
    | none => rfl
    | some o =>
      have z1 := Heap.lt_size (I1.kIn _ _ z)
      exact absurd (Nat.lt_of_lt_of_le z1 hsz) (Nat.lt_irrefl _)
  have hxC : hp.objs.size + 1 ≠ C := fun z => by
    rw [z, hC] at KX
    cases KX
  obtain ⟨mb, hb1, hb2⟩ := I2.mod.blt
  have hrm : (X.A.under (.builtin "type.__call__" ⟨[.ref C, u], []⟩)).depth < recursionLimit := by
    have z := (hr.make C [u] []).dp
    have z2 := hr.dp
    first
      | exact Nat.lt_of_le_of_lt (Nat.le_add_right _ _) z
      | omega
  refine wpAny_call (PySem.HandSPX.call_own F.excBase_ValueError (fun Y => PySem.HandSPX.refsVE_contains Y bm hbm) (I1.kIn _ _ hC) (PySem.W.looks_findIn I1.kIn S.iC) (fun self => PySem.W.bind_fn I1.kIn self S.tI) (by show 1 ≤ sizeLine; decide) ?_)
  refine SX.sup_init hrm I2.kIn I2.nolimit S.F (I2.mod.glob.keeps I2.bk) S.msup (hb1.keeps I2.bk) ((hb2 _ (by decide)).trans (by decide +kernel)) S.top (I2.kIn _ _ hC) hbm hC hget S.hD S.sub S.op S.sm S.ve S.T.sa S.nf hxC KX fun h' tk' t1 dx k dn dne hx hn2 => ?_
  have hnd : H1 dx = none := I1.hok.fresh (show hp.objs.size ≤ dx from Nat.le_trans (Nat.le_trans (Nat.le_trans (Nat.le_succ _) (Nat.le_succ _)) (by rw [Heap.size_push, Heap.size_push]; exact Nat.le_refl _)) dn)
  have e : (upd H1 (hp.objs.size + 1) (exo (hp.objs.size + 1) C none)) (hp.objs.size + 1) = some (exo (hp.objs.size + 1) C none) := upd_same
  have hnd2 : (upd H1 (hp.objs.size + 1) (exo (hp.objs.size + 1) C none)) dx = none := by rw [upd_ne dne]; exact hnd
  have nd : ∀ {b : Addr} {o : Obj}, ((hp.push (PySem.W.kdv_tup [u])).push (PySem.HandSPX.excO C hp.objs.size)).get? b = some o → b ≠ dx := fun {b o} q => Nat.ne_of_lt (Nat.lt_of_lt_of_le (Heap.lt_size q) dn)
  have na : ∀ {b : Addr}, (upd H1 (hp.objs.size + 1) (exo (hp.objs.size + 1) C none)) b = none → b ≠ hp.objs.size + 1 := fun {b} n z => by
    rw [z, e] at n
    cases n
  have un : Un (frs X.stack) [] (upd H1 (hp.objs.size + 1) (exo (hp.objs.size + 1) C none)) (upd (upd (upd H1 (hp.objs.size + 1) (exo (hp.objs.size + 1) C none)) dx (exd dx [(f, y)])) (hp.objs.size + 1) (exo (hp.objs.size + 1) C (some dx))) ((hp.push (PySem.W.kdv_tup [u])).push (PySem.HandSPX.excO C hp.objs.size)) h' := {
    keep := fun b o q n _ _ => k b o (na n) q
    slot := fun b o q n _ _ => ⟨o.slots, k b o (na n) q⟩
    free := fun b o q n _ => by rw [upd_ne (na n), upd_ne (nd q)]; exact n
    there := fun b o q _ => by
      by_cases hb : b = hp.objs.size + 1
      · exact ⟨_, by rw [hb]; exact hx⟩
      · exact ⟨o, k b o hb q⟩
    tups := fun b xs q => by rw [upd_ne (at_ne e q exo_tup), upd_ne (ne_of_none q hnd2)]; exact q
    frzs := fun b o v q => by rw [upd_ne (at_ne e q exo_frz), upd_ne (ne_of_none q hnd2)]; exact q
    tbls := fun b ps q => ⟨#[], by rw [upd_ne (at_ne e q exo_tbl), upd_ne (ne_of_none q hnd2), q]; simp⟩ }
  have rel : ∀ z, RelO ([(f, y)].lookup z) (if z = f then some u else none) := fun z => by
    by_cases hz : z = f
    · subst hz
      rw [if_pos rfl]
      simp [List.lookup]
      exact ru
    · have e1 : (z == f) = false := by simpa using hz
      rw [if_neg hz]
      simp [List.lookup, e1]
      exact trivial
  have hok : HOk X.prog X.w (upd (upd (upd H1 (hp.objs.size + 1) (exo (hp.objs.size + 1) C none)) dx (exd dx [(f, y)])) (hp.objs.size + 1) (exo (hp.objs.size + 1) C (some dx))) h' := by
    intro b o q
    by_cases hb : b = hp.objs.size + 1
    · subst hb
      rw [upd_same] at q
      cases q
      exact exo_ok hx
    · rw [upd_ne hb] at q
      by_cases hd : b = dx
      · subst hd
        rw [upd_same] at q
        cases q
        exact exd_ok hn2 rel
      · rw [upd_ne hd] at q
        exact (I2.hok b o q).stay (fun c v hc z => k c v (by
            rcases hc with hc | hc
            · rw [hc]
              exact hb
            · exact at_ne e hc exo_own) z)
          (fun c hc => by rw [upd_ne (at_ne e hc exo_own), upd_ne (ne_of_none hc hnd2)]; exact hc) (fun c xs hc => by rw [upd_ne (at_ne e hc exo_tup), upd_ne (ne_of_none hc hnd2)]; exact hc)
  refine ⟨rfl, ?_⟩
  have q2 := q1 dx hnd
  refine mk_end (raises_own S.T.exC S.T.tyC) I1 hsz kk un hok rfl I1.bare upd_same (by rw [upd_ne dne, upd_same]) hnd ?_
  have eH : upd (del (upd (upd (upd H1 (hp.objs.size + 1) (exo (hp.objs.size + 1) C none)) dx (exd dx [(f, y)])) (hp.objs.size + 1) (exo (hp.objs.size + 1) C (some dx))) (hp.objs.size + 1)) dx (.xd [(f, y)]) = upd H1 dx (.xd [(f, y)]) := by
    funext b
    by_cases hd : b = dx
    · rw [hd, upd_same, upd_same]
    · rw [upd_ne hd, upd_ne hd]
      by_cases hb : b = hp.objs.size + 1
      · rw [hb, del_same, hn]
      · rw [del_ne hb, upd_ne hb, upd_ne hd, upd_ne hb]
  rw [eH]
  exact q2
end
end Q
set_option Elab.async false
set_option linter.all false
set_option maxRecDepth 100000
set_option maxHeartbeats 4000000
namespace Q
open PySem PySem.Spec PyProof.Rows L2
local macro_rules | `(tactic| walk_at "cn") => `(tactic| ((try dsimp only at *); omega))
/-- an exception as it flies -/
def XRel (g : Gi) (G H : Hp) (cls : Value) (d : Option Addr) (x : Exc) : Prop :=
  cls = .ref (g.ca x.1) ∧ x.1 ∈ g.xcs ∧ ∃ ws, ExD g G d x.1 ws ∧ OwnL g G H ws x.2 (fun _ => 0)
/-- what a reading promises, as the hand layer wants it -/
def lift (g : Gi) (sp : FSp) : Sp := fun vs H Q E => ∃ (G : Hp) (ms : List M) (c : Cn) (Q0 : M → List M → Prop) (X0 : Exc → List M → Prop), Same G H ∧ OwnL g G H vs ms c ∧ (∀ b, c b ≤ 1) ∧ ms.all M.ok = true ∧ sp ms Q0 X0 ∧
  (∀ v m ms' G' H' c' d', Stp G H c G' H' (fun b => c' b + d' b) → OwnL g G' H' vs ms' c' → Own g G' H' v m d' → (∀ b, c' b + d' b ≤ 1) → Q0 m ms' → Q v H') ∧
  (∀ cls d x ms' G' H' c', Stp G H c G' H' c' → OwnL g G' H' vs ms' c' → (∀ b, c' b ≤ 1) → XRel g G' H' cls d x → X0 x ms' → E cls d H')
/-- a def keeps a reading -/
structure FnG (g : Gi) (k : Nat) (a : Addr) (sp : FSp) : Prop where
  ex : ∃ (fd : FuncData) (ps : List Str) (s : Sp) (dvs : List V) (ds : List Value), FnOk g.P g.w g.K g.mg g.base (L2.CX g.P g.w) k a fd ps s ∧ PySem.W.keepIn g.K (.ref a) = true ∧ Binds g.K fd ps ds ∧ Vals dvs ds ∧ ∀ vs H Q E, lift g sp vs H Q E → s (vs ++ dvs) H Q E
theorem FnG.mono {g : Gi} {j k : Nat} {a : Addr} {sp : FSp} (F : FnG g j a sp) (h : j ≤ k) : FnG g k a sp := by
  obtain ⟨fd, ps, s, dvs, ds, f, r⟩ := F.ex
  exact ⟨fd, ps, s, dvs, ds, f.mono h, r⟩
/-- a class that is raised -/
structure XRs (g : Gi) (C : String) (x : Str) (b : Bool) : Prop where
  gl : g.mg x = some (.ref (g.ca C))
  mem : C ∈ g.xcs
  own : match b with
    | false => PySem.W.excIn g.K (g.ca C) [.type "ValueError", .type "Exception", .type "BaseException", .type "object"] "ValueError.__new__" = true ∧ PySem.W.keepIn g.K (.ref (g.ca C)) = true ∧ PySem.W.subIn g.K (.ref (g.ca C)) (.type "BaseException") = some true ∧ PySem.W.typeIn g.K (.ref (g.ca C)) = some (.type "type")
    | true => ∃ (fI D : Addr) (f : Str), g.fl C = [f] ∧ SupC g.P g.K g.mg (g.ca C) fI D f
structure GE (g : Gi) (c : Sc) (Γ : Gm) (X : Cx) : Prop where
  good : Good g c Γ X
  fns : ∀ f x, (f, x) ∈ c.fns → g.mg x = some (.ref (g.fa f)) ∧ FnG g c.k (g.fa f) (Γ.fs f)
  mts : ∀ C m, (C, m) ∈ c.mts → Cls g.K (g.ca C) ∧ m ∉ g.fl C ∧ ∃ a, Meth g.K (g.ca C) m a ∧ FnG g c.k a (Γ.ms C (Str.toString m))
  xrs : ∀ C x, (C, x) ∈ c.xrs → XRs g C x false ∧ Γ.exf C = false
  xri : ∀ C x, (C, x) ∈ c.xri → XRs g C x true ∧ Γ.exf C = true
  lfs : ∀ f, Γ.lf f = true → FnG g c.k (g.fa f) (Γ.fs f)
  mks : ∀ C x, (C, x) ∈ c.mks → g.mg x = some (.ref (g.ca C)) ∧ ∃ a k, k + 1 ≤ c.k ∧ Mk g.K (g.ca C) a ∧ FnG g k a (Γ.mks C)

abbrev KE (g : Gi) (B : Bs) (Fr : List (V × M)) (σ : L2.St) (Q : QE) (R : VK) : Prop := ∀ m v env' H' G', Q m env' → Rel g B env' ((v, m) :: Fr) σ H' G' → R v H'
abbrev KX (g : Gi) (B : Bs) (Fr : List (V × M)) (σ : L2.St) (QX : Exc → En → Prop) (W : WX) : Prop := ∀ x env' H' G' cls d, QX x env' → Rel g B env' Fr σ H' G' → XRel g G' H' cls d x → W cls d σ H'
/-- what E says of a text -/
def EV (g : Gi) (Γ : Gm) (X : Cx) (W : WX) (q : E) (e : Expr) : Prop := ∃ t : TE, PE X e t ∧ ∀ (B : Bs) (env : En) (Fr : List (V × M)) (σ : L2.St) (H G : Hp) (Q : QE) (QX : Exc → En → Prop) (R : VK),
  Rel g B env Fr σ H G → semE Γ q env Q QX → KE g B Fr σ Q R → KX g B Fr σ QX W → t σ H R
/-- .. of one that is but looked at -/
def AV (g : Gi) (Γ : Gm) (X : Cx) (W : WX) (q : A) (e : Expr) : Prop := ∃ t : TE, PE X e t ∧ ∀ (B : Bs) (env : En) (Fr : List (V × M)) (σ : L2.St) (H G : Hp) (Q : QE) (QX : Exc → En → Prop) (R : VK),
  Rel g B env Fr σ H G → semA Γ q env Q QX → (∀ m v c env' H' G', Q m env' → Rel g B env' Fr σ H' G' → Own g G' H' v m c → R v H') → KX g B Fr σ QX W → t σ H R
/-- .. of a row -/
def ESV (g : Gi) (Γ : Gm) (X : Cx) (W : WX) (qs : List E) (es : List Expr) : Prop := ∃ t : TA, PA X es t ∧ ∀ (B : Bs) (env : En) (Fr : List (V × M)) (σ : L2.St) (H G : Hp) (Q : List M → En → Prop) (QX : Exc → En → Prop) (R : List V → Hp → Prop),
  Rel g B env Fr σ H G → semEs Γ qs env Q QX → (∀ ms vs env' H' G', Q ms env' → vs.length = ms.length → ms.length = qs.length → Rel g B env' (zipR vs ms Fr) σ H' G' → R vs H') → KX g B Fr σ QX W → t σ H R
/-- .. of arguments -/
def GSV (g : Gi) (Γ : Gm) (X : Cx) (W : WX) (qs : List Ag) (es : List Expr) : Prop := ∃ t : TA, PA X es t ∧ ∀ (B : Bs) (env : En) (Fr : List (V × M)) (σ : L2.St) (H G : Hp) (Q : List M → En → Prop) (QX : Exc → En → Prop) (R : List V → Hp → Prop),
  Rel g B env Fr σ H G → (∀ i, some i ∈ qs.map agI → ∃ v, σ[i]? = some (some v)) → semGs Γ qs env Q QX → (∀ ms evs vs env' H' G', Q ms env' → evs.length = ms.length → Args σ (qs.map agI) evs vs → Rel g B env' (zipR evs ms Fr) σ H' G' → R vs H') → KX g B Fr σ QX W → t σ H R
section
variable {g : Gi} {cc : Sc} {Γ : Gm} {X : Cx} {W : WX}
theorem KX.pop {B : Bs} {Fr : List (V × M)} {σ : L2.St} {QX : Exc → En → Prop} {v : V} {m : M} (k : KX g B Fr σ QX W) : KX g B ((v, m) :: Fr) σ QX W := fun x env' H' G' cls d h r xr => k x env' H' G' cls d h r.pop xr
theorem gs_slots {B : Bs} {env : En} {Fr : List (V × M)} {σ : L2.St} {H G : Hp} (r : Rel g B env Fr σ H G) {i : Nat} (h : (gt env i).ok = true) : ∃ v, σ[i]? = some (some v) := r.asg i (ok_hole h)
theorem ev_pu {p : P} {e : Expr} (h : PV g Γ X p e) : EV g Γ X W (.pu p) e := by
  obtain ⟨t, h1, h2⟩ := h
  refine ⟨t, h1, fun B env Fr σ H G Q QX R rl hq k kx => ?_⟩
  refine h2 B env Fr σ H G _ R rl hq fun m v c hm ho => ?_
  obtain ⟨z1, z2⟩ := yes_i (show yes _ _ from hm)
  exact k m v env H G z2 (rl.pushz ho z1)
theorem ev_vr {i : Nat} {x : Str} {pos : Pos} (hg : Good g cc Γ X) (h : (slB cc x i && visB cc.sc x) = true) : EV g Γ X W (.vr i) (.Name x pos) := by
  obtain ⟨h1, h2⟩ := ba2 h
  obtain ⟨s1, s2, s3⟩ := slot_of hg h1
  refine ⟨_, pe_var s1 (vis_of hg h2) s2 s3, fun B env Fr σ H G Q QX R rl hq k kx => ?_⟩
  obtain ⟨h1, h2⟩ := yes_i (show yes (gt env i).ok _ from hq)
  obtain ⟨v, G', hv, r2⟩ := rl.share (ok_hole h1)
  exact ⟨v, hv, k _ _ _ _ _ h2 r2⟩
theorem ev_mv {i : Nat} {x : Str} {pos : Pos} (hg : Good g cc Γ X) (h : (slB cc x i && visB cc.sc x) = true) : EV g Γ X W (.mv i) (.Name x pos) := by
  obtain ⟨h1, h2⟩ := ba2 h
  obtain ⟨s1, s2, s3⟩ := slot_of hg h1
  refine ⟨_, pe_var s1 (vis_of hg h2) s2 s3, fun B env Fr σ H G Q QX R rl hq k kx => ?_⟩
  obtain ⟨h1, h2⟩ := yes_i (show yes (gt env i).ok _ from hq)
  obtain ⟨v, hv, r2⟩ := rl.take (ok_hole h1)
  exact ⟨v, hv, k _ _ _ _ _ h2 r2⟩
theorem av_v {p : P} {e : Expr} (h : PV g Γ X p e) : AV g Γ X W (.v p) e := by
  obtain ⟨t, h1, h2⟩ := h
  exact ⟨t, h1, fun B env Fr σ H G Q QX R rl hq k kx => h2 B env Fr σ H G _ R rl hq fun m v c hm ho => k m v c env H G hm rl ho⟩
theorem av_e {q : E} {e : Expr} (h : EV g Γ X W q e) : AV g Γ X W (.e q) e := by
  obtain ⟨t, h1, h2⟩ := h
  refine ⟨t, h1, fun B env Fr σ H G Q QX R rl hq k kx => h2 B env Fr σ H G _ QX R rl hq (fun m v env' H' G' hm r => ?_) kx⟩
  obtain ⟨c, ho⟩ := r.top
  exact k m v c env' H' G' hm r.pop ho
theorem es_nil : ESV g Γ X W [] [] := ⟨_, pa_nil, fun B env Fr σ H G Q QX R rl hq k kx => k [] [] env H G hq rfl rfl rl⟩
theorem es_cons {q : E} {qs : List E} {e : Expr} {es : List Expr} (hs : nStar e = true) (h : EV g Γ X W q e) (t : ESV g Γ X W qs es) : ESV g Γ X W (q :: qs) (e :: es) := by
  obtain ⟨t1, h1, k1⟩ := h
  obtain ⟨t2, h2, k2⟩ := t
  refine ⟨_, pa_n hs h1 h2, fun B env Fr σ H G Q QX R rl hq k kx => ?_⟩
  refine k1 B env Fr σ H G _ QX _ rl hq (fun m v env1 H1 G1 hm r1 => ?_) kx
  refine k2 B env1 ((v, m) :: Fr) σ H1 G1 _ QX _ r1 hm (fun ms vs env2 H2 G2 hms hl hl2 r2 => ?_) kx.pop
  exact k (m :: ms) (v :: vs) env2 H2 G2 hms (by simpa using hl) (by simpa using hl2) r2
theorem gs_nil : GSV g Γ X W [] [] := ⟨_, pa_nil, fun B env Fr σ H G Q QX R rl _ hq k kx => k [] [] [] env H G hq rfl trivial rl⟩
theorem gs_e {q : E} {qs : List Ag} {e : Expr} {es : List Expr} (hs : nStar e = true) (h : EV g Γ X W q e) (t : GSV g Γ X W qs es) : GSV g Γ X W (.e q :: qs) (e :: es) := by
  obtain ⟨t1, h1, k1⟩ := h
  obtain ⟨t2, h2, k2⟩ := t
  refine ⟨_, pa_n hs h1 h2, fun B env Fr σ H G Q QX R rl ha hq k kx => ?_⟩
  refine k1 B env Fr σ H G _ QX _ rl hq (fun m v env1 H1 G1 hm r1 => ?_) kx
  refine k2 B env1 ((v, m) :: Fr) σ H1 G1 _ QX _ r1 (fun i hi => ha i (List.mem_cons_of_mem _ hi)) hm (fun ms evs vs env2 H2 G2 hms hl har r2 => ?_) kx.pop
  exact k (m :: ms) (v :: evs) (v :: vs) env2 H2 G2 hms (by simpa using hl) ⟨rfl, har⟩ r2
theorem gs_r {i : Nat} {qs : List Ag} {x : Str} {pos : Pos} {es : List Expr} (hg : Good g cc Γ X) (h : (slB cc x i && visB cc.sc x) = true) (t : GSV g Γ X W qs es) : GSV g Γ X W (.r i :: qs) (.Name x pos :: es) := by
  obtain ⟨h1, h2⟩ := ba2 h
  obtain ⟨s1, s2, s3⟩ := slot_of hg h1
  obtain ⟨t2, p2, k2⟩ := t
  refine ⟨_, pa_n rfl (pe_var s1 (vis_of hg h2) s2 s3) p2, fun B env Fr σ H G Q QX R rl ha hq k kx => ?_⟩
  obtain ⟨v, hv⟩ := ha i List.mem_cons_self
  refine ⟨v, hv, k2 B env Fr σ H G Q QX _ rl (fun j hj => ha j (List.mem_cons_of_mem _ hj)) hq (fun ms evs vs env2 H2 G2 hms hl har r2 => ?_) kx⟩
  refine k ms evs (v :: vs) env2 H2 G2 hms hl ?_ r2
  show Args σ (some i :: qs.map agI) evs (v :: vs)
  cases evs <;> exact ⟨hv, har⟩
theorem ev_tup {qs : List E} {es : List Expr} {k : Nat} {pos : Pos} (h : ESV g Γ X W qs es) : EV g Γ X W (.tup qs) (.Tuple es k pos) := by
  obtain ⟨t, h1, h2⟩ := h
  refine ⟨_, pe_tup h1, fun B env Fr σ H G Q QX R rl hq k kx => ?_⟩
  refine h2 B env Fr σ H G _ QX _ rl hq (fun ms vs env' H' G' hm hl _ r => ?_) kx
  obtain ⟨z1, z2⟩ := yes_i (show yes _ _ from hm)
  refine ⟨by rw [hl]; exact of_decide_eq_true z1, fun p hp => ?_⟩
  -- the new tuple is frozen at once
  obtain ⟨c, d, e, k1, k2, k3, k4, k5⟩ := r.row hl
  have gp : G' p = none := by
    cases q : G' p with
    | none => rfl
    | some x => rw [r.sGH p x q] at hp; cases hp
  have lvp : ∀ b, 1 ≤ c b + d b + e b → b ≠ p := fun b hb q => by
    subst q
    by_cases z1 : 1 ≤ c b
    · obtain ⟨⟨o', ho⟩, _⟩ := OwnL.live env' k1 b z1; rw [hp] at ho; cases ho
    · by_cases z2 : 1 ≤ d b
      · obtain ⟨⟨o', ho⟩, _⟩ := OwnL.live _ k2 b z2; rw [hp] at ho; cases ho
      · obtain ⟨⟨o', ho⟩, _⟩ := OwnL.live _ k3 b (by omega); rw [hp] at ho; cases ho
  have hu : ∀ b, b ≠ p → upd G' p (.tup vs) b = G' b := fun b hb => if_neg hb
  have hv : ∀ b, b ≠ p → upd H' p (.tup vs) b = H' b := fun b hb => if_neg hb
  have st : Stp G' H' (fun b => c b + d b + e b) (upd G' p (.tup vs)) (upd H' p (.tup vs)) (fun b => c b + d b + e b) := by
    refine ⟨fun b x hb => ?_, fun b x hb => ?_, fun b hb => .inl hb, fun b x hb _ => ?_, fun b hb => ?_⟩
    · rw [hu b (fun q => by rw [q, gp] at hb; cases hb)]; exact hb
    · by_cases q : b = p
      · subst q; rw [upd_same] at hb ⊢; exact hb
      · rw [hu b q] at hb; rw [hv b q]; exact r.sGH b x hb
    · rw [hv b (fun q => by rw [q, hp] at hb; cases hb)]; exact hb
    · by_cases q : b = p
      · subst q; exact .inr (.inr hp)
      · rw [hu b q] at hb; exact .inl hb
  refine k _ _ env' _ (upd G' p (.tup vs)) z2 ?_
  have mv : ∀ {ms : List M} {vs' : List V} {f : Cn}, OwnL g G' H' vs' ms f → (∀ b, 1 ≤ f b → b ≠ p) → OwnL g (upd G' p (.tup vs)) (upd H' p (.tup vs)) vs' ms f := fun {ms vs' f} o hf =>
    (OwnL.hm ms o fun b hb => hv b (hf b hb)).gm st.sG ms fun b hb => by
      rw [hu b (hf b hb)]
      exact (OwnL.live ms o b hb).2
  refine r.stp0 (c := fun b => c b + d b) (d := e) (c' := c) (d' := fun b => e b + d b) (fun b hb => k5 b hb) (st.less fun b hb => by walk_at "cn")
    ⟨mv k1 fun b hb => lvp b (by omega), ⟨e, d, ⟨p, vs, rfl, upd_same, mv k3 fun b hb => lvp b (by omega)⟩, mv k2 fun b hb => lvp b (by omega), fun _ => rfl⟩, fun b => by have e1_ := k4 b; walk_at "cn"⟩
theorem ev_lst {qs : List E} {es : List Expr} {pos : Pos} (h : ESV g Γ X W qs es) : EV g Γ X W (.lst qs) (.List es pos) := by
  obtain ⟨t, h1, h2⟩ := h
  refine ⟨_, pe_lst h1, fun B env Fr σ H G Q QX R rl hq k kx => ?_⟩
  refine h2 B env Fr σ H G _ QX _ rl hq (fun ms vs env' H' G' hm hl _ r => ?_) kx
  obtain ⟨z1, z2⟩ := yes_i (show yes _ _ from hm)
  refine ⟨by rw [hl]; exact of_decide_eq_true z1, fun p hp => ?_⟩
  refine k _ _ env' _ G' z2 (r.alloc hl hp ?_)
  intro H2 e ga ha ho
  exact ⟨p, vs, e, rfl, ga, ha, ho, fun b => rfl⟩
theorem ev_dK0 {pos : Pos} : EV g Γ X W .dK0 (.Dict [] [] pos) := by
  refine ⟨_, pe_dnewK, fun B env Fr σ H G Q QX R rl hq k kx => fun p hp => ?_⟩
  refine k _ _ env _ G hq (Rel.alloc (vs := []) (ms := []) rl rfl hp ?_)
  intro H2 e ga ha ho
  exact ⟨p, [], e, rfl, ga, ha, rfl, ho, fun b => rfl⟩
theorem ev_dT0 {pos : Pos} : EV g Γ X W .dT0 (.Dict [] [] pos) := by
  refine ⟨_, pe_dnewT, fun B env Fr σ H G Q QX R rl hq k kx => fun p hp => ?_⟩
  refine k _ _ env _ G hq (Rel.alloc (vs := []) (ms := []) rl rfl hp ?_)
  intro H2 e ga ha ho
  exact ⟨p, [], e, rfl, ga, ha, rfl, ho, fun b => rfl⟩
/-! and, or, not, if as values; tests -/
def TV (g : Gi) (Γ : Gm) (X : Cx) (W : WX) (q : TT) (e : Expr) : Prop := ∃ t : L2.TT, PT X e t ∧ ∀ (B : Bs) (env : En) (Fr : List (V × M)) (σ : L2.St) (H G : Hp) (Q : Bool → En → Prop) (QX : Exc → En → Prop) (R : Bool → Hp → Prop),
  Rel g B env Fr σ H G → semT Γ q env Q QX → (∀ b env' H' G', Q b env' → Rel g B env' Fr σ H' G' → R b H') → KX g B Fr σ QX W → t σ H R
def TWV (g : Gi) (Γ : Gm) (X : Cx) (W : WX) (q : TT) (e : Expr) : Prop := ∃ t : L2.TT, PW X e t ∧ ∀ (B : Bs) (env : En) (Fr : List (V × M)) (σ : L2.St) (H G : Hp) (Q : Bool → En → Prop) (QX : Exc → En → Prop) (R : Bool → Hp → Prop),
  Rel g B env Fr σ H G → semT Γ q env Q QX → (∀ b env' H' G', Q b env' → Rel g B env' Fr σ H' G' → R b H') → KX g B Fr σ QX W → t σ H R
theorem ev_and {a b : E} {x y : Expr} {es : List Expr} {pos : Pos} (ha : EV g Γ X W a x) (hb : EV g Γ X W b (.BoolOp .And (y :: es) pos)) : EV g Γ X W (.and a b) (.BoolOp .And (x :: y :: es) pos) := by
  obtain ⟨ta, h1, k1⟩ := ha
  obtain ⟨tb, h2, k2⟩ := hb
  refine ⟨_, pe_and h1 h2, fun B env Fr σ H G Q QX R rl hq k kx => ?_⟩
  refine k1 B env Fr σ H G (fun m env1 => asB m fun c => match c with | true => semE Γ b env1 Q QX | false => Q (.bl false) env1) QX _ rl hq (fun m v env1 H1 G1 hm r1 => ?_) kx
  obtain ⟨c, ho⟩ := r1.top
  obtain ⟨z, e, hz⟩ := s_bool hm ho
  refine ⟨z, e, ?_⟩
  cases z with
  | true => exact iteT (k2 B env1 Fr σ H1 G1 Q QX R r1.pop hz k kx)
  | false => exact iteF (k _ _ _ _ _ hz (r1.pop.push0 (o_bl _)))
theorem ev_or {a b : E} {x y : Expr} {es : List Expr} {pos : Pos} (ha : EV g Γ X W a x) (hb : EV g Γ X W b (.BoolOp .Or (y :: es) pos)) : EV g Γ X W (.or a b) (.BoolOp .Or (x :: y :: es) pos) := by
  obtain ⟨ta, h1, k1⟩ := ha
  obtain ⟨tb, h2, k2⟩ := hb
  refine ⟨_, pe_or h1 h2, fun B env Fr σ H G Q QX R rl hq k kx => ?_⟩
  refine k1 B env Fr σ H G (fun m env1 => asB m fun c => match c with | true => Q (.bl true) env1 | false => semE Γ b env1 Q QX) QX _ rl hq (fun m v env1 H1 G1 hm r1 => ?_) kx
  obtain ⟨c, ho⟩ := r1.top
  obtain ⟨z, e, hz⟩ := s_bool hm ho
  refine ⟨z, e, ?_⟩
  cases z with
  | true => exact iteT (k _ _ _ _ _ hz (r1.pop.push0 (o_bl _)))
  | false => exact iteF (k2 B env1 Fr σ H1 G1 Q QX R r1.pop hz k kx)
theorem ev_one {b : E} {op : BoolOp} {y : Expr} {pos : Pos} (h : EV g Γ X W b y) : EV g Γ X W b (.BoolOp op [y] pos) := by
  obtain ⟨ta, h1, k1⟩ := h
  exact ⟨ta, pe_one h1, k1⟩
theorem ev_not {a : E} {x : Expr} {pos : Pos} (ha : EV g Γ X W a x) : EV g Γ X W (.not a) (.UnaryOp .Not x pos) := by
  obtain ⟨ta, h1, k1⟩ := ha
  refine ⟨_, pe_not h1, fun B env Fr σ H G Q QX R rl hq k kx => ?_⟩
  refine k1 B env Fr σ H G (fun m env1 => asB m fun c => Q (.bl (!c)) env1) QX _ rl hq (fun m v env1 H1 G1 hm r1 => ?_) kx
  obtain ⟨c, ho⟩ := r1.top
  obtain ⟨z, e, hz⟩ := s_bool hm ho
  exact ⟨z, e, k _ _ _ _ _ hz (r1.pop.push0 (o_bl _))⟩
theorem ev_ifx {t : TT} {a b : E} {x y z : Expr} {pos : Pos} (ht : TV g Γ X W t x) (ha : EV g Γ X W a y) (hb : EV g Γ X W b z) : EV g Γ X W (.ifx t a b) (.IfExp x y z pos) := by
  obtain ⟨tt, h0, k0⟩ := ht
  obtain ⟨ta, h1, k1⟩ := ha
  obtain ⟨tb, h2, k2⟩ := hb
  refine ⟨_, pe_ifExp h0 h1 h2, fun B env Fr σ H G Q QX R rl hq k kx => ?_⟩
  refine k0 B env Fr σ H G (fun c env1 => match c with | true => semE Γ a env1 Q QX | false => semE Γ b env1 Q QX) QX _ rl hq (fun c env1 H1 G1 hc r1 => ?_) kx
  cases c with
  | true => exact iteT (k1 B env1 Fr σ H1 G1 Q QX R r1 hc k kx)
  | false => exact iteF (k2 B env1 Fr σ H1 G1 Q QX R r1 hc k kx)
theorem tv_p {t : T} {e : Expr} (h : PTs' g Γ X t e) : TV g Γ X W (.p t) e := by
  obtain ⟨tt, h1, k1⟩ := h
  exact ⟨tt, h1, fun B env Fr σ H G Q QX R rl hq k kx => k1 B env Fr σ H G (fun c => Q c env) R rl hq fun b hb => k b env H G hb rl⟩
theorem tv_e {q : E} {e : Expr} (hg : Good g cc Γ X) (h : EV g Γ X W q e) (hn : nTst e = true) : TV g Γ X W (.e q) e := by
  obtain ⟨te, h1, k1⟩ := h
  refine ⟨_, pt_truth h1 (tst_n hn), fun B env Fr σ H G Q QX R rl hq k kx => ?_⟩
  refine k1 B env Fr σ H G (fun m env1 => truM m fun c => Q c env1) QX _ rl hq (fun m v env1 H1 G1 hm r1 => ?_) kx
  obtain ⟨c, ho⟩ := r1.top
  obtain ⟨b, h1, h2⟩ := s_tru r1.sGH hm ho
  rw [← hg.eK] at h1
  exact ⟨b, h1, k b env1 H1 G1 h2 r1.pop⟩
theorem tv_not {t : TT} {x : Expr} {pos : Pos} (h : TV g Γ X W t x) : TV g Γ X W (.not t) (.UnaryOp .Not x pos) := by
  obtain ⟨tt, h1, k1⟩ := h
  exact ⟨_, pt_not h1, fun B env Fr σ H G Q QX R rl hq k kx => k1 B env Fr σ H G (fun c env1 => Q (!c) env1) QX _ rl hq (fun b env' H' G' hb r => k _ env' H' G' hb r) kx⟩
theorem tw_and {a b : TT} {x y : Expr} {es : List Expr} {pos : Pos} (ha : TV g Γ X W a x) (hb : TWV g Γ X W b (.BoolOp .And (y :: es) pos)) : TWV g Γ X W (.and a b) (.BoolOp .And (x :: y :: es) pos) := by
  obtain ⟨ta, h1, k1⟩ := ha
  obtain ⟨tb, h2, k2⟩ := hb
  refine ⟨_, pw_and h1 h2, fun B env Fr σ H G Q QX R rl hq k kx => ?_⟩
  refine k1 B env Fr σ H G (fun c env1 => match c with | true => semT Γ b env1 Q QX | false => Q false env1) QX _ rl hq (fun z env1 H1 G1 hz r1 => ?_) kx
  cases z with
  | true => exact iteT (k2 B env1 Fr σ H1 G1 Q QX R r1 hz k kx)
  | false => exact iteF (k _ _ _ _ hz r1)
theorem tw_or {a b : TT} {x y : Expr} {es : List Expr} {pos : Pos} (ha : TV g Γ X W a x) (hb : TWV g Γ X W b (.BoolOp .Or (y :: es) pos)) : TWV g Γ X W (.or a b) (.BoolOp .Or (x :: y :: es) pos) := by
  obtain ⟨ta, h1, k1⟩ := ha
  obtain ⟨tb, h2, k2⟩ := hb
  refine ⟨_, pw_or h1 h2, fun B env Fr σ H G Q QX R rl hq k kx => ?_⟩
  refine k1 B env Fr σ H G (fun c env1 => match c with | true => Q true env1 | false => semT Γ b env1 Q QX) QX _ rl hq (fun z env1 H1 G1 hz r1 => ?_) kx
  cases z with
  | true => exact iteT (k _ _ _ _ hz r1)
  | false => exact iteF (k2 B env1 Fr σ H1 G1 Q QX R r1 hz k kx)
theorem tw_1 {b : TT} {y : Expr} {pos : Pos} (op : BoolOp) (h : TV g Γ X W b y) : TWV g Γ X W b (.BoolOp op [y] pos) := by
  obtain ⟨ta, h1, k1⟩ := h
  cases op with
  | And => exact ⟨ta, pw_and1 h1, k1⟩
  | Or => exact ⟨ta, pw_or1 h1, k1⟩
theorem tw_t {b : TT} {e : Expr} (h : TWV g Γ X W b e) : TV g Γ X W b e := by
  obtain ⟨ta, h1, k1⟩ := h
  exact ⟨ta, PW.pt h1, k1⟩
end
end Q
set_option Elab.async false
set_option linter.all false
set_option maxRecDepth 100000
set_option maxHeartbeats 4000000
namespace Q
open PySem PySem.Spec PyProof.Rows L2
local macro_rules | `(tactic| walk_at "cn") => `(tactic| ((try dsimp only at *); omega))
/-- what is known of an operand -/
def AK (g : Gi) (Γ : Gm) (X : Cx) (W : WX) (a : A) (e : Expr) : Prop := match a with
  | .v p => PV g Γ X p e
  | .e q => EV g Γ X W q e
def sem2 (Γ : Gm) (a b : A) (env : En) (Q : M → M → En → Prop) (X : Exc → En → Prop) : Prop := match a, b with
  | .v p, .v q => evP Γ env p fun m => evP Γ env q fun n => Q m n env
  | .v p, .e q => (match pVar p with
    | some i => yes (gt env i).ok (semE Γ q env (fun n env1 => yes (gt env1 i).ok (Q (gt env1 i) n env1)) X)
    | none => evP Γ env p fun m => yes m.fz (semE Γ q env (fun n env1 => Q m n env1) X))
  | .e p, b => semE Γ p env (fun m env1 => semA Γ b env1 (fun n env2 => Q m n env2) X) X
section
variable {g : Gi} {cc : Sc} {Γ : Gm} {X : Cx} {W : WX}
theorem ak_av {a : A} {e : Expr} (h : AK g Γ X W a e) : AV g Γ X W a e := by
  cases a with
  | v p => exact av_v h
  | e q => exact av_e h
def AV2 (g : Gi) (Γ : Gm) (X : Cx) (W : WX) (a b : A) (x y : Expr) : Prop := ∃ ta tb : TE, PE X x ta ∧ PE X y tb ∧ ∀ (B : Bs) (env : En) (Fr : List (V × M)) (σ : L2.St) (H G : Hp) (Q : M → M → En → Prop) (QX : Exc → En → Prop) (R : V → V → Hp → Prop),
  Rel g B env Fr σ H G → sem2 Γ a b env Q QX → (∀ m n v u c d env' H' G', Q m n env' → Rel g B env' Fr σ H' G' → Own g G' H' v m c → Own g G' H' u n d → R v u H') → KX g B Fr σ QX W → ta σ H fun v H1 => tb σ H1 fun u H2 => R v u H2
theorem pVar_i {p : P} {i : Nat} (h : pVar p = some i) : p = .var i := by
  cases p <;> first | (cases h; done) | (cases h; rfl)
theorem av2 {a b : A} {x y : Expr} (ha : AK g Γ X W a x) (hb : AK g Γ X W b y) (hs : ∀ i, a = .v (.var i) → ∃ j z pos, x = .Name z pos ∧ X.N[i]? = some z ∧ j = i ∧ PE X x (tVar i)) : AV2 g Γ X W a b x y := by
  cases a with
  | v p =>
    cases b with
    | v q =>
      obtain ⟨ta, h1, k1⟩ := (show PV g Γ X p x from ha)
      obtain ⟨tb, h2, k2⟩ := (show PV g Γ X q y from hb)
      refine ⟨ta, tb, h1, h2, fun B env Fr σ H G Q QX R rl hq k kx => ?_⟩
      refine k1 B env Fr σ H G _ _ rl (show evP Γ env p fun m => evP Γ env q fun n => Q m n env from hq) fun m v c hm ho1 => ?_
      exact k2 B env Fr σ H G _ _ rl hm fun n u d hn ho2 => k m n v u c d env H G hn rl ho1 ho2
    | e q =>
      obtain ⟨tb, h2, k2⟩ := (show EV g Γ X W q y from hb)
      cases hv : pVar p with
      | some i =>
        have ep := pVar_i hv
        subst ep
        obtain ⟨_, _, _, _, _, _, h1⟩ := hs i rfl
        refine ⟨_, tb, h1, h2, fun B env Fr σ H G Q QX R rl hq k kx => ?_⟩
        obtain ⟨z1, z2⟩ := yes_i (show yes (gt env i).ok (semE Γ q env (fun n env1 => yes (gt env1 i).ok (Q (gt env1 i) n env1)) QX) from hq)
        obtain ⟨v, c, hv, ho⟩ := rl.var (ok_hole z1)
        refine ⟨v, hv, k2 B env Fr σ H G _ QX _ rl z2 (fun n u env1 H1 G1 hn r1 => ?_) kx⟩
        obtain ⟨z3, z4⟩ := yes_i hn
        obtain ⟨d, ho2⟩ := r1.top
        obtain ⟨v', c', hv', ho'⟩ := r1.pop.var (ok_hole z3)
        have e : v = v' := by rw [hv] at hv'; cases hv'; rfl
        exact k _ n v u c' d env1 H1 G1 z4 r1.pop (e ▸ ho') ho2
      | none =>
        obtain ⟨ta, h1, k1⟩ := (show PV g Γ X p x from ha)
        refine ⟨ta, tb, h1, h2, fun B env Fr σ H G Q QX R rl hq k kx => ?_⟩
        have hq : evP Γ env p fun m => yes m.fz (semE Γ q env (fun n env1 => Q m n env1) QX) := by
          have hq : (match pVar p with
            | some i => yes (gt env i).ok (semE Γ q env (fun n env1 => yes (gt env1 i).ok (Q (gt env1 i) n env1)) QX)
            | none => evP Γ env p fun m => yes m.fz (semE Γ q env (fun n env1 => Q m n env1) QX)) := hq
          rw [hv] at hq
          exact hq
        refine k1 B env Fr σ H G _ _ rl hq fun m v c hm ho1 => ?_
        obtain ⟨z1, z2⟩ := yes_i hm
        refine k2 B env ((v, m) :: Fr) σ H G _ QX _ (rl.pushz ho1 z1) z2 (fun n u env1 H1 G1 hn r1 => ?_) kx.pop
        obtain ⟨d, ho2⟩ := r1.top
        obtain ⟨c', ho'⟩ := r1.pop.top
        exact k m n v u c' d env1 H1 G1 hn r1.pop.pop ho' ho2
  | e p =>
    obtain ⟨ta, h1, k1⟩ := (show EV g Γ X W p x from ha)
    obtain ⟨tb, h2, k2⟩ := ak_av hb
    refine ⟨ta, tb, h1, h2, fun B env Fr σ H G Q QX R rl hq k kx => ?_⟩
    refine k1 B env Fr σ H G (fun m env1 => semA Γ b env1 (fun n env2 => Q m n env2) QX) QX _ rl hq (fun m v env1 H1 G1 hm r1 => ?_) kx
    refine k2 B env1 ((v, m) :: Fr) σ H1 G1 _ QX _ r1 hm (fun n u d env2 H2 G2 hn r2 ho2 => ?_) kx.pop
    obtain ⟨c', ho'⟩ := r2.top
    exact k m n v u c' d env2 H2 G2 hn r2.pop ho' ho2
/-! ### readings with new lists, tuples -/
def r2E (g : Gi) : O2 → R2
  | .add => fun x y H Q => r2 g .add x y H Q ∨ (rCat x y H Q ∨ rCatT g.K x y H Q)
  | .mul => fun x y H Q => r2 g .mul x y H Q ∨ rRep x y H Q
  | o => r2 g o
theorem op_binE (h : Good g cc Γ X) {o : O2} {op : Operator} (e : bOp o = some op) : OpR X (binaryOp op) (r2E g o) := by
  have q := op_bin h e
  cases o <;> first
    | (cases e; done)
    | exact q
    | (cases e
       exact q.or (op_cat.or (by rw [← h.eK]; exact op_catT)))
    | (cases e
       exact q.or op_rep)
/-- a result that is there already -/
theorem fin_k {B : Bs} {env : En} {Fr : List (V × M)} {σ : L2.St} {H G : Hp} {Q : M → Prop} {R : VK} (rl : Rel g B env Fr σ H G) (k : ∀ r v H', Q r → Rel g B env ((v, r) :: Fr) σ H' G → R v H') : Fin2 g G H (fun r => yes r.fz (Q r)) R := fun r v c' h ho => by
  obtain ⟨z1, z2⟩ := yes_i h
  exact k r v H z2 (rl.pushz ho z1)
/-- a new list of what owns nothing -/
theorem new_lst {B : Bs} {env : En} {Fr : List (V × M)} {σ : L2.St} {H G : Hp} {vs : List V} {ms : List M} {c : Cn} {p : Addr} (rl : Rel g B env Fr σ H G) (ho : OwnL g G H vs ms c) (f : fzL ms = true) (hp : H p = none) :
    Rel g B env ((.ref p, .lst true ms) :: Fr) σ (upd H p (.lst vs)) G := by
  have hl := OwnL.len ho
  have hz := ho.z f
  have push : ∀ {vs : List V} {ms : List M} {Fr : List (V × M)}, Rel g B env Fr σ H G → OwnL g G H vs ms (fun _ => 0) → Rel g B env (zipR vs ms Fr) σ H G := by
    intro vs ms
    induction ms generalizing vs with
    | nil => intro Fr r h; cases vs <;> exact r
    | cons m ms ih =>
      intro Fr r h
      cases vs with
      | nil => exact r
      | cons v vs =>
        obtain ⟨c1, c2, h1, h2, hc⟩ := h
        have e1 : c1 = fun _ => 0 := funext fun b => by have e1_ := hc b; walk_at "cn"
        have e2 : c2 = fun _ => 0 := funext fun b => by have e1_ := hc b; walk_at "cn"
        rw [e1] at h1; rw [e2] at h2
        exact ih (r.push0 h1) h2
  refine Rel.alloc (push rl hz) hl hp ?_
  intro H2 e ga ha ho
  exact ⟨p, vs, e, rfl, ga, ha, ho, fun b => rfl⟩
/-- a new tuple of what owns nothing -/
theorem new_tup {B : Bs} {env : En} {Fr : List (V × M)} {σ : L2.St} {H G : Hp} {vs : List V} {ms : List M} {c : Cn} {p : Addr} (rl : Rel g B env Fr σ H G) (ho : OwnL g G H vs ms c) (f : fzL ms = true) (hp : H p = none) :
    Rel g B env ((.ref p, .tup ms) :: Fr) σ (upd H p (.tup vs)) (upd G p (.tup vs)) := by
  obtain ⟨c1, d, x, h4⟩ := rl.rc
  have hz := ho.z f
  have gp : G p = none := by
    cases q : G p with
    | none => rfl
    | some x => rw [rl.sGH p x q] at hp; cases hp
  have lvp : ∀ b, 1 ≤ c1 b + d b → b ≠ p := fun b hb q => by
    subst q
    by_cases z1 : 1 ≤ c1 b
    · obtain ⟨⟨o', ho⟩, _⟩ := OwnL.live env x.oe b z1; rw [hp] at ho; cases ho
    · obtain ⟨⟨o', ho⟩, _⟩ := OwnL.live _ x.of b (by omega); rw [hp] at ho; cases ho
  have hu : ∀ b, b ≠ p → upd G p (.tup vs) b = G b := fun b hb => if_neg hb
  have hv : ∀ b, b ≠ p → upd H p (.tup vs) b = H b := fun b hb => if_neg hb
  have st : Stp G H (fun b => c1 b + d b) (upd G p (.tup vs)) (upd H p (.tup vs)) (fun b => c1 b + d b) := by
    refine ⟨fun b x hb => ?_, fun b x hb => ?_, fun b hb => .inl hb, fun b x hb _ => ?_, fun b hb => ?_⟩
    · rw [hu b (fun q => by rw [q, gp] at hb; cases hb)]; exact hb
    · by_cases q : b = p
      · subst q; rw [upd_same] at hb ⊢; exact hb
      · rw [hu b q] at hb; rw [hv b q]; exact rl.sGH b x hb
    · rw [hv b (fun q => by rw [q, hp] at hb; cases hb)]; exact hb
    · by_cases q : b = p
      · subst q; exact .inr (.inr hp)
      · rw [hu b q] at hb; exact .inl hb
  have mv : ∀ {ms : List M} {vs' : List V} {f : Cn}, OwnL g G H vs' ms f → (∀ b, 1 ≤ f b → b ≠ p) → OwnL g (upd G p (.tup vs)) (upd H p (.tup vs)) vs' ms f := fun {ms vs' f} o hf =>
    (OwnL.hm ms o fun b hb => hv b (hf b hb)).gm st.sG ms fun b hb => by
      rw [hu b (hf b hb)]
      exact (OwnL.live ms o b hb).2
  refine rl.stp0 (c := c1) (d := d) (c' := c1) (d' := d) h4 st
    ⟨mv x.oe fun b hb => lvp b (by omega), ⟨fun _ => 0, d, ⟨p, vs, rfl, upd_same, mv hz fun b hb => absurd hb (Nat.not_succ_le_zero 0)⟩, mv x.of fun b hb => lvp b (by omega), fun b => by walk_at "cn"⟩, x.le⟩
theorem fzL_app : ∀ {xs ys : List M}, fzL xs = true → fzL ys = true → fzL (xs ++ ys) = true
  | [], ys, _, h => h
  | x :: xs, ys, h, k => by
    have h' : (x.fz && fzL xs) = true := h
    rw [Bool.and_eq_true] at h'
    show (x.fz && fzL (xs ++ ys)) = true
    rw [Bool.and_eq_true]
    exact ⟨h'.1, fzL_app h'.2 k⟩
theorem fzL_rep {xs : List M} (h : fzL xs = true) : ∀ n, fzL (List.replicate n xs).flatten = true
  | 0 => rfl
  | n + 1 => by
    rw [List.replicate_succ, List.flatten_cons]
    exact fzL_app h (fzL_rep h n)
theorem own_rep {G H : Hp} {vs : List V} {ms : List M} (h : OwnL g G H vs ms (fun _ => 0)) : ∀ n, OwnL g G H (List.replicate n vs).flatten (List.replicate n ms).flatten (fun _ => 0)
  | 0 => zr0
  | n + 1 => by
    rw [List.replicate_succ, List.flatten_cons, List.replicate_succ, List.flatten_cons]
    exact OwnL.app h (own_rep h n)
/-- what the operators make -/
theorem s2E {o : O2} {op : Operator} {B : Bs} {env : En} {Fr : List (V × M)} {σ : L2.St} {H G : Hp} {m n : M} {v u : V} {c d : Cn} {Q : M → Prop} {R : VK} {tb : Tab} (e : bOp o = some op) (rl : Rel g B env Fr σ H G) (h : o2E tb o m n Q)
    (h1 : Own g G H v m c) (h2 : Own g G H u n d) (k : ∀ r v' H' G', Q r → Rel g B env ((v', r) :: Fr) σ H' G' → R v' H') : r2E g o v u H R := by
  have num : ∀ {o : O2}, o ∈ [O2.add, .sub, .mul, .fdiv, .mod, .pow, .shl, .shr, .band, .min2, .max2] → o2P tb o m n (fun r => yes r.fz (Q r)) → r2 g o v u H R := fun {o} ho h =>
    s2_num h h1 h2 (fin_k rl fun r v' H' q r2 => k r v' H' G q r2) ho
  cases o with
  | add =>
    cases m with
    | lst o1 xs =>
      cases n with
      | lst o2 ys =>
        have h : yes (fzL xs && fzL ys) (xs.length + ys.length ≤ sl ∧ Q (.lst true (xs ++ ys))) := h
        obtain ⟨z, hz, hq⟩ := yes_i h
        rw [Bool.and_eq_true] at z
        obtain ⟨a, us, c', rfl, s1, ol1, _⟩ := Own.ls rl.sGH h1
        obtain ⟨b, ws, d', rfl, s2, ol2, _⟩ := Own.ls rl.sGH h2
        have hl : us.length + ws.length ≤ sizeLine := by rw [OwnL.len ol1, OwnL.len ol2]; exact hz
        exact .inr (.inl ⟨a, b, us, ws, rfl, rfl, s1, s2, hl, fun p hp => k _ _ _ _ hq (new_lst rl (OwnL.app ol1 ol2) (fzL_app z.1 z.2) hp)⟩)
      | _ => exact .inl (num (o := .add) (by decide) h)
    | tup xs =>
      cases n with
      | tup ys =>
        have h : yes (fzL xs && fzL ys && !xs.isEmpty) (xs.length + ys.length ≤ sl ∧ Q (.tup (xs ++ ys))) := h
        obtain ⟨z, hz, hq⟩ := yes_i h
        rw [Bool.and_eq_true, Bool.and_eq_true] at z
        obtain ⟨⟨z1, z2⟩, z3⟩ := z
        obtain ⟨a, us, rfl, s1, ol1⟩ := h1
        obtain ⟨b, ws, rfl, s2, ol2⟩ := h2
        have l1 := OwnL.len ol1
        have l2 := OwnL.len ol2
        have hne : us ≠ [] := fun q => by
          rw [q] at l1
          cases xs with
          | nil => cases z3
          | cons _ _ => cases l1
        have hl : us.length + ws.length ≤ sizeLine := by rw [l1, l2]; exact hz
        refine .inr (.inr ⟨a, b, us, ws, rfl, rfl, .inl (.inl (rl.sGH _ _ s1)), .inl (.inl (rl.sGH _ _ s2)), hne, hl, fun q => ?_, fun _ p hp => k _ _ _ _ hq (new_tup rl (OwnL.app ol1 ol2) (fzL_app z1 z2) hp)⟩)
        have ey : ys = [] := by
          cases ys with
          | nil => rfl
          | cons _ _ => rw [q] at l2; cases l2
        subst ey
        rw [List.append_nil] at hq
        exact k _ _ _ _ hq (rl.pushz (c := c) ⟨a, us, rfl, s1, ol1⟩ z1)
      | _ => exact .inl (num (o := .add) (by decide) h)
    | _ => exact .inl (num (o := .add) (by decide) (by cases n <;> exact h))
  | mul =>
    cases m with
    | lst o1 xs =>
      cases n with
      | int i =>
        have h : yes (fzL xs) (i < 9223372036854775808 ∧ -9223372036854775808 ≤ i ∧ xs.length * i.toNat ≤ sl ∧ Q (.lst true (List.replicate i.toNat xs).flatten)) := h
        obtain ⟨z, hi1, hi2, hz, hq⟩ := yes_i h
        obtain ⟨a, us, c', rfl, s1, ol1, _⟩ := Own.ls rl.sGH h1
        obtain ⟨rfl, _⟩ := h2
        refine .inr ⟨a, i, us, rfl, rfl, s1, by omega, by omega, by rw [OwnL.len ol1]; exact hz, fun p hp => k _ _ _ _ hq (new_lst rl (own_rep (ol1.z z) _) (fzL_rep z _) hp)⟩
      | _ => exact .inl (num (o := .mul) (by decide) h)
    | _ => exact .inl (num (o := .mul) (by decide) (by cases n <;> exact h))
  | sub => exact num (o := .sub) (by decide) (by cases m <;> cases n <;> exact h)
  | fdiv => exact num (o := .fdiv) (by decide) (by cases m <;> cases n <;> exact h)
  | mod => exact num (o := .mod) (by decide) (by cases m <;> cases n <;> exact h)
  | pow => exact num (o := .pow) (by decide) (by cases m <;> cases n <;> exact h)
  | shl => exact num (o := .shl) (by decide) (by cases m <;> cases n <;> exact h)
  | shr => exact num (o := .shr) (by decide) (by cases m <;> cases n <;> exact h)
  | band => exact num (o := .band) (by decide) (by cases m <;> cases n <;> exact h)
  | _ => cases e
end
end Q
set_option Elab.async false
set_option linter.all false
set_option maxRecDepth 100000
set_option maxHeartbeats 4000000
namespace Q
open PySem PySem.Spec PyProof.Rows L2
local macro_rules | `(tactic| walk_at "cn") => `(tactic| ((try dsimp only at *); omega))
section
variable {g : Gi} {cc : Sc} {Γ : Gm} {X : Cx} {W : WX}
/-- a comparison as a test of its own -/
def EC (g : Gi) (Γ : Gm) (X : Cx) (W : WX) (q : E) (e : Expr) : Prop := isCmp e = true → TV g Γ X W (.e q) e
theorem ne {q : E} {e : Expr} (h : isCmp e = false) : EC g Γ X W q e := fun z => by rw [h] at z; cases z
theorem sem_o2 {o : O2} {a b : A} {env : En} {Q : QE} {QX : Exc → En → Prop} (h : semE Γ (.o2 o a b) env Q QX) : sem2 Γ a b env (fun m n env1 => o2E Γ.tab o m n fun r => Q r env1) QX := by
  cases a <;> cases b <;> exact h
/-- two operands under a reading -/
theorem ev_r2 {o : O2} {a b : A} {x y e : Expr} {r : R2} (h2 : AV2 g Γ X W a b x y) (hp : ∀ {ta tb : TE}, PE X x ta → PE X y tb → PE X e (tOp r ta tb))
    (hs : ∀ {B : Bs} {env : En} {Fr : List (V × M)} {σ : L2.St} {H G : Hp} {m n : M} {v u : V} {c d : Cn} {Q : M → Prop} {R : VK}, Rel g B env Fr σ H G → o2E Γ.tab o m n Q → Own g G H v m c → Own g G H u n d →
      (∀ r v' H' G', Q r → Rel g B env ((v', r) :: Fr) σ H' G' → R v' H') → r v u H R) : EV g Γ X W (.o2 o a b) e := by
  obtain ⟨ta, tb, h1, h2, k⟩ := h2
  refine ⟨_, hp h1 h2, fun B env Fr σ H G Q QX R rl hq ke kx => ?_⟩
  refine k B env Fr σ H G _ QX (fun v u H2 => r v u H2 R) rl (sem_o2 hq) (fun m n v u c d env' H' G' hm r1 o1 o2 => ?_) kx
  exact hs r1 hm o1 o2 fun r v' H2 G2 q r2 => ke r v' env' H2 G2 q r2
theorem ev_cmp {a b : A} {o : O2} {x y : Expr} {op : CmpOp} {pos : Pos} (hg : Good g cc Γ X) (h2 : AV2 g Γ X W a b x y) (ho : cOp o = some op) (hm : behindInMarks op y = false) :
    EV g Γ X W (.o2 o a b) (.Compare x [op] [y] pos) ∧ EC g Γ X W (.o2 o a b) (.Compare x [op] [y] pos) := by
  have HO := op_cmp hg ho
  have hs : ∀ {G H : Hp} {m n : M} {v u : V} {c d : Cn} {Q : Bool → Prop} {R : VK}, Same G H → cmpP Γ.tab o m n Q → Own g G H v m c → Own g G H u n d → FinB H Q R → r2 g o v u H R := by
    intro G H m n v u c d Q R sG h ho1 ho2 k
    cases o <;> first
      | (cases ho; done)
      | exact sc_eq h ho1 ho2 k
      | exact sc_ne h ho1 ho2 k
      | exact sc_in (neg := false) hg.tab sG h ho1 ho2 k
      | exact sc_in (neg := true) hg.tab sG h ho1 ho2 k
      | exact sc_ord h ho1 ho2 k (by decide)
  have hq : ∀ {m n : M} {Q : M → Prop}, o2E Γ.tab o m n Q → cmpP Γ.tab o m n fun k => yes (M.bl k).fz (Q (.bl k)) := by
    intro m n Q h
    cases o <;> first | (cases ho; done) | exact h
  constructor
  · refine ev_r2 h2 (fun t1 t2 => pe_cmpR HO t1 t2 hm) fun {B env Fr σ H G m n v u c d Q R} rl h o1 o2 k => ?_
    exact hs rl.sGH (hq h) o1 o2 fun b q => k _ _ _ _ q (rl.push0 (o_bl b))
  · intro _
    obtain ⟨ta, tb, h1, h2, k⟩ := h2
    refine ⟨_, pt_cmpR HO h1 h2 hm, fun B env Fr σ H G Q QX R rl hs' ke kx => ?_⟩
    have hs' : semE Γ (.o2 o a b) env (fun m env1 => truM m fun c => Q c env1) QX := hs'
    refine k B env Fr σ H G _ QX (fun v u H2 => r2 g o v u H2 fun x H' => ∃ k, x = .bl k ∧ R k H') rl (sem_o2 hs') (fun m n v u c d env' H' G' hm r1 o1 o2 => ?_) kx
    exact hs r1.sGH (hq hm) o1 o2 fun b q => ⟨b, rfl, ke b env' H' G' q r1⟩
/-- chk2's text, of operands that may do things -/
def f2E : O2 → Bool
  | .join => false | .startswith => false | .find => false | .split => false | _ => true
theorem ev_chk2 {a b : A} {o : O2} {e : Expr} {ca cb : Expr → Bool} (hg : Good g cc Γ X) (hf : f2E o = true) (ih : ∀ x y, ca x = true → cb y = true → AV2 g Γ X W a b x y) (h : chk2 cc o ca cb e = true) :
    EV g Γ X W (.o2 o a b) e ∧ EC g Γ X W (.o2 o a b) e := by
  by_cases ho : o = .idx
  · subst ho
    have h : (match vSub e with | some (x, y) => nSli y && ca x && cb y | none => false) = true := h
    split at h
    · rename_i x y e1
      obtain ⟨h, h3⟩ := ba2 h
      obtain ⟨h1, h2⟩ := ba2 h
      obtain ⟨p, rfl⟩ := vSub_i e1
      refine ⟨ev_r2 (ih x y h2 h3) (fun t1 t2 => pe_ix (ix_all hg) t1 t2 (fun _ _ => subs_n h1)) fun {B env Fr σ H G m n v u c d Q R} rl h o1 o2 k => ?_, ne rfl⟩
      exact s2_idx hg.tab rl.sGH (show ixP Γ.tab m n (fun r => yes r.fz (Q r)) from h) o1 o2 (fin_k rl fun r v' H' q r2 => k r v' H' G q r2)
    · cases h
  · have h : (match vBin e with
    | some (op, x, y) => decide (bOp o = some op) && ca x && cb y
    | none => (match vCmp e with
      | some (op, x, y) => decide (cOp o = some op) && nSet y && ca x && cb y
      | none => (match vCall e, f2Op o with
        | some (f, [x, y]), some n => !cc.hot && blB cc f n && nStar x && nStar y && ca x && cb y
        | _, _ => (match vMet e, m1Op o with
          | some (x, m, [y], l), some n => l && decide (m = Str.ofString n) && nSup x && nStar y && ca x && cb y
          | _, _ => false)))) = true := by
      cases o <;> first | exact absurd rfl ho | exact h
    split at h
    · rename_i op x y e1
      obtain ⟨h, h3⟩ := ba2 h
      obtain ⟨h1, h2⟩ := ba2 h
      obtain ⟨p, rfl⟩ := vBin_i e1
      have hop := of_decide_eq_true h1
      exact ⟨ev_r2 (ih x y h2 h3) (fun t1 t2 => pe_op (op_binE hg hop) t1 t2) fun {B env Fr σ H G m n v u c d Q R} rl h o1 o2 k => s2E hop rl h o1 o2 k, ne rfl⟩
    · split at h
      · rename_i op x y e1
        obtain ⟨h, h4⟩ := ba2 h
        obtain ⟨h, h3⟩ := ba2 h
        obtain ⟨h1, h2⟩ := ba2 h
        obtain ⟨p, rfl⟩ := vCmp_i e1
        exact ev_cmp hg (ih x y h3 h4) (of_decide_eq_true h1) (mark_n h2)
      · split at h
        · rename_i f x y n e1 e2
          obtain ⟨h, h5⟩ := ba2 h
          obtain ⟨h, h4⟩ := ba2 h
          obtain ⟨h, h3⟩ := ba2 h
          obtain ⟨h, h2⟩ := ba2 h
          obtain ⟨hco, h1⟩ := ba2 h
          have hb := bl_of hg h1
          obtain ⟨p, q, rfl⟩ := vCall_i e1
          obtain ⟨ta, tb, t1, t2, k⟩ := ih x y h4 h5
          have HA : PA X [x, y] (tCons ta (tCons tb tNil)) := pa_n h2 t1 (pa_n h3 t2 pa_nil)
          cases o <;> first
            | (cases e2; done)
            | (cases e2
               first
                | (refine ⟨⟨_, pe_callB (call_min2 (hg.calm (cold_n hco))) hb.g hb.m (by rw [hb.e]; decide +kernel) HA hb.n hb.d (starEach_n h2) (no_star (by simp [h3])), fun B env Fr σ H G Q QX R rl hq ke kx => ?_⟩, ne rfl⟩
                   refine k B env Fr σ H G _ QX (fun v u H2 => ∃ i j, [v, u] = [V.int i, .int j] ∧ R (.int (if j < i then j else i)) H2) rl (sem_o2 hq) (fun m n v u c d env' H' G' hm r1 o1 o2 => ?_) kx
                   obtain ⟨i, j, e1, e2, q⟩ := s2_num (o := .min2) (show o2P Γ.tab .min2 m n (fun r => yes r.fz (Q r env')) from hm) o1 o2 (fin_k r1 fun r v' H2 q r2 => ke r v' env' H2 G' q r2) (by decide)
                   exact ⟨i, j, by rw [e1, e2], q⟩)
                | (refine ⟨⟨_, pe_callB (call_max2 (hg.calm (cold_n hco))) hb.g hb.m (by rw [hb.e]; decide +kernel) HA hb.n hb.d (starEach_n h2) (no_star (by simp [h3])), fun B env Fr σ H G Q QX R rl hq ke kx => ?_⟩, ne rfl⟩
                   refine k B env Fr σ H G _ QX (fun v u H2 => ∃ i j, [v, u] = [V.int i, .int j] ∧ R (.int (if j > i then j else i)) H2) rl (sem_o2 hq) (fun m n v u c d env' H' G' hm r1 o1 o2 => ?_) kx
                   obtain ⟨i, j, e1, e2, q⟩ := s2_num (o := .max2) (show o2P Γ.tab .max2 m n (fun r => yes r.fz (Q r env')) from hm) o1 o2 (fin_k r1 fun r v' H2 q r2 => ke r v' env' H2 G' q r2) (by decide)
                   exact ⟨i, j, by rw [e1, e2], q⟩))
        · split at h
          · rename_i x m y l n e1 e2
            cases o <;> first | (cases hf; done) | (cases e2; done)
          · cases h
/-! ### a text's methods, the receiver a place -/
theorem ev_met {p : P} {b : A} {o : O2} {x y : Expr} {ap pos : Pos} {nm : Str} {id : String} {r : V → List V → Hp → VK → Prop} (hg : Good g cc Γ X)
    (ha : PV g Γ X p x) (hb : AV g Γ X W b y) (slot : Slot "str" nm id) (ty : typeOf (.builtin id) = pure (.type "method_descriptor")) (rule : MtR X id r)
    (hl : (ap.endLine == pos.line) = true) (hs : nStar y = true) (hsup : nSup x = true)
    (hr : ∀ {B : Bs} {env : En} {Fr : List (V × M)} {σ : L2.St} {H G : Hp} {m n : M} {v u : V} {c d : Cn} {Q : M → Prop} {R : VK}, Rel g B env Fr σ H G → m.isS = true → o2E Γ.tab o m n Q → Own g G H v m c → Own g G H u n d →
      (∀ r v' H' G', Q r → Rel g B env ((v', r) :: Fr) σ H' G' → R v' H') → r v [u] H R) : EV g Γ X W (.o2s o p b) (.Call (.Attribute x nm ap) [y] [] pos) := by
  obtain ⟨ta, h1, k1⟩ := ha
  obtain ⟨tb, h2, k2⟩ := hb
  refine ⟨_, pe_m1 slot ty rule h1 h2 (starEach_n hs) (base_n hsup) hl, fun B env Fr σ H G Q QX R rl hq ke kx => ?_⟩
  refine k1 B env Fr σ H G (fun m => yes m.isS (semA Γ b env (fun n env1 => o2E Γ.tab o m n fun r => Q r env1) QX)) _ rl hq fun m v c hm ho1 => ?_
  obtain ⟨hm1, hm2⟩ := yes_i hm
  obtain ⟨cs, em, ev⟩ : ∃ cs, m = .str cs ∧ v = .str (sS cs) := by
    cases m with
    | str cs => exact ⟨cs, rfl, ho1.1⟩
    | _ => cases hm1
  subst em ev
  refine ⟨⟨_, rfl⟩, k2 B env Fr σ H G _ QX _ rl hm2 (fun n u d env1 H1 G1 hn r1 ho2 => ?_) kx⟩
  exact hr r1 rfl hn (o_str cs) ho2 fun r v' H2 G2 q r2 => ke r v' env1 H2 G2 q r2
theorem spl_spl1 (c : Nat) : ∀ (l acc : List Nat), TL.spl [c] 0 acc l = spl1 c acc l
  | [], acc => rfl
  | x :: r, acc => by
    show (if TL.pre [c] (x :: r) = true then acc :: TL.spl [c] 0 [] r else TL.spl [c] 0 (acc ++ [x]) r) = if x = c then acc :: spl1 c [] r else spl1 c (acc ++ [x]) r
    have e : TL.pre [c] (x :: r) = (x == c) := by
      unfold TL.pre
      simp
    rw [e, spl_spl1 c r [], spl_spl1 c r (acc ++ [x])]
    by_cases h : x = c
    · rw [if_pos h, if_pos (by simpa using h)]
    · rw [if_neg h, if_neg (by simpa using h)]
theorem split_sS (a : List Nat) (c : Nat) (hc : c < 256) : Txt.split (sS a) (sS [c]) = (spl1 c [] a).map sS := by
  have h1 := SX.split_S (a := a) (b := [c]) (by simp) (by simpa using hc)
  rw [spl_spl1] at h1
  exact h1
/-! ### one operand -/
theorem ev_1 {o : O1} {a : A} {x e : Expr} {r : V → Hp → VK → Prop} (ha : AV g Γ X W a x) (hp : ∀ {ta : TE}, PE X x ta → PE X e fun σ H Q => ta σ H fun v H1 => r v H1 Q)
    (hs : ∀ {B : Bs} {env : En} {Fr : List (V × M)} {σ : L2.St} {H G : Hp} {m : M} {v : V} {c : Cn} {Q : M → Prop} {R : VK}, Rel g B env Fr σ H G → o1E o m Q → Own g G H v m c →
      (∀ r v' H' G', Q r → Rel g B env ((v', r) :: Fr) σ H' G' → R v' H') → r v H R) : EV g Γ X W (.o1 o a) e := by
  obtain ⟨ta, h1, k⟩ := ha
  refine ⟨_, hp h1, fun B env Fr σ H G Q QX R rl hq ke kx => ?_⟩
  refine k B env Fr σ H G (fun m env1 => o1E o m fun r => Q r env1) QX _ rl hq (fun m v c env' H' G' hm r1 o1 => ?_) kx
  exact hs r1 hm o1 fun r v' H2 G2 q r2 => ke r v' env' H2 G2 q r2
def f1E : O1 → Bool
  | .neg => true | .isN => true | .notN => true | .len => true | .toInt => true | .toStr => true | .abs => true | .sum => true | .maxL => true | .minL => true | .fld _ _ => true | _ => false
theorem ev_call1 {a : A} {o : O1} {e : Expr} {ca : Expr → Bool} (hg : Good g cc Γ X) (hf : f1E o = true) (ih : ∀ e, ca e = true → AV g Γ X W a e)
    (h : (match f1Op o, vCall e with
    | some (n, _), some (f, [x]) => coldO cc o && blB cc f n && nStar x && ca x
    | _, _ => false) = true) : EV g Γ X W (.o1 o a) e ∧ isCmp e = false := by
  split at h
  · rename_i n isf f x e1 e2
    obtain ⟨h, h3⟩ := ba2 h
    obtain ⟨h, h2⟩ := ba2 h
    obtain ⟨hco, h1⟩ := ba2 h
    have hb := bl_of hg h1
    obtain ⟨p, q, rfl⟩ := vCall_i e2
    refine ⟨?_, rfl⟩
    have he := hb.e
    have pe : ∀ {ta : TE}, PE X x ta → PE X (.Call (.Name f p) [x] [] q) (tCB (r1 g o) (tCons ta tNil)) := fun {ta} t1 => by
      have HA : PA X [x] (tCons ta tNil) := pa_n h2 t1 pa_nil
      cases isf with
      | true =>
        obtain ⟨c1, c2⟩ := c1_fn hg hco e1
        exact pe_callB c1 hb.g hb.m (he ▸ c2) HA hb.n hb.d (starEach_n h2) rfl
      | false =>
        obtain ⟨c1, c2⟩ := c1_ty hg e1
        exact pe_callTy c1 hb.g hb.m (he ▸ c2) HA hb.n hb.d (starEach_n h2) rfl
    refine ev_1 (r := fun v H1 Q => r1 g o [v] H1 Q) (ih x h3) pe fun {B env Fr σ H G m v c Q R} rl h o1 k => ?_
    have h' : o1P o m (fun r => yes r.fz (Q r)) := by
      cases o <;> first | (cases e1; done) | (cases hf; done) | exact h
    exact s1_call e1 rl.sGH h' o1 (fin_k rl fun r v' H' q r2 => k r v' H' G q r2)
  · cases h
theorem ev_chk1 {a : A} {o : O1} {e : Expr} {ca : Expr → Bool} (hg : Good g cc Γ X) (hf : f1E o = true) (ih : ∀ e, ca e = true → AV g Γ X W a e) (h : chk1 cc o ca e = true) : EV g Γ X W (.o1 o a) e ∧ EC g Γ X W (.o1 o a) e := by
  have ca' : ∀ {o : O1}, f1E o = true → (match f1Op o, vCall e with
    | some (n, _), some (f, [x]) => coldO cc o && blB cc f n && nStar x && ca x
    | _, _ => false) = true → EV g Γ X W (.o1 o a) e ∧ EC g Γ X W (.o1 o a) e := fun {o} hf h => by
    obtain ⟨z1, z2⟩ := ev_call1 hg hf ih h
    exact ⟨z1, ne z2⟩
  cases o with
  | neg =>
    have h : (match vUn e with | some (.USub, x) => ca x | _ => false) = true := h
    split at h
    · rename_i x e1
      obtain ⟨p, rfl⟩ := vUn_i e1
      refine ⟨ev_1 (ih x h) (fun t1 => pe_un un_neg t1) fun {B env Fr σ H G m v c Q R} rl h o1 k => ?_, ne rfl⟩
      have h : o1P .neg m (fun r => yes r.fz (Q r)) := h
      cases m with
      | int i => obtain ⟨rfl, _⟩ := o1; exact ⟨i, rfl, k _ _ _ _ h (rl.push0 (o_int _))⟩
      | _ => exact (show False from h).elim
    · cases h
  | isN =>
    have h : (match vCmp e with | some (.Is, x, n) => isNon n && ca x | _ => false) = true := h
    split at h
    · rename_i x n e1
      obtain ⟨h1, h2⟩ := ba2 h
      obtain ⟨p, rfl⟩ := vCmp_i e1
      obtain ⟨kq, pq, rfl⟩ := isNon_i h1
      constructor
      · refine ev_1 (r := fun v H1 Q => V.non = .non ∧ Q (.bl (decide (v = .non))) H1) (ih x h2) (fun t1 => pe_cmpR op_isN t1 pe_non (nomark _)) fun {B env Fr σ H G m v c Q R} rl h o1 k => ?_
        exact ⟨rfl, k _ _ _ _ (s1_isN (Q := fun r => yes r.fz (Q r)) h o1) (rl.push0 (o_bl _))⟩
      · intro _
        obtain ⟨ta, t1, k⟩ := ih x h2
        refine ⟨_, pt_cmpR op_isN t1 pe_non (nomark _), fun B env Fr σ H G Q QX R rl hq ke kx => ?_⟩
        refine k B env Fr σ H G (fun m env1 => o1P .isN m (fun r => yes r.fz (truM r fun c => Q c env1))) QX _ rl hq (fun m v c env' H' G' hm r1 o1 => ?_) kx
        exact ⟨rfl, _, rfl, ke _ env' H' G' (s1_isN (Q := fun r => yes r.fz (truM r fun c => Q c env')) hm o1) r1⟩
    · cases h
  | notN =>
    have h : (match vCmp e with | some (.IsNot, x, n) => isNon n && ca x | _ => false) = true := h
    split at h
    · rename_i x n e1
      obtain ⟨h1, h2⟩ := ba2 h
      obtain ⟨p, rfl⟩ := vCmp_i e1
      obtain ⟨kq, pq, rfl⟩ := isNon_i h1
      constructor
      · refine ev_1 (r := fun v H1 Q => V.non = .non ∧ Q (.bl (!decide (v = .non))) H1) (ih x h2) (fun t1 => pe_cmpR op_notN t1 pe_non (nomark _)) fun {B env Fr σ H G m v c Q R} rl h o1 k => ?_
        exact ⟨rfl, k _ _ _ _ (s1_notN (Q := fun r => yes r.fz (Q r)) h o1) (rl.push0 (o_bl _))⟩
      · intro _
        obtain ⟨ta, t1, k⟩ := ih x h2
        refine ⟨_, pt_cmpR op_notN t1 pe_non (nomark _), fun B env Fr σ H G Q QX R rl hq ke kx => ?_⟩
        refine k B env Fr σ H G (fun m env1 => o1P .notN m (fun r => yes r.fz (truM r fun c => Q c env1))) QX _ rl hq (fun m v c env' H' G' hm r1 o1 => ?_) kx
        exact ⟨rfl, _, rfl, ke _ env' H' G' (s1_notN (Q := fun r => yes r.fz (truM r fun c => Q c env')) hm o1) r1⟩
    · cases h
  | fld C k =>
    have h : (match vAtt e with | some (x, f) => nSup x && decide ((cc.fl C)[k]? = some f) && ca x | none => false) = true := h
    split at h
    · rename_i x f e1
      obtain ⟨h, h3⟩ := ba2 h
      obtain ⟨h1, h2⟩ := ba2 h
      obtain ⟨p, rfl⟩ := vAtt_i e1
      have hf := of_decide_eq_true h2
      obtain ⟨q1, q2⟩ := hg.cls C k f hf
      refine ⟨ev_1 (ih x h3) (fun t1 => pe_fld t1 (base_n h1)) fun {B env Fr σ H G m v c Q R} rl h o1 kf => ?_, ne rfl⟩
      rw [hg.eK]
      exact s1_fld (Q := fun r => yes r.fz (Q r)) rl.sGH (by rw [hg.fl]; exact hg.fnd C) (by rw [hg.fl]; exact hf) q1 q2 h o1 (fin_k rl fun r v' H' q r2 => kf r v' H' G q r2)
    · cases h
  | len => exact ca' (o := .len) rfl h
  | toInt => exact ca' (o := .toInt) rfl h
  | toStr => exact ca' (o := .toStr) rfl h
  | abs => exact ca' (o := .abs) rfl h
  | sum => exact ca' (o := .sum) rfl h
  | maxL => exact ca' (o := .maxL) rfl h
  | minL => exact ca' (o := .minL) rfl h
  | _ => cases hf
theorem own_keys {G H : Hp} : ∀ ks : List MK, OwnL g G H (ks.map fun k => kV (kk k)) (ks.map kM) (fun _ => 0)
  | [] => zr0
  | .inl i :: r => ⟨fun _ => 0, fun _ => 0, o_int i, own_keys r, fun _ => rfl⟩
  | .inr cs :: r => ⟨fun _ => 0, fun _ => 0, o_str cs, own_keys r, fun _ => rfl⟩
theorem fz_keys : ∀ ks : List MK, fzL (ks.map kM) = true
  | [] => rfl
  | .inl i :: r => fz_keys r
  | .inr cs :: r => fz_keys r
/-- list(x), tuple(x), sorted(x) -/
def mkOp : O1 → Option (String × Bool)
  | .listOf => some ("list", false) | .tupleOf => some ("tuple", false) | .sorted => some ("sorted", true) | _ => none
theorem ev_mk {a : A} {o : O1} {e : Expr} {ca : Expr → Bool} (hg : Good g cc Γ X) (ih : ∀ e, ca e = true → AV g Γ X W a e)
    (h : (match mkOp o, vCall e with
    | some (n, _), some (f, [x]) => !cc.hot && blB cc f n && nStar x && ca x
    | _, _ => false) = true) : EV g Γ X W (.o1 o a) e ∧ isCmp e = false := by
  split at h
  · rename_i n isf f x e1 e2
    obtain ⟨h, h3⟩ := ba2 h
    obtain ⟨h, h2⟩ := ba2 h
    obtain ⟨hco, h1⟩ := ba2 h
    have hco := cold_n hco
    have hb := bl_of hg h1
    obtain ⟨p, q, rfl⟩ := vCall_i e2
    refine ⟨?_, rfl⟩
    have he := hb.e
    have HA : ∀ {ta : TE}, PE X x ta → PA X [x] (tCons ta tNil) := fun {ta} t1 => pa_n h2 t1 pa_nil
    have mkL : ∀ {B : Bs} {env : En} {Fr : List (V × M)} {σ : L2.St} {H G : Hp} {v : V} {m : M} {ms : List M} {c : Cn} {Q : M → Prop} {R : VK}, Rel g B env Fr σ H G → Own g G H v m c → (∃ o, m = .lst o ms) ∨ m = .tup ms ∨ m = .ktup ms → yes (fzL ms) (Q (.lst true ms)) →
        (∀ r v' H' G', Q r → Rel g B env ((v', r) :: Fr) σ H' G' → R v' H') → ∃ p ys, [v] = [V.ref p] ∧ (SqL g.K H p ys ∨ SqT g.K H p ys) ∧ ∀ l, H l = none → R (.ref l) (upd H l (.lst ys)) := by
      intro B env Fr σ H G v m ms c Q R rl o1 hm hq k
      obtain ⟨z1, z2⟩ := yes_i hq
      rcases hm with ⟨o, rfl⟩ | rfl | rfl
      · obtain ⟨a, us, c', rfl, s1, ol, _⟩ := seq_of rl.sGH o1
        exact ⟨a, us, rfl, .inl s1, fun l hl => k _ _ _ _ z2 (new_lst rl ol z1 hl)⟩
      · obtain ⟨a, us, rfl, s1, ol⟩ := tup_of rl.sGH o1
        exact ⟨a, us, rfl, .inr s1, fun l hl => k _ _ _ _ z2 (new_lst rl ol z1 hl)⟩
      · obtain ⟨a, us, rfl, s1, ol⟩ := ktup_of o1
        exact ⟨a, us, rfl, .inr s1, fun l hl => k _ _ _ _ z2 (new_lst rl ol z1 hl)⟩
    cases o with
    | listOf =>
      cases e1
      refine ev_1 (r := fun v H1 Q => (∃ p ys, [v] = [V.ref p] ∧ (SqL g.K H1 p ys ∨ SqT g.K H1 p ys) ∧ ∀ l, H1 l = none → Q (.ref l) (upd H1 l (.lst ys))) ∨ (∃ (a : Addr) (kvs : List (Key × V)), [v] = [.ref a] ∧ Rd H1 a (.dK kvs) ∧ ∀ p, H1 p = none → Q (.ref p) (upd H1 p (.lst (kvs.map fun kv => kV kv.1))))) (ih x h3)
        (fun {ta} t1 => pe_callTy (X := X) (t := tCons ta tNil) (r := fun xs H Q => (∃ p ys, xs = [V.ref p] ∧ (SqL g.K H p ys ∨ SqT g.K H p ys) ∧ ∀ l, H l = none → Q (.ref l) (upd H l (.lst ys))) ∨ (∃ (a : Addr) (kvs : List (Key × V)), xs = [.ref a] ∧ Rd H a (.dK kvs) ∧ ∀ p, H p = none → Q (.ref p) (upd H p (.lst (kvs.map fun kv => kV kv.1))))) (by rw [← hg.eK]; exact call_list_of.or (call_listD (hg.calm hco))) hb.g hb.m (he ▸ boot_list) (HA t1) hb.n hb.d (starEach_n h2) rfl) fun {B env Fr σ H G m v c Q R} rl h o1 k => ?_
      cases m with
      | lst o ms => exact .inl (mkL (ms := ms) rl o1 (.inl ⟨o, rfl⟩) h k)
      | tup ms => exact .inl (mkL (ms := ms) rl o1 (.inr (.inl rfl)) h k)
      | ktup ms => exact .inl (mkL (ms := ms) rl o1 (.inr (.inr rfl)) h k)
      | dK o ks vs =>
        have h : Q (.lst true (ks.map kM)) := h
        obtain ⟨a, us, c', rfl, hh, hn, _, _⟩ := Own.dk rl.sGH o1
        refine .inr ⟨a, _, rfl, .inl hh, fun p hp => k _ _ _ G h ?_⟩
        have e : ((ks.map kk).zip us).map (fun kv => kV kv.1) = ks.map fun k => kV (kk k) := by
          have e2 : ((ks.map kk).zip us).map Prod.fst = ks.map kk := List.map_fst_zip (by rw [List.length_map, hn]; exact Nat.le_refl _)
          have e3 := congrArg (List.map kV) e2
          rw [List.map_map, List.map_map] at e3
          exact e3
        rw [e]
        exact new_lst (ms := ks.map kM) (c := fun _ => 0) rl (own_keys ks) (fz_keys ks) hp
      | _ => exact (show False from h).elim
    | tupleOf =>
      cases e1
      refine ev_1 (r := fun v H Q => ∃ p ys, [v] = [V.ref p] ∧ ((SqL g.K H p ys ∧ ∀ l, H l = none → Q (.ref l) (upd H l (.tup ys))) ∨ (SqT g.K H p ys ∧ Q (.ref p) H))) (ih x h3)
        (fun {ta} t1 => pe_callTy (X := X) (t := tCons ta tNil) (r := fun xs H Q => ∃ p ys, xs = [V.ref p] ∧ ((SqL g.K H p ys ∧ ∀ l, H l = none → Q (.ref l) (upd H l (.tup ys))) ∨ (SqT g.K H p ys ∧ Q (.ref p) H))) (by rw [← hg.eK]; exact call_tuple_of) hb.g hb.m (he ▸ boot_tuple) (HA t1) hb.n hb.d (starEach_n h2) rfl) fun {B env Fr σ H G m v c Q R} rl h o1 k => ?_
      cases m with
      | lst o ms =>
        obtain ⟨z1, z2⟩ := yes_i (show yes (fzL ms) (Q (.tup ms)) from h)
        obtain ⟨a, us, c', rfl, s1, ol, _⟩ := seq_of rl.sGH o1
        exact ⟨a, us, rfl, .inl ⟨s1, fun l hl => k _ _ _ _ z2 (new_tup rl ol z1 hl)⟩⟩
      | tup ms =>
        obtain ⟨z1, z2⟩ := yes_i (show yes (fzL ms) (Q (.tup ms)) from h)
        obtain ⟨a, us, e, s1, ol⟩ := tup_of rl.sGH o1
        exact ⟨a, us, by rw [e], .inr ⟨s1, by rw [← e]; exact k _ _ _ _ z2 (rl.pushz o1 z1)⟩⟩
      | _ => exact (show False from h).elim
    | sorted =>
      cases e1
      refine ev_1 (r := fun v H Q => rSortedI g.K [v] H Q) (ih x h3) (fun {ta} t1 => pe_callB (X := X) (t := tCons ta tNil) (r := rSortedI g.K) (by rw [← hg.eK]; exact cr_sortedI) hb.g hb.m ((by rw [he]; decide +kernel)) (HA t1) hb.n hb.d (starEach_n h2) rfl) fun {B env Fr σ H G m v c Q R} rl h o1 k => ?_
      cases m with
      | lst o ms =>
        obtain ⟨ns, hn, hq⟩ := (show ∃ ns, intsOf ms = some ns ∧ ∀ ns' : List Int, ns'.Perm ns → ns'.Pairwise (· ≤ ·) → Q (.lst true (ns'.map M.int)) from h)
        obtain ⟨a, us, c', rfl, s1, ol, _⟩ := seq_of rl.sGH o1
        have hu := OwnL.ints ol hn
        refine ⟨a, ns, rfl, by rw [← hu]; exact s1, fun ns' p h1 h2 hp => k _ _ _ _ (hq ns' h1 h2) (new_lst (ms := ns'.map M.int) (c := fun _ => 0) rl ?_ ?_ hp)⟩
        · clear h1 h2
          induction ns' with
          | nil => exact zr0
          | cons i r ih => exact ⟨fun _ => 0, fun _ => 0, o_int i, ih, fun _ => rfl⟩
        · clear h1 h2
          induction ns' with
          | nil => rfl
          | cons i r ih => exact ih
      | _ => exact (show False from h).elim
    | _ => cases e1
  · cases h
end
end Q
set_option Elab.async false
set_option linter.all false
set_option maxRecDepth 100000
set_option maxHeartbeats 4000000
namespace Q
open PySem PySem.Spec PyProof.Rows L2
local macro_rules | `(tactic| walk_at "cn") => `(tactic| ((try dsimp only at *); omega))
section
variable {g : Gi} {cc : Sc} {Γ : Gm} {X : Cx} {W : WX}
/-! ### join, startswith, find, split with a reckoned argument -/
theorem ev_o2s {p : P} {b : A} {o : O2} {e : Expr} {ca cb : Expr → Bool} (hg : Good g cc Γ X) (iha : ∀ e, ca e = true → PV g Γ X p e) (ihb : ∀ e, cb e = true → AV g Γ X W b e)
    (h : (match vMet e with
      | some (x, m, [y], l) => l && nSup x && nStar y && ca x && cb y && (match o with | .join => decide (m = Str.ofString "join") | .startswith => decide (m = Str.ofString "startswith") | .find => decide (m = Str.ofString "find") | .split => decide (m = Str.ofString "split") | _ => false)
      | _ => false) = true) : EV g Γ X W (.o2s o p b) e ∧ isCmp e = false := by
  split at h
  · rename_i x m y l e1
    obtain ⟨h, h6⟩ := ba2 h
    obtain ⟨h, h5⟩ := ba2 h
    obtain ⟨h, h4⟩ := ba2 h
    obtain ⟨h, h3⟩ := ba2 h
    obtain ⟨h1, h2⟩ := ba2 h
    obtain ⟨ap, pp, rfl, el⟩ := vMet_i e1
    have hl : (ap.endLine == pp.line) = true := el ▸ h1
    refine ⟨?_, rfl⟩
    cases o with
    | join =>
      have em := of_decide_eq_true h6
      subst em
      refine ev_met hg (iha x h4) (ihb y h5) F.slot_str_join F.type_str_join (by exact mt_join) hl h3 h2 fun {B env Fr σ H G m n v u c d Q R} rl hm h o1 o2 k => ?_
      rw [hg.eK]
      exact sm_join (tb := Γ.tab) rl.sGH (show o2P Γ.tab .join m n (fun r => yes r.fz (Q r)) from h) o1 o2 (fin_k rl fun r v' H' q r2 => k r v' H' G q r2)
    | startswith =>
      have em := of_decide_eq_true h6
      subst em
      refine ev_met hg (iha x h4) (ihb y h5) F.slot_str_startswith F.type_str_startswith mt_startswith hl h3 h2 fun {B env Fr σ H G m n v u c d Q R} rl hm h o1 o2 k => ?_
      exact sm_starts (tb := Γ.tab) rl.sGH (show o2P Γ.tab .startswith m n (fun r => yes r.fz (Q r)) from h) o1 o2 (fin_k rl fun r v' H' q r2 => k r v' H' G q r2)
    | find =>
      have em := of_decide_eq_true h6
      subst em
      refine ev_met hg (iha x h4) (ihb y h5) F.slot_str_find F.type_str_find mt_find hl h3 h2 fun {B env Fr σ H G m n v u c d Q R} rl hm h o1 o2 k => ?_
      exact sm_find (tb := Γ.tab) rl.sGH (show o2P Γ.tab .find m n (fun r => yes r.fz (Q r)) from h) o1 o2 (fin_k rl fun r v' H' q r2 => k r v' H' G q r2)
    | split =>
      have em := of_decide_eq_true h6
      subst em
      refine ev_met hg (iha x h4) (ihb y h5) F.slot_str_split F.type_str_split mt_split hl h3 h2 fun {B env Fr σ H G m n v u c d Q R} rl hm h o1 o2 k => ?_
      cases m with
      | str a =>
        cases n with
        | str b =>
          obtain ⟨z, hz, hq⟩ := yes_i (show yes (b.length == 1 && decide (b.getD 0 0 < 256)) (a.length + 2 ≤ sl ∧ Q (.lst true ((spl1 (b.getD 0 0) [] a).map M.str))) from h)
          obtain ⟨z1, z2⟩ := ba2 z
          have eb : b = [b.getD 0 0] := by
            cases b with
            | nil => cases z1
            | cons x r =>
              cases r with
              | nil => rfl
              | cons _ _ => simp at z1
          obtain ⟨rfl, _⟩ := o1
          obtain ⟨rfl, _⟩ := o2
          refine ⟨sS a, sS b, rfl, rfl, by rw [sS_len, eb] <;> rfl, by rw [sS_len]; exact hz, fun p hp => ?_⟩
          have es : Txt.split (sS a) (sS b) = (spl1 (b.getD 0 0) [] a).map sS := by
            rw [eb]
            exact split_sS a _ (of_decide_eq_true z2)
          rw [es, List.map_map]
          refine k _ _ _ G hq (new_lst (c := fun _ => 0) rl ?_ ?_ hp)
          · generalize spl1 (b.getD 0 0) [] a = l
            induction l with
            | nil => exact zr0
            | cons i r ih => exact ⟨fun _ => 0, fun _ => 0, o_str i, ih, fun _ => rfl⟩
          · generalize spl1 (b.getD 0 0) [] a = l
            induction l with
            | nil => rfl
            | cons i r ih => exact ih
        | _ => exact (show False from h).elim
      | _ => cases hm
    | _ => cases h6
  · cases h
/-! ### parts -/
theorem OwnL.cutz {G H : Hp} {vs : List V} {ms : List M} (h : OwnL g G H vs ms (fun _ => 0)) (lo hi : Option Int) : OwnL g G H (cutV vs lo hi) (cutL ms lo hi) (fun _ => 0) := by
  rw [cutL_eq]
  unfold cutV
  rw [OwnL.len h]
  obtain ⟨c1, h1, l1⟩ := OwnL.skip (HT.sIx ms.length 0 lo) h
  obtain ⟨c2, h2, l2⟩ := OwnL.cut (HT.sIx ms.length ms.length hi - HT.sIx ms.length 0 lo) h1
  have e : c2 = fun _ => 0 := funext fun b => by have e1_ := l1 b; have e2_ := l2 b; walk_at "cn"
  rw [← e]
  exact h2
theorem fzL_take : ∀ {n : Nat} {xs : List M}, fzL xs = true → fzL (xs.take n) = true
  | 0, _, _ => rfl
  | _ + 1, [], _ => rfl
  | n + 1, x :: r, h => by
    have h' : (x.fz && fzL r) = true := h
    rw [Bool.and_eq_true] at h'
    show (x.fz && fzL (r.take n)) = true
    rw [Bool.and_eq_true]
    exact ⟨h'.1, fzL_take h'.2⟩
theorem fzL_drop : ∀ {n : Nat} {xs : List M}, fzL xs = true → fzL (xs.drop n) = true
  | 0, _, h => h
  | _ + 1, [], _ => rfl
  | n + 1, x :: r, h => by
    have h' : (x.fz && fzL r) = true := h
    rw [Bool.and_eq_true] at h'
    exact fzL_drop (xs := r) h'.2
theorem fzL_cut {xs : List M} (h : fzL xs = true) (lo hi : Option Int) : fzL (cutL xs lo hi) = true := fzL_take (fzL_drop h)
theorem cutV_map {α : Type} (f : α → V) (xs : List α) (lo hi : Option Int) : cutV (xs.map f) lo hi = (cutL xs lo hi).map f := by
  rw [cutL_eq]
  unfold cutV
  rw [List.length_map, ← List.map_drop, ← List.map_take]
theorem ev_slc {a : A} {lo hi : Option P} {x : Expr} {l u : Option Expr} {p q : Pos} (hg : Good g cc Γ X) (ha : AV g Γ X W a x) (hl : POs g Γ X lo l) (hu : POs g Γ X hi u) : EV g Γ X W (.slc a lo hi) (.Subscript x (.Slice l u none p) q) := by
  obtain ⟨ta, t1, k1⟩ := ha
  obtain ⟨tb, t2, k2⟩ := hl
  obtain ⟨tc, t3, k3⟩ := hu
  have SL : SlR X (fun x lo hi H Q => (rSlS x lo hi H Q ∨ rSlL g.K x lo hi H Q) ∨ rSlT g.K x lo hi H Q) := by
    rw [← hg.eK]
    exact (sl_str.or sl_list).or sl_tup
  refine ⟨_, pe_slice SL t1 t2 t3, fun B env Fr σ H G Q QX R rl hq ke kx => ?_⟩
  refine k1 B env Fr σ H G _ QX _ rl hq (fun m v c env1 H1 G1 hm r1 ho => ?_) kx
  refine k2 B env1 Fr σ H1 G1 _ _ r1 hm fun l' hl => ?_
  refine k3 B env1 Fr σ H1 G1 _ _ r1 hl fun u' hu => ?_
  cases m with
  | str cs =>
    obtain ⟨rfl, _⟩ := ho
    obtain ⟨z1, z2⟩ := yes_i (show yes _ _ from hu)
    refine .inl (.inl ⟨_, rfl, by rw [sS_len, sl_line]; exact of_decide_eq_true z1, ?_⟩)
    rw [str_slice]
    exact ke _ _ _ _ _ z2 (r1.push0 (o_str _))
  | lst o ms =>
    obtain ⟨z1, z2⟩ := yes_i (show yes (fzL ms) (Q (.lst true (cutL ms l' u')) env1) from hu)
    obtain ⟨a, us, c', rfl, s1, ol, _⟩ := seq_of r1.sGH ho
    exact .inl (.inr ⟨a, us, rfl, s1, fun p hp => ke _ _ _ _ _ z2 (new_lst r1 (OwnL.cutz (ol.z z1) _ _) (fzL_cut z1 _ _) hp)⟩)
  | tup ms =>
    obtain ⟨z1, z2, z3⟩ := yes_i (show yes (fzL ms) (_ ∧ Q (.tup (cutL ms l' u')) env1) from hu)
    obtain ⟨a, us, rfl, s1, ol⟩ := tup_of r1.sGH ho
    refine .inr ⟨a, us, rfl, s1, ?_, fun p hp => ke _ _ _ _ _ z3 (new_tup r1 (OwnL.cutz (ol.z z1) _ _) (fzL_cut z1 _ _) hp)⟩
    rw [OwnL.len ol, ← pIx_eq, ← pIx_eq]
    exact z2
  | scr ns =>
    have z2 : Q (.lst true ((cutL ns l' u').map M.int)) env1 := hu
    obtain ⟨⟨a, rfl, s1⟩, _⟩ := ho
    refine .inl (.inr ⟨a, _, rfl, Same.seq r1.sGH s1, fun p hp => ?_⟩)
    rw [cutV_map]
    refine ke _ _ _ _ _ z2 (new_lst (c := fun _ => 0) r1 ?_ ?_ hp)
    · generalize cutL ns l' u' = l
      induction l with
      | nil => exact zr0
      | cons i r ih => exact ⟨fun _ => 0, fun _ => 0, o_int i, ih, fun _ => rfl⟩
    · generalize cutL ns l' u' = l
      induction l with
      | nil => rfl
      | cons i r ih => exact ih
  | _ => exact (show False from hu).elim
/-! ### what a call gets, what it gives back -/
theorem Rel.lent {B : Bs} {env : En} {Fr : List (V × M)} {σ : L2.St} {H G : Hp} {is : List (Option Nat)} {evs vs : List V} {ms : List M} (r : Rel g B env (zipR evs ms Fr) σ H G) (hl : evs.length = ms.length) (hs : sepG is = true) (ha : Args σ is evs vs) (hk : (fillG env is ms).all M.ok = true) :
    ∃ f, OwnL g G H vs (fillG env is ms) f ∧ (∀ b, f b ≤ 1) ∧ ∀ G' H' ms' c' e' v m, Stp G H f G' H' (fun b => c' b + e' b) → OwnL g G' H' vs ms' c' → (∀ b, c' b + e' b ≤ 1) → Own g G' H' v m e' → Rel g B (backG env is ms') ((v, m) :: Fr) σ H' G' := by
  obtain ⟨c, d, e, k1, k2, k3, k4, k5⟩ := r.row hl
  obtain ⟨c2, f, j1, j2, j3⟩ := lend hs ha hk hl k1 k3
  have ap : ∀ b, f b + (c2 b + d b) ≤ 1 := fun b => by have e1_ := k4 b; have e2_ := j3 b; walk_at "cn"
  refine ⟨f, j2, fun b => by have e1_ := ap b; walk_at "cn", fun G' H' ms' c' e' v m s o1 l o2 => ?_⟩
  have a1 := s.others j1 fun b => by have e1_ := ap b; walk_at "cn"
  have a2 := s.others k2 fun b => by have e1_ := ap b; walk_at "cn"
  have l1 : ∀ b, (c' b + e' b) + c2 b ≤ 1 := s.apart j1 (fun b => by have e1_ := ap b; walk_at "cn") l
  have l2 : ∀ b, (c' b + e' b) + d b ≤ 1 := s.apart k2 (fun b => by have e1_ := ap b; walk_at "cn") l
  obtain ⟨c3, g1, g2, g3, g4⟩ := giveB hs ha a1 o1
  have sf := s.frame (f := fun b => c2 b + d b)
  have e1 : (fun b => f b + (c2 b + d b)) = fun b => (c b + d b) + e b := funext fun b => by have e2_ := j3 b; walk_at "cn"
  rw [e1] at sf
  refine r.stp (c := fun b => c b + d b) (d := e) (c' := c3) (d' := fun b => e' b + d b) (fun b hb => k5 b hb) (sf.less fun b hb => by have e2_ := g2 b; walk_at "cn")
    ⟨g1, ⟨e', d, o2, a2, fun _ => rfl⟩, fun b => ?_⟩ (by rw [g4]; exact r.len) (fun j hj => ?_) r.fix
  · have e2_ := g2 b
    have e3_ := l1 b
    have e4_ := l2 b
    have e5_ := ap b
    walk_at "cn"
  · rcases g3 j hj with q | q
    · exact r.asg j q
    · exact q
theorem lent_slots {B : Bs} {env : En} {Fr : List (V × M)} {σ : L2.St} {H G : Hp} (r : Rel g B env Fr σ H G) : ∀ {as : List Ag}, lentOk env as = true → ∀ i, some i ∈ as.map agI → ∃ v, σ[i]? = some (some v)
  | [], _, i, hi => by simp at hi
  | .r j :: as, h, i, hi => by
    have h' : ((gt env j).ok && lentOk env as) = true := h
    rw [Bool.and_eq_true] at h'
    rcases List.mem_cons.mp hi with q | q
    · have e : i = j := by simpa [agI] using q
      subst e
      exact r.asg i (ok_hole h'.1)
    · exact lent_slots r h'.2 i q
  | .e _ :: as, h, i, hi => by
    rcases List.mem_cons.mp hi with q | q
    · simp [agI] at q
    · exact lent_slots r (as := as) h i q
/-- a call by what it promises -/
theorem Rel.lift {B : Bs} {env : En} {Fr : List (V × M)} {σ : L2.St} {H G : Hp} {is : List (Option Nat)} {evs vs : List V} {ms : List M} {sp : FSp} {Q : VK} {Q0 : M → List M → Prop} {X0 : Exc → List M → Prop} (r : Rel g B env (zipR evs ms Fr) σ H G) (hl : evs.length = ms.length) (hs : sepG is = true)
    (ha : Args σ is evs vs) (hk : (fillG env is ms).all M.ok = true) (hsp : sp (fillG env is ms) Q0 X0)
    (kq : ∀ v m ms' H' G', Q0 m ms' → Rel g B (backG env is ms') ((v, m) :: Fr) σ H' G' → Q v H') (kx : ∀ x ms' H' G' cls d, X0 x ms' → Rel g B (backG env is ms') Fr σ H' G' → XRel g G' H' cls d x → W cls d σ H') : _root_.Q.lift g sp vs H Q (WE W σ) := by
  obtain ⟨f, o1, o2, back⟩ := r.lent hl hs ha hk
  refine ⟨G, _, f, Q0, X0, r.sGH, o1, o2, hk, hsp, fun v m ms' G' H' c' d' s p1 p2 p3 q => ?_, fun cls d x ms' G' H' c' s p1 p3 xr q => ?_⟩
  · exact kq v m ms' H' G' q (back G' H' ms' c' d' v m s p1 p3 p2)
  · exact kx x ms' H' G' cls d q (back G' H' ms' c' (fun _ => 0) .non .non s p1 p3 ⟨rfl, zr0⟩).pop xr
/-- a[q:] of a text, q what is reckoned -/
theorem ev_sll {a : P} {q : E} {x l : Expr} {p pos : Pos} (hg : Good g cc Γ X) (ha : PV g Γ X a x) (hl : EV g Γ X W q l) : EV g Γ X W (.sll a q) (.Subscript x (.Slice (some l) none none p) pos) := by
  obtain ⟨ta, t1, k1⟩ := ha
  obtain ⟨tb, t2, k2⟩ := hl
  refine ⟨_, pe_slice (sl_str (X := X)) t1 (po_some t2) po_none, fun B env Fr σ H G Q QX R rl hq ke kx => ?_⟩
  refine k1 B env Fr σ H G _ _ rl (show evP Γ env a (fun m => match m with
    | .str cs => semE Γ q env (fun n env1 => asI n fun i => yes (decide (cs.length ≤ sl)) (Q (.str (cutL cs (some i) none)) env1)) QX
    | _ => False) from hq) fun m v c hm ho => ?_
  cases m with
  | str cs =>
    obtain ⟨rfl, _⟩ := ho
    refine k2 B env Fr σ H G _ QX _ rl hm (fun n u env1 H1 G1 hn r1 => ?_) kx
    obtain ⟨c1, o1⟩ := r1.top
    obtain ⟨i, e, hi⟩ := s_int hn o1
    refine ⟨i, e, ?_⟩
    obtain ⟨z1, z2⟩ := yes_i hi
    refine ⟨_, rfl, by rw [sS_len, sl_line]; exact of_decide_eq_true z1, ?_⟩
    rw [str_slice]
    exact ke _ _ _ _ _ z2 (r1.pop.push0 (o_str _))
  | _ => exact (show False from hm).elim
theorem rg_own {G H : Hp} : ∀ (n : Nat) (lo : Int) (k : Nat), OwnL g G H ((List.range' k n).map fun i => V.int (lo + (i : Nat))) (rngL (lo + (k : Nat)) 1 n) (fun _ => 0)
  | 0, lo, k => zr0
  | n + 1, lo, k => by
    rw [List.range'_succ, List.map_cons]
    have := rg_own (G := G) (H := H) n lo (k + 1)
    rw [show lo + ((k + 1 : Nat) : Int) = lo + (k : Nat) + 1 by omega] at this
    exact ⟨fun _ => 0, fun _ => 0, ⟨rfl, zr0⟩, this, fun _ => rfl⟩
theorem Rel.push_all {B : Bs} {env : En} {σ : L2.St} {H G : Hp} : ∀ {vs : List V} {ms : List M} {Fr : List (V × M)}, Rel g B env Fr σ H G → OwnL g G H vs ms (fun _ => 0) → Rel g B env (zipR vs ms Fr) σ H G
  | [], _, Fr, r, _ => by cases ‹List M› <;> exact r
  | _ :: _, [], Fr, r, h => h.elim
  | v :: vs, m :: ms, Fr, r, ⟨c1, c2, h1, h2, hc⟩ => by
    have e1 : c1 = fun _ => 0 := funext fun b => (Nat.add_eq_zero_iff.mp (hc b).symm).1
    have e2 : c2 = fun _ => 0 := funext fun b => (Nat.add_eq_zero_iff.mp (hc b).symm).2
    subst e1 e2
    exact Rel.push_all (vs := vs) (ms := ms) (Fr := (v, m) :: Fr) (Rel.push0 r h1) h2
/-- list(range(n)) -/
theorem ev_lrg {a : P} {x : Expr} {f1 f2 : Str} {p1 p2 p3 p4 : Pos} (hg : Good g cc Γ X) (hc : X.calm = true) (b1 : Blt X f1 "list") (b2 : Blt X f2 "range") (n1 : nStar x = true) (ha : PV g Γ X a x) : EV g Γ X W (.lrg a) (.Call (.Name f1 p1) [.Call (.Name f2 p2) [x] [] p3] [] p4) := by
  obtain ⟨ta, t1, k1⟩ := ha
  obtain ⟨e1, g1, m1, d1, nn1⟩ := b1
  obtain ⟨e2, g2, m2, d2, nn2⟩ := b2
  subst e1 e2
  refine ⟨_, pe_listRg hc g1 m1 (prg_1 g2 m2 t1 (starEach_n n1)) rfl, fun B env Fr σ H G Q QX R rl hq ke kx => ?_⟩
  refine k1 B env Fr σ H G _ _ rl (show evP Γ env a (fun m => asI m fun n => n.toNat ≤ 16777216 ∧ -4611686018427387904 ≤ n ∧ Q (.lst true (rngL 0 1 n.toNat)) env) from hq) fun m v c hm ho => ?_
  cases m with
  | int n =>
    obtain ⟨rfl, _⟩ := ho
    obtain ⟨z1, z2, z3⟩ := (show n.toNat ≤ 16777216 ∧ -4611686018427387904 ≤ n ∧ Q (.lst true (rngL 0 1 n.toNat)) env from hm)
    refine ⟨n, rfl, ⟨by omega, by omega, by omega, by omega, by rw [Int.sub_zero]; exact z1⟩, fun p hp => ?_⟩
    have hv : rgV 0 n = (List.range' 0 n.toNat).map fun i => V.int (0 + (i : Nat)) := by
      unfold rgV
      rw [Int.sub_zero, List.range_eq_range']
    have ho := rg_own (g := g) (G := G) (H := H) n.toNat 0 0
    rw [hv]
    refine ke _ _ env _ G z3 (Rel.alloc (Rel.push_all rl ho) (OwnL.len ho) hp ?_)
    intro H2 e ga hh hl
    exact ⟨p, _, e, rfl, ga, hh, hl, fun b => rfl⟩
  | _ => exact (show False from hm).elim
end
end Q
set_option Elab.async false
set_option linter.all false
set_option maxRecDepth 100000
set_option maxHeartbeats 4000000
namespace Q
open PySem PySem.Spec PyProof.Rows L2
local macro_rules | `(tactic| walk_at "cn") => `(tactic| ((try dsimp only at *); omega))
section
variable {g : Gi} {cc : Sc} {Γ : Gm} {X : Cx} {W : WX}
/-- as the context has it -/
theorem FnG.at {k : Nat} {a : Addr} {sp : FSp} (hg : Good g cc Γ X) (F : FnG g k a sp) : ∃ (fd : FuncData) (ps : List Str) (s : Sp) (dvs : List V) (ds : List Value),
    FnOk X.prog X.w X.K X.mg X.base (L2.CX X.prog X.w) k a fd ps s ∧ PySem.W.keepIn X.K (.ref a) = true ∧ Binds X.K fd ps ds ∧ Vals dvs ds ∧ ∀ vs H Q E, _root_.Q.lift g sp vs H Q E → s (vs ++ dvs) H Q E := by
  rw [hg.eP, hg.ew, hg.eK, hg.emg, hg.ebase]
  exact F.ex
section
variable {k : Nat} {f C : Addr} {fd : FuncData} {ps : List Str} {s' : Sp} {dvs : List V} {ds : List Value} {x m : Str} {p pos apos : Pos} {e o : Expr} {es : List Expr} {t : TA} {ta : TE}
theorem pe_callNil (F : FnOk X.prog X.w X.K X.mg X.base (L2.CX X.prog X.w) k f fd ps s') (room : Room k X.A) (gl : Gl X x) (mx : X.mg x = some (.ref f)) (kp : PySem.W.keepIn X.K (.ref f) = true) (bi : Binds X.K fd ps ds) (vd : Vals dvs ds) (tk : Takes X W)
    (db : (x == ("__debug__" : Str)) = false) : PE X (.Call (.Name x p) [] [] pos) (tCallSD s' dvs (WE W) tNil) := by
  constructor
  intro pins s σ H Q I h
  refine wpAny_Call_Name_kw (ld_glob I gl mx ?_ db)
  refine PySem.W.callWith_K0 I.kIn kp ?_
  exact run_fnSD (us := []) F room bi vd (passAt tk σ) I .nil h
/-- what a method's call does, by what its def promises -/
def tMethS (C : Addr) (m : Str) (s' : Sp) (dvs : List V) (W : WX) (ta : TE) (t : TA) : TE := fun σ H Q => ta σ H fun x H1 => ∃ a dx fs, x = .ref a ∧ H1 a = some (.ins C dx fs) ∧ fs.lookup m = none ∧ t σ H1 fun vs H2 => s' (x :: (vs ++ dvs)) H2 Q (WE W σ)
theorem pe_methAny {pl : Sem Bool} (he : PE X o ta) (cl : Cls X.K C) (hm : Meth X.K C m f) (F : FnOk X.prog X.w X.K X.mg X.base (L2.CX X.prog X.w) k f fd ps s') (room : Room k X.A) (bi : Binds X.K fd ps ds) (vd : Vals dvs ds) (tk : Takes X W) (ha : PA X (e :: es) t) (ns : nStar e = true) (nss : es.all nStar = true)
    (ev : eval (.Call (.Attribute o m apos) (e :: es) [] pos) X.env = (do
      let ov ← eval o X.env
      standAt apos.atName
      let (f, first) ← holding [ov] (getMethod ov m pl)
      callWith pos f first (backTo pos (starEach (e :: es) X.env)) (backToKw pos (keywordEach [] X.env)))) : PE X (.Call (.Attribute o m apos) (e :: es) [] pos) (tMethS C m s' dvs W ta t) := by
  constructor
  intro pins s σ H Q I h
  refine PySem.W.methodCall_KW (pl := pl) (thn (he.run pins s σ H _ I h) fun u s1 hu => ?_) ev
  obtain ⟨x, H1, I1, rx, a, dx, fs, rfl, ea, l, q⟩ := hu
  cases (show u = Value.ref a from rx)
  refine getmeth_ok I1 ea cl hm l ?_
  refine PySem.W.callWith_K (first := [.ref a]) (h₀ := X.base) I.ok.mod.kin hm.kp (thn (ha.run pos pins s1 σ H1 _ I1 q) fun us s2 hv => ?_) (starEach_n ns) (no_star nss)
  obtain ⟨vs, H2, I2, r, q2⟩ := hv
  exact ⟨I2.kIn, run_fnSD (us := .ref a :: us) (vs := .ref a :: vs) F room bi vd (passAt tk σ) I2 (.cons rfl r) q2⟩
theorem pe_methNil {pl : Sem Bool} (he : PE X o ta) (cl : Cls X.K C) (hm : Meth X.K C m f) (F : FnOk X.prog X.w X.K X.mg X.base (L2.CX X.prog X.w) k f fd ps s') (room : Room k X.A) (bi : Binds X.K fd ps ds) (vd : Vals dvs ds) (tk : Takes X W)
    (ev : eval (.Call (.Attribute o m apos) [] [] pos) X.env = (do
      let ov ← eval o X.env
      standAt apos.atName
      let (f, first) ← holding [ov] (getMethod ov m pl)
      callWith pos f first (backTo pos (starEach [] X.env)) (backToKw pos (keywordEach [] X.env)))) : PE X (.Call (.Attribute o m apos) [] [] pos) (tMethS C m s' dvs W ta tNil) := by
  constructor
  intro pins s σ H Q I h
  refine PySem.W.methodCall_KW (pl := pl) (thn (he.run pins s σ H _ I h) fun u s1 hu => ?_) ev
  obtain ⟨x, H1, I1, rx, a, dx, fs, rfl, ea, l, q⟩ := hu
  cases (show u = Value.ref a from rx)
  refine getmeth_ok I1 ea cl hm l ?_
  exact PySem.W.callWith_K0 (first := [.ref a]) I1.kIn hm.kp (run_fnSD (us := [.ref a]) (vs := [.ref a]) F room bi vd (passAt tk σ) I1 (.cons rfl .nil) q)
/-- C(..) -/
def tMakeS (C : Addr) (s' : Sp) (dvs : List V) (W : WX) (t : TA) : TE := fun σ H Q => t σ H fun vs H1 => ∀ x dx, H1 x = none → H1 dx = none → dx ≠ x →
  s' (.ref x :: (vs ++ dvs)) (upd (upd H1 dx (.own x)) x (.ins C dx [])) (fun v H2 => v = .non ∧ Q (.ref x) H2) (WE W σ)
theorem runMake {pins : List (Addr × Obj)} {σ : L2.St} {H : Hp} {s : Shared} {Q : VK} {us : List Value} {vs : List V} (M : Mk X.K C f) (F : FnOk X.prog X.w X.K X.mg X.base (L2.CX X.prog X.w) k f fd ps s') (room : Room (k + 1) X.A) (bi : Binds X.K fd ps ds) (vd : Vals dvs ds) (tk : Takes X W)
    (I : Inv X pins σ H s) (r : Vals vs us) (h : ∀ x dx, H x = none → H dx = none → dx ≠ x → s' (.ref x :: (vs ++ dvs)) (upd (upd H dx (.own x)) x (.ins C dx [])) (fun v H2 => v = .non ∧ Q (.ref x) H2) (WE W σ)) :
    wpAny (model X.prog X.w) X.A (call (.ref C) us) (EP X pins σ Q) X.xe s := by
  have hq := h (s.heap.objs.size + 1) s.heap.objs.size (I.hok.fresh (Nat.le_succ _)) (I.hok.fresh (Nat.le_refl _)) (Nat.ne_of_lt (Nat.lt_succ_self _))
  have J := Inv.made (C := C) I
  have rr : Vals (V.ref (s.heap.objs.size + 1) :: (vs ++ dvs)) (Value.ref (s.heap.objs.size + 1) :: (us ++ ds)) := .cons rfl (r.append vd)
  have hl : (Value.ref (s.heap.objs.size + 1) :: us ++ ds).length = ps.length := by
    rw [← F.len _ _ _ _ hq, rr.length]; rfl
  refine wpAny_call (make_map (f := f) I.kIn M.makes M.init (beq_iff_eq.mp M.fn) (codeAny_mono (F.run _ X.stack _ _ ⟨Value.ref (s.heap.objs.size + 1) :: us, []⟩ (Value.ref (s.heap.objs.size + 1) :: (us ++ ds)) _ _ (WE W σ) (room.make C us [])
    (J.env0.make C us []) (bi _ (Value.ref (s.heap.objs.size + 1) :: us) J.kIn hl) rr hq) ?_))
  intro z z' hz
  match z, hz with
  | .error e, hz => exact passAt tk σ pins _ _ e z' J hz
  | .ok (.ret u), hz =>
    obtain ⟨v, H', I3, rv, ev, q3⟩ := J.after hz
    subst ev
    exact ⟨rv, ⟨V.ref (s.heap.objs.size + 1), H', I3, rfl, q3⟩⟩
  | .ok .next, hz => exact hz.elim
  | .ok .brk, hz => exact hz.elim
  | .ok .cont, hz => exact hz.elim
theorem pe_makeAny (M : Mk X.K C f) (F : FnOk X.prog X.w X.K X.mg X.base (L2.CX X.prog X.w) k f fd ps s') (room : Room (k + 1) X.A) (gl : Gl X x) (mx : X.mg x = some (.ref C)) (bi : Binds X.K fd ps ds) (vd : Vals dvs ds) (tk : Takes X W)
    (ha : PA X (e :: es) t) (db : (x == ("__debug__" : Str)) = false) (ns : nStar e = true) (nss : es.all nStar = true) : PE X (.Call (.Name x p) (e :: es) [] pos) (tMakeS C s' dvs W t) := by
  constructor
  intro pins s σ H Q I h
  refine wpAny_Call_Name_kw (ld_glob I gl mx ?_ db)
  refine PySem.W.callWith_K (h₀ := X.base) I.ok.mod.kin M.kp (thn (ha.run pos pins s σ H _ I h) fun us s1 hv => ?_) (starEach_n ns) (no_star nss)
  obtain ⟨vs, H1, I1, r, q⟩ := hv
  exact ⟨I1.kIn, runMake M F room bi vd tk I1 r q⟩
theorem pe_makeNil (M : Mk X.K C f) (F : FnOk X.prog X.w X.K X.mg X.base (L2.CX X.prog X.w) k f fd ps s') (room : Room (k + 1) X.A) (gl : Gl X x) (mx : X.mg x = some (.ref C)) (bi : Binds X.K fd ps ds) (vd : Vals dvs ds) (tk : Takes X W)
    (db : (x == ("__debug__" : Str)) = false) : PE X (.Call (.Name x p) [] [] pos) (tMakeS C s' dvs W tNil) := by
  constructor
  intro pins s σ H Q I h
  refine wpAny_Call_Name_kw (ld_glob I gl mx ?_ db)
  exact PySem.W.callWith_K0 I.kIn M.kp (runMake (us := []) M F room bi vd tk I .nil h)
end
/-- a call of what a name holds -/
def tCallH (g : Gi) (k j : Nat) (W : WX) (t : TA) : TE := fun σ H Q => ∃ (f : Addr) (fd : FuncData) (ps : List Str) (s' : Sp) (dvs : List V) (ds : List Value), σ[j]? = some (some (.ref f)) ∧ (FnOk g.P g.w g.K g.mg g.base (L2.CX g.P g.w) k f fd ps s' ∧ PySem.W.keepIn g.K (.ref f) = true ∧ Binds g.K fd ps ds ∧ Vals dvs ds) ∧
  t σ H fun vs H1 => s' (vs ++ dvs) H1 Q (WE W σ)
theorem pe_callH {k j : Nat} {x : Str} {p pos : Pos} {e : Expr} {es : List Expr} {t : TA} (hg : Good g cc Γ X) (room : Room k X.A) (hN : X.N[j]? = some x) (hv : Vis X.env.scope x) (tk : Takes X W) (ha : PA X (e :: es) t)
    (hdb : (x == ("__debug__" : Str)) = false) (hcd : (x == ("__classdict__" : Str)) = false) (ns : (e :: es).all nStar = true) : PE X (.Call (.Name x p) (e :: es) [] pos) (tCallH g k j W t) := by
  constructor
  intro pins s σ H Q I h
  obtain ⟨f, fd, ps, s', dvs, ds, hs, hF, ht⟩ := h
  rw [← hg.eP, ← hg.ew, ← hg.eK, ← hg.emg, ← hg.ebase] at hF
  obtain ⟨F, kp, bi, vd⟩ := hF
  rw [List.all_cons, Bool.and_eq_true] at ns
  refine wpAny_Call_Name_kw (thn ((pe_var (pos := p) hN hv hdb hcd).run pins s σ H (fun v H1 => v = .ref f ∧ H1 = H) I ⟨.ref f, hs, rfl, rfl⟩) fun u s1 ⟨v, H1, I1, r1, q1⟩ => ?_)
  obtain ⟨rfl, rfl⟩ := q1
  cases r1
  refine PySem.W.callWith_K (h₀ := X.base) I.ok.mod.kin kp (thn (ha.run pos pins s1 σ _ _ I1 ht) fun us s2 ⟨vs, H2, I2, r, q⟩ => ⟨I2.kIn, ?_⟩) (starEach_n ns.1) (no_star ns.2)
  exact run_fnSD F room bi vd (passAt tk σ) I2 r q
/-! ### calls in the small language -/
theorem ev_callL {j : Nat} {x : Str} {as : List Ag} {e : Expr} {es : List Expr} {p pos : Pos} (hco : cc.hot = false) (he : GE g cc Γ X) (tk : Takes X W) (hv : (slB cc x j && visB cc.sc x) = true) (hs : sepG (as.map agI) = true)
    (ha : GSV g Γ X W as (e :: es)) (ns : (e :: es).all nStar = true) : EV g Γ X W (.callL j as) (.Call (.Name x p) (e :: es) [] pos) := by
  have hg := he.good
  obtain ⟨v1, v2⟩ := ba2 hv
  obtain ⟨z1, z2, z3⟩ := slot_of hg v1
  obtain ⟨t, h1, h2⟩ := ha
  refine ⟨_, pe_callH hg (hg.room hco) z1 (vis_of hg v2) tk h1 z2 z3 ns, fun B env Fr σ H G Q QX R rl hq ke kx => ?_⟩
  have hq : (match gt env j with | .fn f => Γ.lf f = true ∧ lentOk env as = true ∧ semGs Γ as env (fun ms env1 => (fillG env1 (as.map agI) ms).all M.ok = true ∧ Γ.fs f (fillG env1 (as.map agI) ms) (fun r ms' => Q r (backG env1 (as.map agI) ms')) (fun x ms' => QX x (backG env1 (as.map agI) ms'))) QX | _ => False) := hq
  split at hq
  · rename_i f ef
    obtain ⟨hl, lo, hq⟩ := hq
    obtain ⟨v, c, hv, ow⟩ := rl.var (i := j) (by rw [ef]; exact fun z => by cases z)
    rw [ef] at ow
    obtain ⟨rfl, _⟩ := ow
    obtain ⟨fd, ps, s', dvs, ds, F, kp, bi, vd, hsp⟩ := (he.lfs f hl).ex
    refine ⟨_, fd, ps, s', dvs, ds, hv, ⟨F, kp, bi, vd⟩, h2 B env Fr σ H G _ QX _ rl (lent_slots rl lo) hq (fun ms evs vs env1 H1 G1 hm hl har r1 => ?_) kx⟩
    obtain ⟨hk, hm⟩ := hm
    exact hsp _ _ _ _ (r1.lift hl hs har hk hm (fun v m ms' H' G' q r2 => ke m v _ H' G' q r2) fun x ms' H' G' cls d q r2 xr => kx x _ H' G' cls d q r2 xr)
  · exact hq.elim
theorem ev_call {f : String} {x : Str} {as : List Ag} {e : Expr} {es : List Expr} {p pos : Pos} (hco : cc.hot = false) (he : GE g cc Γ X) (tk : Takes X W) (hf : (f, x) ∈ cc.fns) (gl : glB cc.sc x = true) (hd : dbg x = true) (hs : sepG (as.map agI) = true)
    (ha : GSV g Γ X W as (e :: es)) (ns : (e :: es).all nStar = true) : EV g Γ X W (.call f as) (.Call (.Name x p) (e :: es) [] pos) := by
  have hg := he.good
  obtain ⟨m1, F0⟩ := he.fns f x hf
  obtain ⟨fd, ps, s', dvs, ds, F, kp, bi, vd, hsp⟩ := F0.at hg
  obtain ⟨t, h1, h2⟩ := ha
  rw [List.all_cons, Bool.and_eq_true] at ns
  refine ⟨_, pe_callSD F (hg.room hco) (gl_of hg gl) (by rw [hg.emg]; exact m1) kp bi vd (fun σ => passAt tk σ) h1 (dbg_of hd).1 (starEach_n ns.1) (no_star ns.2), fun B env Fr σ H G Q QX R rl hq ke kx => ?_⟩
  obtain ⟨lo, hq⟩ := (show lentOk env as = true ∧ semGs Γ as env _ QX from hq)
  refine h2 B env Fr σ H G _ QX _ rl (lent_slots rl lo) hq (fun ms evs vs env1 H1 G1 hm hl har r1 => ?_) kx
  obtain ⟨hk, hm⟩ := hm
  exact hsp _ _ _ _ (r1.lift hl hs har hk hm (fun v m ms' H' G' q r2 => ke m v _ H' G' q r2) fun x ms' H' G' cls d q r2 xr => kx x _ H' G' cls d q r2 xr)
theorem ev_call0 {f : String} {x : Str} {p pos : Pos} (hco : cc.hot = false) (he : GE g cc Γ X) (tk : Takes X W) (hf : (f, x) ∈ cc.fns) (gl : glB cc.sc x = true) (hd : dbg x = true) : EV g Γ X W (.call f []) (.Call (.Name x p) [] [] pos) := by
  have hg := he.good
  obtain ⟨m1, F0⟩ := he.fns f x hf
  obtain ⟨fd, ps, s', dvs, ds, F, kp, bi, vd, hsp⟩ := F0.at hg
  refine ⟨_, pe_callNil F (hg.room hco) (gl_of hg gl) (by rw [hg.emg]; exact m1) kp bi vd tk (dbg_of hd).1, fun B env Fr σ H G Q QX R rl hq ke kx => ?_⟩
  obtain ⟨_, hk, hm⟩ := (show lentOk env [] = true ∧ (_ ∧ _) from hq)
  exact hsp _ _ _ _ (Rel.lift (is := []) (evs := []) (vs := []) (ms := []) rl rfl rfl trivial hk hm (fun v m ms' H' G' q r2 => ke m v _ H' G' q r2) fun x ms' H' G' cls d q r2 xr => kx x _ H' G' cls d q r2 xr)
theorem obj_at {G H : Hp} {v : V} {m : M} {c : Cn} {C : String} (sG : Same G H) (h : (match m with | .obj _ C' _ => C = C' | _ => False)) (ho : Own g G H v m c) : ∃ a dx vs, v = .ref a ∧ H a = some (.ins (g.ca C) dx ((g.fl C).zip vs)) := by
  cases m with
  | obj o C' ms =>
    cases h
    cases o with
    | true => obtain ⟨a, dx, us, c', rfl, _, hh, _⟩ := ho; exact ⟨a, dx, us, rfl, hh⟩
    | false => obtain ⟨a, dx, us, rfl, hh, _⟩ := ho; exact ⟨a, dx, us, rfl, sG _ _ hh⟩
  | _ => exact h.elim
theorem zip_none {ns : List Str} {us : List V} {m : Str} (h : m ∉ ns) : (ns.zip us).lookup m = none := by
  induction ns generalizing us with
  | nil => rfl
  | cons a r ih =>
    cases us with
    | nil => rfl
    | cons u us =>
      rw [List.zip_cons_cons, List.lookup_cons]
      have hne : (m == a) = false := beq_eq_false_iff_ne.mpr fun e => h (by rw [e]; exact List.mem_cons_self)
      rw [hne]
      exact ih fun z => h (List.mem_cons_of_mem _ z)
end
end Q
set_option Elab.async false
set_option linter.all false
set_option maxRecDepth 100000
set_option maxHeartbeats 4000000
namespace Q
open PySem PySem.Spec PyProof.Rows L2
local macro_rules | `(tactic| walk_at "cn") => `(tactic| ((try dsimp only at *); omega))
section
variable {g : Gi} {cc : Sc} {Γ : Gm} {X : Cx} {W : WX}
theorem call_form {x mm : Str} {p ap pos : Pos} {es : List Expr} {env : Env} (hl : (ap.endLine == pos.line) = true) (ns : es.all nStar = true) (hn : es.length < 30) :
    eval (.Call (.Attribute (.Name x p) mm ap) es [] pos) env = (do
      let ov ← eval (.Name x p) env
      standAt ap.atName
      let (f, first) ← holding [ov] (getMethod ov mm (do return (← importBound (.Name x p) env).getD true))
      callWith pos f first (backTo pos (starEach es env)) (backToKw pos (keywordEach [] env))) := by
  have h : eval (.Call (.Attribute (.Name x p) mm ap) es [] pos) env = (do
      let ov ← eval (.Name x p) env
      standAt ap.atName
      methodCall (.Name x p) mm ap pos env ov (es.length + ([] : List Keyword).length) (backTo pos (starEach es env)) (backToKw pos (keywordEach [] env))) := rfl
  rw [h]
  have h2 : ∀ ov, methodCall (.Name x p) mm ap pos env ov (es.length + ([] : List Keyword).length) (backTo pos (starEach es env)) (backToKw pos (keywordEach [] env)) = (do
      let (f, first) ← holding [ov] (getMethod ov mm (do return (← importBound (.Name x p) env).getD true))
      callWith pos f first (backTo pos (starEach es env)) (backToKw pos (keywordEach [] env))) := by
    intro ov
    unfold methodCall
    rw [form_ok ns hn]
    unfold methodCallPos calleeOf
    rw [hl]
    rfl
  simp only [h2]
theorem ev_meth {C m y : String} {i : Nat} {x mm : Str} {as : List Ag} {es : List Expr} {p ap pos : Pos} (hco : cc.hot = false) (he : GE g cc Γ X) (tk : Takes X W) (hf : (C, mm) ∈ cc.mts) (hm : m = Str.toString mm) (hv : (slB cc x i && visB cc.sc x) = true) (hs : sepG (some i :: as.map agI) = true)
    (ha : GSV g Γ X W as es) (ns : es.all nStar = true) (hn : as = [] → es = []) (hn2 : es = [] → as = []) (hl : (ap.endLine == pos.line) = true) (hln : es.length < 30) : EV g Γ X W (.meth C m i as) (.Call (.Attribute (.Name x p) mm ap) es [] pos) := by
  have hg := he.good
  obtain ⟨cl, nf, a, mt, F0⟩ := he.mts C mm hf
  obtain ⟨fd, ps, s', dvs, ds, F, kp, bi, vd, hsp⟩ := F0.at hg
  obtain ⟨v1, v2⟩ := ba2 hv
  obtain ⟨z1, z2, z3⟩ := slot_of hg v1
  have po := pe_var (pos := p) z1 (vis_of hg v2) z2 z3
  rw [← hg.eK] at cl mt
  subst hm
  have fin : ∀ {B : Bs} {env : En} {Fr : List (V × M)} {σ : L2.St} {H G : Hp} {Q : QE} {QX : Exc → En → Prop} {R : VK} {t : TA}, Rel g B env Fr σ H G → semE Γ (.meth C (Str.toString mm) i as) env Q QX → KE g B Fr σ Q R → KX g B Fr σ QX W →
      (∀ v, σ[i]? = some (some v) → lentOk env as = true → semGs Γ as env (fun ms env1 => (fillG env1 (some i :: as.map agI) ms).all M.ok = true ∧ Γ.ms C (Str.toString mm) (fillG env1 (some i :: as.map agI) ms) (fun r ms' => Q r (backG env1 (some i :: as.map agI) ms')) (fun x ms' => QX x (backG env1 (some i :: as.map agI) ms'))) QX → t σ H fun vs H2 => s' (v :: (vs ++ dvs)) H2 R (WE W σ)) →
      tMethS (g.ca C) mm s' dvs W (tVar i) t σ H R := by
    intro B env Fr σ H G Q QX R t rl hq ke kx ht
    obtain ⟨ho, lo, hq⟩ := (show (match gt env i with | .obj _ C' _ => C = C' | _ => False) ∧ lentOk env as = true ∧ _ from hq)
    have hh : gt env i ≠ .hole := fun q => by rw [q] at ho; exact ho
    obtain ⟨v, c, hv, ow⟩ := rl.var hh
    obtain ⟨a, dx, us, ev, ea⟩ := obj_at rl.sGH ho ow
    exact ⟨v, hv, a, dx, _, ev, ea, zip_none nf, ht v hv lo hq⟩
  cases es with
  | nil =>
    have e0 := hn2 rfl
    subst e0
    refine ⟨_, pe_methNil po cl mt F (hg.room hco) bi vd tk (call_form hl rfl hln), fun B env Fr σ H G Q QX R rl hq ke kx => ?_⟩
    refine fin rl hq ke kx fun v hv lo hq => ?_
    obtain ⟨hk, hq⟩ := (show (fillG env (some i :: List.map agI []) []).all M.ok = true ∧ _ from hq)
    exact hsp _ _ _ _ (Rel.lift (is := [some i]) (evs := []) (vs := [v]) (ms := []) rl rfl hs ⟨hv, trivial⟩ hk hq (fun v m ms' H' G' q r2 => ke m v _ H' G' q r2) fun x ms' H' G' cls d q r2 xr => kx x _ H' G' cls d q r2 xr)
  | cons e es =>
    obtain ⟨t, h1, h2⟩ := ha
    have cf := call_form (x := x) (mm := mm) (p := p) (env := X.env) hl ns hln
    rw [List.all_cons, Bool.and_eq_true] at ns
    refine ⟨_, pe_methAny po cl mt F (hg.room hco) bi vd tk h1 ns.1 ns.2 cf, fun B env Fr σ H G Q QX R rl hq ke kx => ?_⟩
    refine fin rl hq ke kx fun v hv lo hq => ?_
    refine h2 B env Fr σ H G _ QX _ rl (lent_slots rl lo) hq (fun ms evs vs env1 H1 G1 hm hl har r1 => ?_) kx
    obtain ⟨hk, hm⟩ := hm
    refine hsp _ _ _ _ (r1.lift (is := some i :: as.map agI) (vs := v :: vs) hl hs ?_ hk hm (fun v m ms' H' G' q r2 => ke m v _ H' G' q r2) fun x ms' H' G' cls d q r2 xr => kx x _ H' G' cls d q r2 xr)
    cases evs <;> exact ⟨hv, har⟩
/-- a made object -/
theorem ev_make {C : String} {x : Str} {as : List Ag} {es : List Expr} {p pos : Pos} (hco : cc.hot = false) (he : GE g cc Γ X) (tk : Takes X W) (hf : (C, x) ∈ cc.mks) (gl : glB cc.sc x = true) (hd : dbg x = true) (hs : sepG (as.map agI) = true)
    (ha : GSV g Γ X W as es) (ns : es.all nStar = true) (hn2 : es = [] → as = []) : EV g Γ X W (.make C as) (.Call (.Name x p) es [] pos) := by
  have hg := he.good
  obtain ⟨m1, a, k, hk, mk, F0⟩ := he.mks C x hf
  obtain ⟨fd, ps, s', dvs, ds, F, kp, bi, vd, hsp⟩ := F0.at hg
  have room := (hg.room hco).mono hk
  rw [← hg.eK] at mk
  have fin : ∀ {B : Bs} {env1 : En} {Fr : List (V × M)} {σ : L2.St} {H1 G1 : Hp} {Q : QE} {QX : Exc → En → Prop} {R : VK} {ms : List M} {evs vs : List V}, KE g B Fr σ Q R → KX g B Fr σ QX W → Rel g B env1 (zipR evs ms Fr) σ H1 G1 → evs.length = ms.length → Args σ (as.map agI) evs vs →
      ((fillG env1 (as.map agI) ms).all M.ok = true ∧ Γ.mks C (.obj true C [] :: fillG env1 (as.map agI) ms) (fun r ms' => r = .non ∧ (match ms' with | self :: r' => Q self (backG env1 (as.map agI) r') | [] => False)) (fun x ms' => QX x (backG env1 (as.map agI) ms'.tail))) →
      ∀ x dx, H1 x = none → H1 dx = none → dx ≠ x → s' (.ref x :: (vs ++ dvs)) (upd (upd H1 dx (.own x)) x (.ins (g.ca C) dx [])) (fun v H2 => v = .non ∧ R (.ref x) H2) (WE W σ) := by
    intro B env1 Fr σ H1 G1 Q QX R ms evs vs ke kx r1 hl har hm x dx hx hdx hne
    obtain ⟨hk, hm⟩ := hm
    obtain ⟨f, o1, o2, back⟩ := r1.lent hl hs har hk
    have nf : ∀ b, 1 ≤ f b → b ≠ x ∧ b ≠ dx := fun b hb => by
      obtain ⟨⟨o, ho⟩, _⟩ := OwnL.live _ o1 b hb
      exact ⟨fun q => by (rw [q, hx] at ho; cases ho), fun q => by (rw [q, hdx] at ho; cases ho)⟩
    have H2e : ∀ b, b ≠ x → b ≠ dx → upd (upd H1 dx (.own x)) x (.ins (g.ca C) dx []) b = H1 b := fun b h1 h2 => by rw [upd_ne h1, upd_ne h2]
    have gx : ∀ {b}, H1 b = none → G1 b = none := fun {b} hb => by
      cases q : G1 b with
      | none => rfl
      | some o => rw [r1.sGH b o q] at hb; cases hb
    have s0 : Stp G1 H1 f G1 (upd (upd H1 dx (.own x)) x (.ins (g.ca C) dx [])) (fun b => one x b + f b) := by
      refine ⟨fun _ _ h => h, fun b o h => ?_, fun b hb => ?_, fun b o h _ => ?_, fun b h => .inl h⟩
      · have h1 := r1.sGH b o h
        rw [H2e b (fun q => by rw [q, hx] at h1; cases h1) (fun q => by rw [q, hdx] at h1; cases h1)]; exact h1
      · by_cases q : b = x
        · subst q; exact .inr hx
        · have e1_ := one_ne (a := x) q
          exact .inl (by walk_at "cn")
      · rw [H2e b (fun q => by rw [q, hx] at h; cases h) (fun q => by rw [q, hdx] at h; cases h)]; exact h
    have oself : Own g G1 (upd (upd H1 dx (.own x)) x (.ins (g.ca C) dx [])) (.ref x) (.obj true C []) (fun b => one x b + 0) := by
      refine ⟨x, dx, [], fun _ => 0, rfl, gx hx, ?_, Nat.zero_le _, zr0, fun b => rfl⟩
      rw [upd_same, List.zip_nil_right]
    have oargs := OwnL.hm _ o1 (H' := upd (upd H1 dx (.own x)) x (.ins (g.ca C) dx [])) fun b hb => H2e b (nf b hb).1 (nf b hb).2
    have fx : f x = 0 := by
      by_cases q : 1 ≤ f x
      · exact absurd rfl (nf x q).1
      · omega
    refine hsp (.ref x :: vs) _ _ _ ⟨G1, .obj true C [] :: fillG env1 (as.map agI) ms, fun b => one x b + f b, _, _, s0.sH, ⟨_, f, oself, oargs, fun b => by walk_at "cn"⟩, fun b => ?_, ?_, hm, fun v m ms' G' H' c' d' s p1 p2 p3 q => ?_, fun cls d xx ms' G' H' c' s p1 p3 xr q => ?_⟩
    · by_cases q : b = x
      · subst q
        have e1_ := one_self b
        walk_at "cn"
      · have e1_ := one_ne (a := x) q
        have e2_ := o2 b
        walk_at "cn"
    · show (true && _) = true
      rw [Bool.true_and]; exact hk
    · obtain ⟨rfl, q⟩ := q
      obtain ⟨rfl, zd⟩ := p2
      refine ⟨rfl, ?_⟩
      cases ms' with
      | nil => exact q.elim
      | cons self r' =>
        obtain ⟨c1, c2, q1, q2, qc⟩ := p1
        have st := s0.trans s
        exact ke self _ _ H' G' q (back G' H' r' c2 c1 _ _ (st.less fun b hb => by have e1_ := qc b; have e2_ := zd b; walk_at "cn") q2 (fun b => by have e1_ := qc b; have e2_ := p3 b; walk_at "cn") q1)
    · have st := s0.trans s
      cases ms' with
      | nil => exact p1.elim
      | cons self r' =>
        obtain ⟨c1, c2, q1, q2, qc⟩ := p1
        exact kx xx _ H' G' cls d q (back G' H' r' c2 (fun _ => 0) .non .non (st.less fun b hb => by have e1_ := qc b; walk_at "cn") q2 (fun b => by have e1_ := qc b; have e2_ := p3 b; walk_at "cn") ⟨rfl, zr0⟩).pop xr
  cases es with
  | nil =>
    have e0 := hn2 rfl
    subst e0
    refine ⟨_, pe_makeNil mk F room (gl_of hg gl) (by rw [hg.emg]; exact m1) bi vd tk (dbg_of hd).1, fun B env Fr σ H G Q QX R rl hq ke kx => ?_⟩
    obtain ⟨_, hq⟩ := (show lentOk env [] = true ∧ (_ ∧ _) from hq)
    exact fin (evs := []) (vs := []) (ms := []) ke kx rl rfl trivial hq
  | cons e es =>
    obtain ⟨t, h1, h2⟩ := ha
    rw [List.all_cons, Bool.and_eq_true] at ns
    refine ⟨_, pe_makeAny mk F room (gl_of hg gl) (by rw [hg.emg]; exact m1) bi vd tk h1 (dbg_of hd).1 ns.1 ns.2, fun B env Fr σ H G Q QX R rl hq ke kx => ?_⟩
    obtain ⟨lo, hq⟩ := (show lentOk env as = true ∧ semGs Γ as env _ QX from hq)
    refine h2 B env Fr σ H G _ QX _ rl (lent_slots rl lo) hq (fun ms evs vs env1 H1 G1 hm hl har r1 => ?_) kx
    exact fin ke kx r1 hl har hm
end
end Q
set_option Elab.async false
set_option linter.all false
set_option maxRecDepth 100000
set_option maxHeartbeats 4000000
namespace Q
open PySem PySem.Spec PyProof.Rows L2
local macro_rules | `(tactic| walk_at "cn") => `(tactic| ((try dsimp only at *); omega))
/-! ### paths in the heap -/
def StepV (g : Gi) (H : Hp) (v : V) (s : Pt) (w : V) : Prop := ∃ a, v = .ref a ∧ match s with
  | .f C k => ∃ dx vs, H a = some (.ins (g.ca C) dx ((g.fl C).zip vs)) ∧ vs.length ≤ (g.fl C).length ∧ vs[k]? = some w
  | .i k => ∃ vs, (H a = some (.lst vs) ∨ H a = some (.tup vs)) ∧ vs[k]? = some w
def PathV (g : Gi) (H : Hp) : V → M → List Pt → V → M → Prop
  | v0, m0, [], v, m => v = v0 ∧ m = m0
  | v0, m0, s :: r, v, m => ∃ v1 m1, StepV g H v0 s v1 ∧ at1 m0 s = some m1 ∧ PathV g H v1 m1 r v m
section
variable {g : Gi} {G H : Hp}
theorem PathV.snoc : ∀ {l : List Pt} {v0 : V} {m0 : M} {v : V} {m : M} {s : Pt} {w : V} {n : M}, PathV g H v0 m0 l v m → StepV g H v s w → at1 m s = some n → PathV g H v0 m0 (l ++ [s]) w n
  | [], _, _, _, _, s, w, n, ⟨rfl, rfl⟩, h1, h2 => ⟨w, n, h1, h2, rfl, rfl⟩
  | _ :: r, _, _, _, _, s, w, n, ⟨v1, m1, p1, p2, p3⟩, h1, h2 => ⟨v1, m1, p1, p2, PathV.snoc (l := r) p3 h1 h2⟩
theorem StepV.same {H' : Hp} {v w : V} {s : Pt} (e : Same H H') (h : StepV g H v s w) : StepV g H' v s w := by
  obtain ⟨a, rfl, h⟩ := h
  refine ⟨a, rfl, ?_⟩
  cases s with
  | f C k => obtain ⟨dx, vs, h1, h2, h3⟩ := h; exact ⟨dx, vs, e _ _ h1, h2, h3⟩
  | i k => obtain ⟨vs, h1, h3⟩ := h; exact ⟨vs, h1.imp (e _ _) (e _ _), h3⟩
theorem PathV.same {H' : Hp} (e : Same H H') : ∀ {l : List Pt} {v0 : V} {m0 : M} {v : V} {m : M}, PathV g H v0 m0 l v m → PathV g H' v0 m0 l v m
  | [], _, _, _, _, h => h
  | _ :: r, _, _, _, _, ⟨v1, m1, p1, p2, p3⟩ => ⟨v1, m1, p1.same e, p2, p3.same e⟩
theorem zip_inj {ns : List Str} : ∀ {us vs : List V}, us.length ≤ ns.length → vs.length ≤ ns.length → ns.zip us = ns.zip vs → us = vs := by
  induction ns with
  | nil =>
    intro us vs h1 h2 _
    cases us <;> cases vs <;> first | rfl | (simp at h1; done) | (simp at h2; done)
  | cons n r ih =>
    intro us vs h1 h2 h
    cases us with
    | nil => cases vs with
      | nil => rfl
      | cons _ _ => simp at h
    | cons u us => cases vs with
      | nil => simp at h
      | cons v vs =>
        simp only [List.zip_cons_cons, List.cons.injEq, Prod.mk.injEq, true_and] at h
        rw [h.1, ih (by simpa using h1) (by simpa using h2) h.2]
/-- one container: a part of it, and how it is put back -/
theorem focus1 {v0 : V} {m0 : M} {c : Cn} {s : Pt} {w : V} {n : M} (sG : Same G H) (ho : Own g G H v0 m0 c) (st : StepV g H v0 s w) (ha : at1 m0 s = some n) :
    ∃ c1 c2 : Cn, Own g G H w n c1 ∧ (∀ b, c b = c1 b + c2 b) ∧ ∀ (G' H' : Hp) (n' : M) (c1' : Cn), Same G G' → Same G' H' → (∀ b, 1 ≤ c2 b → H' b = H b ∧ G' b = none) → (zr c1 → zr c1') → Own g G' H' w n' c1' → ∃ c3 : Cn, Own g G' H' v0 (put1 m0 s n') c3 ∧ ∀ b, c3 b ≤ c1' b + c2 b := by
  obtain ⟨a, rfl, st⟩ := st
  -- the row of a container
  have row : ∀ {vs : List V} {ms : List M} {c' : Cn} {k : Nat}, OwnL g G H vs ms c' → vs[k]? = some w → ms[k]? = some n → ∃ c1 c2 : Cn, Own g G H w n c1 ∧ (∀ b, c' b = c1 b + c2 b) ∧
      ∀ (G' H' : Hp) (n' : M) (c1' : Cn), Same G G' → (∀ b, 1 ≤ c2 b → H' b = H b ∧ G' b = none) → Own g G' H' w n' c1' → ∃ c3 : Cn, OwnL g G' H' vs (ms.set k n') c3 ∧ ∀ b, c3 b ≤ c1' b + c2 b := by
    intro vs ms c' k ol h1 h2
    obtain ⟨w', c1, c2, e1, o1, o2, ec⟩ := OwnL.take1 ol h2
    have ew : w = w' := by rw [h1] at e1; exact Option.some.inj e1
    subst ew
    refine ⟨c1, c2, o1, ec, fun G' H' n' c1' s1 hh o' => ?_⟩
    have o2' := (o2.hm _ fun b hb => (hh b hb).1).gm s1 _ fun b hb => (hh b hb).2
    obtain ⟨c3, p1, p2⟩ := OwnL.put1 (i := k) o2' o'
    rw [set_back h1, List.set_set] at p1
    exact ⟨c3, p1, fun b => by have e1_ := p2 b; walk_at "cn"⟩
  -- an owned container
  have own1 : ∀ {c' c1 c2 : Cn}, (∀ b, c b = one a b + c' b) → (∀ b, c' b = c1 b + c2 b) → ∀ b, c b = c1 b + (one a b + c2 b) := fun h1 h2 b => by
    have e1_ := h1 b
    have e2_ := h2 b
    walk_at "cn"
  have zero : ∀ {c1 c2 c1' c3 : Cn}, zr c → (∀ b, c b = c1 b + c2 b) → (zr c1 → zr c1') → (∀ b, c3 b ≤ c1' b + c2 b) → zr c3 := fun {c1 c2 c1' c3} z h1 h2 h3 b => by
    have z1 : zr c1 := fun b => by
      have e1_ := h1 b
      have e2_ := z b
      walk_at "cn"
    have e1_ := h1 b
    have e2_ := z b
    have e3_ := h2 z1 b
    have e4_ := h3 b
    walk_at "cn"
  cases s with
  | f C k =>
    obtain ⟨dx, us, hH, hl, hw⟩ := st
    cases m0 with
    | obj o C' ms =>
      have ha : (if C = C' then ms[k]? else none) = some n := ha
      by_cases eC : C = C'
      · subst eC
        have hn0 : ms[k]? = some n := by rw [if_pos rfl] at ha; exact ha
        clear ha
        cases o with
        | true =>
          obtain ⟨a', dx', vs, c', ea, hg, hh, hn, ol, hc⟩ := ho
          cases ea
          have e := hH.symm.trans hh
          simp only [Option.some.injEq, HO.ins.injEq, true_and] at e
          obtain ⟨e1, e2⟩ := e
          have ev := zip_inj hl hn e2
          subst ev e1
          obtain ⟨c1, c2, r1, r2, r3⟩ := row ol hw hn0
          refine ⟨c1, fun b => one a b + c2 b, r1, own1 hc r2, fun G' H' n' c1' s1 s2 hh' zz o' => ?_⟩
          obtain ⟨c3, q1, q2⟩ := r3 G' H' n' c1' s1 (fun b hb => hh' b (by walk_at "cn")) o'
          have ha' := hh' a (by have e1_ := one_self a; walk_at "cn")
          exact ⟨fun b => one a b + c3 b, ⟨a, dx, us, c3, rfl, ha'.2, ha'.1.trans hH, hl, q1, fun _ => rfl⟩, fun b => by have e1_ := q2 b; walk_at "cn"⟩
        | false =>
          obtain ⟨a', dx', vs, ea, hg, hn, ol, hz⟩ := ho
          cases ea
          have e := hH.symm.trans (sG _ _ hg)
          simp only [Option.some.injEq, HO.ins.injEq, true_and] at e
          obtain ⟨e1, e2⟩ := e
          have ev := zip_inj hl hn e2
          subst ev e1
          obtain ⟨c1, c2, r1, r2, r3⟩ := row ol hw hn0
          refine ⟨c1, c2, r1, r2, fun G' H' n' c1' s1 s2 hh' zz o' => ?_⟩
          obtain ⟨c3, q1, q2⟩ := r3 G' H' n' c1' s1 hh' o'
          exact ⟨c3, ⟨a, dx, us, rfl, s1 _ _ hg, hl, q1, zero hz r2 zz q2⟩, q2⟩
      · rw [if_neg eC] at ha; cases ha
    | _ => cases ha
  | i k =>
    obtain ⟨us, hH, hw⟩ := st
    cases m0 with
    | lst o ms =>
      have ha : ms[k]? = some n := ha
      cases o with
      | true =>
        obtain ⟨a', vs, c', ea, hg, hh, ol, hc⟩ := ho
        cases ea
        have ev : us = vs := by
          rcases hH with hH | hH <;> (rw [hh] at hH; first | (cases hH; done) | (cases hH; rfl))
        subst ev
        obtain ⟨c1, c2, r1, r2, r3⟩ := row ol hw ha
        refine ⟨c1, fun b => one a b + c2 b, r1, own1 hc r2, fun G' H' n' c1' s1 s2 hh' zz o' => ?_⟩
        obtain ⟨c3, q1, q2⟩ := r3 G' H' n' c1' s1 (fun b hb => hh' b (by walk_at "cn")) o'
        have ha' := hh' a (by have e1_ := one_self a; walk_at "cn")
        exact ⟨fun b => one a b + c3 b, ⟨a, us, c3, rfl, ha'.2, ha'.1.trans hh, q1, fun _ => rfl⟩, fun b => by have e1_ := q2 b; walk_at "cn"⟩
      | false =>
        obtain ⟨a', vs, ea, hg, ol, hz⟩ := ho
        cases ea
        have hh := sG _ _ hg
        have ev : us = vs := by
          rcases hH with hH | hH <;> (rw [hh] at hH; first | (cases hH; done) | (cases hH; rfl))
        subst ev
        obtain ⟨c1, c2, r1, r2, r3⟩ := row ol hw ha
        refine ⟨c1, c2, r1, r2, fun G' H' n' c1' s1 s2 hh' zz o' => ?_⟩
        obtain ⟨c3, q1, q2⟩ := r3 G' H' n' c1' s1 hh' o'
        exact ⟨c3, ⟨a, us, rfl, s1 _ _ hg, q1, zero hz r2 zz q2⟩, q2⟩
    | tup ms =>
      have ha : ms[k]? = some n := ha
      obtain ⟨a', vs, ea, hg, ol⟩ := ho
      cases ea
      have hh := sG _ _ hg
      have ev : us = vs := by
        rcases hH with hH | hH <;> (rw [hh] at hH; first | (cases hH; done) | (cases hH; rfl))
      subst ev
      obtain ⟨c1, c2, r1, r2, r3⟩ := row ol hw ha
      refine ⟨c1, c2, r1, r2, fun G' H' n' c1' s1 s2 hh' zz o' => ?_⟩
      obtain ⟨c3, q1, q2⟩ := r3 G' H' n' c1' s1 hh' o'
      exact ⟨c3, ⟨a, us, rfl, s1 _ _ hg, q1⟩, q2⟩
    | _ => cases ha
/-- .. along a path -/
theorem focus (sG : Same G H) : ∀ {l : List Pt} {v0 : V} {m0 : M} {c : Cn} {v : V} {m : M}, Own g G H v0 m0 c → PathV g H v0 m0 l v m →
    ∃ c1 c2 : Cn, Own g G H v m c1 ∧ (∀ b, c b = c1 b + c2 b) ∧ ∀ (G' H' : Hp) (m' : M) (c1' : Cn), Same G G' → Same G' H' → (∀ b, 1 ≤ c2 b → H' b = H b ∧ G' b = none) → (zr c1 → zr c1') → Own g G' H' v m' c1' → ∃ c3 : Cn, Own g G' H' v0 (putP m0 l m') c3 ∧ ∀ b, c3 b ≤ c1' b + c2 b
  | [], v0, m0, c, v, m, ho, ⟨e1, e2⟩ => by
    subst e1 e2
    exact ⟨c, fun _ => 0, ho, fun _ => rfl, fun G' H' m' c1' _ _ _ _ o' => ⟨c1', o', fun b => by walk_at "cn"⟩⟩
  | s :: r, v0, m0, c, v, m, ho, ⟨v1, m1, p1, p2, p3⟩ => by
    obtain ⟨c1, c2, o1, ec, back⟩ := focus1 sG ho p1 p2
    obtain ⟨d1, d2, o2, ed, back2⟩ := focus sG (l := r) o1 p3
    refine ⟨d1, fun b => d2 b + c2 b, o2, fun b => by have e1_ := ec b; have e2_ := ed b; walk_at "cn", fun G' H' m' c1' s1 s2 hh zz o' => ?_⟩
    obtain ⟨c3, q1, q2⟩ := back2 G' H' m' c1' s1 s2 (fun b hb => hh b (by walk_at "cn")) zz o'
    have zz2 : zr c1 → zr c3 := fun z b => by
      have z1 : zr d1 := fun b => by have e1_ := ed b; have e2_ := z b; walk_at "cn"
      have e1_ := zz z1 b
      have e2_ := ed b
      have e3_ := z b
      have e4_ := q2 b
      walk_at "cn"
    obtain ⟨c4, q3, q4⟩ := back G' H' _ c3 s1 s2 (fun b hb => hh b (by walk_at "cn")) zz2 q1
    have e : putP m0 (s :: r) m' = put1 m0 s (putP m1 r m') := by
      show (match at1 m0 s with | some m' => _ | none => m0) = _
      rw [p2]
    exact ⟨c4, by rw [e]; exact q3, fun b => by have e1_ := q2 b; have e2_ := q4 b; walk_at "cn"⟩
end
end Q
set_option Elab.async false
set_option linter.all false
set_option maxRecDepth 100000
set_option maxHeartbeats 4000000
namespace Q
open PySem PySem.Spec PyProof.Rows L2
local macro_rules | `(tactic| walk_at "cn") => `(tactic| ((try dsimp only at *); omega))
section
variable {g : Gi} {cc : Sc} {Γ : Gm} {X : Cx} {W : WX}
/-- a part of a name's value is written -/
theorem Rel.modify {B : Bs} {env : En} {Fr : List (V × M)} {σ : L2.St} {H G : Hp} {i : Nat} {l : List Pt} {v0 v w : V} {m m' mr : M} {vs : List V} {ms : List M} {a : Addr} {o : HO} (r : Rel g B env (zipR vs ms Fr) σ H G) (hl : vs.length = ms.length)
    (hh : gt env i ≠ .hole) (hv : σ[i]? = some (some v0)) (hp : PathV g H v0 (gt env i) l v m)
    (new : ∀ c1 e, Own g G H v m c1 → OwnL g G H vs ms e → (∀ b, c1 b + e b ≤ 1) → ∃ c1' d' : Cn, (1 ≤ c1 a ∧ G a = none) ∧ Own g G (upd H a o) v m' c1' ∧ Own g G (upd H a o) w mr d' ∧ ∀ b, c1' b + d' b ≤ c1 b + e b) :
    Rel g B (env.set i (putP (gt env i) l m')) ((w, mr) :: Fr) σ (upd H a o) G := by
  obtain ⟨c, d, e, k1, k2, k3, k4, k5⟩ := r.row hl
  obtain ⟨v', cr, c2, hv', t1, t2, t3⟩ := OwnL.take1 k1 (gt_get hh)
  rw [List.getElem?_map, hv] at hv'
  have ev : v0 = v' := by simpa using hv'
  subst ev
  obtain ⟨c1, ch, f1, f2, back⟩ := focus r.sGH t1 hp
  obtain ⟨c1', d', ⟨ha, hG⟩, n1, n2, n3⟩ := new c1 e f1 k3 fun b => by have e1_ := k4 b; have e2_ := t3 b; have e3_ := f2 b; walk_at "cn"
  have ne : ∀ {f : Cn}, (∀ b, f b + c1 b ≤ 1) → ∀ b, 1 ≤ f b → b ≠ a := fun {f} hf b hb q => by
    subst q
    have := hf b
    omega
  have hc2 : ∀ b, 1 ≤ c2 b → b ≠ a := ne fun b => by have e1_ := k4 b; have e2_ := t3 b; have e3_ := f2 b; walk_at "cn"
  have hch : ∀ b, 1 ≤ ch b → b ≠ a := ne fun b => by have e1_ := k4 b; have e2_ := t3 b; have e3_ := f2 b; walk_at "cn"
  have hd : ∀ b, 1 ≤ d b → b ≠ a := ne fun b => by have e1_ := k4 b; have e2_ := t3 b; have e3_ := f2 b; walk_at "cn"
  have hu : ∀ b, b ≠ a → upd H a o b = H b := fun b hb => upd_ne hb
  have st : Stp G H (fun b => c b + d b + e b) G (upd H a o) (fun b => c b + d b + e b) := Stp.write r.sGH (by have e2_ := t3 a; have e3_ := f2 a; walk_at "cn") hG
  have gch : ∀ b, 1 ≤ ch b → G b = none := fun b hb => (Own.live _ t1 b (by have e3_ := f2 b; walk_at "cn")).2
  obtain ⟨c3, q1, q2⟩ := back G (upd H a o) m' c1' (fun _ _ h => h) st.sH (fun b hb => ⟨hu b (hch b hb), gch b hb⟩) (fun z => absurd (z a) (by omega)) n1
  have t2' := OwnL.hm (H' := upd H a o) _ t2 fun b hb => hu b (hc2 b hb)
  obtain ⟨c4, p1, p2⟩ := OwnL.put1 (i := i) t2' q1
  have hb : (σ.map gv).set i v0 = σ.map gv := set_back (by rw [List.getElem?_map, hv]; rfl)
  rw [hb, List.set_set] at p1
  refine r.stp (c := fun b => c b + d b) (d := e) (c' := c4) (d' := fun b => d' b + d b) (fun b hb => k5 b hb) (st.less fun b hb => by have e1_ := k4 b; have e2_ := t3 b; have e3_ := f2 b; have e4_ := n3 b; have e5_ := q2 b; have e6_ := p2 b; walk_at "cn")
    ⟨p1, ⟨d', d, n2, OwnL.hm _ k2 fun b hb => hu b (hd b hb), fun _ => rfl⟩, fun b => by have e1_ := k4 b; have e2_ := t3 b; have e3_ := f2 b; have e4_ := n3 b; have e5_ := q2 b; have e6_ := p2 b; walk_at "cn"⟩
    (by rw [List.length_set]; exact r.len) (fun j hj => ?_) r.fix
  rw [gt_set] at hj
  by_cases q : i = j ∧ i < env.length
  · exact ⟨v0, by rw [← q.1]; exact hv⟩
  · rw [if_neg q] at hj
    exact r.asg j hj
/-- a part of a name's value is frozen, and held -/
theorem Rel.shareP {B : Bs} {env : En} {Fr : List (V × M)} {σ : L2.St} {H G : Hp} {i : Nat} {l : List Pt} {v0 v : V} {m : M} (r : Rel g B env Fr σ H G) (hh : gt env i ≠ .hole) (hv : σ[i]? = some (some v0)) (hp : PathV g H v0 (gt env i) l v m) :
    ∃ G', Rel g B (env.set i (putP (gt env i) l m.frz)) ((v, m.frz) :: Fr) σ H G' := by
  obtain ⟨c, d, x, h4⟩ := r.rc
  obtain ⟨v', cr, c2, hv', t1, t2, t3⟩ := OwnL.take1 x.oe (gt_get hh)
  rw [List.getElem?_map, hv] at hv'
  have ev : v0 = v' := by simpa using hv'
  subst ev
  obtain ⟨c1, ch, f1, f2, back⟩ := focus r.sGH t1 hp
  obtain ⟨s, o⟩ := Stp.freeze r.sGH f1
  have sf := s.frame (f := fun b => ch b + c2 b + d b)
  have e1 : (fun b => c1 b + (ch b + c2 b + d b)) = fun b => c b + d b := funext fun b => by have e1_ := t3 b; have e2_ := f2 b; walk_at "cn"
  rw [e1] at sf
  have gn : ∀ b, 1 ≤ ch b → frzH G H c1 b = none := fun b hb => by
    have hl := (Own.live _ t1 b (by have e3_ := f2 b; walk_at "cn")).2
    unfold frzH
    rw [if_neg (by have e1_ := x.le b; have e2_ := t3 b; have e3_ := f2 b; walk_at "cn")]
    exact hl
  obtain ⟨c3, q1, q2⟩ := back _ H m.frz (fun _ => 0) s.sG s.sH (fun b hb => ⟨rfl, gn b hb⟩) (fun _ => zr0) o
  have t2' := s.others t2 fun b => by have e1_ := x.le b; have e2_ := t3 b; have e3_ := f2 b; walk_at "cn"
  have x2 := s.others x.of fun b => by have e1_ := x.le b; have e2_ := t3 b; have e3_ := f2 b; walk_at "cn"
  obtain ⟨c4, p1, p2⟩ := OwnL.put1 (i := i) t2' q1
  have hb : (σ.map gv).set i v0 = σ.map gv := set_back (by rw [List.getElem?_map, hv]; rfl)
  rw [hb, List.set_set] at p1
  refine ⟨_, r.stp h4 (c' := c4) (d' := d) (sf.less fun b hb => by have e5_ := q2 b; have e6_ := p2 b; walk_at "cn") ⟨p1, ⟨fun _ => 0, d, o, x2, fun b => by walk_at "cn"⟩, fun b => by have e1_ := x.le b; have e2_ := t3 b; have e3_ := f2 b; have e5_ := q2 b; have e6_ := p2 b; walk_at "cn"⟩
    (by rw [List.length_set]; exact r.len) (fun j hj => ?_) r.fix⟩
  rw [gt_set] at hj
  by_cases q : i = j ∧ i < env.length
  · exact ⟨v0, by rw [← q.1]; exact hv⟩
  · rw [if_neg q] at hj
    exact r.asg j hj
/-! ### a path in a text -/
def chkPath (c : Sc) (i : Nat) : List Ps → Expr → Bool
  | [], e => (match vNam e with | some x => slB c x i && visB c.sc x | none => false)
  | .f C k :: r, e => (match vAtt e with | some (x, f) => nSup x && decide ((c.fl C)[k]? = some f) && chkPath c i r x | none => false)
  | .i p :: r, e => (match vSub e with | some (x, y) => nSli y && chkPath c i r x && chkP c p y | none => false)
def PTh (g : Gi) (Γ : Gm) (X : Cx) (i : Nat) (st : List Ps) (e : Expr) : Prop := ∃ t : TE, PE X e t ∧ ∀ (B : Bs) (env : En) (Fr : List (V × M)) (σ : L2.St) (H G : Hp) (Q : List Pt → M → Prop) (R : VK),
  Rel g B env Fr σ H G → gt env i ≠ .hole → evS Γ env (gt env i) st Q → (∀ l v0 v m, Q l m → σ[i]? = some (some v0) → PathV g H v0 (gt env i) l v m → R v H) → t σ H R
/-- what stands at a path -/
theorem Rel.pathO {B : Bs} {env : En} {Fr : List (V × M)} {σ : L2.St} {H G : Hp} {i : Nat} {l : List Pt} {v0 v : V} {m : M} (r : Rel g B env Fr σ H G) (hh : gt env i ≠ .hole) (hv : σ[i]? = some (some v0)) (hp : PathV g H v0 (gt env i) l v m) : ∃ c, Own g G H v m c := by
  obtain ⟨v', c, hv', ho⟩ := r.var hh
  have e : v0 = v' := by rw [hv] at hv'; cases hv'; rfl
  obtain ⟨c1, _, f1, _⟩ := focus r.sGH (e ▸ ho) hp
  exact ⟨c1, f1⟩
theorem pth {i : Nat} (hg : Good g cc Γ X) : ∀ {st : List Ps} {e : Expr}, chkPath cc i st e = true → PTh g Γ X i st e
  | [], e, h => by
    have h : (match vNam e with | some x => slB cc x i && visB cc.sc x | none => false) = true := h
    split at h
    · rename_i x e1
      obtain ⟨h1, h2⟩ := ba2 h
      obtain ⟨p, rfl⟩ := vNam_i e1
      obtain ⟨s1, s2, s3⟩ := slot_of hg h1
      refine ⟨_, pe_var s1 (vis_of hg h2) s2 s3, fun B env Fr σ H G Q R rl hh hq k => ?_⟩
      obtain ⟨v, c, hv, ho⟩ := rl.var hh
      exact ⟨v, hv, k [] v v _ hq hv ⟨rfl, rfl⟩⟩
    · cases h
  | .f C k :: r, e, h => by
    have h : (match vAtt e with | some (x, f) => nSup x && decide ((cc.fl C)[k]? = some f) && chkPath cc i r x | none => false) = true := h
    split at h
    · rename_i x f e1
      obtain ⟨h, h3⟩ := ba2 h
      obtain ⟨h1, h2⟩ := ba2 h
      obtain ⟨p, rfl⟩ := vAtt_i e1
      obtain ⟨ta, t1, k1⟩ := pth hg h3
      have hf := of_decide_eq_true h2
      obtain ⟨q1, q2⟩ := hg.cls C k f hf
      refine ⟨_, pe_fld t1 (base_n h1), fun B env Fr σ H G Q R rl hh hq ke => ?_⟩
      refine k1 B env Fr σ H G _ _ rl hh hq fun l v0 v m hm hv hp => ?_
      obtain ⟨c, ho⟩ := rl.pathO hh hv hp
      cases ha : at1 m (.f C k) with
      | none => rw [ha] at hm; exact hm.elim
      | some y =>
        rw [ha] at hm
        rw [hg.eK]
        cases m with
        | obj o C' ms =>
          have ha' : (if C = C' then ms[k]? else none) = some y := ha
          by_cases eC : C = C'
          · subst eC
            rw [if_pos rfl] at ha'
            obtain ⟨a, dx, us, c', e, hH, hl, hol⟩ : ∃ a dx us c', v = .ref a ∧ H a = some (.ins (g.ca C) dx ((g.fl C).zip us)) ∧ us.length ≤ (g.fl C).length ∧ OwnL g G H us ms c' := by
              cases o with
              | true => obtain ⟨a, dx, us, c', rfl, _, hh, hn, hl, _⟩ := ho; exact ⟨a, dx, us, c', rfl, hh, hn, hl⟩
              | false => obtain ⟨a, dx, us, rfl, hg', hn, hl, _⟩ := ho; exact ⟨a, dx, us, c, rfl, rl.sGH _ _ hg', hn, hl⟩
            obtain ⟨w, c1, a1, a2, _⟩ := OwnL.get hol ha'
            refine ⟨a, _, dx, _, w, e, hH, q1, q2, zip_look (hg.fl ▸ hg.fnd C) (hg.fl ▸ hf) a1, ke _ v0 w y hm hv (hp.snoc ⟨a, e, dx, us, hH, hl, a1⟩ ha)⟩
          · rw [if_neg eC] at ha'; cases ha'
        | _ => cases ha
    · cases h
  | .i p :: r, e, h => by
    have h : (match vSub e with | some (x, y) => nSli y && chkPath cc i r x && chkP cc p y | none => false) = true := h
    split at h
    · rename_i x y e1
      obtain ⟨h, h3⟩ := ba2 h
      obtain ⟨h1, h2⟩ := ba2 h
      obtain ⟨pp, rfl⟩ := vSub_i e1
      obtain ⟨ta, t1, k1⟩ := pth hg h2
      obtain ⟨tb, t2, k2⟩ := (P_ok hg p y h3).1
      refine ⟨_, pe_ix (ix_all hg) t1 t2 (fun _ _ => subs_n h1), fun B env Fr σ H G Q R rl hh hq ke => ?_⟩
      refine k1 B env Fr σ H G _ _ rl hh hq fun l v0 v m hm hv hp => ?_
      obtain ⟨c, ho⟩ := rl.pathO hh hv hp
      refine k2 B env Fr σ H G _ _ rl hm fun n u d hn ho2 => ?_
      obtain ⟨j, eu, hj⟩ := s_int hn ho2
      subst eu
      cases m with
      | lst o ms =>
        have hj : (match ixL ms.length j with
          | some k => (match ms[k]? with | some y => Q (l ++ [.i k]) y | none => False)
          | none => False) := hj
        cases q1 : ixL ms.length j with
        | none => rw [q1] at hj; exact hj.elim
        | some k =>
          rw [q1] at hj
          cases q2 : ms[k]? with
          | none => simp only [q2] at hj
          | some y =>
            simp only [q2] at hj
            obtain ⟨a, us, c', rfl, s1, ol, _⟩ := Own.ls rl.sGH ho
            obtain ⟨w, c1, a1, a2, _⟩ := OwnL.get ol q2
            refine .inl (.inl (.inl ⟨a, us, j, w, rfl, rfl, .inl (.inl s1), ?_, ke _ v0 w y hj hv (hp.snoc ⟨a, rfl, us, .inl s1, a1⟩ q2)⟩))
            unfold atI
            rw [OwnL.len ol, ← ixL_eq, q1]
            exact a1
      | tup ms =>
        have hj : (match ixL ms.length j with
          | some k => (match ms[k]? with | some y => Q (l ++ [.i k]) y | none => False)
          | none => False) := hj
        cases q1 : ixL ms.length j with
        | none => rw [q1] at hj; exact hj.elim
        | some k =>
          rw [q1] at hj
          cases q2 : ms[k]? with
          | none => simp only [q2] at hj
          | some y =>
            simp only [q2] at hj
            obtain ⟨a, us, rfl, s1, ol⟩ := ho
            obtain ⟨w, c1, a1, a2, _⟩ := OwnL.get ol q2
            have sH := rl.sGH _ _ s1
            refine .inl (.inl (.inr (.inl ⟨a, us, j, w, rfl, rfl, .inl (.inl sH), ?_, ke _ v0 w y hj hv (hp.snoc ⟨a, rfl, us, .inr sH, a1⟩ q2)⟩)))
            unfold atI
            rw [OwnL.len ol, ← ixL_eq, q1]
            exact a1
      | _ => exact (show False from hj).elim
    · cases h
theorem ev_sh {i : Nat} {st : List Ps} {e : Expr} (hg : Good g cc Γ X) (h : chkPath cc i st e = true) : EV g Γ X W (.sh i st) e := by
  obtain ⟨t, h1, k1⟩ := pth hg h
  refine ⟨t, h1, fun B env Fr σ H G Q QX R rl hq ke kx => ?_⟩
  obtain ⟨z1, z2⟩ := yes_i (show yes (gt env i).ok _ from hq)
  refine k1 B env Fr σ H G _ R rl (ok_hole z1) z2 fun l v0 v m hm hv hp => ?_
  obtain ⟨z3, z4⟩ := yes_i (show yes m.ok _ from hm)
  obtain ⟨G', r2⟩ := rl.shareP (ok_hole z1) hv hp
  exact ke _ _ _ _ _ z4 r2
end
end Q
set_option Elab.async false
set_option linter.all false
set_option maxRecDepth 100000
set_option maxHeartbeats 4000000
namespace Q
open PySem PySem.Spec PyProof.Rows L2
local macro_rules | `(tactic| walk_at "cn") => `(tactic| ((try dsimp only at *); omega))
section
variable {g : Gi} {G H : Hp}
theorem OwnL.erase : ∀ {ms : List M} {vs : List V} {c : Cn} {k : Nat} {y : M}, OwnL g G H vs ms c → ms[k]? = some y → ∃ w c1 c2, vs[k]? = some w ∧ Own g G H w y c1 ∧ OwnL g G H (vs.eraseIdx k) (ms.eraseIdx k) c2 ∧ ∀ b, c b = c1 b + c2 b
  | [], _, _, _, _, _, e => by simp at e
  | _ :: _, [], _, _, _, h, _ => h.elim
  | m :: ms, v :: vs, c, 0, y, ⟨c1, c2, h1, h2, hc⟩, e => by
    have e' : m = y := by simpa using e
    subst e'
    exact ⟨v, c1, c2, rfl, h1, h2, hc⟩
  | m :: ms, v :: vs, c, k + 1, y, ⟨c1, c2, h1, h2, hc⟩, e => by
    obtain ⟨w, d1, d2, k1, k2, k3, k4⟩ := OwnL.erase (k := k) (y := y) h2 (by simpa using e)
    exact ⟨w, d1, fun b => c1 b + d2 b, by simpa using k1, k2, ⟨c1, d2, h1, k3, fun _ => rfl⟩, fun b => by have e1_ := hc b; have e2_ := k4 b; walk_at "cn"⟩
theorem last_split {α : Type} {xs : List α} {y : α} (h : xs[xs.length - 1]? = some y) : xs = xs.dropLast ++ [y] := by
  have hne : xs ≠ [] := fun q => by rw [q] at h; simp at h
  rw [← List.getLast?_eq_getElem?] at h
  rw [List.getLast?_eq_some_getLast hne] at h
  have h2 := List.dropLast_concat_getLast hne
  rw [Option.some.inj h] at h2
  exact h2.symm
end
section
variable {g : Gi} {cc : Sc} {Γ : Gm} {X : Cx} {W : WX}
/-- a list at a path is written -/
theorem Rel.mutL {B : Bs} {env : En} {Fr : List (V × M)} {σ : L2.St} {H G : Hp} {i : Nat} {l : List Pt} {v0 w : V} {xs xs' : List M} {mr : M} {vs us us' : List V} {ms : List M} {a : Addr} (r : Rel g B env (zipR vs ms Fr) σ H G) (hl : vs.length = ms.length)
    (hh : gt env i ≠ .hole) (hv : σ[i]? = some (some v0)) (hp : PathV g H v0 (gt env i) l (.ref a) (.lst true xs)) (hu : H a = some (.lst us))
    (new : ∀ c' e, OwnL g G H us xs c' → OwnL g G H vs ms e → ∃ e' d' : Cn, OwnL g G H us' xs' e' ∧ Own g G H w mr d' ∧ ∀ b, e' b + d' b ≤ c' b + e b) :
    Rel g B (env.set i (putP (gt env i) l (.lst true xs'))) ((w, mr) :: Fr) σ (upd H a (.lst us')) G := by
  refine r.modify hl hh hv hp fun c1 e ho he hle => ?_
  obtain ⟨a', us2, c', ea, hG, hH, ol, hc⟩ := ho
  cases ea
  rw [hu] at hH
  cases hH
  obtain ⟨e', d', n1, n2, n3⟩ := new c' e ol he
  have na : ∀ b, 1 ≤ e' b + d' b → b ≠ a := fun b hb q => by
    subst q
    have e1_ := hle b
    have e2_ := hc b
    have e3_ := one_self b
    have e4_ := n3 b
    walk_at "cn"
  have hup : ∀ b, b ≠ a → upd H a (.lst us') b = H b := fun b hb => upd_ne hb
  exact ⟨fun b => one a b + e' b, d', ⟨by have e2_ := hc a; have e3_ := one_self a; walk_at "cn", hG⟩, ⟨a, us', e', rfl, hG, upd_same, OwnL.hm _ n1 fun b hb => hup b (na b (by omega)), fun _ => rfl⟩,
    Own.hm _ n2 fun b hb => hup b (na b (by omega)), fun b => by have e2_ := hc b; have e4_ := n3 b; walk_at "cn"⟩
def rInsert : V → List V → Hp → VK → Prop := fun x vs H Q => ∃ (l : Addr) (xs : List V) (i : Int) (y : V), x = .ref l ∧ vs = [.int i, y] ∧ H l = some (.lst xs) ∧ xs.length < sizeLine ∧ 0 ≤ i ∧ i < 2 ^ 63 ∧ Q .non (upd H l (.lst (xs.take i.toNat ++ [y] ++ xs.drop i.toNat)))
/-- the reading of a list's method -/
def rM (o : OM) : V → List V → Hp → VK → Prop := match o with
  | .append => rAppend
  | .extend => rExtend
  | .pop => rPop
  | .popAt => rPopAt
  | .reverse => rReverse
  | .clear => rClear
  | .insert => rInsert
  | _ => fun _ _ _ _ => False
def nmM : OM → Option (String × Nat)
  | .append => some ("append", 1) | .extend => some ("extend", 1) | .pop => some ("pop", 0) | .popAt => some ("pop", 1) | .reverse => some ("reverse", 0) | .clear => some ("clear", 0) | .insert => some ("insert", 2) | _ => none
theorem muE_ok {o : OM} {B : Bs} {env : En} {Fr : List (V × M)} {σ : L2.St} {H G : Hp} {i : Nat} {l : List Pt} {v0 v : V} {m : M} {vs : List V} {ms : List M} {Q : M → M → Prop} {R : VK} (r : Rel g B env (zipR vs ms Fr) σ H G) (hl : vs.length = ms.length)
    (hh : gt env i ≠ .hole) (hv : σ[i]? = some (some v0)) (hp : PathV g H v0 (gt env i) l v m) (hq : muE o m ms Q) (k : ∀ r m' v' H' G', Q r m' → Rel g B (env.set i (putP (gt env i) l m')) ((v', r) :: Fr) σ H' G' → R v' H') : rM o v vs H R := by
  have popF : ∀ {vs : List V} {ms : List M} {Fr : List (V × M)}, vs.length = ms.length → Rel g B env (zipR vs ms Fr) σ H G → Rel g B env Fr σ H G := by
    intro vs ms
    induction ms generalizing vs with
    | nil => intro Fr hl r; cases vs with
      | nil => exact r
      | cons _ _ => simp at hl
    | cons m ms ih => intro Fr hl r; cases vs with
      | nil => simp at hl
      | cons v vs => exact (ih (Fr := (v, m) :: Fr) (by simpa using hl) r).pop
  obtain ⟨c, ho⟩ := (popF hl r).pathO hh hv hp
  cases m with
  | lst ow xs =>
    cases ow with
    | false => cases o <;> exact (show False from hq).elim
    | true =>
      obtain ⟨a, us, c', rfl, hG, hH, ol, hc⟩ := ho
      have len := OwnL.len ol
      cases o with
      | append =>
        cases ms with
        | nil => exact (show False from hq).elim
        | cons y r2 =>
          cases r2 with
          | cons _ _ => exact (show False from hq).elim
          | nil =>
            obtain ⟨h1, h2⟩ := (show xs.length < sl ∧ Q .non (.lst true (xs ++ [y])) from hq)
            cases vs with
            | nil => simp at hl
            | cons w ws =>
              cases ws with
              | cons _ _ => simp at hl
              | nil =>
                refine ⟨a, us, w, rfl, rfl, hH, by rw [len]; exact h1, k _ _ _ _ _ h2 (r.mutL hl hh hv hp hH fun c' e o1 o2 => ?_)⟩
                exact ⟨_, fun _ => 0, OwnL.app o1 o2, ⟨rfl, zr0⟩, fun b => by walk_at "cn"⟩
      | extend =>
        cases ms with
        | nil => exact (show False from hq).elim
        | cons y r2 =>
          cases r2 with
          | cons _ _ => cases y <;> exact (show False from hq).elim
          | nil =>
            cases y with
            | lst o2 ys =>
              obtain ⟨z, h1, h2⟩ := yes_i (show yes (fzL ys) (xs.length + ys.length ≤ sl ∧ Q .non (.lst true (xs ++ ys))) from hq)
              cases vs with
              | nil => simp at hl
              | cons w ws =>
                cases ws with
                | cons _ _ => simp at hl
                | nil =>
                  have r' : Rel g B env ((w, .lst o2 ys) :: Fr) σ H G := r
                  obtain ⟨cw, ow⟩ := r'.top
                  obtain ⟨b, zs, c2, rfl, s1, ol2, _⟩ := Own.ls r.sGH ow
                  refine ⟨a, b, us, zs, rfl, rfl, hH, s1, by rw [len, OwnL.len ol2]; exact h1, k _ _ _ _ _ h2 (r.mutL hl hh hv hp hH fun c' e o1 o2 => ?_)⟩
                  exact ⟨_, fun _ => 0, OwnL.app o1 (ol2.z z), ⟨rfl, zr0⟩, fun b => by walk_at "cn"⟩
            | _ => exact (show False from hq).elim
      | pop =>
        cases ms with
        | cons _ _ => exact (show False from hq).elim
        | nil =>
          cases vs with
          | cons _ _ => simp at hl
          | nil =>
            have hq : (match xs[xs.length - 1]? with | some y => Q y (.lst true xs.dropLast) | none => False) := hq
            cases q1 : xs[xs.length - 1]? with
            | none => rw [q1] at hq; exact hq.elim
            | some y =>
              rw [q1] at hq
              obtain ⟨w, c1, a1, a2, _⟩ := OwnL.get ol q1
              rw [← len] at a1
              refine ⟨a, us, w, rfl, rfl, hH, a1, k _ _ _ _ _ hq (r.mutL hl hh hv hp hH fun c' e o1 o2 => ?_)⟩
              have e1 := last_split q1
              have e2 := last_split a1
              rw [e1] at o1
              obtain ⟨v1, v2, d1, d2, ev, p1, p2, pc⟩ := OwnL.app_inv o1
              have l2 : v2.length = 1 := OwnL.len p2
              rw [e2] at ev
              have l1 := OwnL.len p1
              have es := List.append_inj ev (by have l3 := congrArg List.length ev; simp only [List.length_append, List.length_singleton] at l3; omega)
              rw [← es.1] at p1
              rw [← es.2] at p2
              obtain ⟨f1, f2, g1, g2, g3⟩ := p2
              exact ⟨d1, f1, p1, g1, fun b => by have e1_ := pc b; have e2_ := g3 b; walk_at "cn"⟩
      | popAt =>
        cases ms with
        | nil => exact (show False from hq).elim
        | cons y r2 =>
          cases r2 with
          | cons _ _ => cases y <;> exact (show False from hq).elim
          | nil =>
            cases y with
            | int j =>
              obtain ⟨h1, h2, h3⟩ := (show -9223372036854775808 ≤ j ∧ j < 9223372036854775808 ∧ (match ixL xs.length j with
                | some k => (match xs[k]? with | some y => Q y (.lst true (xs.eraseIdx k)) | none => False)
                | none => False) from hq)
              cases q1 : ixL xs.length j with
              | none => rw [q1] at h3; exact h3.elim
              | some kk =>
                rw [q1] at h3
                cases q2 : xs[kk]? with
                | none => simp only [q2] at h3
                | some y =>
                  simp only [q2] at h3
                  cases vs with
                  | nil => simp at hl
                  | cons w ws =>
                    cases ws with
                    | cons _ _ => simp at hl
                    | nil =>
                      have r' : Rel g B env ((w, .int j) :: Fr) σ H G := r
                      obtain ⟨cw, ow⟩ := r'.top
                      obtain ⟨rfl, _⟩ := ow
                      obtain ⟨z, c1, a1, a2, _⟩ := OwnL.get ol q2
                      have hs := (ixN_seq (n := xs.length) (i := j) (j := kk) (by rw [← ixL_eq]; exact q1)).1
                      refine ⟨a, us, j, kk, z, rfl, rfl, hH, by omega, by omega, by rw [len]; exact hs, a1, k _ _ _ _ _ h3 (r.mutL hl hh hv hp hH fun c' e o1 o2 => ?_)⟩
                      obtain ⟨z', d1, d2, b1, b2, b3, b4⟩ := OwnL.erase o1 q2
                      have ez : z = z' := by rw [a1] at b1; exact Option.some.inj b1
                      subst ez
                      exact ⟨d2, d1, b3, b2, fun b => by have e1_ := b4 b; walk_at "cn"⟩
            | _ => exact (show False from hq).elim
      | reverse =>
        cases ms with
        | cons _ _ => exact (show False from hq).elim
        | nil =>
          cases vs with
          | cons _ _ => simp at hl
          | nil =>
            have hq : Q .non (.lst true xs.reverse) := hq
            refine ⟨a, us, rfl, rfl, hH, k _ _ _ _ _ hq (r.mutL hl hh hv hp hH fun c' e o1 o2 => ?_)⟩
            obtain ⟨c2, p1, p2⟩ := OwnL.rev o1
            exact ⟨c2, fun _ => 0, p1, ⟨rfl, zr0⟩, fun b => by have e1_ := p2 b; walk_at "cn"⟩
      | clear =>
        cases ms with
        | cons _ _ => exact (show False from hq).elim
        | nil =>
          cases vs with
          | cons _ _ => simp at hl
          | nil =>
            have hq : Q .non (.lst true []) := hq
            exact ⟨a, us, rfl, rfl, hH, k _ _ _ _ _ hq (r.mutL hl hh hv hp hH fun c' e o1 o2 => ⟨fun _ => 0, fun _ => 0, zr0, ⟨rfl, zr0⟩, fun b => by walk_at "cn"⟩)⟩
      | insert =>
        match ms, hq with
        | [], hq => exact (show False from hq).elim
        | [y], hq => cases y <;> exact (show False from hq).elim
        | y :: z :: w :: r2, hq => cases y <;> exact (show False from hq).elim
        | [y, z], hq =>
          cases y with
          | int j =>
            obtain ⟨h1, h2, h3, h4⟩ := (show xs.length < sl ∧ 0 ≤ j ∧ j < 9223372036854775808 ∧ Q .non (.lst true (xs.take j.toNat ++ [z] ++ xs.drop j.toNat)) from hq)
            match vs, hl, r with
            | [vj, vz], hl, r =>
              have r' : Rel g B env ((vz, z) :: (vj, .int j) :: Fr) σ H G := r
              obtain ⟨cw, ow⟩ := r'.pop.top
              obtain ⟨rfl, _⟩ := ow
              refine ⟨a, us, j, vz, rfl, rfl, hH, by rw [len]; exact h1, h2, h3, k _ _ _ _ _ h4 (r.mutL hl hh hv hp hH fun c' e o1 o2 => ?_)⟩
              obtain ⟨e1, e2, o3, o4, e3⟩ := o2
              have e1z := o3.2
              have ot := o1
              rw [← List.take_append_drop j.toNat xs] at ot
              obtain ⟨u1, u2, f1, f2, eu, p1, p2, pc⟩ := OwnL.app_inv ot
              have l1 : u1.length = (us.take j.toNat).length := by rw [OwnL.len p1, List.length_take, List.length_take, len]
              have es := List.append_inj ((List.take_append_drop j.toNat us).trans eu) l1.symm
              rw [← es.1] at p1
              rw [← es.2] at p2
              refine ⟨_, fun _ => 0, OwnL.app (OwnL.app p1 o4) p2, ⟨rfl, zr0⟩, fun b => ?_⟩
              have y1 := pc b
              have y2 := e3 b
              walk_at "cn"
          | _ => exact (show False from hq).elim
      | _ => exact (show False from hq).elim
  | _ => cases o <;> exact (show False from hq).elim
end
end Q
set_option Elab.async false
set_option linter.all false
set_option maxRecDepth 100000
set_option maxHeartbeats 4000000
namespace Q
open PySem PySem.Spec PyProof.Rows L2
local macro_rules | `(tactic| walk_at "cn") => `(tactic| ((try dsimp only at *); omega))
section
variable {g : Gi} {cc : Sc} {Γ : Gm} {X : Cx} {W : WX}
/-! ### the methods of lists -/
theorem mt_all {o : OM} {n : String} {k : Nat} (h : nmM o = some (n, k)) : ∃ id, Slot "list" (Str.ofString n) id ∧ typeOf (.builtin id) = pure (.type "method_descriptor") ∧ MtR X id (rM o) := by
  cases o <;> first
    | (cases h; done)
    | (cases h
       first
        | exact ⟨_, F.slot_list_append, F.type_list_append, mt_append⟩
        | exact ⟨_, F.slot_list_extend, F.type_list_extend, mt_extend⟩
        | exact ⟨_, F.slot_list_pop, F.type_list_pop, mt_pop⟩
        | exact ⟨_, F.slot_list_pop, F.type_list_pop, mt_popAt⟩
        | exact ⟨_, F.slot_list_reverse, F.type_list_reverse, mt_reverse⟩
        | exact ⟨_, F.slot_list_clear, F.type_list_clear, mt_clear⟩
        | exact ⟨_, F.slot_list_insert, F.type_list_insert, mt_insert⟩)
theorem list_ty {G H : Hp} {v : V} {m : M} {c : Cn} (sG : Same G H) (h : m.isL = true) (ho : Own g G H v m c) : tyV g.K "list" v H := by
  cases m with
  | lst o ms =>
    obtain ⟨a, us, c', rfl, s1, _⟩ := seq_of sG ho
    exact .inl ⟨rfl, us, s1⟩
  | _ => cases h
/-- rows that leave the names as they are -/
def ESQ (g : Gi) (Γ : Gm) (X : Cx) (qs : List E) (es : List Expr) : Prop := ∃ t : TA, PA X es t ∧ ∀ (B : Bs) (env : En) (Fr : List (V × M)) (σ : L2.St) (H G : Hp) (Q : List M → En → Prop) (QX : Exc → En → Prop) (R : List V → Hp → Prop),
  Rel g B env Fr σ H G → semEs Γ qs env Q QX → (∀ ms vs H' G', Q ms env → vs.length = ms.length → Rel g B env (zipR vs ms Fr) σ H' G' → Same H H' → R vs H') → t σ H R
def EQ (g : Gi) (Γ : Gm) (X : Cx) (q : E) (e : Expr) : Prop := ∃ t : TE, PE X e t ∧ ∀ (B : Bs) (env : En) (Fr : List (V × M)) (σ : L2.St) (H G : Hp) (Q : QE) (QX : Exc → En → Prop) (R : VK),
  Rel g B env Fr σ H G → semE Γ q env Q QX → (∀ m v H' G', Q m env → Rel g B env ((v, m) :: Fr) σ H' G' → Same H H' → R v H') → t σ H R
mutual
def quiet : E → Bool
  | .pu _ => true
  | .tup qs => quiets qs
  | .lst qs => quiets qs
  | _ => false
def quiets : List E → Bool
  | [] => true
  | q :: qs => quiet q && quiets qs
end
theorem same_upd {H : Hp} {p : Addr} {o : HO} (h : H p = none) : Same H (upd H p o) := fun b x hb => by
  rw [upd_ne (fun q => by rw [q, h] at hb; cases hb)]; exact hb
theorem eq_pu {p : P} {e : Expr} (h : PV g Γ X p e) : EQ g Γ X (.pu p) e := by
  obtain ⟨t, h1, h2⟩ := h
  refine ⟨t, h1, fun B env Fr σ H G Q QX R rl hq k => ?_⟩
  refine h2 B env Fr σ H G _ R rl hq fun m v c hm ho => ?_
  obtain ⟨z1, z2⟩ := yes_i (show yes _ _ from hm)
  exact k m v H G z2 (rl.pushz ho z1) fun _ _ h => h
theorem esq_nil : ESQ g Γ X [] [] := ⟨_, pa_nil, fun B env Fr σ H G Q QX R rl hq k => k [] [] H G hq rfl rl fun _ _ h => h⟩
theorem esq_cons {q : E} {qs : List E} {e : Expr} {es : List Expr} (hs : nStar e = true) (h : EQ g Γ X q e) (t : ESQ g Γ X qs es) : ESQ g Γ X (q :: qs) (e :: es) := by
  obtain ⟨t1, h1, k1⟩ := h
  obtain ⟨t2, h2, k2⟩ := t
  refine ⟨_, pa_n hs h1 h2, fun B env Fr σ H G Q QX R rl hq k => ?_⟩
  refine k1 B env Fr σ H G _ QX _ rl hq fun m v H1 G1 hm r1 s1 => ?_
  refine k2 B env ((v, m) :: Fr) σ H1 G1 _ QX _ r1 hm fun ms vs H2 G2 hms hl r2 s2 => ?_
  exact k (m :: ms) (v :: vs) H2 G2 hms (by simpa using hl) r2 fun b x hb => s2 b x (s1 b x hb)
/-- a new tuple of what is held -/
theorem Rel.allocT {B : Bs} {env : En} {Fr : List (V × M)} {σ : L2.St} {H G : Hp} {vs : List V} {ms : List M} {p : Addr} (r : Rel g B env (zipR vs ms Fr) σ H G) (hl : vs.length = ms.length) (hp : H p = none) :
    Rel g B env ((.ref p, .tup ms) :: Fr) σ (upd H p (.tup vs)) (upd G p (.tup vs)) := by
  obtain ⟨c, d, e, k1, k2, k3, k4, k5⟩ := r.row hl
  have gp : G p = none := by
    cases q : G p with
    | none => rfl
    | some x => rw [r.sGH p x q] at hp; cases hp
  have lv : ∀ {ms : List M} {vs : List V} {f : Cn}, OwnL g G H vs ms f → ∀ b, 1 ≤ f b → b ≠ p := fun {ms vs f} o b hb q => by
    obtain ⟨⟨o', ho⟩, _⟩ := OwnL.live ms o b hb
    rw [q, hp] at ho
    cases ho
  have hu : ∀ b, b ≠ p → upd G p (.tup vs) b = G b := fun b hb => upd_ne hb
  have hv : ∀ b, b ≠ p → upd H p (.tup vs) b = H b := fun b hb => upd_ne hb
  have st : Stp G H (fun b => c b + d b + e b) (upd G p (.tup vs)) (upd H p (.tup vs)) (fun b => c b + d b + e b) := by
    refine ⟨fun b x hb => ?_, fun b x hb => ?_, fun b hb => .inl hb, fun b x hb _ => ?_, fun b hb => ?_⟩
    · rw [hu b (fun q => by rw [q, gp] at hb; cases hb)]; exact hb
    · by_cases q : b = p
      · subst q; rw [upd_same] at hb ⊢; exact hb
      · rw [hu b q] at hb; rw [hv b q]; exact r.sGH b x hb
    · rw [hv b (fun q => by rw [q, hp] at hb; cases hb)]; exact hb
    · by_cases q : b = p
      · subst q; exact .inr (.inr hp)
      · rw [hu b q] at hb; exact .inl hb
  have mv : ∀ {ms : List M} {vs' : List V} {f : Cn}, OwnL g G H vs' ms f → OwnL g (upd G p (.tup vs)) (upd H p (.tup vs)) vs' ms f := fun {ms vs' f} o =>
    (OwnL.hm ms o fun b hb => hv b (lv o b hb)).gm st.sG ms fun b hb => by
      rw [hu b (lv o b hb)]
      exact (OwnL.live ms o b hb).2
  exact r.stp0 (c := fun b => c b + d b) (d := e) (c' := c) (d' := fun b => e b + d b) (fun b hb => k5 b hb) (st.less fun b hb => by walk_at "cn")
    ⟨mv k1, ⟨e, d, ⟨p, vs, rfl, upd_same, mv k3⟩, mv k2, fun _ => rfl⟩, fun b => by have e1_ := k4 b; walk_at "cn"⟩
theorem eq_tup {qs : List E} {es : List Expr} {k : Nat} {pos : Pos} (h : ESQ g Γ X qs es) : EQ g Γ X (.tup qs) (.Tuple es k pos) := by
  obtain ⟨t, h1, h2⟩ := h
  refine ⟨_, pe_tup h1, fun B env Fr σ H G Q QX R rl hq k => ?_⟩
  refine h2 B env Fr σ H G _ QX _ rl hq fun ms vs H' G' hm hl r s => ?_
  obtain ⟨z1, z2⟩ := yes_i (show yes _ _ from hm)
  refine ⟨by rw [hl]; exact of_decide_eq_true z1, fun p hp => ?_⟩
  exact k _ _ _ _ z2 (r.allocT hl hp) fun b x hb => same_upd hp b x (s b x hb)
theorem eq_lst {qs : List E} {es : List Expr} {pos : Pos} (h : ESQ g Γ X qs es) : EQ g Γ X (.lst qs) (.List es pos) := by
  obtain ⟨t, h1, h2⟩ := h
  refine ⟨_, pe_lst h1, fun B env Fr σ H G Q QX R rl hq k => ?_⟩
  refine h2 B env Fr σ H G _ QX _ rl hq fun ms vs H' G' hm hl r s => ?_
  obtain ⟨z1, z2⟩ := yes_i (show yes _ _ from hm)
  refine ⟨by rw [hl]; exact of_decide_eq_true z1, fun p hp => ?_⟩
  refine k _ _ _ G' z2 (r.alloc hl hp ?_) fun b x hb => same_upd hp b x (s b x hb)
  intro H2 e ga ha ho
  exact ⟨p, vs, e, rfl, ga, ha, ho, fun b => rfl⟩
theorem ev_eq {q : E} {e : Expr} (h : EQ g Γ X q e) : EV g Γ X W q e := by
  obtain ⟨t, h1, h2⟩ := h
  exact ⟨t, h1, fun B env Fr σ H G Q QX R rl hq k kx => h2 B env Fr σ H G Q QX R rl hq fun m v H' G' hm r _ => k m v env H' G' hm r⟩
/-- o[i], o a path, i what leaves the names as they are -/
theorem ev_ixt {i : Nat} {st : List Ps} {q : E} {o y : Expr} {pos : Pos} (hg : Good g cc Γ X) (hp : PTh g Γ X i st o) (hy : EQ g Γ X q y) (hs : nSli y = true) : EV g Γ X W (.ixt i st q) (.Subscript o y pos) := by
  obtain ⟨to, p1, p2⟩ := hp
  obtain ⟨tq, q1, q2⟩ := hy
  refine ⟨_, pe_ix (ix_all hg) p1 q1 (fun _ _ => subs_n hs), fun B env Fr σ H G Q QX R rl hq ke kx => ?_⟩
  obtain ⟨z1, z2⟩ := yes_i (show yes (gt env i).ok (evS Γ env (gt env i) st fun l c => semE Γ q env (fun n env1 => ixP Γ.tab c n fun r => yes r.fz (Q r env1)) QX) from hq)
  refine p2 B env Fr σ H G _ _ rl (ok_hole z1) z2 fun l v0 v c hc hv pv => ?_
  refine q2 B env Fr σ H G _ QX _ rl hc fun n u H1 G1 hn r1 s1 => ?_
  obtain ⟨c1, ow⟩ := r1.pathO (ok_hole z1) hv (pv.same s1)
  obtain ⟨d1, od⟩ := r1.top
  exact s2_idx hg.tab r1.sGH hn ow od (fin_k r1.pop fun r v' H' q r2 => ke r v' env H' G1 q r2)
/-- a part of what a name holds is taken out -/
theorem Rel.takeP {B : Bs} {env : En} {Fr : List (V × M)} {σ : L2.St} {H G : Hp} {i : Nat} {l : List Pt} {v0 v : V} {m : M} (r : Rel g B env Fr σ H G) (hh : gt env i ≠ .hole) (hv : σ[i]? = some (some v0)) (hp : PathV g H v0 (gt env i) l v m) :
    Rel g B (env.set i (putP (gt env i) l .hole)) ((v, m) :: Fr) σ H G := by
  obtain ⟨c, d, x, h4⟩ := r.rc
  obtain ⟨v', cr, c2, hv', t1, t2, t3⟩ := OwnL.take1 x.oe (gt_get hh)
  rw [List.getElem?_map, hv] at hv'
  have ev : v0 = v' := by simpa using hv'
  subst ev
  obtain ⟨c1, ch, f1, f2, back⟩ := focus r.sGH t1 hp
  obtain ⟨c3, q1, q2⟩ := back G H .hole (fun _ => 0) (fun _ _ h => h) r.sGH (fun b hb => ⟨rfl, (Own.live _ t1 b (by have e3_ := f2 b; walk_at "cn")).2⟩) (fun _ => zr0) zr0
  obtain ⟨c4, p1, p2⟩ := OwnL.put1 (i := i) t2 q1
  have hb : (σ.map gv).set i v0 = σ.map gv := set_back (by rw [List.getElem?_map, hv]; rfl)
  rw [hb, List.set_set] at p1
  have sf : Stp G H (fun b => c b + d b) G H (fun b => c b + d b) := ⟨fun _ _ h => h, r.sGH, fun _ h => .inl h, fun _ _ h _ => h, fun _ h => .inl h⟩
  refine r.stp h4 (c' := c4) (d' := fun b => c1 b + d b) (sf.less fun b hb => by have e2_ := t3 b; have e3_ := f2 b; have e5_ := q2 b; have e6_ := p2 b; walk_at "cn") ⟨p1, ⟨c1, d, f1, x.of, fun b => rfl⟩, fun b => by have e1_ := x.le b; have e2_ := t3 b; have e3_ := f2 b; have e5_ := q2 b; have e6_ := p2 b; walk_at "cn"⟩
    (by rw [List.length_set]; exact r.len) (fun j hj => ?_) r.fix
  rw [gt_set] at hj
  by_cases q : i = j ∧ i < env.length
  · exact ⟨v0, by rw [← q.1]; exact hv⟩
  · rw [if_neg q] at hj
    exact r.asg j hj
theorem ev_mvp {i : Nat} {st : List Ps} {e : Expr} (hg : Good g cc Γ X) (h : chkPath cc i st e = true) : EV g Γ X W (.mvp i st) e := by
  obtain ⟨t, h1, k1⟩ := pth hg h
  refine ⟨t, h1, fun B env Fr σ H G Q QX R rl hq ke kx => ?_⟩
  obtain ⟨z1, z2⟩ := yes_i (show yes (gt env i).ok _ from hq)
  refine k1 B env Fr σ H G _ R rl (ok_hole z1) z2 fun l v0 v m hm hv hp => ?_
  obtain ⟨z3, z4⟩ := yes_i (show yes m.ok _ from hm)
  exact ke _ _ _ _ _ z4 (rl.takeP (ok_hole z1) hv hp)
/-- x.m(..) of a list at a name -/
theorem ev_mut0 {o : OM} {i : Nat} {recv : Expr} {n : String} {k : Nat} {qs : List E} {es : List Expr} {ap pos : Pos} (hg : Good g cc Γ X) (hp : PTh g Γ X i [] recv) (hn : nmM o = some (n, k)) (hsup : nSup recv = true)
    (ha : ESV g Γ X W qs es) (h0 : es = [] → qs = []) (ns : es.all nStar = true) (hl : (ap.endLine == pos.line) = true) (hln : es.length < 30) : EV g Γ X W (.mut o i [] qs) (.Call (.Attribute recv (Str.ofString n) ap) es [] pos) := by
  obtain ⟨id, slot, ty, rule⟩ := mt_all (X := X) hn
  obtain ⟨to, p1, p2⟩ := hp
  cases es with
  | nil =>
    have e0 := h0 rfl
    subst e0
    refine ⟨_, pe_bm0 F.plainAttrs_list slot ty rule p1 (base_n hsup) hl, fun B env Fr σ H G Q QX R rl hq ke kx => ?_⟩
    obtain ⟨z1, z2⟩ := yes_i (show yes (gt env i).isL (yes (gt env i).ok (muE o (gt env i) [] fun r c' => Q r (env.set i c'))) from hq)
    obtain ⟨z3, z4⟩ := yes_i z2
    refine p2 B env Fr σ H G (fun l m => l = [] ∧ m = gt env i) _ rl (ok_hole z3) ⟨rfl, rfl⟩ fun l v0 v m hm hv pv => ?_
    obtain ⟨rfl, rfl⟩ := hm
    obtain ⟨c, ho⟩ := rl.pathO (ok_hole z3) hv pv
    rw [hg.eK]
    exact ⟨list_ty rl.sGH z1 ho, muE_ok (vs := []) (ms := []) rl rfl (ok_hole z3) hv pv z4 fun r m' v' H' G' hq r2 => ke r v' _ H' G' hq r2⟩
  | cons e es =>
    obtain ⟨t, h1, h2⟩ := ha
    have hfew := form_ok (env := X.env) (pos := pos) ns hln
    have ns' := ns
    rw [List.all_cons, Bool.and_eq_true] at ns'
    refine ⟨_, pe_bm F.plainAttrs_list slot ty rule p1 h1 (base_n hsup) hfew hl (starEach_n ns'.1) (no_star ns'.2), fun B env Fr σ H G Q QX R rl hq ke kx => ?_⟩
    obtain ⟨z1, z2⟩ := yes_i (show yes (gt env i).isL (semEs Γ qs env (fun ms env1 => yes (gt env1 i).ok (muE o (gt env1 i) ms fun r c' => Q r (env1.set i c'))) QX) from hq)
    have hh : gt env i ≠ .hole := fun q => by rw [q] at z1; cases z1
    refine p2 B env Fr σ H G (fun l m => l = [] ∧ m = gt env i) _ rl hh ⟨rfl, rfl⟩ fun l v0 v m hm hv pv => ?_
    obtain ⟨rfl, rfl⟩ := hm
    obtain ⟨c, ho⟩ := rl.pathO hh hv pv
    obtain ⟨ev, _⟩ := pv
    subst ev
    rw [hg.eK]
    refine ⟨list_ty rl.sGH z1 ho, h2 B env Fr σ H G _ QX _ rl z2 (fun ms vs env1 H1 G1 hm hl _ r1 => ?_) kx⟩
    obtain ⟨z3, z4⟩ := yes_i hm
    exact muE_ok (l := []) (m := gt env1 i) r1 hl (ok_hole z3) hv ⟨rfl, rfl⟩ z4 fun r m' v' H' G' hq r2 => ke r v' _ H' G' hq r2
/-- .. at a path -/
theorem ev_mutP {o : OM} {i : Nat} {s : Ps} {st : List Ps} {recv : Expr} {n : String} {k : Nat} {qs : List E} {es : List Expr} {ap pos : Pos} (hg : Good g cc Γ X) (hp : PTh g Γ X i (s :: st) recv) (hn : nmM o = some (n, k)) (hsup : nSup recv = true)
    (ha : ESQ g Γ X qs es) (h0 : es = [] → qs = []) (ns : es.all nStar = true) (hl : (ap.endLine == pos.line) = true) (hln : es.length < 30) : EV g Γ X W (.mut o i (s :: st) qs) (.Call (.Attribute recv (Str.ofString n) ap) es [] pos) := by
  obtain ⟨id, slot, ty, rule⟩ := mt_all (X := X) hn
  obtain ⟨to, p1, p2⟩ := hp
  cases es with
  | nil =>
    have e0 := h0 rfl
    subst e0
    refine ⟨_, pe_bm0 F.plainAttrs_list slot ty rule p1 (base_n hsup) hl, fun B env Fr σ H G Q QX R rl hq ke kx => ?_⟩
    obtain ⟨z1, z2⟩ := yes_i (show yes (gt env i).ok (evS Γ env (gt env i) (s :: st) fun l c => yes c.isL (muE o c [] fun r c' => Q r (env.set i (putP (gt env i) l c')))) from hq)
    refine p2 B env Fr σ H G _ _ rl (ok_hole z1) z2 fun l v0 v m hm hv pv => ?_
    obtain ⟨z3, z4⟩ := yes_i hm
    obtain ⟨c, ho⟩ := rl.pathO (ok_hole z1) hv pv
    rw [hg.eK]
    exact ⟨list_ty rl.sGH z3 ho, muE_ok (vs := []) (ms := []) rl rfl (ok_hole z1) hv pv z4 fun r m' v' H' G' hq r2 => ke r v' _ H' G' hq r2⟩
  | cons e es =>
    obtain ⟨t, h1, h2⟩ := ha
    have hfew := form_ok (env := X.env) (pos := pos) ns hln
    have ns' := ns
    rw [List.all_cons, Bool.and_eq_true] at ns'
    refine ⟨_, pe_bm F.plainAttrs_list slot ty rule p1 h1 (base_n hsup) hfew hl (starEach_n ns'.1) (no_star ns'.2), fun B env Fr σ H G Q QX R rl hq ke kx => ?_⟩
    obtain ⟨z1, z2⟩ := yes_i (show yes (gt env i).ok (evS Γ env (gt env i) (s :: st) fun l c => yes c.isL (semEs Γ qs env (fun ms env1 => muE o c ms fun r c' => Q r (env1.set i (putP (gt env1 i) l c'))) QX)) from hq)
    refine p2 B env Fr σ H G _ _ rl (ok_hole z1) z2 fun l v0 v m hm hv pv => ?_
    obtain ⟨z3, z4⟩ := yes_i hm
    obtain ⟨c, ho⟩ := rl.pathO (ok_hole z1) hv pv
    rw [hg.eK]
    refine ⟨list_ty rl.sGH z3 ho, h2 B env Fr σ H G _ QX _ rl z4 fun ms vs H1 G1 hm hl r1 s1 => ?_⟩
    exact muE_ok r1 hl (ok_hole z1) hv (pv.same s1) hm fun r m' v' H' G' hq r2 => ke r v' _ H' G' hq r2
end
end Q
set_option Elab.async false
set_option linter.all false
set_option maxRecDepth 100000
set_option maxHeartbeats 4000000
namespace Q
open PySem PySem.Spec PyProof.Rows L2
local macro_rules | `(tactic| walk_at "cn") => `(tactic| ((try dsimp only at *); omega))
/-! ### what a loop walks -/
structure Walk (g : Gi) (G1 : Hp) (J : It) (ms : List M) : Prop where
  step : ∀ k m G H, ms[k]? = some m → Same G1 G → Same G H → J.go k H ∧ ∀ x H', J.yld k H x H' → H' = H ∧ Own g G H x m (fun _ => 0)
  stop : ∀ k G H, ms.length ≤ k → Same G1 G → Same G H → J.stop k H
section
variable {g : Gi} {cc : Sc} {Γ : Gm} {X : Cx} {W : WX}
theorem own_up {G1 H1 G H : Hp} {v : V} {m : M} (sG : Same G1 G) (h : Own g G1 H1 v m (fun _ => 0)) : Own g G H v m (fun _ => 0) :=
  (h.hm (H' := H) m fun b hb => absurd hb (Nat.not_succ_le_zero 0)).gm sG m fun b hb => absurd hb (Nat.not_succ_le_zero 0)
theorem ownl_at {G H : Hp} {vs : List V} {ms : List M} {k : Nat} {m : M} (h : OwnL g G H vs ms (fun _ => 0)) (e : ms[k]? = some m) : ∃ v, vs[k]? = some v ∧ Own g G H v m (fun _ => 0) := by
  obtain ⟨v, c1, h1, h2, h3⟩ := OwnL.get h e
  have e0 : c1 = fun _ => 0 := funext fun b => by have e1_ := h3 b; walk_at "cn"
  exact ⟨v, h1, e0 ▸ h2⟩
theorem walk_L {G1 H1 : Hp} {a : Addr} {us : List V} {ms : List M} (hs : SqL g.K G1 a us) (ho : OwnL g G1 H1 us ms (fun _ => 0)) : Walk g G1 (Itl g.K a) ms := by
  refine ⟨fun k m G H hk s1 s2 => ?_, fun k G H hk s1 s2 => ?_⟩
  · obtain ⟨v, e1, o1⟩ := ownl_at ho hk
    have hH : SqL g.K H a us := Same.seq s2 (Same.seq s1 hs)
    refine ⟨⟨us, v, hH, e1⟩, fun x H' hy => ?_⟩
    obtain ⟨eH, hx⟩ := hy
    have := hx us hH
    rw [e1] at this
    cases this
    exact ⟨eH, own_up s1 o1⟩
  · exact ⟨us, Same.seq s2 (Same.seq s1 hs), by rw [OwnL.len ho]; exact hk⟩
theorem walk_T {G1 H1 : Hp} {a : Addr} {us : List V} {ms : List M} (hs : ∀ H, Same G1 H → SqT g.K H a us) (ho : OwnL g G1 H1 us ms (fun _ => 0)) : Walk g G1 (Itt g.K a) ms := by
  refine ⟨fun k m G H hk s1 s2 => ?_, fun k G H hk s1 s2 => ?_⟩
  · obtain ⟨v, e1, o1⟩ := ownl_at ho hk
    have hH : SqT g.K H a us := hs H fun b x h => s2 b x (s1 b x h)
    refine ⟨⟨us, v, hH, e1⟩, fun x H' hy => ?_⟩
    obtain ⟨eH, hx⟩ := hy
    have := hx us hH
    rw [e1] at this
    cases this
    exact ⟨eH, own_up s1 o1⟩
  · exact ⟨us, hs H fun b x h => s2 b x (s1 b x h), by rw [OwnL.len ho]; exact hk⟩
theorem walk_S {G1 : Hp} (cs : List Nat) : Walk g G1 (Its (sS cs)) (cs.map fun c => .str [c]) := by
  refine ⟨fun k m G H hk s1 s2 => ?_, fun k G H hk s1 s2 => ?_⟩
  · rw [List.getElem?_map] at hk
    cases e : cs[k]? with
    | none => rw [e] at hk; cases hk
    | some c =>
      rw [e] at hk
      cases hk
      have hl : k < cs.length := (List.getElem?_eq_some_iff.mp e).1
      refine ⟨by show k < cs.toArray.size; simpa using hl, fun x H' hy => ?_⟩
      obtain ⟨eH, c', e1, e2⟩ := hy
      have e3 : cs.toArray[k]? = some c' := e1
      rw [← Array.getElem?_toList] at e3
      have e4 : cs[k]? = some c' := e3
      rw [e] at e4
      cases e4
      subst e2
      exact ⟨eH, rfl, zr0⟩
  · rw [List.length_map] at hk
    show cs.toArray.size ≤ k
    simpa using hk
theorem rngL_len : ∀ (n : Nat) (lo st : Int), (rngL lo st n).length = n
  | 0, _, _ => rfl
  | n + 1, lo, st => congrArg Nat.succ (rngL_len n (lo + st) st)
theorem rngL_get : ∀ (n : Nat) (lo st : Int) (k : Nat), k < n → (rngL lo st n)[k]? = some (.int (lo + k * st))
  | n + 1, lo, st, 0, _ => by
    show some (M.int lo) = _
    simp
  | n + 1, lo, st, k + 1, h => by
    show (rngL (lo + st) st n)[k]? = _
    rw [rngL_get n (lo + st) st k (by omega)]
    congr 2
    rw [Int.natCast_succ, Int.add_mul]
    omega
theorem walk_R {G1 : Hp} (lo : Int) (n : Nat) : Walk g G1 (Itr lo n) (rngL lo 1 n) := by
  refine ⟨fun k m G H hk s1 s2 => ?_, fun k G H hk s1 s2 => ?_⟩
  · have hl : k < n := by
      have := (List.getElem?_eq_some_iff.mp hk).1
      rwa [rngL_len] at this
    rw [rngL_get n lo 1 k hl] at hk
    cases hk
    refine ⟨hl, fun x H' hy => ?_⟩
    obtain ⟨eH, e2⟩ := hy
    subst e2
    exact ⟨eH, by rw [Int.mul_one], zr0⟩
  · rw [rngL_len] at hk
    exact hk
theorem walk_C {G1 : Hp} (lo c : Int) (n : Nat) : Walk g G1 (Itc lo c n) (rngL lo c n) := by
  refine ⟨fun k m G H hk s1 s2 => ?_, fun k G H hk s1 s2 => ?_⟩
  · have hl : k < n := by
      have := (List.getElem?_eq_some_iff.mp hk).1
      rwa [rngL_len] at this
    rw [rngL_get n lo c k hl] at hk
    cases hk
    refine ⟨hl, fun x H' hy => ?_⟩
    obtain ⟨eH, e2⟩ := hy
    subst e2
    exact ⟨eH, rfl, zr0⟩
  · rw [rngL_len] at hk
    exact hk
/-- what it says of a text -/
def IV (g : Gi) (Γ : Gm) (X : Cx) (W : WX) (it : I) (tg e : Expr) : Prop := ∃ wi : TI, PI X tg e wi ∧ ∀ (B : Bs) (env : En) (Fr : List (V × M)) (σ : L2.St) (H G : Hp) (Q : List M → En → Prop) (QX : Exc → En → Prop) (R : It → Hp → Prop),
  Rel g B env Fr σ H G → semI Γ it env Q QX → (∀ ms J env' H' G', Q ms env' → Rel g B env' Fr σ H' G' → Walk g G' J ms → R J H') → KX g B Fr σ QX W → wi σ H R
theorem PI_or {tg e : Expr} {w1 w2 : TI} (h1 : PI X tg e w1) (h2 : PI X tg e w2) : PI X tg e fun σ H R => w1 σ H R ∨ w2 σ H R :=
  ⟨fun pins s σ H R I h => h.elim (h1.run pins s σ H R I) (h2.run pins s σ H R I)⟩
mutual
theorem frz_id : ∀ {m : M}, m.fz = true → m.frz = m
  | .non, _ => rfl
  | .bl _, _ => rfl
  | .int _, _ => rfl
  | .str _, _ => rfl
  | .lst true _, h => by cases h
  | .lst false ms, h => by
    show M.lst false (frzL ms) = _
    rw [frzL_id h]
  | .tup ms, h => by
    show M.tup (frzL ms) = _
    rw [frzL_id h]
  | .ktup ms, h => by
    show M.ktup (frzL ms) = _
    rw [frzL_id h]
  | .dK true _ _, h => by cases h
  | .dK false ks ms, h => by
    show M.dK false ks (frzL ms) = _
    rw [frzL_id h]
  | .dT true _ _, h => by cases h
  | .dT false ks ms, h => by
    show M.dT false ks (frzL ms) = _
    rw [frzL_id h]
  | .obj true _ _, h => by cases h
  | .obj false C ms, h => by
    show M.obj false C (frzL ms) = _
    rw [frzL_id h]
  | .fn _, _ => rfl
  | .cl _, _ => rfl
  | .ty _, _ => rfl
  | .gd _, _ => rfl
  | .scr _, _ => rfl
  | .exc _ _ _ _, h => by cases h
  | .hole, h => by cases h
theorem frzL_id : ∀ {ms : List M}, fzL ms = true → frzL ms = ms
  | [], _ => rfl
  | m :: ms, h => by
    have h' : (m.fz && fzL ms) = true := h
    rw [Bool.and_eq_true] at h'
    show m.frz :: frzL ms = _
    rw [frz_id h'.1, frzL_id h'.2]
end
/-- what is held and frozen is walked -/
theorem walk_of {B : Bs} {env : En} {Fr : List (V × M)} {σ : L2.St} {H G : Hp} {v : V} {m : M} {k : Nat} {ms : List M} (r : Rel g B env ((v, m) :: Fr) σ H G) (h : itemsK k m = some ms) : ∃ G', Rel g B env Fr σ H G' ∧
    ((k = 0 ∧ ∃ a us, v = .ref a ∧ SqL g.K H a us ∧ Walk g G' (Itl g.K a) ms) ∨ (k = 1 ∧ ∃ a us, v = .ref a ∧ SqT g.K H a us ∧ Walk g G' (Itt g.K a) ms) ∨ (k = 2 ∧ ∃ x, v = .str x ∧ Walk g G' (Its x) ms)) := by
  obtain ⟨G', sg, r2⟩ := r.frz
  refine ⟨G', r2.pop, ?_⟩
  obtain ⟨c, ho⟩ := r2.top
  match k, m, h, ho with
  | 0, .lst o xs, h, ho =>
    have h : (if fzL xs then some xs else none) = some ms := h
    by_cases f : fzL xs = true
    · rw [if_pos f] at h
      have e0 := Option.some.inj h
      subst e0
      have ho : Own g G' H v (.lst false (frzL xs)) c := ho
      rw [frzL_id f] at ho
      obtain ⟨a, us, rfl, hG, ol, _⟩ := ho
      exact .inl ⟨rfl, a, us, rfl, .inl (.inl (r2.sGH _ _ hG)), walk_L (.inl (.inl hG)) (ol.z f)⟩
    · rw [if_neg f] at h; cases h
  | 1, .tup xs, h, ho =>
    have h : (if fzL xs then some xs else none) = some ms := h
    by_cases f : fzL xs = true
    · rw [if_pos f] at h
      have e0 := Option.some.inj h
      subst e0
      have ho : Own g G' H v (.tup (frzL xs)) c := ho
      rw [frzL_id f] at ho
      obtain ⟨a, us, rfl, hG, ol⟩ := ho
      exact .inr (.inl ⟨rfl, a, us, rfl, .inl (.inl (r2.sGH _ _ hG)), walk_T (fun H' s => .inl (.inl (s _ _ hG))) (ol.z f)⟩)
    · rw [if_neg f] at h; cases h
  | 1, .ktup xs, h, ho =>
    have h : (if fzL xs then some xs else none) = some ms := h
    by_cases f : fzL xs = true
    · rw [if_pos f] at h
      have e0 := Option.some.inj h
      subst e0
      have ho : Own g G' H v (.ktup (frzL xs)) c := ho
      rw [frzL_id f] at ho
      obtain ⟨a, us, rfl, hG, ol, _⟩ := ho
      exact .inr (.inl ⟨rfl, a, us, rfl, hG H, walk_T (fun H' s => hG H') (ol.z f)⟩)
    · rw [if_neg f] at h; cases h
  | 2, .str cs, h, ho =>
    have h : some (cs.map fun c => M.str [c]) = some ms := h
    cases h
    obtain ⟨rfl, _⟩ := ho
    exact .inr (.inr ⟨rfl, sS cs, rfl, walk_S cs⟩)
theorem iv_val {k : Nat} {q : E} {tg e : Expr} (hg : Good g cc Γ X) (hk : k = 0 ∨ k = 1 ∨ k = 2) (h : EV g Γ X W q e) : IV g Γ X W (.val k q) tg e := by
  obtain ⟨te, h1, k1⟩ := h
  have fin : ∀ {B : Bs} {env : En} {Fr : List (V × M)} {σ : L2.St} {H G : Hp} {Q : List M → En → Prop} {QX : Exc → En → Prop} {R : VK}, Rel g B env Fr σ H G → semI Γ (.val k q) env Q QX → KX g B Fr σ QX W →
      (∀ m v env1 H1 G1 ms, itemsK k m = some ms → Q ms env1 → Rel g B env1 ((v, m) :: Fr) σ H1 G1 → R v H1) → te σ H R := by
    intro B env Fr σ H G Q QX R rl hq kx kk
    refine k1 B env Fr σ H G (fun m env1 => match itemsK k m with | some ms => Q ms env1 | none => False) QX _ rl hq (fun m v env1 H1 G1 hm r1 => ?_) kx
    have hm : (match itemsK k m with | some ms => Q ms env1 | none => False) := hm
    cases q1 : itemsK k m with
    | none => rw [q1] at hm; exact hm.elim
    | some ms => rw [q1] at hm; exact kk m v env1 H1 G1 ms q1 hm r1
  rcases hk with rfl | rfl | rfl
  · refine ⟨_, pi_list h1, fun B env Fr σ H G Q QX R rl hq ke kx => fin rl hq kx fun m v env1 H1 G1 ms hm hq r1 => ?_⟩
    obtain ⟨G', r2, h3⟩ := walk_of r1 hm
    rw [hg.eK]
    rcases h3 with ⟨_, a, us, rfl, s1, w⟩ | ⟨z, _⟩ | ⟨z, _⟩
    · exact ⟨a, rfl, ⟨us, s1⟩, ke ms _ env1 H1 G' hq r2 w⟩
    · cases z
    · cases z
  · refine ⟨_, pi_tup h1, fun B env Fr σ H G Q QX R rl hq ke kx => fin rl hq kx fun m v env1 H1 G1 ms hm hq r1 => ?_⟩
    obtain ⟨G', r2, h3⟩ := walk_of r1 hm
    rw [hg.eK]
    rcases h3 with ⟨z, _⟩ | ⟨_, a, us, rfl, s1, w⟩ | ⟨z, _⟩
    · cases z
    · exact ⟨a, rfl, ⟨us, s1⟩, ke ms _ env1 H1 G' hq r2 w⟩
    · cases z
  · refine ⟨_, pi_str h1, fun B env Fr σ H G Q QX R rl hq ke kx => fin rl hq kx fun m v env1 H1 G1 ms hm hq r1 => ?_⟩
    obtain ⟨G', r2, h3⟩ := walk_of r1 hm
    rcases h3 with ⟨z, _⟩ | ⟨z, _⟩ | ⟨_, x, rfl, w⟩
    · cases z
    · cases z
    · exact ⟨x, rfl, ke ms _ env1 H1 G' hq r2 w⟩
theorem items_k {m : M} {ms : List M} (h : itemsOf m = some ms) : itemsK 0 m = some ms ∨ itemsK 1 m = some ms ∨ itemsK 2 m = some ms := by
  cases m with
  | lst o xs => cases o <;> exact .inl h
  | tup xs => exact .inr (.inl h)
  | ktup xs => exact .inr (.inl h)
  | str cs => exact .inr (.inr h)
  | _ => cases h
/-- a name's value, which is frozen -/
theorem iv_vw {i : Nat} {x : Str} {pos : Pos} {tg : Expr} (hg : Good g cc Γ X) (h : (slB cc x i && visB cc.sc x) = true) : IV g Γ X W (.vw i) tg (.Name x pos) := by
  obtain ⟨h1, h2⟩ := ba2 h
  obtain ⟨s1, s2, s3⟩ := slot_of hg h1
  have pv := pe_var (X := X) (pos := pos) s1 (vis_of hg h2) s2 s3
  refine ⟨_, PI_or (pi_list pv) (PI_or (pi_tup pv) (pi_str pv)), fun B env Fr σ H G Q QX R rl hq ke kx => ?_⟩
  obtain ⟨z1, z2⟩ := yes_i (show yes (gt env i).ok (match itemsOf (gt env i).frz with | some ms => Q ms (env.set i (gt env i).frz) | none => False) from hq)
  obtain ⟨v, G', hv, r2⟩ := rl.share (ok_hole z1)
  cases q : itemsOf (gt env i).frz with
  | none => rw [q] at z2; exact z2.elim
  | some ms =>
    rw [q] at z2
    rw [hg.eK]
    rcases items_k q with q | q | q
    · obtain ⟨G2, r3, h3⟩ := walk_of r2 q
      rcases h3 with ⟨_, a, us, rfl, s1, w⟩ | ⟨z, _⟩ | ⟨z, _⟩
      · exact .inl ⟨_, hv, a, rfl, ⟨us, s1⟩, ke ms _ _ H G2 z2 r3 w⟩
      · cases z
      · cases z
    · obtain ⟨G2, r3, h3⟩ := walk_of r2 q
      rcases h3 with ⟨z, _⟩ | ⟨_, a, us, rfl, s1, w⟩ | ⟨z, _⟩
      · cases z
      · exact .inr (.inl ⟨_, hv, a, rfl, ⟨us, s1⟩, ke ms _ _ H G2 z2 r3 w⟩)
      · cases z
    · obtain ⟨G2, r3, h3⟩ := walk_of r2 q
      rcases h3 with ⟨z, _⟩ | ⟨z, _⟩ | ⟨_, x, rfl, w⟩
      · cases z
      · cases z
      · exact .inr (.inr ⟨_, hv, x, rfl, ke ms _ _ H G2 z2 r3 w⟩)
theorem rgC2 {i j : Int} (ha : -(2 ^ 62) ≤ i) (ha' : i < 2 ^ 62) (hb : -(2 ^ 62) ≤ j) (hb' : j < 2 ^ 62) : RgC i j 2 ((j - i + 1) / 2).toNat := by
  have e : Builtin.Range.rangeSize i j 2 = (((j - i + 1) / 2).toNat : Int) := by
    unfold Builtin.Range.rangeSize
    simp only [show ((2 : Int) > 0) by decide, if_true]
    split <;> omega
  refine ⟨by decide, by decide, ?_, e⟩
  unfold Builtin.Range.small
  rw [e]
  simp only [Builtin.Range.rangeFitsLong, Bool.and_eq_true, Bool.or_eq_true, decide_eq_true_eq, beq_iff_eq, show ((2 : Int) > 0) by decide, if_true]
  omega
/-- range(..) -/
theorem iv_rng {qs : List E} {es : List Expr} {tg : Expr} {x : Str} {p pos : Pos} (hg : Good g cc Γ X) (hb : Blt X x "range") (ns : es.all nStar = true) (hl : es.length = qs.length) (h : ESV g Γ X W qs es) (hn : es.length ∈ [1, 2, 3]) : IV g Γ X W (.rng qs) tg (.Call (.Name x p) es [] pos) := by
  have ex := hb.e
  subst ex
  obtain ⟨t, h1, k1⟩ := h
  have fin : ∀ {B : Bs} {env : En} {Fr : List (V × M)} {σ : L2.St} {H G : Hp} {Q : List M → En → Prop} {QX : Exc → En → Prop} {R : List V → Hp → Prop}, Rel g B env Fr σ H G → semEs Γ qs env Q QX → KX g B Fr σ QX W →
      (∀ ms vs env1 H1 G1, Q ms env1 → ms.length = qs.length → Rel g B env1 Fr σ H1 G1 → (∃ c, OwnL g G1 H1 vs ms c) → R vs H1) → t σ H R := by
    intro B env Fr σ H G Q QX R rl hq kx kk
    refine k1 B env Fr σ H G _ QX _ rl hq (fun ms vs env1 H1 G1 hm hl hl2 r1 => ?_) kx
    obtain ⟨c, d, e, _, _, o3, _⟩ := r1.row hl
    have popF : ∀ {vs : List V} {ms : List M} {Fr : List (V × M)}, vs.length = ms.length → Rel g B env1 (zipR vs ms Fr) σ H1 G1 → Rel g B env1 Fr σ H1 G1 := by
      intro vs ms
      induction ms generalizing vs with
      | nil => intro Fr hl r; cases vs with
        | nil => exact r
        | cons _ _ => simp at hl
      | cons m ms ih => intro Fr hl r; cases vs with
        | nil => simp at hl
        | cons v vs => exact (ih (Fr := (v, m) :: Fr) (by simpa using hl) r).pop
    exact kk ms vs env1 H1 G1 hm hl2 (popF hl r1) ⟨e, o3⟩
  have i1 : ∀ {G H : Hp} {vs : List V} {i : Int} {ms : List M} {c : Cn}, OwnL g G H vs (.int i :: ms) c → ∃ vr c', vs = .int i :: vr ∧ OwnL g G H vr ms c' := by
    intro G H vs i ms c h
    cases vs with
    | nil => exact h.elim
    | cons v vr =>
      obtain ⟨c1, c2, ⟨rfl, _⟩, h2, _⟩ := h
      exact ⟨vr, c2, rfl, h2⟩
  have i0 : ∀ {G H : Hp} {vs : List V} {c : Cn}, OwnL g G H vs [] c → vs = [] := by
    intro G H vs c h
    cases vs with
    | nil => rfl
    | cons _ _ => exact h.elim
  match es, hn, ns, hl, h1 with
  | [a], _, ns, hl, h1 =>
    have ns1 : nStar a = true := by simpa using ns
    refine ⟨_, pi_range1 hb.g hb.m h1 (starEach_n ns1), fun B env Fr σ H G Q QX R rl hq ke kx => ?_⟩
    refine fin rl hq kx fun ms vs env1 H1 G1 hm hl2 r1 ⟨c, ho⟩ => ?_
    have hl3 : ms.length = 1 := by rw [hl2, ← hl]; rfl
    match ms, hl3, hm, ho with
    | [.int n], _, hm, ho =>
      obtain ⟨vr, c', rfl, o2⟩ := i1 ho
      cases i0 o2
      have hm : -4611686018427387904 ≤ n ∧ n < 4611686018427387904 ∧ Q (rngL 0 1 n.toNat) env1 := hm
      exact ⟨n, rfl, by omega, by omega, ke _ _ env1 H1 G1 hm.2.2 r1 (walk_R 0 _)⟩
    | [.non], _, hm, _ | [.bl _], _, hm, _ | [.str _], _, hm, _ | [.lst _ _], _, hm, _ | [.tup _], _, hm, _ | [.ktup _], _, hm, _ | [.dK _ _ _], _, hm, _ | [.dT _ _ _], _, hm, _ | [.obj _ _ _], _, hm, _ | [.fn _], _, hm, _ | [.cl _], _, hm, _ | [.ty _], _, hm, _ | [.gd _], _, hm, _ | [.scr _], _, hm, _ | [.exc _ _ _ _], _, hm, _ | [.hole], _, hm, _ => exact (show False from hm).elim
  | [a, b], _, ns, hl, h1 =>
    have ns1 : nStar a = true ∧ nStar b = true := by simpa using ns
    refine ⟨_, pi_range2 hb.g hb.m h1 (by rw [starEach_n ns1.1, starEach_n ns1.2]; rfl) (starEach_n ns1.2), fun B env Fr σ H G Q QX R rl hq ke kx => ?_⟩
    refine fin rl hq kx fun ms vs env1 H1 G1 hm hl2 r1 ⟨c, ho⟩ => ?_
    have hl3 : ms.length = 2 := by rw [hl2, ← hl]; rfl
    match ms, hl3 with
    | [x, y], _ =>
      have key : ∃ i j, x = .int i ∧ y = .int j := by
        cases x <;> cases y <;> first | exact ⟨_, _, rfl, rfl⟩ | exact (show False from hm).elim
      obtain ⟨i, j, rfl, rfl⟩ := key
      obtain ⟨vr, c', rfl, o2⟩ := i1 ho
      obtain ⟨vr, c'', rfl, o3⟩ := i1 o2
      cases i0 o3
      have hm : (-4611686018427387904 ≤ i ∧ i < 4611686018427387904 ∧ -4611686018427387904 ≤ j ∧ j < 4611686018427387904) ∧ Q (rngL i 1 (j - i).toNat) env1 := hm
      exact ⟨i, j, rfl, ⟨by omega, by omega, by omega, by omega⟩, ke _ _ env1 H1 G1 hm.2 r1 (walk_R i _)⟩
  | [a, b, d], _, ns, hl, h1 =>
    have ns1 : nStar a = true ∧ nStar b = true ∧ nStar d = true := by simpa using ns
    refine ⟨_, pi_range3 hb.g hb.m h1 (starEach_n ns1.1) (no_star (by simp [ns1.2])), fun B env Fr σ H G Q QX R rl hq ke kx => ?_⟩
    refine fin rl hq kx fun ms vs env1 H1 G1 hm hl2 r1 ⟨c, ho⟩ => ?_
    have hl3 : ms.length = 3 := by rw [hl2, ← hl]; rfl
    match ms, hl3 with
    | [x, y, z], _ =>
      have key : ∃ i j k, x = .int i ∧ y = .int j ∧ z = .int k := by
        cases x <;> cases y <;> cases z <;> first | exact ⟨_, _, _, rfl, rfl, rfl⟩ | exact (show False from hm).elim
      obtain ⟨i, j, k, rfl, rfl, rfl⟩ := key
      obtain ⟨vr, c', rfl, o2⟩ := i1 ho
      obtain ⟨vr, c'', rfl, o3⟩ := i1 o2
      obtain ⟨vr, c3, rfl, o4⟩ := i1 o3
      cases i0 o4
      have hm : (-4611686018427387904 ≤ i ∧ i < 4611686018427387904 ∧ -4611686018427387904 ≤ j ∧ j < 4611686018427387904) ∧ ((k = -1 ∧ Q (rngL i (-1) (i - j).toNat) env1) ∨ (k = 2 ∧ Q (rngL i 2 ((j - i + 1) / 2).toNat) env1)) := hm
      obtain ⟨h4, ⟨rfl, h5⟩ | ⟨rfl, h5⟩⟩ := hm
      · exact ⟨i, j, -1, _, rfl, RgC.neg (by omega) (by omega) (by omega) (by omega), ke _ _ env1 H1 G1 h5 r1 (walk_C i (-1) _)⟩
      · exact ⟨i, j, 2, _, rfl, rgC2 (by omega) (by omega) (by omega) (by omega), ke _ _ env1 H1 G1 h5 r1 (walk_C i 2 _)⟩
end
end Q
set_option Elab.async false
set_option linter.all false
set_option maxRecDepth 100000
set_option maxHeartbeats 4000000
namespace Q
open PySem PySem.Spec PyProof.Rows L2
local macro_rules | `(tactic| walk_at "cn") => `(tactic| ((try dsimp only at *); omega))
section
variable {g : Gi} {cc : Sc} {Γ : Gm} {X : Cx} {W : WX}
/-- a state looked at anew: only its names may be touched -/
theorem Rel.base {B : Bs} {env : En} {Fr : List (V × M)} {σ : L2.St} {H G : Hp} (r : Rel g B env Fr σ H G) (s1 : L2.St) : ∃ c : Cn, (∀ env1 : En, ∀ c1 : Cn, OwnL g G H (s1.map gv) env1 c1 → (∀ b, c1 b ≤ c b) → s1.length = env1.length → (∀ i, gt env1 i ≠ .hole → ∃ v, s1[i]? = some (some v)) → Rel g ⟨G, H, c, s1, []⟩ env1 [] s1 H G) ∧ OwnL g G H (σ.map gv) env c ∧
    ∀ (env' : En) (Fr2 : List (V × M)) (s2 : L2.St) (H' G' : Hp) (env'' : En) (c' : Cn) , Rel g ⟨G, H, c, s1, []⟩ env' Fr2 s2 H' G' → (∀ c1, OwnL g G' H' (s2.map gv) env' c1 → ∃ c2 : Cn, OwnL g G' H' (σ.map gv) env'' c2 ∧ ∀ b, c2 b ≤ c1 b) → env''.length = env.length → (∀ i, gt env'' i ≠ .hole → ∃ v, σ[i]? = some (some v)) → Rel g B env'' (Fr2 ++ Fr) σ H' G' := by
  obtain ⟨c, d, x, h4⟩ := r.rc
  refine ⟨c, fun env1 c1 o1 l1 hl ha => ?_, x.oe, fun env' Fr2 s2 H' G' env'' c' r2 ho hl ha => ?_⟩
  · exact ⟨r.sGH, fun _ _ h => h, hl, ⟨c1, fun _ => 0, o1, zr0, fun b => by have e1_ := l1 b; have e2_ := x.le b; walk_at "cn", fun b hb => .inl (by have e1_ := l1 b; show 1 ≤ c b; walk_at "cn")⟩, ha, fun b x h _ => h, fun b h => .inl h, fun i hi => absurd hi (by simp)⟩
  · obtain ⟨e1, e2, y, y4⟩ := r2.rc
    obtain ⟨c2, p1, p2⟩ := ho e1 y.oe
    have st : Stp G H c G' H' (fun b => e1 b + e2 b) := ⟨r2.sG0, r2.sGH, fun b hb => y4 b hb, fun b x h z => r2.off b x h z, fun b hb => r2.fro b hb⟩
    have ap : ∀ b, c b + d b ≤ 1 := x.le
    have oth := st.others x.of ap
    have l1 := st.apart x.of ap y.le
    have sf := st.frame (f := d)
    have app : OwnL g G' H' ((Fr2 ++ Fr).map (·.1)) ((Fr2 ++ Fr).map (·.2)) (fun b => e2 b + d b) := by
      rw [List.map_append, List.map_append]
      exact OwnL.app y.of oth
    refine r.stp h4 (c' := c2) (d' := fun b => e2 b + d b) (sf.less fun b hb => by have e1_ := p2 b; walk_at "cn") ⟨p1, app, fun b => by have e1_ := p2 b; have e2_ := l1 b; walk_at "cn"⟩ (by rw [hl]; exact r.len) ha r.fix
/-- the new list grows -/
theorem Rel.grow {B : Bs} {env : En} {σ : L2.St} {H G : Hp} {D : Addr} {v : V} {m : M} {acc : List M} (r : Rel g B env [(v, m), (.ref D, .lst true acc)] σ H G) : ∃ us, H D = some (.lst us) ∧ us.length = acc.length ∧ Rel g B env [(.ref D, .lst true (acc ++ [m]))] σ (upd H D (.lst (us ++ [v]))) G := by
  obtain ⟨c, d, x, h4⟩ := r.rc
  obtain ⟨d1, d2, k1, ⟨d3, d4, k3, k4, ke⟩, kd⟩ := x.of
  have z4 : zr d4 := k4
  obtain ⟨a, us, c', ea, hG, hH, ol, hc⟩ := k3
  cases ea
  have hup : ∀ b, b ≠ D → upd H D (.lst (us ++ [v])) b = H b := fun b hb => upd_ne hb
  have nD : ∀ {f : Cn}, (∀ b, f b + one D b ≤ 1) → ∀ b, 1 ≤ f b → upd H D (.lst (us ++ [v])) b = H b := fun {f} hf b hb => hup b fun q => by
    subst q
    have e1_ := hf b
    have e2_ := one_self b
    omega
  have st : Stp G H (fun b => c b + d b) G (upd H D (.lst (us ++ [v]))) (fun b => c b + d b) := Stp.write r.sGH (by have e1_ := kd D; have e2_ := ke D; have e3_ := hc D; have e4_ := one_self D; walk_at "cn") hG
  refine ⟨us, hH, OwnL.len ol, r.stp0 h4 (c' := c) (d' := fun b => (one D b + (c' b + (d1 b + 0))) + 0) (st.less fun b hb => by have e1_ := kd b; have e2_ := ke b; have e3_ := hc b; walk_at "cn") ⟨OwnL.hm _ x.oe (nD fun b => by have e1_ := kd b; have e2_ := ke b; have e3_ := hc b; have e4_ := x.le b; walk_at "cn"), ⟨_, fun _ => 0, ⟨D, us ++ [v], fun b => c' b + (d1 b + 0), rfl, hG, upd_same, ?_, fun _ => rfl⟩, zr0, fun b => rfl⟩, fun b => by have e1_ := kd b; have e2_ := ke b; have e3_ := hc b; have e4_ := x.le b; walk_at "cn"⟩⟩
  refine OwnL.app (OwnL.hm _ ol (nD fun b => by have e1_ := kd b; have e2_ := ke b; have e3_ := hc b; have e4_ := x.le b; walk_at "cn")) ⟨d1, fun _ => 0, Own.hm _ k1 (nD fun b => by have e1_ := kd b; have e2_ := ke b; have e3_ := hc b; have e4_ := x.le b; walk_at "cn"), zr0, fun _ => rfl⟩
/-- the scope of a block within another -/
def relab (sc : Scope) (scope : Scope) : Scope := { scope with names := scope.names.map fun (n, k) => if (k == NameKind.free && sc.kind == .function && sc.names.lookup n == some .cell) then (n, NameKind.cell) else (n, k) }
theorem relab_eq (scope : Scope) (env : Env) : relabel scope env = relab env.scope scope := rfl
def blkB (c : Sc) (scope : Scope) (x : Str) (i : Nat) : Bool :=
  (decide (scope.kind = .function) && decide (∀ y ∈ scope.names, scope.names.lookup y.1 = some y.2) && decide (c.N[i]? = some x)) &&
  (decide (∀ y ∈ scope.names, y.2 = .free → c.sc.names.lookup y.1 = some .cell ∨ c.sc.names.lookup y.1 = some .free) && decide (∀ y ∈ scope.names, y.2 = .local ∨ y.2 = .cell → y.1 = x ∨ y.1 ∉ c.N))
theorem blk_ok {scope : Scope} {x : Str} {i : Nat} (hg : Good g cc Γ X) (h : blkB cc scope x i = true) : BlkOk X.N X.env.scope scope [(x, i)] := by
  obtain ⟨h, h2⟩ := ba2 h
  obtain ⟨h4, h5⟩ := ba2 h2
  obtain ⟨h, h3⟩ := ba2 h
  obtain ⟨h1, h2⟩ := ba2 h
  rw [hg.eN, hg.esc]
  refine ⟨of_decide_eq_true h1, of_decide_eq_true h2, fun p hp => ?_, of_decide_eq_true h4, fun y hy q => ?_⟩
  · have e : p = (x, i) := by simpa using hp
    subst e
    exact of_decide_eq_true h3
  · rcases of_decide_eq_true h5 y hy q with z | z
    · exact .inl (by simpa using z)
    · exact .inr z
abbrev blkSc (c : Sc) (scope : Scope) : Sc := { c with sc := relab c.sc scope }
theorem good_blk {scope : Scope} (hco : cc.hot = false) (he : GE g cc Γ X) (s : Shared) (H : Hp) (C : Addr) (cl : List (Str × Addr)) (fp : List Addr) : GE g (blkSc cc scope) Γ (X.blk s H scope (compEnvC scope cl C X.env) fp) := by
  have hg := he.good
  refine ⟨⟨hg.eK, hg.eP, hg.ew, hg.emg, hg.ebase, hg.eN, ?_, hg.nd, hg.calm, hg.room, hg.un, fun z => (by rw [show (blkSc cc scope).hot = cc.hot from rfl, hco] at z; cases z), hg.xcl, hg.xok, hg.fl, hg.fr, hg.gl, hg.tab, hg.cls, hg.fnd⟩, he.fns, he.mts, he.xrs, he.xri, he.lfs, he.mks⟩
  show relabel scope X.env = relab cc.sc scope
  rw [relab_eq, hg.esc]
abbrev noW : WX := fun _ _ _ _ => False
theorem takes_blk {scope : Scope} (s : Shared) (H : Hp) (C : Addr) (cl : List (Str × Addr)) (fp : List Addr) : Takes (X.blk s H scope (compEnvC scope cl C X.env) fp) noW := fun u s' ⟨_, _, _, _, _, _, _, _, _, _, _, _, _, _, _, _, w⟩ => w.elim
end
end Q
set_option Elab.async false
set_option linter.all false
set_option maxRecDepth 100000
set_option maxHeartbeats 4000000
namespace Q
open PySem PySem.Spec PyProof.Rows L2
local macro_rules | `(tactic| walk_at "cn") => `(tactic| ((try dsimp only at *); omega))
section
variable {g : Gi} {cc : Sc} {Γ : Gm} {X : Cx} {W : WX}
theorem get_ne {σ : L2.St} {i j : Nat} {v : V} {o : Option V} (h : σ[j]? = some (some v)) (q : i ≠ j) : (σ.set i o)[j]? = some (some v) := by
  rw [List.getElem?_set_ne q]; exact h
theorem Rel.unset {B : Bs} {env : En} {Fr : List (V × M)} {σ : L2.St} {H G : Hp} (r : Rel g B env Fr σ H G) (i : Nat) (hf : B.fx = []) : Rel g B (env.set i .hole) Fr (σ.set i none) H G := by
  obtain ⟨c, d, x, h4⟩ := r.rc
  obtain ⟨c', p1, p2⟩ := OwnL.put1 (i := i) (v := .non) (m := .hole) (d := fun _ => 0) x.oe zr0
  have e : (σ.set i none).map gv = (σ.map gv).set i .non := by rw [List.map_set]; rfl
  refine r.stp h4 (c' := c') (d' := d) ((Stp.id r.sGH).less fun b hb => by have e1_ := p2 b; walk_at "cn") ⟨by rw [e]; exact p1, x.of, fun b => by have e1_ := p2 b; have e2_ := x.le b; walk_at "cn"⟩ (by rw [List.length_set, List.length_set]; exact r.len) (fun j hj => ?_) fun j hj => by rw [hf] at hj; simp at hj
  rw [gt_set] at hj
  by_cases q : i = j ∧ i < env.length
  · rw [if_pos q] at hj; exact absurd rfl hj
  · rw [if_neg q] at hj
    obtain ⟨v, hv⟩ := r.asg j hj
    by_cases q2 : i = j
    · have : j < σ.length := (List.getElem?_eq_some_iff.mp hv).1
      exact absurd ⟨q2, by rw [← r.len, q2]; exact this⟩ q
    · exact ⟨v, get_ne hv q2⟩
theorem Rel.swap {B : Bs} {env : En} {Fr : List (V × M)} {σ : L2.St} {H G : Hp} {a b : V × M} (r : Rel g B env (a :: b :: Fr) σ H G) : Rel g B env (b :: a :: Fr) σ H G := by
  obtain ⟨c, d, x, h4⟩ := r.rc
  obtain ⟨d1, d2, k1, ⟨d3, d4, k3, k4, ke⟩, kd⟩ := x.of
  exact r.stp0 h4 (c' := c) (d' := d) (Stp.id r.sGH) ⟨x.oe, ⟨d3, fun b => d1 b + d4 b, k3, ⟨d1, d4, k1, k4, fun _ => rfl⟩, fun b => by have e1_ := kd b; have e2_ := ke b; walk_at "cn"⟩, x.le⟩
/-- the tests of a block -/
def TSV (g : Gi) (Γ : Gm) (X : Cx) (c : List T) (ifs : List Expr) : Prop := ∃ t : L2.TT, PTs X ifs t ∧ ∀ (B : Bs) (env : En) (Fr : List (V × M)) (σ : L2.St) (H G : Hp) (Q : Bool → Prop) (R : Bool → Hp → Prop), Rel g B env Fr σ H G → evTs Γ env c Q → (∀ b, Q b → R b H) → t σ H R
theorem tsv_nil : TSV g Γ X [] [] := ⟨_, pts_nil, fun B env Fr σ H G Q R rl hq k => k true hq⟩
theorem tsv_one {t : T} {e : Expr} (h : PTs' g Γ X t e) : TSV g Γ X [t] [e] := by
  obtain ⟨tt, h1, k1⟩ := h
  exact ⟨tt, pts_one h1, fun B env Fr σ H G Q R rl hq k => k1 B env Fr σ H G Q R rl hq k⟩
theorem ev_comp {i : Nat} {it : I} {c : List T} {q : E} {x : Str} {p pos : Pos} {elt iter : Expr} {ifs : List Expr} {scope : Scope} (hco : cc.hot = false) (he : GE g cc Γ X) (hi : IV g Γ X W it (.Name x p) iter) (ok : blkB cc scope x i = true)
    (lo : locB (blkSc cc scope).sc x = true) (fn : (scope.names.lookup x == some .cell) = true ∨ (relab cc.sc scope).names.lookup x = some .local) (hs : ∀ v, foldedSetIterable iter X.env v = pure v)
    (hc : ∀ (s : Shared) (H : Hp) (C : Addr) (cl : List (Str × Addr)) (fp : List Addr), TSV g Γ (X.blk s H scope (compEnvC scope cl C X.env) fp) c ifs)
    (hq : ∀ (s : Shared) (H : Hp) (C : Addr) (cl : List (Str × Addr)) (fp : List Addr), EV g Γ (X.blk s H scope (compEnvC scope cl C X.env) fp) noW q elt) :
    ∃ t : TE, PE X (.ListComp elt [⟨.Name x p, iter, ifs, 0⟩] scope pos) t ∧ (∀ (k : Nat) (y : Str) (py spos : Pos), X.N[k]? = some y → X.env.scope.names.lookup y = some .local → swapsWith (.ListComp elt [⟨.Name x p, iter, ifs, 0⟩] scope pos) (some (.Name y py)) spos.line X.env = pure true →
        PS X (.Assign [.Name y py] (.ListComp elt [⟨.Name x p, iter, ifs, 0⟩] scope pos) spos) (tAsg t (gName k))) ∧ ∀ (B : Bs) (env : En) (Fr : List (V × M)) (σ : L2.St) (H G : Hp) (Q : QE) (QX : Exc → En → Prop) (R : VK),
  Rel g B env Fr σ H G → semE Γ (.comp i it c q) env Q QX → KE g B Fr σ Q R → KX g B Fr σ QX W → t σ H R := by
  have hg := he.good
  obtain ⟨wi, w1, w2⟩ := hi
  have BO := blk_ok hg ok
  have PGb : ∀ (s : Shared) (H : Hp) (C : Addr) (cl : List (Str × Addr)) (fp : List Addr), PG (X.blk s H scope (compEnvC scope cl C X.env) fp) (.Name x p) (gName i) := fun s H C cl fp => by
    have hgb := (good_blk (scope := scope) hco he s H C cl fp).good
    refine pg_name hgb.nd (BO.ix (x, i) (List.mem_singleton.mpr rfl)) (loc_of hgb lo) ?_
    rcases fn with f | f
    · exact .inl f
    · exact .inr (by rw [hgb.esc]; exact f)
  let tt : L2.TT := fun σ H Q => ∀ (s : Shared) (H0 : Hp) (C : Addr) (cl : List (Str × Addr)) (fp : List Addr), ∃ t : L2.TT, PTs (X.blk s H0 scope (compEnvC scope cl C X.env) fp) ifs t ∧ t σ H Q
  let te : TE := fun σ H Q => ∀ (s : Shared) (H0 : Hp) (C : Addr) (cl : List (Str × Addr)) (fp : List Addr), ∃ t : TE, PE (X.blk s H0 scope (compEnvC scope cl C X.env) fp) elt t ∧ t σ H Q
  have PTb : ∀ (s : Shared) (H : Hp) (C : Addr) (cl : List (Str × Addr)) (fp : List Addr), PTs (X.blk s H scope (compEnvC scope cl C X.env) fp) ifs tt := fun s H C cl fp => ⟨fun pins s1 σ H1 Q I h => by
    obtain ⟨t, h1, h2⟩ := h s H C cl fp
    exact h1.run pins s1 σ H1 Q I h2⟩
  have PEb : ∀ (s : Shared) (H : Hp) (C : Addr) (cl : List (Str × Addr)) (fp : List Addr), PE (X.blk s H scope (compEnvC scope cl C X.env) fp) elt te := fun s H C cl fp => ⟨fun pins s1 σ H1 Q I h => by
    obtain ⟨t, h1, h2⟩ := h s H C cl fp
    exact h1.run pins s1 σ H1 Q I h2⟩
  refine ⟨_, pe_lc (hg.calm hco) hg.nd w1 BO PGb PTb PEb hs, fun k y py spos hy hyl hsw => ps_setLc (hg.calm hco) hg.nd hy hyl hsw w1 BO PGb PTb PEb hs, fun B env Fr σ H G Q QX R rl hsem ke kx => ?_⟩
  have hsem : semI Γ it env (fun ms env1 => cmpL i (fun en q => evTs Γ en c q) (fun en q' => semE Γ q en q' fun _ _ => False) (fun acc env2 => Q (.lst true acc) (env2.set i (gt env1 i))) ms [] (env1.set i .hole)) QX := hsem
  refine w2 B env Fr σ H G _ QX _ rl hsem (fun ms J env1 H1 G1 hm r1 wk => ?_) kx
  intro D hD
  -- the name's own value is laid aside
  have aside : ∃ Fr1 : List (V × M), Rel g B (env1.set i .hole) Fr1 σ H1 G1 ∧ ∀ (env' : En) (a : V × M) (H' G' : Hp), env'.length = env1.length → Rel g B (env'.set i .hole) (a :: Fr1) σ H' G' → Rel g B (env'.set i (gt env1 i)) (a :: Fr) σ H' G' := by
    by_cases hh : gt env1 i = .hole
    · refine ⟨Fr, ?_, fun env' a H' G' hl r => by rw [hh]; exact r⟩
      have e : env1.set i .hole = env1 := by
        apply List.ext_getElem?
        intro j
        by_cases q : i = j
        · subst q
          by_cases l : i < env1.length
          · rw [List.getElem?_set_self l]
            have e2 : env1[i]? = some env1[i] := List.getElem?_eq_getElem l
            have := get_gt e2
            rw [e2, ← this, hh]
          · rw [List.getElem?_eq_none (by rw [List.length_set]; omega), List.getElem?_eq_none (by omega)]
        · rw [List.getElem?_set_ne q]
      rw [e]; exact r1
    · obtain ⟨v, hv, r2⟩ := r1.take hh
      refine ⟨(v, gt env1 i) :: Fr, r2, fun env' a H' G' hl r => ?_⟩
      have r3 := r.swap.give (i := i) hv
      rw [List.set_set] at r3
      exact r3
  obtain ⟨Fr1, r2, back⟩ := aside
  have wip : wipe σ ([(x, i)].map (·.2)) = σ.set i none := rfl
  obtain ⟨c0, b1, b2, b3⟩ := r2.base (σ.set i none)
  have rb : Rel g ⟨G1, H1, c0, σ.set i none, []⟩ (env1.set i .hole) [] (σ.set i none) H1 G1 := by
    obtain ⟨c', p1, p2⟩ := OwnL.put1 (i := i) (v := .non) (m := .hole) (d := fun _ => 0) b2 zr0
    rw [List.set_set] at p1
    have e : (σ.set i none).map gv = (σ.map gv).set i .non := by rw [List.map_set]; rfl
    refine b1 _ c' (by rw [e]; exact p1) (fun b => by have e1_ := p2 b; walk_at "cn") (by rw [List.length_set, List.length_set, r1.len]) fun j hj => ?_
    rw [gt_set] at hj
    by_cases q : i = j ∧ i < env1.length
    · rw [if_pos q] at hj; exact absurd rfl hj
    · rw [if_neg q] at hj
      obtain ⟨v, hv⟩ := r1.asg j hj
      by_cases q2 : i = j
      · have : j < σ.length := (List.getElem?_eq_some_iff.mp hv).1
        exact absurd ⟨q2, by rw [← r1.len, q2]; exact this⟩ q
      · exact ⟨v, get_ne hv q2⟩
  have rb2 : Rel g ⟨G1, H1, c0, σ.set i none, []⟩ (env1.set i .hole) [(.ref D, .lst true [])] (σ.set i none) (upd H1 D (.lst [])) G1 := by
    refine Rel.alloc (vs := []) (ms := []) (Fr := []) rb rfl hD ?_
    intro H2 e ga ha ho
    exact ⟨D, [], e, rfl, ga, ha, ho, fun b => rfl⟩
  refine ⟨fun k n H2 => k ≤ ms.length ∧ n = ms.length - k ∧ ∃ (env2 : En) (acc : List M) (G2 : Hp), env2.length = env1.length ∧ Rel g ⟨G1, H1, c0, σ.set i none, []⟩ env2 [(.ref D, .lst true acc)] (σ.set i none) H2 G2 ∧
    cmpL i (fun en q => evTs Γ en c q) (fun en q' => semE Γ q en q' fun _ _ => False) (fun acc env2 => Q (.lst true acc) (env2.set i (gt env1 i))) (ms.drop k) acc env2, ⟨_, Nat.zero_le _, rfl, _, [], G1, by rw [List.length_set], rb2, hm⟩, ?_⟩
  rintro k n H2 ⟨hk, hn, env2, acc, G2, hl2, r3, hc3⟩
  by_cases hlt : k < ms.length
  · right
    obtain ⟨m, hmk⟩ : ∃ m, ms[k]? = some m := ⟨_, List.getElem?_eq_getElem hlt⟩
    obtain ⟨go, yl⟩ := wk.step k m G2 H2 hmk r3.sG0 r3.sGH
    have dr : ms.drop k = m :: ms.drop (k + 1) := by
      rw [List.drop_eq_getElem_cons hlt]
      rw [List.getElem?_eq_getElem hlt] at hmk
      rw [Option.some.inj hmk]
    rw [dr] at hc3
    refine ⟨go, fun H3 => ∃ m', m' < n ∧ (k + 1 ≤ ms.length ∧ m' = ms.length - (k + 1) ∧ ∃ (env2 : En) (acc : List M) (G2 : Hp), env2.length = env1.length ∧ Rel g ⟨G1, H1, c0, σ.set i none, []⟩ env2 [(.ref D, .lst true acc)] (σ.set i none) H3 G2 ∧
      cmpL i (fun en q => evTs Γ en c q) (fun en q' => semE Γ q en q' fun _ _ => False) (fun acc env2 => Q (.lst true acc) (env2.set i (gt env1 i))) (ms.drop (k + 1)) acc env2), fun H3 h => h, fun v H3 hy => ?_⟩
    obtain ⟨eH, ow⟩ := yl v H3 hy
    subst eH
    have r4 := (r3.push0 ow).set (i := i) (by simp)
    have ew : ((σ.set i none).set i (some v)).set i none = σ.set i none := by rw [List.set_set, List.set_set]
    refine ⟨by rw [wip]; show ((σ.set i none).set i (some v)).set i none = _; rw [List.set_set, List.set_set], ?_⟩
    intro s H0 C cl fp
    obtain ⟨t, t1, t2⟩ := hc s H0 C cl fp
    refine ⟨t, t1, t2 _ _ _ _ _ _ _ _ r4 hc3 fun b hb => ?_⟩
    cases b with
    | false =>
      rw [if_neg (by decide)]
      have r5 := r4.unset i rfl
      rw [ew] at r5
      exact ⟨_, by omega, by omega, rfl, _, acc, G2, by rw [List.length_set, List.length_set]; exact hl2, r5, hb⟩
    | true =>
      rw [if_pos rfl]
      intro s H0 C cl fp
      obtain ⟨t, t1, t2⟩ := hq s H0 C cl fp
      refine ⟨t, t1, t2 _ _ _ _ _ _ _ _ _ r4 hb (fun my y env3 H4 G4 hy2 r6 => ?_) fun x _ _ _ _ _ h _ _ => h.elim⟩
      obtain ⟨hsz, hc4⟩ := hy2
      obtain ⟨us, hu, hul, r7⟩ := r6.grow
      have r8 := r7.unset i rfl
      rw [wip, ew] at r8
      have l3 : env3.length = env1.length := by
        have h1 := r6.len
        have h2 := r1.len
        rw [wip, List.length_set, List.length_set] at h1
        omega
      exact ⟨us, hu, by rw [hul]; exact hsz, _, by omega, by omega, rfl, _, _, G4, by rw [List.length_set]; exact l3, r8, hc4⟩
  · left
    have e : k = ms.length := by omega
    subst e
    refine ⟨wk.stop _ G2 H2 (Nat.le_refl _) r3.sG0 r3.sGH, ?_⟩
    rw [List.drop_length] at hc3
    have hc3 : Q (.lst true acc) (env2.set i (gt env1 i)) := hc3
    refine ke _ _ _ H2 G2 hc3 (back env2 _ H2 G2 hl2 ?_)
    refine b3 env2 [(.ref D, .lst true acc)] (σ.set i none) H2 G2 (env2.set i .hole) c0 r3 (fun c1 o1 => ?_) (by rw [List.length_set, List.length_set]; exact hl2) fun j hj => ?_
    · obtain ⟨c', p1, p2⟩ := OwnL.put1 (i := i) (v := ((σ.map gv)[i]?).getD .non) (m := .hole) (d := fun _ => 0) o1 zr0
      refine ⟨c', ?_, fun b => by have e1_ := p2 b; walk_at "cn"⟩
      have e : ((σ.set i none).map gv).set i (((σ.map gv)[i]?).getD .non) = σ.map gv := by
        rw [List.map_set, List.set_set]
        by_cases l : i < (σ.map gv).length
        · refine set_back ?_
          rw [List.getElem?_eq_getElem l]; rfl
        · rw [List.set_eq_of_length_le (by omega)]
      rw [e] at p1
      exact p1
    · rw [gt_set] at hj
      by_cases q : i = j ∧ i < env2.length
      · rw [if_pos q] at hj; exact absurd rfl hj
      · rw [if_neg q] at hj
        obtain ⟨v, hv⟩ := r3.asg j hj
        by_cases q2 : i = j
        · subst q2
          have l := (List.getElem?_eq_some_iff.mp hv).1
          rw [List.getElem?_set_self (by rw [List.length_set] at l; exact l)] at hv
          cases hv
        · rw [List.getElem?_set_ne q2] at hv
          exact ⟨v, hv⟩
end
end Q
set_option Elab.async false
set_option linter.all false
set_option maxRecDepth 100000
set_option maxHeartbeats 4000000
namespace Q
open PySem PySem.Spec PyProof.Rows L2
theorem fold_n {e : Expr} {env : Env} (h : nSet e = true) : ∀ x, foldedSetIterable e env x = pure x := by
  intro x
  cases e <;> first
    | (cases h; done)
    | rfl
def vTup : Expr → Option (List Expr)
  | .Tuple es _ _ => some es
  | _ => none
theorem vTup_i {e : Expr} {es} (h : vTup e = some es) : ∃ k p, e = .Tuple es k p := by
  unfold vTup at h; split at h
  · cases h; exact ⟨_, _, rfl⟩
  · cases h
def vLst : Expr → Option (List Expr)
  | .List es _ => some es
  | _ => none
theorem vLst_i {e : Expr} {es} (h : vLst e = some es) : ∃ p, e = .List es p := by
  unfold vLst at h; split at h
  · cases h; exact ⟨_, rfl⟩
  · cases h
def isD0 : Expr → Bool
  | .Dict [] [] _ => true
  | _ => false
theorem isD0_i {e : Expr} (h : isD0 e = true) : ∃ p, e = .Dict [] [] p := by
  unfold isD0 at h; split at h
  · exact ⟨_, rfl⟩
  · cases h
def vLc : Expr → Option (Str × Expr × Expr × List Expr × Scope)
  | .ListComp elt [⟨.Name x _, iter, ifs, a⟩] scope _ => if a = 0 then some (x, elt, iter, ifs, scope) else none
  | _ => none
theorem vLc_i {e : Expr} {x elt iter ifs scope} (h : vLc e = some (x, elt, iter, ifs, scope)) : ∃ p pos, e = .ListComp elt [⟨.Name x p, iter, ifs, 0⟩] scope pos := by
  unfold vLc at h; split at h
  · split at h
    · rename_i e0
      cases h
      subst e0
      exact ⟨_, _, rfl⟩
    · cases h
  · cases h
def chkTs (c : Sc) : List T → List Expr → Bool
  | [], [] => true
  | [t], [e] => chkT c t e
  | _, _ => false
def o2sB (o : O2) (m : Str) : Bool := match o with | .join => decide (m = Str.ofString "join") | .startswith => decide (m = Str.ofString "startswith") | .find => decide (m = Str.ofString "find") | .split => decide (m = Str.ofString "split") | _ => false
def isPu : E → Bool
  | .pu _ => true
  | _ => false
def dSB : List (List Nat) → List (List Nat) → List (Option Expr) → List Expr → Bool
  | [], [], [], [] => true
  | k :: ks, v :: vs, some (.Constant (.str x) _ _) :: es, .Constant (.str y) _ _ :: fs => decide (x.cps.toList = k) && decide (y.cps.toList = v) && dSB ks vs es fs
  | _, _, _, _ => false
def dSE (ks vs : List (List Nat)) : Expr → Bool
  | .Dict es fs _ => !es.isEmpty && dSB ks vs es fs
  | _ => false
mutual
def chkE : E → Sc → Expr → Bool
  | .pu p, c, e => chkP c p e
  | .vr i, c, e => (match vNam e with | some x => slB c x i && visB c.sc x | none => false)
  | .mv i, c, e => (match vNam e with | some x => slB c x i && visB c.sc x | none => false)
  | .sh i st, c, e => chkPath c i st e
  | .o1 o a, c, e => (match f1E o with
    | true => chk1 c o (chkA a c) e
    | false => (match mkOp o, vCall e with
      | some (n, _), some (f, [x]) => !c.hot && blB c f n && nStar x && chkA a c x
      | _, _ => false))
  | .o2 o a b, c, e => f2E o && chk2 c o (chkA a c) (chkA b c) e
  | .o2s o p b, c, e => (match vMet e with
      | some (x, m, [y], l) => l && nSup x && nStar y && chkP c p x && chkA b c y && (match o with | .join => decide (m = Str.ofString "join") | .startswith => decide (m = Str.ofString "startswith") | .find => decide (m = Str.ofString "find") | .split => decide (m = Str.ofString "split") | _ => false)
      | _ => false)
  | .slc a lo hi, c, e => (match vSli e with | some (x, l, u) => chkA a c x && chkO c lo l && chkO c hi u | none => false)
  | .tup qs, c, e => (match vTup e with | some es => chkEs qs c es | none => false)
  | .lst qs, c, e => (match vLst e with | some es => chkEs qs c es | none => false)
  | .lrg p, c, e => !c.hot && (match vCall e with
      | some (f1, [y]) => (match vCall y with
        | some (f2, [x]) => blB c f1 "list" && blB c f2 "range" && nStar x && chkP c p x
        | _ => false)
      | _ => false)
  | .dK0, _, e => isD0 e
  | .dT0, _, e => isD0 e
  | .call f as, c, e => !c.hot && (match vCall e with | some (x, es) => c.fns.contains (f, x) && glB c.sc x && dbg x && sepG (as.map agI) && chkGs as c es | none => false)
  | .meth C m i as, c, e => !c.hot && (match vMet e with
    | some (r, mm, es, l) => (match vNam r with
      | some x => c.mts.contains (C, mm) && decide (m = Str.toString mm) && (slB c x i && visB c.sc x) && sepG (some i :: as.map agI) && chkGs as c es && l && decide (es.length < 30)
      | none => false)
    | none => false)
  | .make C as, c, e => !c.hot && (match vCall e with | some (x, es) => c.mks.contains (C, x) && glB c.sc x && dbg x && sepG (as.map agI) && chkGs as c es | none => false)
  | .mut o i st qs, c, e => (match vMet e, nmM o with
    | some (r, mm, es, l), some (n, _) => decide (mm = Str.ofString n) && chkPath c i st r && nSup r && chkEs qs c es && (st.isEmpty || quiets qs) && l && decide (es.length < 30)
    | _, _ => false)
  | .and a b, c, e => (match vBoo e with
    | some (.And, [x, y]) => chkE a c x && chkE b c y
    | some (.And, x :: y :: z :: r) => chkE a c x && chkE b c (.BoolOp .And (y :: z :: r) e.pos)
    | _ => false)
  | .or a b, c, e => (match vBoo e with
    | some (.Or, [x, y]) => chkE a c x && chkE b c y
    | some (.Or, x :: y :: z :: r) => chkE a c x && chkE b c (.BoolOp .Or (y :: z :: r) e.pos)
    | _ => false)
  | .not a, c, e => (match vUn e with | some (.Not, x) => chkE a c x | _ => false)
  | .ifx t a b, c, e => (match vIfx e with | some (x, y, z) => chkTT t c x && chkE a c y && chkE b c z | _ => false)
  | .comp i it cs q, c, e => !c.hot && (match vLc e with
    | some (x, elt, iter, ifs, scope) => chkI it c iter && blkB c scope x i && locB (blkSc c scope).sc x && ((scope.names.lookup x == some .cell) || decide ((relab c.sc scope).names.lookup x = some .local)) && nSet iter && chkTs (blkSc c scope) cs ifs && chkE q (blkSc c scope) elt
    | none => false)
  | .callL j as, c, e => !c.hot && (match vCall e with | some (x, es) => (slB c x j && visB c.sc x) && sepG (as.map agI) && chkGs as c es && !es.isEmpty | none => false)
  | .mvp i st, c, e => chkPath c i st e
  | .ixt i st q, c, e => (match vSub e with | some (x, y) => nSli y && chkPath c i st x && quiet q && chkE q c y | none => false)
  | .get2 a k d, c, e => (match vMet e with | some (x, m, [y, z], l) => l && decide (m = Str.ofString "get") && nSup x && nStar y && nStar z && chkA a c x && chkP c k y && chkP c d z | _ => false)
  | .sll a q, c, e => (match vSli e with | some (x, some l, none) => chkP c a x && chkE q c l | _ => false)
  | .dS ks vs, _, e => dSE ks vs e
  | _, _, _ => false
def chkA : A → Sc → Expr → Bool
  | .v p, c, e => chkP c p e
  | .e q, c, e => chkE q c e
def chkEs : List E → Sc → List Expr → Bool
  | [], _, [] => true
  | q :: qs, c, e :: es => nStar e && chkE q c e && chkEs qs c es
  | _, _, _ => false
def chkGs : List Ag → Sc → List Expr → Bool
  | [], _, [] => true
  | .r i :: qs, c, e :: es => (match vNam e with | some x => slB c x i && visB c.sc x | none => false) && chkGs qs c es
  | .e q :: qs, c, e :: es => nStar e && chkE q c e && chkGs qs c es
  | _, _, _ => false
def chkI : I → Sc → Expr → Bool
  | .rng qs, c, e => (match vCall e with | some (x, es) => blB c x "range" && chkEs qs c es && (decide (es.length = 1) || decide (es.length = 2) || decide (es.length = 3)) | none => false)
  | .val k q, c, e => (decide (k = 0) || decide (k = 1) || decide (k = 2)) && chkE q c e
  | .vw i, c, e => (match vNam e with | some x => slB c x i && visB c.sc x | none => false)
  | _, _, _ => false
def chkTT : TT → Sc → Expr → Bool
  | .p t, c, e => chkT c t e
  | .e q, c, e => (nTst e || (isCmp e && !isPu q)) && chkE q c e
  | .not t, c, e => (match vUn e with | some (.Not, x) => chkTT t c x | _ => false)
  | .and a b, c, e => (match vBoo e with
    | some (.And, [x, y]) => chkTT a c x && chkTT b c y
    | some (.And, x :: y :: z :: r) => chkTT a c x && chkTT b c (.BoolOp .And (y :: z :: r) e.pos)
    | _ => false)
  | .or a b, c, e => (match vBoo e with
    | some (.Or, [x, y]) => chkTT a c x && chkTT b c y
    | some (.Or, x :: y :: z :: r) => chkTT a c x && chkTT b c (.BoolOp .Or (y :: z :: r) e.pos)
    | _ => false)
end
section
variable {g : Gi} {Γ : Gm}
def EE (g : Gi) (Γ : Gm) (X : Cx) (W : WX) (q : E) (e : Expr) : Prop := EV g Γ X W q e ∧ (isPu q = false → EC g Γ X W q e) ∧ (quiet q = true → EQ g Γ X q e)
def TTW (g : Gi) (Γ : Gm) (X : Cx) (W : WX) (t : TT) (e : Expr) : Prop := TV g Γ X W t e ∧ ∀ op es pos, e = .BoolOp op es pos → TWV g Γ X W t e
variable {X : Cx} {W : WX} {cc : Sc}
theorem ee {q : E} {e : Expr} (h : EV g Γ X W q e) (h2 : isCmp e = false) (h3 : quiet q = false) : EE g Γ X W q e := ⟨h, fun _ => ne h2, fun z => by rw [h3] at z; cases z⟩
theorem twv_p {t : T} {e : Expr} (h : PWs g Γ X t e) : TWV g Γ X W (.p t) e := by
  obtain ⟨tt, h1, k1⟩ := h
  exact ⟨tt, h1, fun B env Fr σ H G Q QX R rl hq k kx => k1 B env Fr σ H G (fun c => Q c env) R rl hq fun b hb => k b env H G hb rl⟩
theorem all_star : ∀ {qs : List E} {c : Sc} {es : List Expr}, chkEs qs c es = true → es.all nStar = true ∧ es.length = qs.length
  | [], _, [], _ => ⟨rfl, rfl⟩
  | [], _, _ :: _, h => by cases h
  | _ :: _, _, [], h => by cases h
  | q :: qs, c, e :: es, h => by
    obtain ⟨h, h3⟩ := ba2 (show (nStar e && chkE q c e && chkEs qs c es) = true from h)
    obtain ⟨h1, h2⟩ := ba2 h
    obtain ⟨z1, z2⟩ := all_star h3
    exact ⟨by rw [List.all_cons, h1, z1]; rfl, congrArg Nat.succ z2⟩
theorem all_starG : ∀ {qs : List Ag} {c : Sc} {es : List Expr}, chkGs qs c es = true → es.all nStar = true ∧ es.length = qs.length
  | [], _, [], _ => ⟨rfl, rfl⟩
  | [], _, _ :: _, h => by cases h
  | .r _ :: _, _, [], h => by cases h
  | .e _ :: _, _, [], h => by cases h
  | .r i :: qs, c, e :: es, h => by
    obtain ⟨h1, h2⟩ := ba2 (show ((match vNam e with | some x => slB c x i && visB c.sc x | none => false) && chkGs qs c es) = true from h)
    obtain ⟨z1, z2⟩ := all_starG h2
    have hn : nStar e = true := by
      split at h1
      · rename_i x e1
        obtain ⟨p, rfl⟩ := vNam_i e1
        rfl
      · cases h1
    exact ⟨by rw [List.all_cons, hn, z1]; rfl, congrArg Nat.succ z2⟩
  | .e q :: qs, c, e :: es, h => by
    obtain ⟨h, h3⟩ := ba2 (show (nStar e && chkE q c e && chkGs qs c es) = true from h)
    obtain ⟨h1, h2⟩ := ba2 h
    obtain ⟨z1, z2⟩ := all_starG h3
    exact ⟨by rw [List.all_cons, h1, z1]; rfl, congrArg Nat.succ z2⟩
theorem nil_of {α β : Type} {qs : List α} {es : List β} (h : es.length = qs.length) : es = [] → qs = [] := fun e => by
  subst e
  cases qs with
  | nil => rfl
  | cons _ _ => cases h
theorem mem_of {α : Type} [BEq α] [LawfulBEq α] {a : α} {l : List α} (h : l.contains a = true) : a ∈ l := by simpa using h
theorem ak_of {a : A} {e : Expr} (hg : Good g cc Γ X) (h : chkA a cc e = true) (ih : ∀ q, a = .e q → EV g Γ X W q e) : AK g Γ X W a e := by
  cases a with
  | v p => exact (P_ok hg p e h).1
  | e q => exact ih q rfl
theorem var_of {a : A} {e : Expr} (hg : Good g cc Γ X) (h : chkA a cc e = true) : ∀ i, a = .v (.var i) → ∃ j z pos, e = .Name z pos ∧ X.N[i]? = some z ∧ j = i ∧ PE X e (tVar i) := by
  intro i ha
  subst ha
  have h : (match vNam e with | some x => slB cc x i && visB cc.sc x | none => false) = true := h
  split at h
  · rename_i x e1
    obtain ⟨h1, h2⟩ := ba2 h
    obtain ⟨p, rfl⟩ := vNam_i e1
    obtain ⟨s1, s2, s3⟩ := slot_of hg h1
    exact ⟨i, x, p, rfl, s1, rfl, pe_var s1 (vis_of hg h2) s2 s3⟩
  · cases h
theorem path_nc {cc : Sc} {i : Nat} {st : List Ps} {e : Expr} (h : chkPath cc i st e = true) : isCmp e = false := by
  cases st with
  | nil =>
    have h : (match vNam e with | some x => slB cc x i && visB cc.sc x | none => false) = true := h
    split at h
    · rename_i x e1; obtain ⟨p, rfl⟩ := vNam_i e1; rfl
    · cases h
  | cons s r =>
    cases s with
    | f C k =>
      have h : (match vAtt e with | some (x, f) => nSup x && decide ((cc.fl C)[k]? = some f) && chkPath cc i r x | none => false) = true := h
      split at h
      · rename_i x f e1; obtain ⟨p, rfl⟩ := vAtt_i e1; rfl
      · cases h
    | i p =>
      have h : (match vSub e with | some (x, y) => nSli y && chkPath cc i r x && chkP cc p y | none => false) = true := h
      split at h
      · rename_i x y e1; obtain ⟨p, rfl⟩ := vSub_i e1; rfl
      · cases h
theorem m2_of {x y z : Expr} {m : Str} {ap p : Pos} (hl : (ap.endLine == p.line) = true) (h3 : nSup x = true) (h4 : nStar y = true) (h5 : nStar z = true) : M2 X x m ap y z p :=
  ⟨base_n h3, by rw [starEach_n h4, starEach_n h5]; rfl, hl, by rw [starEach_n h4, starEach_n h5]; rfl⟩
theorem ev_get2 {a : A} {k d : P} {e : Expr} {ca : Expr → Bool} (hg : Good g cc Γ X) (ih : ∀ x, ca x = true → AV g Γ X W a x) (h : (match vMet e with | some (x, m, [y, z], l) => l && decide (m = Str.ofString "get") && nSup x && nStar y && nStar z && ca x && chkP cc k y && chkP cc d z | _ => false) = true) : EV g Γ X W (.get2 a k d) e ∧ isCmp e = false := by
  split at h
  · rename_i x m y z l e1
    obtain ⟨h, h8⟩ := ba2 h
    obtain ⟨h, h7⟩ := ba2 h
    obtain ⟨h, h6⟩ := ba2 h
    obtain ⟨h, h5⟩ := ba2 h
    obtain ⟨h, h4⟩ := ba2 h
    obtain ⟨h, h3⟩ := ba2 h
    obtain ⟨h1, h2⟩ := ba2 h
    obtain ⟨ap, p, rfl, el⟩ := vMet_i e1
    have em := of_decide_eq_true h2
    subst em
    have hl : (ap.endLine == p.line) = true := el ▸ h1
    obtain ⟨ta, t1, k1⟩ := ih x h6
    obtain ⟨tb, t2, k2⟩ := (P_ok hg k y h7).1
    obtain ⟨tc, t3, k3⟩ := (P_ok hg d z h8).1
    refine ⟨⟨_, pe_dget2 hg.hu t1 t2 t3 (m2_of hl h3 h4 h5), fun B env Fr σ H G Q QX R rl hq ke kx => ?_⟩, rfl⟩
    refine k1 B env Fr σ H G _ QX _ rl (show semA Γ a env (fun m env1 => match m with
      | .dK _ ks vs => evP Γ env1 k fun n => evP Γ env1 d fun x => ∃ kk, keyM n = some kk ∧ (match look ks vs kk with | some r => yes (r.fz && x.fz) (Q r env1) | none => yes x.fz (Q x env1))
      | _ => False) QX from hq) (fun m v c env1 H1 G1 hm rl ho1 => ?_) kx
    cases m with
    | dK o ks vs =>
      obtain ⟨a0, us, c', rfl, hh, hn, _, _⟩ := Own.dk rl.sGH ho1
      refine ⟨a0, rfl, .inl ⟨_, .inl hh⟩, k2 B env1 Fr σ H1 G1 _ _ rl hm fun n u d2 hn2 ho2 => ?_⟩
      refine k3 B env1 Fr σ H1 G1 _ _ rl hn2 fun w u3 d3 hw ho3 => ?_
      obtain ⟨kk0, ek, hq2⟩ := hw
      obtain ⟨a1, r, ea, hD, hr⟩ := Own.dget (k := kk0) rl.sGH ho1
      cases ea
      have eu : u = kV (kk kk0) := by
        cases n with
        | int i => cases ek; exact ho2.1
        | str cs => cases ek; exact ho2.1
        | _ => cases ek
      refine ⟨r, by rw [eu]; exact hD, ?_⟩
      cases elk : look ks vs kk0 with
      | none =>
        rw [elk] at hr hq2
        obtain ⟨y1, y2⟩ := yes_i hq2
        subst hr
        exact ke _ _ _ _ _ y2 (rl.pushz ho3 y1)
      | some m2 =>
        rw [elk] at hr hq2
        obtain ⟨y1, y2⟩ := yes_i hq2
        obtain ⟨v2, c2, rfl, o2, _⟩ := hr
        exact ke _ _ _ _ _ y2 (rl.pushz o2 (ba2 y1).1)
    | _ => exact (show False from hm).elim
  · cases h
/-! a dict of texts -/
theorem own_strs {G H : Hp} : ∀ vs : List (List Nat), OwnL g G H (vs.map fun v => V.str (sS v)) (vs.map M.str) (fun _ => 0)
  | [] => zr0
  | v :: vs => ⟨fun _ => 0, fun _ => 0, o_str v, own_strs vs, fun _ => rfl⟩
theorem dSB_ok : ∀ {ks vs : List (List Nat)} {es : List (Option Expr)} {fs : List Expr} {pos : Pos}, dSB ks vs es fs = true → es.length = ks.length ∧ fs.length = ks.length ∧ vs.length = ks.length ∧ es.all (·.isSome) = true ∧
    ∃ trs, PPs X pos es fs trs ∧ ∀ (σ : L2.St) (H : Hp) (Q : List (V × V) → Hp → Prop), Q ((ks.map fun k => V.str (sS k)).zip (vs.map fun v => V.str (sS v))) H → tPairs trs σ H Q
  | [], [], [], [], pos, _ => ⟨rfl, rfl, rfl, rfl, [], pps_nil, fun _ _ _ h => h⟩
  | k :: ks, v :: vs, some (.Constant (.str x) j1 p1) :: es, .Constant (.str y) j2 p2 :: fs, pos, h => by
    obtain ⟨h, h3⟩ := ba2 (show (decide (x.cps.toList = k) && decide (y.cps.toList = v) && dSB ks vs es fs) = true from h)
    obtain ⟨h1, h2⟩ := ba2 h
    obtain ⟨l1, l2, l3, l4, trs, hp, ht⟩ := dSB_ok (pos := pos) h3
    have e1 := of_decide_eq_true h1
    have e2 := of_decide_eq_true h2
    subst e1 e2
    refine ⟨by simp [l1], by simp [l2], by simp [l3], by rw [List.all_cons, l4]; rfl, _, pps_cons pe_str pe_str hp, fun σ H Q hq => ht σ H _ ?_⟩
    rw [List.map_cons, List.map_cons, List.zip_cons_cons, sS_of, sS_of] at hq
    exact hq
theorem merge_nodup : ∀ {more kvs : List (Key × V)}, (kvs ++ more).map (·.1) |>.Nodup → mergeK kvs more = kvs ++ more
  | [], kvs, _ => by rw [List.append_nil]; rfl
  | q :: more, kvs, h => by
    have hn : (kvs.any fun kv => decide (kv.1 = q.1)) = false := by
      rw [List.any_eq_false]
      intro kv hkv e
      have e : kv.1 = q.1 := of_decide_eq_true e
      rw [List.map_append, List.map_cons] at h
      have := (List.nodup_append.mp h).2.2 _ (List.mem_map_of_mem hkv) _ List.mem_cons_self
      exact this e
    have e : putK kvs q.1 q.2 = kvs ++ [q] := by
      unfold putK
      rw [if_neg (by rw [hn]; decide)]
    show mergeK (putK kvs q.1 q.2) more = _
    rw [e, merge_nodup (by rw [List.append_assoc]; exact h), List.append_assoc]
    rfl
theorem zip_kv : ∀ (ks : List (List Nat)) (ws : List V), (ks.map fun k => V.str (sS k)).zip ws = ((ks.map fun k => (Sum.inr (sS k) : Key)).zip ws).map fun kv => (kV kv.1, kv.2)
  | [], ws => by simp
  | k :: ks, [] => by simp
  | k :: ks, w :: ws => by
    rw [List.map_cons, List.map_cons, List.zip_cons_cons, List.zip_cons_cons, List.map_cons, zip_kv ks ws]
    rfl
theorem ev_dS {ks vs : List (List Nat)} {e : Expr} (h : dSE ks vs e = true) : EV g Γ X W (.dS ks vs) e ∧ isCmp e = false := by
  unfold dSE at h
  split at h
  · rename_i es fs pos
    obtain ⟨h0, h1⟩ := ba2 h
    obtain ⟨l1, l2, l3, l4, trs, hp, ht⟩ := dSB_ok (X := X) (pos := pos) h1
    by_cases h15 : ks.length ≤ 15
    · refine ⟨⟨_, pe_disp hp l4 (l1.trans l2.symm) (fun z => by subst z; cases h0) (by omega), fun B env Fr σ H G Q QX R rl hq ke kx p hpn => ?_⟩, rfl⟩
      obtain ⟨z1, z2⟩ := yes_i (show yes (decide (ks.length ≤ 15) && decide (vs.length = ks.length) && decide ks.Nodup) (Q (.dK true (ks.map Sum.inr) (vs.map M.str)) env) from hq)
      obtain ⟨z1, z3⟩ := ba2 z1
      have nd := of_decide_eq_true z3
      refine ht σ _ _ ⟨upd_same, (ks.map fun k => (Sum.inr (sS k) : Key)).zip (vs.map fun v => V.str (sS v)), ?_, by rw [List.length_zip]; simp; omega, ?_⟩
      · exact zip_kv _ _
      · have e1 : mergeK [] ((ks.map fun k => (Sum.inr (sS k) : Key)).zip (vs.map fun v => V.str (sS v))) = (ks.map fun k => (Sum.inr (sS k) : Key)).zip (vs.map fun v => V.str (sS v)) := by
          refine merge_nodup ?_
          rw [List.nil_append, List.map_fst_zip (by simp [l3])]
          refine List.Pairwise.map _ (fun a b hab => ?_) nd
          exact fun z => hab (sS_inj (Sum.inr.inj z))
        rw [e1]
        have e2 : upd (upd H p (.dK [])) p (.dK ((ks.map fun k => (Sum.inr (sS k) : Key)).zip (vs.map fun v => V.str (sS v)))) = upd H p (.dK ((ks.map fun k => (Sum.inr (sS k) : Key)).zip (vs.map fun v => V.str (sS v)))) := by
          funext b
          by_cases hb : b = p
          · rw [hb, upd_same, upd_same]
          · rw [upd_ne hb, upd_ne hb, upd_ne hb]
        rw [e2]
        refine ke _ _ env _ G z2 (Rel.alloc (vs := []) (ms := []) rl rfl hpn ?_)
        intro H2 e ga ha ho
        refine ⟨p, vs.map fun v => V.str (sS v), fun _ => 0, rfl, ga, ?_, by simp [l3], own_strs vs, fun b => congrArg (one p b + ·) (ho b)⟩
        rw [ha, List.map_map]
        rfl
    · refine ⟨⟨fun σ H Q => False, ⟨fun _ _ _ _ _ _ h => h.elim⟩, fun B env Fr σ H G Q QX R rl hq ke kx => ?_⟩, rfl⟩
      obtain ⟨z1, z2⟩ := yes_i (show yes (decide (ks.length ≤ 15) && decide (vs.length = ks.length) && decide ks.Nodup) (Q (.dK true (ks.map Sum.inr) (vs.map M.str)) env) from hq)
      exact h15 (of_decide_eq_true (ba2 (ba2 z1).1).1)
  · cases h
mutual
theorem E_ok : ∀ (q : E) {X : Cx} {W : WX} {cc : Sc} (e : Expr), GE g cc Γ X → Takes X W → chkE q cc e = true → EE g Γ X W q e
  | .pu p, X, W, cc, e, he, tk, h => by
    have q := P_ok he.good p e h
    exact ⟨ev_pu q.1, (fun z => by cases z), fun _ => eq_pu q.1⟩
  | .vr i, X, W, cc, e, he, tk, h => by
    have h : (match vNam e with | some x => slB cc x i && visB cc.sc x | none => false) = true := h
    split at h
    · rename_i x e1
      obtain ⟨p, rfl⟩ := vNam_i e1
      exact ee (ev_vr he.good h) rfl rfl
    · cases h
  | .mv i, X, W, cc, e, he, tk, h => by
    have h : (match vNam e with | some x => slB cc x i && visB cc.sc x | none => false) = true := h
    split at h
    · rename_i x e1
      obtain ⟨p, rfl⟩ := vNam_i e1
      exact ee (ev_mv he.good h) rfl rfl
    · cases h
  | .sh i st, X, W, cc, e, he, tk, h => by
    have hc : isCmp e = false := path_nc h
    exact ee (ev_sh he.good h) hc rfl
  | .o1 o a, X, W, cc, e, he, tk, h => by
    have h : (match f1E o with
    | true => chk1 cc o (chkA a cc) e
    | false => (match mkOp o, vCall e with
      | some (n, _), some (f, [x]) => !cc.hot && blB cc f n && nStar x && chkA a cc x
      | _, _ => false)) = true := h
    split at h
    · rename_i hf
      obtain ⟨z1, z2⟩ := ev_chk1 he.good hf (fun x hx => ak_av (A_ok a x he tk hx)) h
      exact ⟨z1, fun _ => z2, fun z => by cases z⟩
    · obtain ⟨z1, z2⟩ := ev_mk he.good (fun x hx => ak_av (A_ok a x he tk hx)) h
      exact ee z1 z2 rfl
  | .o2 o a b, X, W, cc, e, he, tk, h => by
    obtain ⟨h1, h2⟩ := ba2 (show (f2E o && chk2 cc o (chkA a cc) (chkA b cc) e) = true from h)
    obtain ⟨z1, z2⟩ := ev_chk2 he.good h1 (fun x y hx hy => av2 (A_ok a x he tk hx) (A_ok b y he tk hy) (var_of he.good hx)) h2
    exact ⟨z1, fun _ => z2, fun z => by cases z⟩
  | .o2s o p b, X, W, cc, e, he, tk, h => by
    obtain ⟨z1, z2⟩ := ev_o2s (W := W) (Γ := Γ) he.good (fun x hx => (P_ok he.good p x hx).1) (fun x hx => ak_av (A_ok b x he tk hx)) h
    exact ee z1 z2 rfl
  | .slc a lo hi, X, W, cc, e, he, tk, h => by
    have h : (match vSli e with | some (x, l, u) => chkA a cc x && chkO cc lo l && chkO cc hi u | none => false) = true := h
    split at h
    · rename_i x l u e1
      obtain ⟨h, h3⟩ := ba2 h
      obtain ⟨h1, h2⟩ := ba2 h
      obtain ⟨p, q, rfl⟩ := vSli_i e1
      exact ee (ev_slc he.good (ak_av (A_ok a x he tk h1)) (O_ok he.good lo l h2) (O_ok he.good hi u h3)) rfl rfl
    · cases h
  | .slr a, _, _, _, _, _, _, h => by cases h
  | .tup qs, X, W, cc, e, he, tk, h => by
    have h : (match vTup e with | some es => chkEs qs cc es | none => false) = true := h
    split at h
    · rename_i es e1
      obtain ⟨k, p, rfl⟩ := vTup_i e1
      obtain ⟨z1, z2⟩ := Es_ok qs es he tk h
      exact ⟨ev_tup z1, fun _ => ne rfl, fun z => eq_tup (z2 z)⟩
    · cases h
  | .lst qs, X, W, cc, e, he, tk, h => by
    have h : (match vLst e with | some es => chkEs qs cc es | none => false) = true := h
    split at h
    · rename_i es e1
      obtain ⟨p, rfl⟩ := vLst_i e1
      obtain ⟨z1, z2⟩ := Es_ok qs es he tk h
      exact ⟨ev_lst z1, fun _ => ne rfl, fun z => eq_lst (z2 z)⟩
    · cases h
  | .lrg q, X, W, cc, e, he, tk, h => by
    obtain ⟨hco, h⟩ := ba2 (show (!cc.hot && (match vCall e with
      | some (f1, [y]) => (match vCall y with
        | some (f2, [x]) => blB cc f1 "list" && blB cc f2 "range" && nStar x && chkP cc q x
        | _ => false)
      | _ => false)) = true from h)
    split at h
    · rename_i f1 y e1
      split at h
      · rename_i f2 x e2
        obtain ⟨h, h4⟩ := ba2 h
        obtain ⟨h, h3⟩ := ba2 h
        obtain ⟨h1, h2⟩ := ba2 h
        obtain ⟨p1, p2, rfl⟩ := vCall_i e1
        obtain ⟨p3, p4, rfl⟩ := vCall_i e2
        exact ee (ev_lrg he.good (he.good.calm (cold_n hco)) (bl_of he.good h1) (bl_of he.good h2) h3 (P_ok he.good q x h4).1) rfl rfl
      · cases h
    · cases h
  | .dK0, X, W, cc, e, he, tk, h => by
    obtain ⟨p, rfl⟩ := isD0_i h
    exact ee ev_dK0 rfl rfl
  | .dT0, X, W, cc, e, he, tk, h => by
    obtain ⟨p, rfl⟩ := isD0_i h
    exact ee ev_dT0 rfl rfl
  | .dS ks vs, X, W, cc, e, he, tk, h => by
    obtain ⟨z1, z2⟩ := ev_dS (g := g) (Γ := Γ) (X := X) (W := W) h
    exact ee z1 z2 rfl
  | .sll a q, X, W, cc, e, he, tk, h => by
    have h : (match vSli e with | some (x, some l, none) => chkP cc a x && chkE q cc l | _ => false) = true := h
    split at h
    · rename_i x l e1
      obtain ⟨h1, h2⟩ := ba2 h
      obtain ⟨p, q2, rfl⟩ := vSli_i e1
      exact ee (ev_sll he.good (P_ok he.good a x h1).1 (E_ok q l he tk h2).1) rfl rfl
    · cases h
  | .call f as, X, W, cc, e, he, tk, h => by
    obtain ⟨hco, h⟩ := ba2 (show (!cc.hot && (match vCall e with | some (x, es) => cc.fns.contains (f, x) && glB cc.sc x && dbg x && sepG (as.map agI) && chkGs as cc es | none => false)) = true from h)
    have hco := cold_n hco
    split at h
    · rename_i x es e1
      obtain ⟨h, h5⟩ := ba2 h
      obtain ⟨h, h4⟩ := ba2 h
      obtain ⟨h, h3⟩ := ba2 h
      obtain ⟨h1, h2⟩ := ba2 h
      obtain ⟨p, q, rfl⟩ := vCall_i e1
      obtain ⟨n1, n2⟩ := all_starG h5
      have hG := Gs_ok as es he tk h5
      cases es with
      | nil =>
        have e0 := nil_of n2 rfl
        subst e0
        exact ee (ev_call0 hco he tk (mem_of h1) h2 h3) rfl rfl
      | cons y ys => exact ee (ev_call hco he tk (mem_of h1) h2 h3 h4 hG n1) rfl rfl
    · cases h
  | .callL j as, X, W, cc, e, he, tk, h => by
    obtain ⟨hco, h⟩ := ba2 (show (!cc.hot && (match vCall e with | some (x, es) => (slB cc x j && visB cc.sc x) && sepG (as.map agI) && chkGs as cc es && !es.isEmpty | none => false)) = true from h)
    have hco := cold_n hco
    split at h
    · rename_i x es e1
      obtain ⟨h, h4⟩ := ba2 h
      obtain ⟨h, h3⟩ := ba2 h
      obtain ⟨h1, h2⟩ := ba2 h
      obtain ⟨p, q, rfl⟩ := vCall_i e1
      obtain ⟨n1, n2⟩ := all_starG h3
      have hG := Gs_ok as es he tk h3
      cases es with
      | nil => cases h4
      | cons y ys => exact ee (ev_callL hco he tk h1 h2 hG n1) rfl rfl
    · cases h
  | .mvp i st, X, W, cc, e, he, tk, h => by
    have hc : isCmp e = false := path_nc h
    exact ee (ev_mvp he.good h) hc rfl
  | .ixt i st q, X, W, cc, e, he, tk, h => by
    have h : (match vSub e with | some (x, y) => nSli y && chkPath cc i st x && quiet q && chkE q cc y | none => false) = true := h
    split at h
    · rename_i x y e1
      obtain ⟨h, h4⟩ := ba2 h
      obtain ⟨h, h3⟩ := ba2 h
      obtain ⟨h1, h2⟩ := ba2 h
      obtain ⟨p, rfl⟩ := vSub_i e1
      exact ee (ev_ixt he.good (pth he.good h2) ((E_ok q y he tk h4).2.2 h3) h1) rfl rfl
    · cases h
  | .meth C m i as, X, W, cc, e, he, tk, h => by
    obtain ⟨hco, h⟩ := ba2 (show (!cc.hot && (match vMet e with
    | some (r, mm, es, l) => (match vNam r with
      | some x => cc.mts.contains (C, mm) && decide (m = Str.toString mm) && (slB cc x i && visB cc.sc x) && sepG (some i :: as.map agI) && chkGs as cc es && l && decide (es.length < 30)
      | none => false)
    | none => false)) = true from h)
    have hco := cold_n hco
    split at h
    · rename_i r mm es l e1
      split at h
      · rename_i x e2
        obtain ⟨h, h7⟩ := ba2 h
        obtain ⟨h, h6⟩ := ba2 h
        obtain ⟨h, h5⟩ := ba2 h
        obtain ⟨h, h4⟩ := ba2 h
        obtain ⟨h, h3⟩ := ba2 h
        obtain ⟨h1, h2⟩ := ba2 h
        obtain ⟨ap, p, rfl, el⟩ := vMet_i e1
        obtain ⟨p2, rfl⟩ := vNam_i e2
        obtain ⟨n1, n2⟩ := all_starG h5
        exact ee (ev_meth (y := "") hco he tk (mem_of h1) (of_decide_eq_true h2) h3 h4 (Gs_ok as es he tk h5) n1 (fun z => by rw [z] at n2; exact List.eq_nil_of_length_eq_zero n2) (nil_of n2) (el ▸ h6) (of_decide_eq_true h7)) rfl rfl
      · cases h
    · cases h
  | .make C as, X, W, cc, e, he, tk, h => by
    obtain ⟨hco, h⟩ := ba2 (show (!cc.hot && (match vCall e with | some (x, es) => cc.mks.contains (C, x) && glB cc.sc x && dbg x && sepG (as.map agI) && chkGs as cc es | none => false)) = true from h)
    have hco := cold_n hco
    split at h
    · rename_i x es e1
      obtain ⟨h, h5⟩ := ba2 h
      obtain ⟨h, h4⟩ := ba2 h
      obtain ⟨h, h3⟩ := ba2 h
      obtain ⟨h1, h2⟩ := ba2 h
      obtain ⟨p, q, rfl⟩ := vCall_i e1
      obtain ⟨n1, n2⟩ := all_starG h5
      exact ee (ev_make hco he tk (mem_of h1) h2 h3 h4 (Gs_ok as es he tk h5) n1 (nil_of n2)) rfl rfl
    · cases h
  | .mut o i st qs, X, W, cc, e, he, tk, h => by
    have h : (match vMet e, nmM o with
    | some (r, mm, es, l), some (n, _) => decide (mm = Str.ofString n) && chkPath cc i st r && nSup r && chkEs qs cc es && (st.isEmpty || quiets qs) && l && decide (es.length < 30)
    | _, _ => false) = true := h
    split at h
    · rename_i r mm es l n k e1 e2
      obtain ⟨h, h7⟩ := ba2 h
      obtain ⟨h, h6⟩ := ba2 h
      obtain ⟨h, h5⟩ := ba2 h
      obtain ⟨h, h4⟩ := ba2 h
      obtain ⟨h, h3⟩ := ba2 h
      obtain ⟨h1, h2⟩ := ba2 h
      obtain ⟨ap, p, rfl, el⟩ := vMet_i e1
      have em := of_decide_eq_true h1
      subst em
      obtain ⟨n1, n2⟩ := all_star h4
      obtain ⟨z1, z2⟩ := Es_ok qs es he tk h4
      cases st with
      | nil => exact ee (ev_mut0 he.good (pth he.good h2) e2 h3 z1 (nil_of n2) n1 (el ▸ h6) (of_decide_eq_true h7)) rfl rfl
      | cons s st => exact ee (ev_mutP he.good (pth he.good h2) e2 h3 (z2 (by simpa using h5)) (nil_of n2) n1 (el ▸ h6) (of_decide_eq_true h7)) rfl rfl
    · cases h
  | .and a b, X, W, cc, e, he, tk, h => by
    have h : (match vBoo e with
      | some (.And, [x, y]) => chkE a cc x && chkE b cc y
      | some (.And, x :: y :: z :: r) => chkE a cc x && chkE b cc (.BoolOp .And (y :: z :: r) e.pos)
      | _ => false) = true := h
    split at h
    · rename_i x y e1
      obtain ⟨h1, h2⟩ := ba2 h
      obtain ⟨p, rfl⟩ := vBoo_i e1
      exact ee (ev_and (E_ok a x he tk h1).1 (ev_one (E_ok b y he tk h2).1)) rfl rfl
    · rename_i x y z r e1
      obtain ⟨h1, h2⟩ := ba2 h
      obtain ⟨p, rfl⟩ := vBoo_i e1
      exact ee (ev_and (E_ok a x he tk h1).1 (E_ok b _ he tk h2).1) rfl rfl
    · cases h
  | .or a b, X, W, cc, e, he, tk, h => by
    have h : (match vBoo e with
      | some (.Or, [x, y]) => chkE a cc x && chkE b cc y
      | some (.Or, x :: y :: z :: r) => chkE a cc x && chkE b cc (.BoolOp .Or (y :: z :: r) e.pos)
      | _ => false) = true := h
    split at h
    · rename_i x y e1
      obtain ⟨h1, h2⟩ := ba2 h
      obtain ⟨p, rfl⟩ := vBoo_i e1
      exact ee (ev_or (E_ok a x he tk h1).1 (ev_one (E_ok b y he tk h2).1)) rfl rfl
    · rename_i x y z r e1
      obtain ⟨h1, h2⟩ := ba2 h
      obtain ⟨p, rfl⟩ := vBoo_i e1
      exact ee (ev_or (E_ok a x he tk h1).1 (E_ok b _ he tk h2).1) rfl rfl
    · cases h
  | .not a, X, W, cc, e, he, tk, h => by
    have h : (match vUn e with | some (.Not, x) => chkE a cc x | _ => false) = true := h
    split at h
    · rename_i x e1
      obtain ⟨p, rfl⟩ := vUn_i e1
      exact ee (ev_not (E_ok a x he tk h).1) rfl rfl
    · cases h
  | .ifx t a b, X, W, cc, e, he, tk, h => by
    have h : (match vIfx e with | some (x, y, z) => chkTT t cc x && chkE a cc y && chkE b cc z | _ => false) = true := h
    split at h
    · rename_i x y z e1
      obtain ⟨h, h3⟩ := ba2 h
      obtain ⟨h1, h2⟩ := ba2 h
      obtain ⟨p, rfl⟩ := vIfx_i e1
      exact ee (ev_ifx (TT_ok t x he tk h1).1 (E_ok a y he tk h2).1 (E_ok b z he tk h3).1) rfl rfl
    · cases h
  | .comp i it cs q, X, W, cc, e, he, tk, h => by
    obtain ⟨hco, h⟩ := ba2 (show (!cc.hot && (match vLc e with
    | some (x, elt, iter, ifs, scope) => chkI it cc iter && blkB cc scope x i && locB (blkSc cc scope).sc x && ((scope.names.lookup x == some .cell) || decide ((relab cc.sc scope).names.lookup x = some .local)) && nSet iter && chkTs (blkSc cc scope) cs ifs && chkE q (blkSc cc scope) elt
    | none => false)) = true from h)
    have hco := cold_n hco
    split at h
    · rename_i x elt iter ifs scope e1
      obtain ⟨h, h7⟩ := ba2 h
      obtain ⟨h, h6⟩ := ba2 h
      obtain ⟨h, h5⟩ := ba2 h
      obtain ⟨h, h4⟩ := ba2 h
      obtain ⟨h, h3⟩ := ba2 h
      obtain ⟨h1, h2⟩ := ba2 h
      obtain ⟨p, pos, rfl⟩ := vLc_i e1
      have fn : (scope.names.lookup x == some .cell) = true ∨ (relab cc.sc scope).names.lookup x = some .local := by
        rcases Bool.or_eq_true_iff.mp h4 with z | z
        · exact .inl z
        · exact .inr (of_decide_eq_true z)
      have ht : ∀ (s : Shared) (H : Hp) (C : Addr) (cl : List (Str × Addr)) (fp : List Addr), TSV g Γ (X.blk s H scope (compEnvC scope cl C X.env) fp) cs ifs := by
        intro s H C cl fp
        match cs, ifs, h6 with
        | [], [], _ => exact tsv_nil
        | [t], [c], h6 => exact tsv_one (T_ok (good_blk hco he s H C cl fp).good t c h6).1
      obtain ⟨t, t1, _, t3⟩ := ev_comp (Γ := Γ) (pos := pos) hco he (I_ok it (.Name x p) iter he tk h1) h2 h3 fn (fold_n h5) ht fun s H C cl fp => (E_ok q elt (good_blk hco he s H C cl fp) (takes_blk s H C cl fp) h7).1
      exact ee ⟨t, t1, t3⟩ rfl rfl
    · cases h
  | .get2 a k d, X, W, cc, e, he, tk, h => by
    obtain ⟨z1, z2⟩ := ev_get2 (W := W) (Γ := Γ) he.good (fun x hx => ak_av (A_ok a x he tk hx)) h
    exact ee z1 z2 rfl
theorem A_ok : ∀ (a : A) {X : Cx} {W : WX} {cc : Sc} (e : Expr), GE g cc Γ X → Takes X W → chkA a cc e = true → AK g Γ X W a e
  | .v p, X, W, cc, e, he, tk, h => (P_ok he.good p e h).1
  | .e q, X, W, cc, e, he, tk, h => (E_ok q e he tk h).1
theorem Es_ok : ∀ (qs : List E) {X : Cx} {W : WX} {cc : Sc} (es : List Expr), GE g cc Γ X → Takes X W → chkEs qs cc es = true → ESV g Γ X W qs es ∧ (quiets qs = true → ESQ g Γ X qs es)
  | [], X, W, cc, [], he, tk, h => ⟨es_nil, fun _ => esq_nil⟩
  | [], _, _, _, _ :: _, _, _, h => by cases h
  | _ :: _, _, _, _, [], _, _, h => by cases h
  | q :: qs, X, W, cc, e :: es, he, tk, h => by
    obtain ⟨h, h3⟩ := ba2 (show (nStar e && chkE q cc e && chkEs qs cc es) = true from h)
    obtain ⟨h1, h2⟩ := ba2 h
    obtain ⟨z1, z2⟩ := Es_ok qs es he tk h3
    have w := E_ok q e he tk h2
    refine ⟨es_cons h1 w.1 z1, fun z => ?_⟩
    obtain ⟨y1, y2⟩ := ba2 (show (quiet q && quiets qs) = true from z)
    exact esq_cons h1 (w.2.2 y1) (z2 y2)
theorem Gs_ok : ∀ (qs : List Ag) {X : Cx} {W : WX} {cc : Sc} (es : List Expr), GE g cc Γ X → Takes X W → chkGs qs cc es = true → GSV g Γ X W qs es
  | [], X, W, cc, [], he, tk, h => gs_nil
  | [], _, _, _, _ :: _, _, _, h => by cases h
  | .r _ :: _, _, _, _, [], _, _, h => by cases h
  | .e _ :: _, _, _, _, [], _, _, h => by cases h
  | .r i :: qs, X, W, cc, e :: es, he, tk, h => by
    obtain ⟨h1, h2⟩ := ba2 (show ((match vNam e with | some x => slB cc x i && visB cc.sc x | none => false) && chkGs qs cc es) = true from h)
    split at h1
    · rename_i x e1
      obtain ⟨p, rfl⟩ := vNam_i e1
      exact gs_r he.good h1 (Gs_ok qs es he tk h2)
    · cases h1
  | .e q :: qs, X, W, cc, e :: es, he, tk, h => by
    obtain ⟨h, h3⟩ := ba2 (show (nStar e && chkE q cc e && chkGs qs cc es) = true from h)
    obtain ⟨h1, h2⟩ := ba2 h
    exact gs_e h1 (E_ok q e he tk h2).1 (Gs_ok qs es he tk h3)
theorem I_ok : ∀ (it : I) {X : Cx} {W : WX} {cc : Sc} (tg e : Expr), GE g cc Γ X → Takes X W → chkI it cc e = true → IV g Γ X W it tg e
  | .rng qs, X, W, cc, tg, e, he, tk, h => by
    have h : (match vCall e with | some (x, es) => blB cc x "range" && chkEs qs cc es && (decide (es.length = 1) || decide (es.length = 2) || decide (es.length = 3)) | none => false) = true := h
    split at h
    · rename_i x es e1
      obtain ⟨h, h3⟩ := ba2 h
      obtain ⟨h1, h2⟩ := ba2 h
      obtain ⟨p, q, rfl⟩ := vCall_i e1
      obtain ⟨n1, n2⟩ := all_star h2
      exact iv_rng he.good (bl_of he.good h1) n1 n2 (Es_ok qs es he tk h2).1 (by simpa [or_assoc] using h3)
    · cases h
  | .val k q, X, W, cc, tg, e, he, tk, h => by
    obtain ⟨h1, h2⟩ := ba2 (show ((decide (k = 0) || decide (k = 1) || decide (k = 2)) && chkE q cc e) = true from h)
    exact iv_val he.good (by simpa [or_assoc] using h1) (E_ok q e he tk h2).1
  | .vw i, X, W, cc, tg, e, he, tk, h => by
    have h : (match vNam e with | some x => slB cc x i && visB cc.sc x | none => false) = true := h
    split at h
    · rename_i x e1
      obtain ⟨p, rfl⟩ := vNam_i e1
      exact iv_vw he.good h
    · cases h
  | .pth _ _, _, _, _, _, _, _, _, h => by cases h
theorem TT_ok : ∀ (t : TT) {X : Cx} {W : WX} {cc : Sc} (e : Expr), GE g cc Γ X → Takes X W → chkTT t cc e = true → TTW g Γ X W t e
  | .p t, X, W, cc, e, he, tk, h => by
    obtain ⟨z1, z2⟩ := T_ok he.good t e h
    exact ⟨tv_p z1, fun op es pos q => twv_p (z2 op es pos q)⟩
  | .e q, X, W, cc, e, he, tk, h => by
    obtain ⟨h1, h2⟩ := ba2 (show ((nTst e || (isCmp e && !isPu q)) && chkE q cc e) = true from h)
    have w := E_ok q e he tk h2
    have nb : ∀ op es pos, e = .BoolOp op es pos → False := fun op es pos z => by
      subst z
      cases h1
    refine ⟨?_, fun op es pos z => (nb op es pos z).elim⟩
    rcases Bool.or_eq_true_iff.mp h1 with z | z
    · exact tv_e he.good w.1 z
    · obtain ⟨z1, z2⟩ := ba2 z
      exact w.2.1 (by simpa using z2) z1
  | .not t, X, W, cc, e, he, tk, h => by
    have h : (match vUn e with | some (.Not, x) => chkTT t cc x | _ => false) = true := h
    split at h
    · rename_i x e1
      obtain ⟨p, rfl⟩ := vUn_i e1
      exact ⟨tv_not (TT_ok t x he tk h).1, fun op es pos q => by cases q⟩
    · cases h
  | .and a b, X, W, cc, e, he, tk, h => by
    have h : (match vBoo e with
      | some (.And, [x, y]) => chkTT a cc x && chkTT b cc y
      | some (.And, x :: y :: z :: r) => chkTT a cc x && chkTT b cc (.BoolOp .And (y :: z :: r) e.pos)
      | _ => false) = true := h
    split at h
    · rename_i x y e1
      obtain ⟨h1, h2⟩ := ba2 h
      obtain ⟨p, rfl⟩ := vBoo_i e1
      have w := tw_and (pos := p) (TT_ok a x he tk h1).1 (tw_1 (pos := p) .And (TT_ok b y he tk h2).1)
      exact ⟨tw_t w, fun op es pos q => w⟩
    · rename_i x y z r e1
      obtain ⟨h1, h2⟩ := ba2 h
      obtain ⟨p, rfl⟩ := vBoo_i e1
      have w := tw_and (pos := p) (TT_ok a x he tk h1).1 ((TT_ok b _ he tk h2).2 _ _ _ rfl)
      exact ⟨tw_t w, fun op es pos q => w⟩
    · cases h
  | .or a b, X, W, cc, e, he, tk, h => by
    have h : (match vBoo e with
      | some (.Or, [x, y]) => chkTT a cc x && chkTT b cc y
      | some (.Or, x :: y :: z :: r) => chkTT a cc x && chkTT b cc (.BoolOp .Or (y :: z :: r) e.pos)
      | _ => false) = true := h
    split at h
    · rename_i x y e1
      obtain ⟨h1, h2⟩ := ba2 h
      obtain ⟨p, rfl⟩ := vBoo_i e1
      have w := tw_or (pos := p) (TT_ok a x he tk h1).1 (tw_1 (pos := p) .Or (TT_ok b y he tk h2).1)
      exact ⟨tw_t w, fun op es pos q => w⟩
    · rename_i x y z r e1
      obtain ⟨h1, h2⟩ := ba2 h
      obtain ⟨p, rfl⟩ := vBoo_i e1
      have w := tw_or (pos := p) (TT_ok a x he tk h1).1 ((TT_ok b _ he tk h2).2 _ _ _ rfl)
      exact ⟨tw_t w, fun op es pos q => w⟩
    · cases h
end
end
end Q
set_option Elab.async false
set_option linter.all false
set_option maxRecDepth 100000
set_option maxHeartbeats 4000000
namespace Q
open PySem PySem.Spec PyProof.Rows L2
local macro_rules | `(tactic| walk_at "cn") => `(tactic| ((try dsimp only at *); omega))
/-- the context of a def's body (or of a try in it) -/
structure GS (g : Gi) (c : Sc) (Γ : Gm) (X : Cx) : Prop where
  ge : GE g c Γ X
  fn : ∀ x, X.fn x = true
  po : c.hot = false → PassesOwn (model X.prog X.w) X.A X.env X.xe
  stk : X.stack = X.env :: X.outer
  frm : X.env.frame = some X.env.locals
/-- what is wanted behind, here and there -/
structure KS (g : Gi) (B : Bs) (D : Dn) (Dx : Ends) (W : WX) : Prop where
  nx : ∀ env σ H G, D.nx env → Rel g B env [] σ H G → Dx.nx σ H
  bk : ∀ env σ H G, D.bk env → Rel g B env [] σ H G → Dx.bk σ H
  ct : ∀ env σ H G, D.ct env → Rel g B env [] σ H G → Dx.ct σ H
  rt : ∀ m v env σ H G, D.rt m env → Rel g B env [(v, m)] σ H G → Dx.rt v H
  ex : ∀ σ, KX g B [] σ D.ex W
def SV (g : Gi) (Γ : Gm) (X : Cx) (W : WX) (fx : List Nat) (s : S) (st : Stmt) : Prop := ∃ t : TS, PS X st t ∧ ∀ (B : Bs) (env : En) (σ : L2.St) (H G : Hp) (D : Dn) (Dx : Ends), B.fx = fx → Rel g B env [] σ H G → semS Γ s D env → KS g B D Dx W → t Dx σ H
def SSV (g : Gi) (Γ : Gm) (X : Cx) (W : WX) (fx : List Nat) (s : List S) (st : List Stmt) : Prop := ∃ t : TS, PSs X st t ∧ ∀ (B : Bs) (env : En) (σ : L2.St) (H G : Hp) (D : Dn) (Dx : Ends), B.fx = fx → Rel g B env [] σ H G → semSs Γ s D env → KS g B D Dx W → t Dx σ H
section
variable {g : Gi} {cc : Sc} {Γ : Gm} {X : Cx} {W : WX} {fx : List Nat}
theorem ss_nil : SSV g Γ X W fx [] [] := ⟨_, pss_nil, fun B env σ H G D Dx hB rl hq k => k.nx _ _ _ _ hq rl⟩
theorem ss_cons {s : S} {r : List S} {st : Stmt} {rest : List Stmt} (h : SV g Γ X W fx s st) (t : SSV g Γ X W fx r rest) : SSV g Γ X W fx (s :: r) (st :: rest) := by
  obtain ⟨t1, h1, k1⟩ := h
  obtain ⟨t2, h2, k2⟩ := t
  refine ⟨_, pss_cons h1 h2, fun B env σ H G D Dx hB rl hq k => ?_⟩
  exact k1 B env σ H G _ _ hB rl hq ⟨fun env' σ' H' G' hn r => k2 B env' σ' H' G' D Dx hB r hn k, k.bk, k.ct, k.rt, k.ex⟩
theorem sv_set {i : Nat} {q : E} {x : Str} {e : Expr} {p pos : Pos} (hs : GS g cc Γ X) (h1 : slB cc x i = true) (h2 : locB cc.sc x = true) (h3 : i ∉ fx) (he : EV g Γ X W q e) (hw : swapsWith e (some (.Name x p)) pos.line X.env = pure false) : SV g Γ X W fx (.set i q) (.Assign [.Name x p] e pos) := by
  have hg := hs.ge.good
  obtain ⟨te, t1, k1⟩ := he
  obtain ⟨s1, _, _⟩ := slot_of hg h1
  refine ⟨_, ps_set hg.nd s1 (loc_of hg h2) t1 hw (.inl (hs.fn x)), fun B env σ H G D Dx hB rl hq k => ?_⟩
  exact k1 B env [] σ H G _ D.ex _ rl hq (fun m v env' H' G' hm r => k.nx _ _ _ _ hm (r.set (by rw [hB]; exact h3))) (k.ex σ)
theorem sv_ex {q : E} {e : Expr} {pos : Pos} (he : EV g Γ X W q e) (hn : nComp e = true) : SV g Γ X W fx (.ex q) (.Expr e pos) := by
  obtain ⟨te, t1, k1⟩ := he
  refine ⟨_, ps_expr t1 (swp_n hn), fun B env σ H G D Dx hB rl hq k => ?_⟩
  exact k1 B env [] σ H G _ D.ex _ rl hq (fun m v env' H' G' hm r => k.nx _ _ _ _ hm r.pop) (k.ex σ)
theorem sv_ret {q : E} {e : Expr} {pos : Pos} (he : EV g Γ X W q e) : SV g Γ X W fx (.ret q) (.Return (some e) pos) := by
  obtain ⟨te, t1, k1⟩ := he
  refine ⟨_, ps_ret t1, fun B env σ H G D Dx hB rl hq k => ?_⟩
  exact k1 B env [] σ H G _ D.ex _ rl hq (fun m v env' H' G' hm r => k.rt _ _ _ _ _ _ hm r) (k.ex σ)
theorem sv_retN {pos : Pos} : SV g Γ X W fx .retN (.Return none pos) :=
  ⟨_, ps_retN, fun B env σ H G D Dx hB rl hq k => k.rt _ _ _ _ _ _ hq (rl.push0 (v := .non) (m := .non) ⟨rfl, zr0⟩)⟩
theorem sv_ite {t : TT} {a b : List S} {c : Expr} {x y : List Stmt} {pos : Pos} (ht : TV g Γ X W t c) (ha : SSV g Γ X W fx a x) (hb : SSV g Γ X W fx b y) : SV g Γ X W fx (.ite t a b) (.If c x y pos) := by
  obtain ⟨tc, h1, k1⟩ := ht
  obtain ⟨ta, h2, k2⟩ := ha
  obtain ⟨tb, h3, k3⟩ := hb
  refine ⟨_, ps_if h1 h2 h3, fun B env σ H G D Dx hB rl hq k => ?_⟩
  refine k1 B env [] σ H G (fun c env1 => match c with | true => semSs Γ a D env1 | false => semSs Γ b D env1) D.ex _ rl hq (fun c env' H' G' hc r => ?_) (k.ex σ)
  cases c with
  | true => exact iteT (k2 B env' σ H' G' D Dx hB r hc k)
  | false => exact iteF (k3 B env' σ H' G' D Dx hB r hc k)
theorem sv_whl {t : TT} {b : List S} {c : Expr} {x : List Stmt} {pos : Pos} (hco : cc.hot = false) (hs : GS g cc Γ X) (ht : TV g Γ X W t c) (hb : SSV g Γ X W fx b x) : SV g Γ X W fx (.whl t b) (.While c x [] pos) := by
  obtain ⟨tc, h1, k1⟩ := ht
  obtain ⟨tb, h2, k2⟩ := hb
  refine ⟨_, ps_while (hs.po hco) h1 h2, fun B env σ H G D Dx hB rl hq k => ?_⟩
  obtain ⟨n, hq⟩ := (show ∃ n, whlN (fun en q => semT Γ t en q D.ex) (semSs Γ b) D n env from hq)
  refine ⟨fun m σ H => ∃ env G, Rel g B env [] σ H G ∧ whlN (fun en q => semT Γ t en q D.ex) (semSs Γ b) D m env, ⟨n, env, G, rl, hq⟩, ?_⟩
  rintro m σ H ⟨env, G, rl, hq⟩
  cases m with
  | zero => exact (show False from hq).elim
  | succ m =>
    have hq : semT Γ t env (fun c env1 => match c with
      | true => semSs Γ b { nx := whlN (fun en q => semT Γ t en q D.ex) (semSs Γ b) D m, ct := whlN (fun en q => semT Γ t en q D.ex) (semSs Γ b) D m, bk := D.nx, rt := D.rt, ex := D.ex } env1
      | false => D.nx env1) D.ex := hq
    refine k1 B env [] σ H G _ D.ex _ rl hq (fun c env' H' G' hc r => ?_) (k.ex σ)
    cases c with
    | true =>
      rw [if_pos rfl]
      refine ⟨fun σ' H' => ∃ env G, Rel g B env [] σ' H' G ∧ whlN (fun en q => semT Γ t en q D.ex) (semSs Γ b) D m env, fun σ' H' ⟨env, G, h1, h2⟩ => ⟨m, Nat.lt_succ_self m, env, G, h1, h2⟩, ?_⟩
      exact k2 B env' σ H' G' _ _ hB r hc ⟨fun env σ H G hn r => ⟨env, G, r, hn⟩, k.nx, fun env σ H G hn r => ⟨env, G, r, hn⟩, k.rt, k.ex⟩
    | false =>
      rw [if_neg (by decide)]
      exact k.nx _ _ _ _ hc r
/-! ### loops over what is walked -/
theorem Rel.reG {B : Bs} {env : En} {Fr : List (V × M)} {σ : L2.St} {H G : Hp} (r : Rel g B env Fr σ H G) (is : List Nat) : Rel g { B with G0 := G, s0 := σ, fx := is } env Fr σ H G :=
  ⟨r.sGH, fun _ _ h => h, r.len, r.own, r.asg, r.off, fun b h => .inl h, fun _ _ => rfl⟩
theorem Rel.unG {B : Bs} {env env' : En} {Fr Fr' : List (V × M)} {σ σ' : L2.St} {H G H' G' : Hp} {is : List Nat} (r : Rel g B env Fr σ H G) (r' : Rel g { B with G0 := G, s0 := σ, fx := is } env' Fr' σ' H' G') (hi : ∀ i ∈ B.fx, i ∈ is) : Rel g B env' Fr' σ' H' G' := by
  refine ⟨r'.sGH, fun b x h => r'.sG0 b x (r.sG0 b x h), r'.len, r'.own, r'.asg, r'.off, fun b h => ?_, fun i h => (r'.fix i (hi i h)).trans (r.fix i h)⟩
  rcases r'.fro b h with q | q | q
  · exact r.fro b q
  · exact .inr (.inl q)
  · exact .inr (.inr q)
theorem sv_for {tg : Nat} {it : I} {b : List S} {x : Str} {p pos : Pos} {iter : Expr} {body : List Stmt} (hco : cc.hot = false) (hs : GS g cc Γ X) (hi : IV g Γ X W it (.Name x p) iter) (h1 : slB cc x tg = true) (h2 : locB cc.sc x = true) (h3 : tg ∉ fx) (hb : SSV g Γ X W fx b body) (hf : nSet iter = true)
    (hv : ∀ i, it ≠ .vw i) : SV g Γ X W fx (.for_ tg it b) (.For (.Name x p) iter body [] pos) := by
  have hg := hs.ge.good
  obtain ⟨wi, w1, w2⟩ := hi
  obtain ⟨tb, t1, k1⟩ := hb
  obtain ⟨s1, _, _⟩ := slot_of hg h1
  have PGt : PG X (.Name x p) (gName tg) := pg_name hg.nd s1 (loc_of hg h2) (.inl (hs.fn x))
  refine ⟨_, ps_for (hs.po hco) (hg.calm hco) w1 PGt t1 (fold_n hf), fun B env σ H G D Dx hB rl hq k => ?_⟩
  have hq : semI Γ it env (fun ms env1 => forL tg (semSs Γ b) D ms env1) D.ex := by
    cases it with
    | vw i => exact absurd rfl (hv i)
    | _ => exact hq
  refine w2 B env [] σ H G _ D.ex _ rl hq (fun ms J env1 H1 G1 hm r1 wk => ?_) (k.ex σ)
  refine ⟨fun n m σ' H' => n ≤ ms.length ∧ m = ms.length - n ∧ ∃ env' G', Rel g { B with G0 := G1, s0 := σ, fx := fx } env' [] σ' H' G' ∧ forL tg (semSs Γ b) D (ms.drop n) env', ⟨_, Nat.zero_le _, rfl, env1, G1, r1.reG fx, hm⟩, ?_⟩
  rintro n m σ' H' ⟨hn, hme, env', G', r', hf'⟩
  have up : ∀ {env2 : En} {Fr2 : List (V × M)} {σ2 : L2.St} {H2 G2 : Hp}, Rel g { B with G0 := G1, s0 := σ, fx := fx } env2 Fr2 σ2 H2 G2 → Rel g B env2 Fr2 σ2 H2 G2 := fun {env2 Fr2 σ2 H2 G2} r => r1.unG r fun i hi => by rw [hB] at hi; exact hi
  by_cases hlt : n < ms.length
  · right
    obtain ⟨mk, hmk⟩ : ∃ m, ms[n]? = some m := ⟨_, List.getElem?_eq_getElem hlt⟩
    obtain ⟨go, yl⟩ := wk.step n mk G' H' hmk r'.sG0 r'.sGH
    have dr : ms.drop n = mk :: ms.drop (n + 1) := by
      rw [List.drop_eq_getElem_cons hlt]
      rw [List.getElem?_eq_getElem hlt] at hmk
      rw [Option.some.inj hmk]
    rw [dr] at hf'
    refine ⟨go, fun σ2 H2 => ∃ env2 G2, Rel g { B with G0 := G1, s0 := σ, fx := fx } env2 [] σ2 H2 G2 ∧ forL tg (semSs Γ b) D (ms.drop (n + 1)) env2, fun σ2 H2 ⟨env2, G2, q1, q2⟩ => ⟨ms.length - (n + 1), by omega, by omega, rfl, env2, G2, q1, q2⟩, fun v H2 hy => ?_⟩
    obtain ⟨eH, ow⟩ := yl v H2 hy
    subst eH
    have r2 := (r'.push0 ow).set (i := tg) h3
    exact k1 _ _ _ _ _ _ _ rfl r2 hf' ⟨fun env σ H G hn r => ⟨env, G, r, hn⟩, fun env σ H G hn r => k.nx env σ H G hn (up r), fun env σ H G hn r => ⟨env, G, r, hn⟩, fun m v env σ H G hn r => k.rt m v env σ H G hn (up r), fun σ x env' H' G' cls d h r xr => k.ex σ x env' H' G' cls d h (up r) xr⟩
  · left
    have e : n = ms.length := by omega
    subst e
    rw [List.drop_length] at hf'
    exact ⟨wk.stop _ G' H' (Nat.le_refl _) r'.sG0 r'.sGH, k.nx _ _ _ _ hf' (up r')⟩
/-- over what a name holds, which stays -/
theorem sv_forV {tg i : Nat} {b : List S} {x y : Str} {p p2 pos : Pos} {body : List Stmt} (hco : cc.hot = false) (hs : GS g cc Γ X) (hy : (slB cc y i && visB cc.sc y) = true) (h1 : slB cc x tg = true) (h2 : locB cc.sc x = true) (h3 : tg ∉ i :: fx) (hb : SSV g Γ X W (i :: fx) b body) :
    SV g Γ X W fx (.for_ tg (.vw i) b) (.For (.Name x p) (.Name y p2) body [] pos) := by
  have hg := hs.ge.good
  obtain ⟨y1, y2⟩ := ba2 hy
  obtain ⟨q1, q2, q3⟩ := slot_of hg y1
  have pv := pe_var (X := X) (pos := p2) q1 (vis_of hg y2) q2 q3
  obtain ⟨tb, t1, k1⟩ := hb
  obtain ⟨s1, _, _⟩ := slot_of hg h1
  have PGt : PG X (.Name x p) (gName tg) := pg_name hg.nd s1 (loc_of hg h2) (.inl (hs.fn x))
  refine ⟨_, ps_for (hs.po hco) (hg.calm hco) (PI_or (pi_list pv) (PI_or (pi_tup pv) (pi_str pv))) PGt t1 (fold_n rfl), fun B env σ H G D Dx hB rl hq k => ?_⟩
  obtain ⟨z1, z2⟩ := yes_i (show yes (gt env i).ok (match itemsOf (gt env i) with | some ms => forV i tg (gt env i) (semSs Γ b) D ms env | none => False) from hq)
  generalize hm0 : gt env i = m0 at z1 z2
  cases hi : itemsOf m0 with
  | none => rw [hi] at z2; exact z2.elim
  | some ms =>
    rw [hi] at z2
    have hh : gt env i ≠ .hole := ok_hole (by rw [hm0]; exact z1)
    obtain ⟨v0, c0, hv0, ho0⟩ := rl.var hh
    rw [hm0] at ho0
    have up : ∀ {env2 : En} {Fr2 : List (V × M)} {σ2 : L2.St} {H2 G2 : Hp}, Rel g { B with G0 := G, s0 := σ, fx := i :: fx } env2 Fr2 σ2 H2 G2 → Rel g B env2 Fr2 σ2 H2 G2 := fun {env2 Fr2 σ2 H2 G2} r => rl.unG r fun i hi => by rw [hB] at hi; exact List.mem_cons_of_mem _ hi
    -- what a turn sees
    have main : ∀ (J : It), (∀ H2 G2 c, Same G2 H2 → Own g G2 H2 v0 m0 c → (∀ n mk, ms[n]? = some mk → J.go n H2 ∧ ∀ v H', J.yld n H2 v H' → H' = H2 ∧ Own g G2 H2 v mk (fun _ => 0)) ∧ J.stop ms.length H2) →
        ∃ Wi : Nat → Nat → L2.St → Hp → Prop, (∃ m, Wi 0 m σ H) ∧ ∀ n m σ H, Wi n m σ H → (J.stop n H ∧ Dx.nx σ H) ∨ (J.go n H ∧ ∃ N : L2.St → Hp → Prop, (∀ σ' H', N σ' H' → ∃ m', m' < m ∧ Wi (n + 1) m' σ' H') ∧ ∀ x H', J.yld n H x H' → gName tg x σ H' fun σ2 H2 => tb { Dx with nx := N, ct := N, bk := Dx.nx } σ2 H2) := by
      intro J turn
      refine ⟨fun n m σ' H' => n ≤ ms.length ∧ m = ms.length - n ∧ ∃ env' G', Rel g { B with G0 := G, s0 := σ, fx := i :: fx } env' [] σ' H' G' ∧ forV i tg m0 (semSs Γ b) D (ms.drop n) env', ⟨_, Nat.zero_le _, rfl, env, G, rl.reG (i :: fx), z2⟩, ?_⟩
      rintro n m σ' H' ⟨hn, hme, env', G', r', hf'⟩
      have he : gt env' i = m0 := by
        cases hd : ms.drop n with
        | nil => rw [hd] at hf'; exact hf'.1
        | cons a l => rw [hd] at hf'; exact hf'.1
      have hh' : gt env' i ≠ .hole := by rw [he]; exact ok_hole z1
      obtain ⟨v', c', hv', ho'⟩ := r'.var hh'
      have ev : v' = v0 := by
        have := r'.fix i List.mem_cons_self
        have e1 : σ'[i]? = σ[i]? := this
        rw [hv', hv0] at e1
        simpa using e1
      subst ev
      rw [he] at ho'
      obtain ⟨st1, st2⟩ := turn H' G' c' r'.sGH ho'
      by_cases hlt : n < ms.length
      · right
        obtain ⟨mk, hmk⟩ : ∃ m, ms[n]? = some m := ⟨_, List.getElem?_eq_getElem hlt⟩
        obtain ⟨go, yl⟩ := st1 n mk hmk
        have dr : ms.drop n = mk :: ms.drop (n + 1) := by
          rw [List.drop_eq_getElem_cons hlt]
          rw [List.getElem?_eq_getElem hlt] at hmk
          rw [Option.some.inj hmk]
        rw [dr] at hf'
        refine ⟨go, fun σ2 H2 => ∃ env2 G2, Rel g { B with G0 := G, s0 := σ, fx := i :: fx } env2 [] σ2 H2 G2 ∧ forV i tg m0 (semSs Γ b) D (ms.drop (n + 1)) env2, fun σ2 H2 ⟨env2, G2, q1, q2⟩ => ⟨ms.length - (n + 1), by omega, by omega, rfl, env2, G2, q1, q2⟩, fun v H2 hy => ?_⟩
        obtain ⟨eH, ow⟩ := yl v H2 hy
        subst eH
        have r2 := (r'.push0 ow).set (i := tg) h3
        exact k1 _ _ _ _ _ _ _ rfl r2 hf'.2 ⟨fun env σ H G hn r => ⟨env, G, r, hn⟩, fun env σ H G hn r => k.nx env σ H G hn (up r), fun env σ H G hn r => ⟨env, G, r, hn⟩, fun m v env σ H G hn r => k.rt m v env σ H G hn (up r), fun σ x env' H' G' cls d h r xr => k.ex σ x env' H' G' cls d h (up r) xr⟩
      · left
        have e : n = ms.length := by omega
        subst e
        rw [List.drop_length] at hf'
        exact ⟨st2, k.nx _ _ _ _ hf'.2 (up r')⟩
    have zz : ∀ {G2 H2 : Hp} {us : List V} {c : Cn}, fzL ms = true → OwnL g G2 H2 us ms c → ∀ n mk, ms[n]? = some mk → ∃ v, us[n]? = some v ∧ Own g G2 H2 v mk (fun _ => 0) := fun {G2 H2 us c} f o n mk h => ownl_at (o.z f) h
    have fit : ∀ {b : Bool} {l : List M}, (if b = true then some l else none) = some ms → b = true ∧ l = ms := fun {b l} h => by
      cases b with
      | true => exact ⟨rfl, Option.some.inj h⟩
      | false => cases h
    rw [hg.eK]
    cases m0 with
    | lst o xs =>
      have h0 : fzL xs = true ∧ xs = ms := by cases o <;> exact fit hi
      obtain ⟨f, rfl⟩ := h0
      left
      refine ⟨v0, hv0, ?_⟩
      obtain ⟨a, us, c', ev, s1, _⟩ := seq_of rl.sGH ho0
      refine ⟨a, ev, ⟨us, s1⟩, main _ fun H2 G2 c sG ho => ?_⟩
      obtain ⟨a', us', c2, ev', s2, ol, _⟩ := seq_of sG ho
      rw [ev] at ev'
      cases ev'
      refine ⟨fun n mk hn => ?_, ⟨us', s2, by rw [OwnL.len ol]; exact Nat.le_refl _⟩⟩
      obtain ⟨v, e1, o1⟩ := zz f ol n mk hn
      refine ⟨⟨us', v, s2, e1⟩, fun x H' hy => ?_⟩
      obtain ⟨eH, hx⟩ := hy
      have := hx us' s2
      rw [e1] at this
      cases this
      exact ⟨eH, o1⟩
    | tup xs =>
      obtain ⟨f, rfl⟩ := fit hi
      right; left
      refine ⟨v0, hv0, ?_⟩
      obtain ⟨a, us, ev, s1, _⟩ := tup_of rl.sGH ho0
      refine ⟨a, ev, ⟨us, s1⟩, main _ fun H2 G2 c sG ho => ?_⟩
      obtain ⟨a', us', ev', s2, ol⟩ := tup_of sG ho
      rw [ev] at ev'
      cases ev'
      refine ⟨fun n mk hn => ?_, ⟨us', s2, by rw [OwnL.len ol]; exact Nat.le_refl _⟩⟩
      obtain ⟨v, e1, o1⟩ := zz f ol n mk hn
      refine ⟨⟨us', v, s2, e1⟩, fun x H' hy => ?_⟩
      obtain ⟨eH, hx⟩ := hy
      have := hx us' s2
      rw [e1] at this
      cases this
      exact ⟨eH, o1⟩
    | ktup xs =>
      obtain ⟨f, rfl⟩ := fit hi
      right; left
      refine ⟨v0, hv0, ?_⟩
      obtain ⟨a, us, ev, s1, _⟩ := ktup_of (G := G) (H := H) ho0
      refine ⟨a, ev, ⟨us, s1⟩, main _ fun H2 G2 c sG ho => ?_⟩
      obtain ⟨a', us', ev', s2, ol⟩ := ktup_of ho
      rw [ev] at ev'
      cases ev'
      refine ⟨fun n mk hn => ?_, ⟨us', s2, by rw [OwnL.len ol]; exact Nat.le_refl _⟩⟩
      obtain ⟨v, e1, o1⟩ := zz f ol n mk hn
      refine ⟨⟨us', v, s2, e1⟩, fun x H' hy => ?_⟩
      obtain ⟨eH, hx⟩ := hy
      have := hx us' s2
      rw [e1] at this
      cases this
      exact ⟨eH, o1⟩
    | str cs =>
      have h0 : some (cs.map fun c => M.str [c]) = some ms := hi
      have e0 := Option.some.inj h0
      right; right
      refine ⟨v0, hv0, ?_⟩
      obtain ⟨ev, _⟩ := ho0
      refine ⟨sS cs, ev, main _ fun H2 G2 c sG ho => ?_⟩
      have wk := walk_S (g := g) (G1 := G2) cs
      rw [e0] at wk
      exact ⟨fun n mk hn => wk.step n mk G2 H2 hn (fun _ _ h => h) sG, wk.stop _ G2 H2 (Nat.le_refl _) (fun _ _ h => h) sG⟩
    | _ => cases hi
/-- over a list at a path: each is but looked at, until one is found -/
theorem sv_scan {tg i : Nat} {st : List Ps} {t : T} {b : List S} {x : Str} {p pos ipos : Pos} {o c : Expr} {body : List Stmt} (hco : cc.hot = false) (hs : GS g cc Γ X) (hp : PTh g Γ X i st o) (h1 : slB cc x tg = true) (h2 : locB cc.sc x = true) (h3 : tg ∉ fx) (h4 : tg ≠ i)
    (ht : PTs' g Γ X t c) (hb : SSV g Γ X W fx b body) (hf : nSet o = true) : SV g Γ X W fx (.scan tg i st t b) (.For (.Name x p) o [.If c body [] ipos] [] pos) := by
  have hg := hs.ge.good
  obtain ⟨to, p1, p2⟩ := hp
  obtain ⟨tc, c1, c2⟩ := ht
  obtain ⟨tb, t1, k1⟩ := hb
  obtain ⟨s1, _, _⟩ := slot_of hg h1
  have PGt : PG X (.Name x p) (gName tg) := pg_name hg.nd s1 (loc_of hg h2) (.inl (hs.fn x))
  refine ⟨_, ps_for (hs.po hco) (hg.calm hco) (pi_list p1) PGt (pss_one (ps_if c1 t1 pss_nil)) (fold_n hf), fun B env σ H G D Dx hB rl hq k => ?_⟩
  obtain ⟨z1, z2⟩ := yes_i (show yes (gt env i).ok _ from hq)
  refine p2 B env [] σ H G _ _ rl (ok_hole z1) z2 fun l v0 v m hm hv pv => ?_
  obtain ⟨cw, ow⟩ := rl.pathO (ok_hole z1) hv pv
  cases m with
  | lst ob ms =>
    obtain ⟨z3, z4⟩ := yes_i (show yes (fzL ms) _ from hm)
    obtain ⟨a, us, c', rfl, sq, ol, _⟩ := seq_of rl.sGH ow
    rw [hg.eK]
    refine ⟨a, rfl, ⟨us, sq⟩, fun n m σ' H' => n ≤ ms.length ∧ m = ms.length - n ∧ H' = H ∧ ∃ env', Rel g B env' [] σ' H G ∧ scanL tg (fun en => evT Γ en t) (semSs Γ b { nx := fun _ => False, rt := D.rt, bk := D.nx, ct := fun _ => False, ex := D.ex }) D.nx (ms.drop n) env', ⟨_, Nat.zero_le _, rfl, rfl, env, rl, z4⟩, ?_⟩
    rintro n m σ' H' ⟨hn, hme, rfl, env', r', hf'⟩
    by_cases hlt : n < ms.length
    · right
      obtain ⟨mk, hmk⟩ : ∃ m, ms[n]? = some m := ⟨_, List.getElem?_eq_getElem hlt⟩
      obtain ⟨w, e1, o1⟩ := ownl_at (ol.z z3) hmk
      have dr : ms.drop n = mk :: ms.drop (n + 1) := by
        rw [List.drop_eq_getElem_cons hlt]
        rw [List.getElem?_eq_getElem hlt] at hmk
        rw [Option.some.inj hmk]
      rw [dr] at hf'
      refine ⟨⟨us, w, sq, e1⟩, fun σ2 H2 => H2 = H' ∧ ∃ env2, Rel g B env2 [] σ2 H' G ∧ scanL tg (fun en => evT Γ en t) (semSs Γ b { nx := fun _ => False, rt := D.rt, bk := D.nx, ct := fun _ => False, ex := D.ex }) D.nx (ms.drop (n + 1)) env2, fun σ2 H2 ⟨eH, env2, q1, q2⟩ => ⟨ms.length - (n + 1), by omega, by omega, rfl, eH, env2, q1, q2⟩, fun y H2 hy => ?_⟩
      obtain ⟨eH, hx⟩ := hy
      subst eH
      have := hx us sq
      rw [e1] at this
      cases this
      have r2 := (r'.push0 o1).set (i := tg) (by rw [hB]; exact h3)
      refine c2 B _ [] _ _ G (fun cb => match cb with | true => _ | false => _) _ r2 (show evT Γ (env'.set tg mk) t _ from hf') fun cb hcb => ?_
      cases cb with
      | true =>
        refine iteT ?_
        exact k1 B _ _ _ G _ _ hB r2 hcb ⟨fun _ _ _ _ h _ => h.elim, fun env σ H G hn r => k.nx env σ H G hn r, fun _ _ _ _ h _ => h.elim, k.rt, k.ex⟩
      | false =>
        refine iteF ?_
        exact ⟨rfl, _, r2, hcb⟩
    · left
      have e : n = ms.length := by omega
      subst e
      rw [List.drop_length] at hf'
      exact ⟨⟨us, sq, by rw [OwnL.len ol]; exact Nat.le_refl _⟩, k.nx _ _ _ _ hf' r'⟩
  | _ => exact (show False from hm).elim
end
end Q
set_option Elab.async false
set_option linter.all false
set_option maxRecDepth 100000
set_option maxHeartbeats 4000000
namespace Q
open PySem PySem.Spec PyProof.Rows L2
local macro_rules | `(tactic| walk_at "cn") => `(tactic| ((try dsimp only at *); omega))
section
variable {g : Gi} {cc : Sc} {Γ : Gm} {X : Cx} {W : WX} {fx : List Nat}
/-! ### dicts as rows of keys and of values -/
section
variable {κ κ' : Type} [DecidableEq κ] [DecidableEq κ']
theorem zip_any {f : κ → κ'} (inj : ∀ {a b}, f a = f b → a = b) {k : κ} : ∀ {ks : List κ} {us : List V}, ks.length = us.length → (((ks.map f).zip us).any fun kv => decide (kv.1 = f k)) = decide (k ∈ ks)
  | [], us, h => by cases us <;> simp
  | j :: ks, [], h => by simp at h
  | j :: ks, u :: us, h => by
    have ih := zip_any inj (k := k) (ks := ks) (us := us) (by simpa using h)
    rw [List.map_cons, List.zip_cons_cons, List.any_cons, ih]
    by_cases e : j = k
    · subst e; simp
    · have e2 : f j ≠ f k := fun z => e (inj z)
      have e3 : ¬ k = j := fun z => e z.symm
      simp [e2, e3]
theorem zip_map {f : κ → κ'} (inj : ∀ {a b}, f a = f b → a = b) {k : κ} {v : V} : ∀ {ks : List κ} {us : List V}, ks.length = us.length → ((ks.map f).zip us).map (fun kv => if kv.1 = f k then (kv.1, v) else kv) = (ks.map f).zip (mapD k v ks us)
  | [], us, h => by cases us <;> rfl
  | j :: ks, [], h => by simp at h
  | j :: ks, u :: us, h => by
    have ih := zip_map inj (k := k) (v := v) (ks := ks) (us := us) (by simpa using h)
    rw [List.map_cons, List.zip_cons_cons, List.map_cons, ih]
    show _ = (f j :: ks.map f).zip ((if j = k then v else u) :: mapD k v ks us)
    rw [List.zip_cons_cons]
    by_cases e : j = k
    · subst e; simp
    · have e2 : f j ≠ f k := fun z => e (inj z)
      rw [if_neg e2, if_neg e]
theorem putK_zip {f : κ → κ'} (inj : ∀ {a b}, f a = f b → a = b) {k : κ} {v : V} {ks : List κ} {us : List V} (h : ks.length = us.length) : putK ((ks.map f).zip us) (f k) v = ((putD ks us k v).1.map f).zip (putD ks us k v).2 := by
  unfold putK putD
  rw [zip_any inj h]
  by_cases e : k ∈ ks
  · rw [if_pos (by simpa using e), if_pos e]
    exact zip_map inj h
  · rw [if_neg (by simpa using e), if_neg e]
    show _ = (List.map f (ks ++ [k])).zip (us ++ [v])
    rw [List.map_append, List.zip_append (by rw [List.length_map, h])]
    rfl
theorem mapD_len {α : Type} {k : κ} {v : α} : ∀ {ks : List κ} {us : List α}, ks.length = us.length → (mapD k v ks us).length = us.length
  | [], us, h => by cases us with
    | nil => rfl
    | cons _ _ => simp at h
  | j :: ks, [], h => by simp at h
  | j :: ks, u :: us, h => by
    have ih := mapD_len (k := k) (v := v) (ks := ks) (us := us) (by simpa using h)
    show (_ :: mapD k v ks us).length = _
    rw [List.length_cons, ih]
    rfl
theorem putD_len {α : Type} {k : κ} {v : α} {ks : List κ} {us : List α} (h : ks.length = us.length) : (putD ks us k v).1.length = (putD ks us k v).2.length := by
  unfold putD
  by_cases e : k ∈ ks
  · rw [if_pos e]
    exact h.trans (mapD_len h).symm
  · rw [if_neg e]
    simp [h]
theorem own_putD {G H : Hp} {v : V} {m : M} (hv : Own g G H v m (fun _ => 0)) {k : κ} {ks : List κ} {us : List V} {ms : List M} {c : Cn} (hl : ks.length = us.length) (h : OwnL g G H us ms c) : ∃ c', OwnL g G H (putD ks us k v).2 (putD ks ms k m).2 c' ∧ ∀ b, c' b ≤ c b := by
  unfold putD
  by_cases e : k ∈ ks
  · rw [if_pos e, if_pos e]
    clear e
    induction ks generalizing us ms c with
    | nil =>
      cases us with
      | nil => cases ms with
        | nil => exact ⟨c, h, fun _ => Nat.le_refl _⟩
        | cons _ _ => exact h.elim
      | cons _ _ => simp at hl
    | cons j ks ih =>
      cases us with
      | nil => simp at hl
      | cons u us => cases ms with
        | nil => exact h.elim
        | cons n ms =>
          obtain ⟨c1, c2, h1, h2, hc⟩ := h
          obtain ⟨c', p1, p2⟩ := ih (by simpa using hl) h2
          show ∃ c', OwnL g G H ((if j = k then v else u) :: mapD k v ks us) ((if j = k then m else n) :: mapD k m ks ms) c' ∧ _
          by_cases e : j = k
          · rw [if_pos e, if_pos e]
            exact ⟨fun b => 0 + c' b, ⟨fun _ => 0, c', hv, p1, fun _ => rfl⟩, fun b => by have e1_ := p2 b; have e2_ := hc b; walk_at "cn"⟩
          · rw [if_neg e, if_neg e]
            exact ⟨fun b => c1 b + c' b, ⟨c1, c', h1, p1, fun _ => rfl⟩, fun b => by have e1_ := p2 b; have e2_ := hc b; walk_at "cn"⟩
  · rw [if_neg e, if_neg e]
    exact ⟨_, OwnL.app h ⟨fun _ => 0, fun _ => 0, hv, zr0, fun _ => rfl⟩, fun b => by walk_at "cn"⟩
end
/-- o[i] = v, o a list or a dict -/
theorem set_all (hg : Good g cc Γ X) : PSet X (fun o i v H Q => rSetL o i v H Q ∨ rSetD o i v H Q) := by
  intro pins s σ H o i v ov iv u Q I ro ri rv h
  rcases h with h | h
  · exact set_list pins s σ H o i v ov iv u Q I ro ri rv h
  · exact set_dict hg.hu pins s σ H o i v ov iv u Q I ro ri rv h
theorem setIx_ok {B : Bs} {env : En} {Fr : List (V × M)} {σ : L2.St} {H G : Hp} {i : Nat} {l : List Pt} {v0 w v u : V} {c m kk : M} {d : Cn} {Q : M → Prop} {N : Hp → Prop} (r : Rel g B env ((v, m) :: Fr) σ H G) (hh : gt env i ≠ .hole) (hv : σ[i]? = some (some v0)) (hpv : PathV g H v0 (gt env i) l w c)
    (hk : setIx c kk m Q) (ho : Own g G H u kk d) (k : ∀ c' H', Q c' → Rel g B (env.set i (putP (gt env i) l c')) Fr σ H' G → N H') : rSetL w u v H N ∨ rSetD w u v H N := by
  obtain ⟨cw, ow⟩ := r.pathO hh hv hpv
  cases c with
  | lst ob xs =>
    cases ob with
    | false => exact (show False from hk).elim
    | true =>
      cases kk with
      | int j =>
        have hk : (match ixL xs.length j with | some k => Q (.lst true (xs.set k m)) | none => False) := hk
        cases q1 : ixL xs.length j with
        | none => rw [q1] at hk; exact hk.elim
        | some n =>
          rw [q1] at hk
          obtain ⟨a, us, c', rfl, hG, hH, ol, hc'⟩ := ow
          obtain ⟨rfl, _⟩ := ho
          have len := OwnL.len ol
          refine .inl ⟨a, us, j, n, rfl, rfl, hH, by rw [len, ← ixL_eq]; exact q1, k _ _ hk (Rel.pop (v := .non) (m := .non) (Rel.mutL (vs := [v]) (ms := [m]) (Fr := Fr) r rfl hh hv hpv hH fun c1 e1 o1 o2 => ?_))⟩
          obtain ⟨f1, f2, g1, g2, g3⟩ := o2
          obtain ⟨c3, p1, p2⟩ := OwnL.put1 (i := n) o1 g1
          exact ⟨c3, fun _ => 0, p1, ⟨rfl, zr0⟩, fun b => by have e1_ := p2 b; have e2_ := g3 b; walk_at "cn"⟩
      | _ => exact (show False from hk).elim
  | dK ob ks vs =>
    cases ob with
    | false => exact (show False from hk).elim
    | true =>
      obtain ⟨fz, k0, ek, hl, hq⟩ := yes_i (show yes m.fz (∃ k, keyM kk = some k ∧ ks.length < sl ∧ Q (.dK true (putD ks vs k m).1 (putD ks vs k m).2)) from hk)
      have eu : u = kV (_root_.Q.kk k0) := by
        cases kk with
        | int i => cases ek; exact ho.1
        | str cs => cases ek; exact ho.1
        | _ => cases ek
      subst eu
      obtain ⟨a, us, c', rfl, hG, hH, hn, ol, hc'⟩ := ow
      refine .inr ⟨a, _, rfl, DPut.k hH (by rw [List.length_zip, List.length_map, ← hn, Nat.min_self]; exact hl), k _ _ hq (Rel.pop (v := .non) (m := .non) (Rel.modify (vs := [v]) (ms := [m]) (Fr := Fr) r rfl hh hv hpv fun c1 e o1 o2 hle => ?_))⟩
      obtain ⟨a', us2, c2, ea, hG2, hH2, hn2, ol2, hc2⟩ := o1
      cases ea
      rw [hH] at hH2
      have hz : (ks.map _root_.Q.kk).zip us = (ks.map _root_.Q.kk).zip us2 := HO.dK.inj (Option.some.inj hH2)
      have eus : us = us2 := by
        have e1 := congrArg (List.map Prod.snd) hz
        rw [List.map_snd_zip (by simp [hn]), List.map_snd_zip (by simp [hn2])] at e1
        exact e1
      subst eus
      obtain ⟨f1, f2, g1, g2, g3⟩ := o2
      have gv0 := g1.z fz
      obtain ⟨c4, p1, p2⟩ := own_putD (k := k0) gv0 hn2 ol2
      have na : ∀ b, 1 ≤ c4 b → b ≠ a := fun b hb q => by
        subst q
        have e1_ := hle b
        have e2_ := hc2 b
        have e3_ := one_self b
        have e4_ := p2 b
        walk_at "cn"
      have hup : ∀ b, b ≠ a → upd H a (.dK (putK ((ks.map _root_.Q.kk).zip us) (_root_.Q.kk k0) v)) b = H b := fun b hb => upd_ne hb
      refine ⟨fun b => one a b + c4 b, fun _ => 0, ⟨by have e2_ := hc2 a; have e3_ := one_self a; walk_at "cn", hG⟩, ⟨a, (putD ks us k0 v).2, c4, rfl, hG, ?_, ?_, OwnL.hm _ p1 fun b hb => hup b (na b hb), fun _ => rfl⟩, ⟨rfl, zr0⟩, fun b => by have e2_ := hc2 b; have e4_ := p2 b; walk_at "cn"⟩
      · rw [upd_same, putK_zip (fun {a b} h => kk_inj h) hn]
        have e : (putD ks us k0 v).1 = (putD ks vs k0 m).1 := by unfold putD; split <;> rfl
        rw [e]
      · have e : (putD ks us k0 v).1 = (putD ks vs k0 m).1 := by unfold putD; split <;> rfl
        rw [← e]
        exact putD_len hn
  | dT ob ks vs =>
    cases ob with
    | false => cases kk <;> exact (show False from hk).elim
    | true =>
      cases kk with
      | tup kms =>
        obtain ⟨fz, k0, ek, hl, hq⟩ := yes_i (show yes m.fz (∃ k, keysM kms = some k ∧ ks.length < sl ∧ Q (.dT true (putD ks vs k m).1 (putD ks vs k m).2)) from hk)
        obtain ⟨tb, ws, rfl, htb, hws⟩ := ho
        have ew := OwnL.keys hws ek
        subst ew
        obtain ⟨a, us, c', rfl, hG, hH, hn, ol, hc'⟩ := ow
        refine .inr ⟨a, _, rfl, DPut.t (k := k0.map _root_.Q.kk) hH (r.sGH _ _ htb) (by rw [List.length_zip, List.length_map, ← hn, Nat.min_self]; exact hl), k _ _ hq (Rel.pop (v := .non) (m := .non) (Rel.modify (vs := [v]) (ms := [m]) (Fr := Fr) r rfl hh hv hpv fun c1 e o1 o2 hle => ?_))⟩
        obtain ⟨a', us2, c2, ea, hG2, hH2, hn2, ol2, hc2⟩ := o1
        cases ea
        rw [hH] at hH2
        have hz : (ks.map (·.map _root_.Q.kk)).zip us = (ks.map (·.map _root_.Q.kk)).zip us2 := HO.dT.inj (Option.some.inj hH2)
        have eus : us = us2 := by
          have e1 := congrArg (List.map Prod.snd) hz
          rw [List.map_snd_zip (by simp [hn]), List.map_snd_zip (by simp [hn2])] at e1
          exact e1
        subst eus
        obtain ⟨f1, f2, g1, g2, g3⟩ := o2
        have gv0 := g1.z fz
        obtain ⟨c4, p1, p2⟩ := own_putD (k := k0) gv0 hn2 ol2
        have na : ∀ b, 1 ≤ c4 b → b ≠ a := fun b hb q => by
          subst q
          have e1_ := hle b
          have e2_ := hc2 b
          have e3_ := one_self b
          have e4_ := p2 b
          walk_at "cn"
        have hup : ∀ b, b ≠ a → upd H a (.dT (putK ((ks.map (·.map _root_.Q.kk)).zip us) (k0.map _root_.Q.kk) v)) b = H b := fun b hb => upd_ne hb
        refine ⟨fun b => one a b + c4 b, fun _ => 0, ⟨by have e2_ := hc2 a; have e3_ := one_self a; walk_at "cn", hG⟩, ⟨a, (putD ks us k0 v).2, c4, rfl, hG, ?_, ?_, OwnL.hm _ p1 fun b hb => hup b (na b hb), fun _ => rfl⟩, ⟨rfl, zr0⟩, fun b => by have e2_ := hc2 b; have e4_ := p2 b; walk_at "cn"⟩
        · rw [upd_same, putK_zip (f := fun (x : List MK) => x.map _root_.Q.kk) (fun {a b} h => kks_inj h) hn]
          have e : (putD ks us k0 v).1 = (putD ks vs k0 m).1 := by unfold putD; split <;> rfl
          rw [e]
        · have e : (putD ks us k0 v).1 = (putD ks vs k0 m).1 := by unfold putD; split <;> rfl
          rw [← e]
          exact putD_len hn
      | _ => exact (show False from hk).elim
  | _ => cases kk <;> exact (show False from hk).elim
/-- xs[..][i] = v -/
theorem sv_sti {i : Nat} {st : List Ps} {ix : P} {q : E} {o y e : Expr} {p pos : Pos} (hs : GS g cc Γ X) (he : EV g Γ X W q e) (hp : PTh g Γ X i st o) (hi : PV g Γ X ix y) (hn : nComp e = true) (hsl : nSli y = true) :
    SV g Γ X W fx (.sti i st ix q) (.Assign [.Subscript o y p] e pos) := by
  have hg := hs.ge.good
  obtain ⟨te, t1, k1⟩ := he
  obtain ⟨to, t2, k2⟩ := hp
  obtain ⟨ti, t3, k3⟩ := hi
  have hw1 : swapsWithSole [.Subscript o y p] e pos.line X.env = pure false := (show swapsWith e (some (.Subscript o y p)) pos.line X.env = pure false from swp_n hn)
  refine ⟨_, ps_asg t1 (pg_sub t2 t3 (set_all hg) (by intro v; cases y <;> first | (cases hsl; done) | rfl)) hw1 (by rfl) (by rfl), fun B env σ H G D Dx hB rl hq k => ?_⟩
  refine k1 B env [] σ H G (fun y env1 => yes (gt env1 i).ok (evS Γ env1 (gt env1 i) st fun l c => evP Γ env1 ix fun kk => setIx c kk y fun c' => D.nx (env1.set i (putP (gt env1 i) l c')))) D.ex _ rl hq (fun m v env' H' G' hm r => ?_) (k.ex σ)
  obtain ⟨z1, z2⟩ := yes_i hm
  refine k2 B env' [(v, m)] σ H' G' _ _ r (ok_hole z1) z2 fun l v0 w c hc hv hpv => ?_
  refine k3 B env' [(v, m)] σ H' G' _ _ r hc fun kk u d hk ho => ?_
  exact setIx_ok r (ok_hole z1) hv hpv hk ho fun c' H2 hq2 r2 => k.nx _ _ _ _ hq2 r2
/-- .. at a place that is reckoned: a tuple -/
theorem sv_stk {i : Nat} {st : List Ps} {ix q : E} {o y e : Expr} {p pos : Pos} (hs : GS g cc Γ X) (he : EV g Γ X W q e) (hp : PTh g Γ X i st o) (hi : EQ g Γ X ix y) (hn : nComp e = true) (hsl : nSli y = true) :
    SV g Γ X W fx (.stk i st ix q) (.Assign [.Subscript o y p] e pos) := by
  have hg := hs.ge.good
  obtain ⟨te, t1, k1⟩ := he
  obtain ⟨to, t2, k2⟩ := hp
  obtain ⟨ti, t3, k3⟩ := hi
  have hw1 : swapsWithSole [.Subscript o y p] e pos.line X.env = pure false := (show swapsWith e (some (.Subscript o y p)) pos.line X.env = pure false from swp_n hn)
  refine ⟨_, ps_asg t1 (pg_sub t2 t3 (set_all hg) (by intro v; cases y <;> first | (cases hsl; done) | rfl)) hw1 (by rfl) (by rfl), fun B env σ H G D Dx hB rl hq k => ?_⟩
  refine k1 B env [] σ H G (fun y env1 => yes (gt env1 i).ok (evS Γ env1 (gt env1 i) st fun l c => semE Γ ix env1 (fun kk env2 => setIx c kk y fun c' => D.nx (env2.set i (putP (gt env2 i) l c'))) D.ex)) D.ex _ rl hq (fun m v env' H' G' hm r => ?_) (k.ex σ)
  obtain ⟨z1, z2⟩ := yes_i hm
  refine k2 B env' [(v, m)] σ H' G' _ _ r (ok_hole z1) z2 fun l v0 w c hc hv hpv => ?_
  refine k3 B env' [(v, m)] σ H' G' _ D.ex _ r hc fun kk u H2 G2 hk r2 s2 => ?_
  obtain ⟨d, od⟩ := r2.top
  exact setIx_ok r2.pop (ok_hole z1) hv (hpv.same s2) hk od fun c' H3 hq2 r3 => k.nx _ _ _ _ hq2 r3
/-- o.f = e -/
theorem zip_put {ns : List Str} {f : Str} {v : V} : ∀ {us : List V} {k : Nat}, ns.Nodup → ns[k]? = some f → us.length ≤ ns.length → (k < us.length → putF f v (ns.zip us) = ns.zip (us.set k v)) ∧ (k = us.length → putF f v (ns.zip us) = ns.zip (us ++ [v])) := by
  induction ns with
  | nil => intro us k _ h; simp at h
  | cons n r ih =>
    intro us k nd hf hl
    cases us with
    | nil =>
      refine ⟨fun h => by simp at h, fun h => ?_⟩
      have h : k = 0 := h
      subst h
      have : n = f := by simpa using hf
      subst this
      rw [List.zip_nil_right]
      show [(n, v)] = (n :: r).zip ([] ++ [v])
      rw [List.nil_append, List.zip_cons_cons, List.zip_nil_right]
    | cons u us =>
      rw [List.zip_cons_cons]
      cases k with
      | zero =>
        have : n = f := by simpa using hf
        subst this
        refine ⟨fun _ => ?_, fun h => by simp at h⟩
        show (if n = n then _ else _) = _
        rw [if_pos rfl]
        rfl
      | succ k =>
        have hf' : r[k]? = some f := by simpa using hf
        have ne : n ≠ f := fun z => by
          subst z
          exact (List.nodup_cons.mp nd).1 (List.mem_of_getElem? hf')
        obtain ⟨i1, i2⟩ := ih (us := us) (k := k) (List.nodup_cons.mp nd).2 hf' (by simpa using hl)
        refine ⟨fun h => ?_, fun h => ?_⟩
        · show (if n = f then _ else (n, u) :: putF f v (r.zip us)) = _
          rw [if_neg ne, i1 (by simpa using h)]
          rfl
        · show (if n = f then _ else (n, u) :: putF f v (r.zip us)) = _
          rw [if_neg ne, i2 (by simpa using h)]
          rfl
theorem sv_stf {i k : Nat} {st : List Ps} {C : String} {q : E} {o e : Expr} {f : Str} {p pos : Pos} (hs : GS g cc Γ X) (he : EV g Γ X W q e) (hp : PTh g Γ X i st o) (hf : (cc.fl C)[k]? = some f) (hn : nComp e = true) (hfl : (cc.fl C).length < 1000) :
    SV g Γ X W fx (.stf i st C k q) (.Assign [.Attribute o f p] e pos) := by
  have hg := hs.ge.good
  obtain ⟨te, t1, k1⟩ := he
  obtain ⟨to, t2, k2⟩ := hp
  obtain ⟨q1, q2⟩ := hg.cls C k f hf
  refine ⟨_, ps_fld t2 t1 (swp_n hn), fun B env σ H G D Dx hB rl hq kk => ?_⟩
  refine k1 B env [] σ H G (fun y env1 => yes (gt env1 i).ok (evS Γ env1 (gt env1 i) st fun l c => (match c with
      | .obj true C' vs => C = C' ∧ (if k < vs.length then D.nx (env1.set i (putP (gt env1 i) l (.obj true C' (vs.set k y)))) else k = vs.length ∧ D.nx (env1.set i (putP (gt env1 i) l (.obj true C' (vs ++ [y])))))
      | _ => False))) D.ex _ rl hq (fun m v env' H' G' hm r => ?_) (kk.ex σ)
  obtain ⟨z1, z2⟩ := yes_i hm
  refine k2 B env' [(v, m)] σ H' G' _ _ r (ok_hole z1) z2 fun l v0 w c hc hv hpv => ?_
  obtain ⟨cw, ow⟩ := r.pathO (ok_hole z1) hv hpv
  cases c with
  | obj ob C' vs =>
    cases ob with
    | false => exact (show False from hc).elim
    | true =>
      obtain ⟨rfl, hc⟩ := (show C = C' ∧ _ from hc)
      obtain ⟨a, dx, us, c', rfl, hG, hH, hl, ol, hc'⟩ := ow
      have len := OwnL.len ol
      have nd : (g.fl C).Nodup := by rw [hg.fl]; exact hg.fnd C
      have hf2 : (g.fl C)[k]? = some f := by rw [hg.fl]; exact hf
      obtain ⟨zp1, zp2⟩ := zip_put (v := v) nd hf2 hl
      rw [hg.eK]
      have zl : ((g.fl C).zip us).length < 1000 := by
        rw [List.length_zip, hg.fl]
        omega
      -- the write
      have wr : ∀ (us' : List V) (vs' : List M), putF f v ((g.fl C).zip us) = (g.fl C).zip us' → us'.length ≤ (g.fl C).length → (∀ c1 : Cn, ∀ e : Cn, OwnL g G' H' us vs c1 → Own g G' H' v m e → ∃ c2, OwnL g G' H' us' vs' c2 ∧ ∀ b, c2 b ≤ c1 b + e b) →
          Rel g B (env'.set i (putP (gt env' i) l (.obj true C vs'))) [] σ (upd H' a (.ins (g.ca C) dx (putF f v ((g.fl C).zip us)))) G' := by
        intro us' vs' ez hl' hown
        refine Rel.pop (v := .non) (m := .non) (Rel.modify (vs := [v]) (ms := [m]) (Fr := []) r rfl (ok_hole z1) hv hpv fun c1 e o1 o2 hle => ?_)
        obtain ⟨a', dx', us2, c2, ea, hG2, hH2, hl2, ol2, hc2⟩ := o1
        cases ea
        rw [hH] at hH2
        have ei := Option.some.inj hH2
        simp only [HO.ins.injEq, true_and] at ei
        obtain ⟨edx, ez2⟩ := ei
        subst edx
        have eus : us = us2 := zip_inj hl hl2 ez2
        subst eus
        obtain ⟨f1, f2, g1, g2, g3⟩ := o2
        obtain ⟨c4, p1, p2⟩ := hown c2 f1 ol2 g1
        have na : ∀ b, 1 ≤ c4 b → b ≠ a := fun b hb q => by
          subst q
          have e1_ := hle b
          have e2_ := hc2 b
          have e3_ := one_self b
          have e4_ := p2 b
          have e5_ := g3 b
          walk_at "cn"
        have hup : ∀ b, b ≠ a → upd H' a (.ins (g.ca C) dx (putF f v ((g.fl C).zip us))) b = H' b := fun b hb => upd_ne hb
        exact ⟨fun b => one a b + c4 b, fun _ => 0, ⟨by have e2_ := hc2 a; have e3_ := one_self a; walk_at "cn", hG⟩, ⟨a, dx, us', c4, rfl, hG, by rw [upd_same, ez], hl', OwnL.hm _ p1 fun b hb => hup b (na b hb), fun _ => rfl⟩, ⟨rfl, zr0⟩, fun b => by have e2_ := hc2 b; have e4_ := p2 b; have e5_ := g3 b; walk_at "cn"⟩
      refine ⟨a, g.ca C, dx, _, rfl, hH, q1, q2, zl, ?_⟩
      have hk : k < (g.fl C).length := (List.getElem?_eq_some_iff.mp hf2).1
      by_cases hlt : k < vs.length
      · rw [if_pos hlt] at hc
        refine kk.nx _ _ _ _ hc (wr (us.set k v) (vs.set k m) (zp1 (by omega)) (by rw [List.length_set]; exact hl) fun c1 e o1 o2 => ?_)
        exact OwnL.put1 (i := k) o1 o2
      · rw [if_neg hlt] at hc
        obtain ⟨ek, hc⟩ := hc
        refine kk.nx _ _ _ _ hc (wr (us ++ [v]) (vs ++ [m]) (zp2 (by omega)) (by rw [List.length_append, List.length_singleton]; omega) fun c1 e o1 o2 => ?_)
        exact ⟨_, OwnL.app o1 ⟨e, fun _ => 0, o2, zr0, fun _ => rfl⟩, fun b => by walk_at "cn"⟩
  | _ => exact (show False from hc).elim
/-- x += e, x -= e of ints; x += e of texts -/
def ipR : O2 → TIp
  | .add => fun x y H Q => ipI (fun i j => i + j) x y H Q ∨ ∃ i j, x = .str i ∧ y = .str j ∧ i.length + j.length ≤ sizeLine ∧ Q (.str (i ++ j)) H
  | .sub => ipI fun i j => i - j
  | _ => fun _ _ _ _ => False
theorem ip_ok {o : O2} {op : Operator} (h : bOp o = some op) (h2 : o = .add ∨ o = .sub) : PIp X op (ipR o) := by
  rcases h2 with rfl | rfl
  · cases h
    intro pins s σ H x y v u Q I rx ry q
    rcases q with q | q
    · exact ip_add pins s σ H x y v u Q I rx ry q
    · exact iop_add_str pins s σ H x y v u Q I rx ry q
  · cases h
    exact ip_sub
theorem sv_aug {i : Nat} {o : O2} {op : Operator} {q : E} {x : Str} {e : Expr} {p pos : Pos} (hs : GS g cc Γ X) (h1 : slB cc x i = true) (h2 : locB cc.sc x = true) (h3 : i ∉ fx) (he : EV g Γ X W q e) (ho : bOp o = some op) (ho2 : o = .add ∨ o = .sub) :
    SV g Γ X W fx (.aug i o q) (.AugAssign (.Name x p) op e pos) := by
  have hg := hs.ge.good
  obtain ⟨te, t1, k1⟩ := he
  obtain ⟨s1, _, _⟩ := slot_of hg h1
  refine ⟨_, ps_aug hg.nd s1 (loc_of hg h2) t1 (ip_ok ho ho2) (.inl (hs.fn x)), fun B env σ H G D Dx hB rl hq k => ?_⟩
  obtain ⟨z1, z2⟩ := yes_i (show yes (gt env i).ok (semE Γ q env (fun y env1 => yes (gt env1 i).ok (o2P Γ.tab o (gt env1 i) y fun r => yes r.fz (D.nx (env1.set i r)))) D.ex) from hq)
  obtain ⟨v, _, hv, _⟩ := rl.var (ok_hole z1)
  refine ⟨v, hv, k1 B env [] σ H G _ D.ex _ rl z2 (fun m u env' H' G' hm r => ?_) (k.ex σ)⟩
  obtain ⟨z3, z4⟩ := yes_i hm
  obtain ⟨v', c', hv', ow⟩ := r.var (ok_hole z3)
  have ev : v = v' := by rw [hv] at hv'; cases hv'; rfl
  subst ev
  obtain ⟨d, ou⟩ := r.top
  have fin : ∀ {r' : M} {w : V}, yes r'.fz (D.nx (env'.set i r')) → Own g G' H' w r' (fun _ => 0) → Dx.nx (σ.set i (some w)) H' := fun {r' w} h o' => k.nx _ _ _ _ (yes_i h).2 ((r.pop.push0 o').set (by rw [hB]; exact h3))
  generalize hm0 : gt env' i = m0 at z4 ow
  rcases ho2 with rfl | rfl
  · cases m0 with
    | int a =>
      cases m with
      | int b =>
        obtain ⟨rfl, _⟩ := ow
        obtain ⟨rfl, _⟩ := ou
        exact .inl ⟨a, b, rfl, rfl, fin (r' := .int (a + b)) z4 (o_int _)⟩
      | _ => exact (show False from z4).elim
    | str a =>
      cases m with
      | str b =>
        obtain ⟨y1, y2⟩ := yes_i (show yes (decide (a.length + b.length ≤ sl)) _ from z4)
        obtain ⟨rfl, _⟩ := ow
        obtain ⟨rfl, _⟩ := ou
        refine .inr ⟨_, _, rfl, rfl, by rw [sS_len, sS_len]; exact of_decide_eq_true y1, ?_⟩
        rw [sS_app]
        exact fin y2 (o_str _)
      | _ => exact (show False from z4).elim
    | _ => cases m <;> exact (show False from z4).elim
  · cases m0 with
    | int a =>
      cases m with
      | int b =>
        obtain ⟨rfl, _⟩ := ow
        obtain ⟨rfl, _⟩ := ou
        exact ⟨a, b, rfl, rfl, fin (r' := .int (a - b)) z4 (o_int _)⟩
      | _ => exact (show False from z4).elim
    | _ => cases m <;> exact (show False from z4).elim
/-- name = [.. for ..], the name a local on the same line -/
def swE (c : Sc) (t : Str) (tp : Pos) (e : Expr) : Bool := match e with
  | .ListComp _ _ s p => decide (c.sc.names.lookup t = some .local) && tp.line == p.line && !(s.names.any fun (n, k) => n == t && (k == .local || k == .cell))
  | _ => false
theorem sw_eq {t : Str} {tp : Pos} {e : Expr} {n : Nat} {x : Str} {elt iter : Expr} {ifs : List Expr} {scope : Scope} {p pos : Pos} (hg : Good g cc Γ X) (hk : cc.sc.kind = .function) (he : e = .ListComp elt [⟨.Name x p, iter, ifs, 0⟩] scope pos) : swapsWith e (some (.Name t tp)) n X.env = pure (swE cc t tp e) := by
  subst he
  have h1 : X.env.blockKind = .function := by
    unfold Env.blockKind
    rw [hg.esc, hk]
    rfl
  have h2 : X.env.kindOf t = cc.sc.names.lookup t := by
    show X.env.scope.names.lookup t = _
    rw [hg.esc]
  show (pure _ : Sem Bool) = pure _
  congr 1
  rw [h1, h2]
  show (true && _ && _ && _) = _
  rw [Bool.true_and]
  unfold swE
  congr 2
  cases h : cc.sc.names.lookup t with
  | none => rfl
  | some k => cases k <;> rfl
theorem sv_setC {k i : Nat} {it : I} {cs : List T} {q : E} {y : Str} {e : Expr} {p pos : Pos} (hs : GS g cc Γ X) (tk : Takes X W) (hc : chkE (.comp i it cs q) cc e = true) (hkd : cc.sc.kind = .function) (h1 : slB cc y k = true) (h2 : locB cc.sc y = true) (h3 : k ∉ fx) :
    SV g Γ X W fx (.set k (.comp i it cs q)) (.Assign [.Name y p] e pos) := by
  have hg := hs.ge.good
  have hE := E_ok (.comp i it cs q) e hs.ge tk hc
  obtain ⟨hco, h⟩ := ba2 (show (!cc.hot && (match vLc e with
    | some (x, elt, iter, ifs, scope) => chkI it cc iter && blkB cc scope x i && locB (blkSc cc scope).sc x && ((scope.names.lookup x == some .cell) || decide ((relab cc.sc scope).names.lookup x = some .local)) && nSet iter && chkTs (blkSc cc scope) cs ifs && chkE q (blkSc cc scope) elt
    | none => false)) = true from hc)
  have hco := cold_n hco
  split at h
  · rename_i x elt iter ifs scope e1
    obtain ⟨h, h7⟩ := ba2 h
    obtain ⟨h, h6⟩ := ba2 h
    obtain ⟨h, h5⟩ := ba2 h
    obtain ⟨h, h4⟩ := ba2 h
    obtain ⟨h, b3⟩ := ba2 h
    obtain ⟨b1, b2⟩ := ba2 h
    obtain ⟨p1, pos1, rfl⟩ := vLc_i e1
    have SW := fun n => sw_eq (t := y) (tp := p) (n := n) hg hkd (rfl : Expr.ListComp elt [⟨.Name x p1, iter, ifs, 0⟩] scope pos1 = _)
    cases hb : swE cc y p (.ListComp elt [⟨.Name x p1, iter, ifs, 0⟩] scope pos1) with
    | false => exact sv_set hs h1 h2 h3 hE.1 (by rw [SW, hb])
    | true =>
      have fn : (scope.names.lookup x == some .cell) = true ∨ (relab cc.sc scope).names.lookup x = some .local := by
        rcases Bool.or_eq_true_iff.mp h4 with z | z
        · exact .inl z
        · exact .inr (of_decide_eq_true z)
      have ht : ∀ (s : Shared) (H : Hp) (C : Addr) (cl : List (Str × Addr)) (fp : List Addr), TSV g Γ (X.blk s H scope (compEnvC scope cl C X.env) fp) cs ifs := by
        intro s H C cl fp
        match cs, ifs, h6 with
        | [], [], _ => exact tsv_nil
        | [t], [c], h6 => exact tsv_one (T_ok (good_blk hco hs.ge s H C cl fp).good t c h6).1
      obtain ⟨t, _, t2, t3⟩ := ev_comp (Γ := Γ) (W := W) (pos := pos1) hco hs.ge (I_ok it (.Name x p1) iter hs.ge tk b1) b2 b3 fn (fold_n h5) ht fun s H C cl fp => (E_ok q elt (good_blk hco hs.ge s H C cl fp) (takes_blk s H C cl fp) h7).1
      obtain ⟨s1, _, _⟩ := slot_of hg h1
      have hl : X.env.scope.names.lookup y = some .local := by
        rw [hg.esc]
        have hb : (decide (cc.sc.names.lookup y = some .local) && p.line == pos1.line && !(scope.names.any fun (n, k) => n == y && (k == .local || k == .cell))) = true := hb
        exact of_decide_eq_true (ba2 (ba2 hb).1).1
      refine ⟨_, t2 k y p pos s1 hl (by rw [SW, hb]), fun B env σ H G D Dx hB rl hq kk => ?_⟩
      have hq : semE Γ (.comp i it cs q) env (fun m env1 => D.nx (env1.set k m)) D.ex := hq
      exact t3 B env [] σ H G _ D.ex _ rl hq (fun m v env' H' G' hm r => kk.nx _ _ _ _ hm (r.set (by rw [hB]; exact h3))) (kk.ex σ)
  · cases h
end
end Q
set_option Elab.async false
set_option linter.all false
set_option maxRecDepth 100000
set_option maxHeartbeats 4000000
namespace Q
open PySem PySem.Spec PyProof.Rows L2
local macro_rules | `(tactic| walk_at "cn") => `(tactic| ((try dsimp only at *); omega))
section
variable {g : Gi} {cc : Sc} {Γ : Gm} {X : Cx} {W : WX} {fx : List Nat}
/-- something new is laid and frozen; what is held on top is let go -/
theorem Rel.allocX {B : Bs} {env : En} {Fr : List (V × M)} {σ : L2.St} {H G : Hp} {v : V} {m : M} {p : Addr} {o : HO} (r : Rel g B env ((v, m) :: Fr) σ H G) (f : m.fz = true) (hp : H p = none) :
    Rel g B env Fr σ (upd H p o) (upd G p o) ∧ Own g (upd G p o) (upd H p o) v m (fun _ => 0) := by
  have r0 : Rel g B env (zipR [v] [m] Fr) σ H G := r
  obtain ⟨c, d, e, k1, k2, k3, k4, k5⟩ := r0.row rfl
  have gp : G p = none := by
    cases q : G p with
    | none => rfl
    | some x => rw [r.sGH p x q] at hp; cases hp
  have lv : ∀ {ms : List M} {vs : List V} {f : Cn}, OwnL g G H vs ms f → ∀ b, 1 ≤ f b → b ≠ p := fun {ms vs f} o b hb q => by
    obtain ⟨⟨o', ho⟩, _⟩ := OwnL.live ms o b hb
    rw [q, hp] at ho
    cases ho
  have hu : ∀ b, b ≠ p → upd G p o b = G b := fun b hb => upd_ne hb
  have hv : ∀ b, b ≠ p → upd H p o b = H b := fun b hb => upd_ne hb
  have st : ∀ e' : Cn, Stp G H e' (upd G p o) (upd H p o) e' := by
    intro e'
    refine ⟨fun b x hb => ?_, fun b x hb => ?_, fun b hb => .inl hb, fun b x hb _ => ?_, fun b hb => ?_⟩
    · rw [hu b (fun q => by rw [q, gp] at hb; cases hb)]; exact hb
    · by_cases q : b = p
      · subst q; rw [upd_same] at hb ⊢; exact hb
      · rw [hu b q] at hb; rw [hv b q]; exact r.sGH b x hb
    · rw [hv b (fun q => by rw [q, hp] at hb; cases hb)]; exact hb
    · by_cases q : b = p
      · subst q; exact .inr (.inr hp)
      · rw [hu b q] at hb; exact .inl hb
  have mv : ∀ {ms : List M} {vs' : List V} {f : Cn}, OwnL g G H vs' ms f → OwnL g (upd G p o) (upd H p o) vs' ms f := fun {ms vs' f} o =>
    (OwnL.hm ms o fun b hb => hv b (lv o b hb)).gm (st f).sG ms fun b hb => by
      rw [hu b (lv o b hb)]
      exact (OwnL.live ms o b hb).2
  refine ⟨r.pop.stp0 (c := c) (d := d) (c' := c) (d' := d) (fun b hb => k5 b (by omega)) (st fun b => c b + d b) ⟨mv k1, mv k2, fun b => by have e1_ := k4 b; walk_at "cn"⟩, ?_⟩
  obtain ⟨e1, e2, o1, o2, _⟩ := mv k3
  exact o1.z f
/-! ### raise -/
theorem raises_of {C : String} {x : Str} (hg : Good g cc Γ X) (h : XRs g C x false) : L2.Raises X (.ref (g.ca C)) := by
  obtain ⟨_, _, h3, h4⟩ := h.own
  rw [← hg.eK] at h3 h4
  exact raises_own h3 h4
theorem sv_raise0 {C : String} {x m : Str} {cs : List Nat} {j : Nat} {p p2 p3 pos : Pos} (hco : cc.hot = false) (he : GE g cc Γ X) (tk : Takes X W) (hf : (C, x) ∈ cc.xrs) (gl : glB cc.sc x = true) (hd : dbg x = true) :
    SV g Γ X W fx (.raise C [.pu (.str cs)]) (.Raise (some (.Call (.Name x p) [.Constant (.str m) j p2] [] p3)) none pos) := by
  have hg := he.good
  obtain ⟨R0, hx⟩ := he.xrs C x hf
  have hr := raises_of hg R0
  have hgl := R0.gl
  have hmem := R0.mem
  obtain ⟨h1, h2, _, _⟩ := R0.own
  rw [← hg.eK] at h1 h2
  rw [← hg.emg] at hgl
  refine ⟨_, L2.ps_raise (hg.calm hco) tk (L2.pmk_own PySem.F.excBase_ValueError h1 hgl h2 hr (gl_of hg gl) (dbg_of hd).1), fun B env σ H G D Dx hB rl hq k => ?_⟩
  have hq : yes true (yes (fzL [.str cs]) (D.ex (C, (match Γ.exf C with | true => [.str cs] | false => [])) env)) := hq
  rw [hx] at hq
  exact k.ex σ (C, []) env H G (.ref (g.ca C)) none hq rl ⟨rfl, hmem, [], rfl, zr0⟩
theorem sv_raise1 {C : String} {x : Str} {q : E} {e : Expr} {p p3 pos : Pos} (hco : cc.hot = false) (hk : 1 ≤ cc.k) (he : GE g cc Γ X) (tk : Takes X W) (hf : (C, x) ∈ cc.xri) (gl : glB cc.sc x = true) (hd : dbg x = true) (hq : EV g Γ X W q e) (ns : nStar e = true) :
    SV g Γ X W fx (.raise C [q]) (.Raise (some (.Call (.Name x p) [e] [] p3)) none pos) := by
  have hg := he.good
  obtain ⟨R0, hx⟩ := he.xri C x hf
  have hgl := R0.gl
  have hmem := R0.mem
  obtain ⟨fI, D0, f, hfl, SC⟩ := R0.own
  rw [← hg.eK, ← hg.eP, ← hg.emg] at SC
  rw [← hg.emg] at hgl
  obtain ⟨te, t1, k1⟩ := hq
  refine ⟨_, L2.ps_raise (hg.calm hco) tk (pmk_sup SC (gl_of hg gl) hgl ((hg.room hco).mono hk) t1 ns (dbg_of hd).1), fun B env σ H G D Dx hB rl hq k => ?_⟩
  have hq : semE Γ q env (fun m env1 => yes (fzL [m]) (D.ex (C, (match Γ.exf C with | true => [m] | false => [])) env1)) D.ex := hq
  rw [hx] at hq
  refine k1 B env [] σ H G _ D.ex _ rl hq (fun m v env' H' G' hm r => fun d hd => ?_) (k.ex σ)
  obtain ⟨z1, z2⟩ := yes_i hm
  have fm : m.fz = true := by
    have z1 : (m.fz && true) = true := z1
    simpa using z1
  obtain ⟨r2, o2⟩ := Rel.allocX (o := .xd [(f, v)]) r fm hd
  refine k.ex σ (C, [m]) env' _ _ (.ref (g.ca C)) (some d) z2 r2 ⟨rfl, hmem, [v], ⟨?_, by rw [hfl]; exact Nat.le_refl _⟩, ⟨fun _ => 0, fun _ => 0, o2, zr0, fun _ => rfl⟩⟩
  rw [upd_same, hfl]
  rfl
/-! ### try -/
theorem good_tr {pn : List (Addr × Obj)} {xe : Value → Shared → Prop} (hco : cc.hot = false) (hs : GS g cc Γ X) (po : PassesOwn (model X.prog X.w) X.A X.env xe) : GS g cc Γ (X.tr pn xe) := by
  have hg := hs.ge.good
  exact ⟨⟨⟨hg.eK, hg.eP, hg.ew, hg.emg, hg.ebase, hg.eN, hg.esc, hg.nd, hg.calm, hg.room, hg.un, fun z => (by rw [hco] at z; cases z), hg.xcl, hg.xok, hg.fl, hg.fr, hg.gl, hg.tab, hg.cls, hg.fnd⟩, hs.ge.fns, hs.ge.mts, hs.ge.xrs, hs.ge.xri, hs.ge.lfs, hs.ge.mks⟩, hs.fn, fun _ => po, hs.stk, hs.frm⟩
abbrev hotS (c : Sc) : Sc := { c with hot := true }
theorem good_su {a : Addr} {oe : Obj} {pn : List (Addr × Obj)} {ex : Option (Addr × Option Addr × String)} (hs : GS g cc Γ X) (hx : ex = none ∨ ∃ (cls : Value) (d : Option Addr) (C : String), Zc cls d oe ∧ (∃ vs, oe.data = .fields vs) ∧ ex = some (a, d, C) ∧ cls = .ref (g.ca C) ∧ C ∈ g.xcs) :
    GS g (hotS cc) { Γ with ex := ex } (X.suite a ((a, oe) :: pn)) := by
  have hg := hs.ge.good
  refine ⟨⟨⟨hg.eK, hg.eP, hg.ew, hg.emg, hg.ebase, hg.eN, hg.esc, hg.nd, fun z => (by cases z), fun z => (by cases z), hg.un, fun _ => ?_, fun C x h => ⟨(hg.xcl C x h).nm⟩, hg.xok, hg.fl, hg.fr, hg.gl, hg.tab, hg.cls, hg.fnd⟩, hs.ge.fns, hs.ge.mts, hs.ge.xrs, hs.ge.xri, hs.ge.lfs, hs.ge.mks⟩, hs.fn, fun z => (by cases z), hs.stk, hs.frm⟩
  rcases hx with h | ⟨cls, d, C, h1, h2, h3, h4, h5⟩
  · exact .inl h
  · exact .inr ⟨X, a, oe, pn, cls, d, C, rfl, h1, h2, h3, h4, h5⟩
theorem names_of {C : String} {c : Str} (hg : Good g cc Γ X) (h : (C, c) ∈ cc.xns) (gl : glB cc.sc c = true) (hd : dbg c = true) : ∃ u, Names X c u ∧ ∀ D, D ∈ g.xcs → PySem.W.exmOne X.K (.ref (g.ca D)) u = some (Γ.sub D C) := by
  obtain ⟨u, q1, _, q3⟩ := (hg.xcl C c h).nm
  obtain ⟨d1, d2, d3⟩ := dbg_of hd
  refine ⟨u, ⟨gl_of hg gl, d1, ?_⟩, fun D hD => by rw [hg.eK]; exact (q3 D hD).2⟩
  rw [hg.emg]
  rcases q1 with q1 | ⟨q1, q2⟩
  · exact .inl q1
  · exact .inr ⟨q1, q2, d3⟩
/-- a name is let go -/
theorem Rel.gone {B : Bs} {env : En} {Fr : List (V × M)} {σ : L2.St} {H G : Hp} {j : Nat} (r : Rel g B env Fr σ H G) (hj : j ∉ B.fx) : Rel g B (env.set j .hole) Fr (σ.set j none) H G := by
  obtain ⟨c, d, x, h4⟩ := r.rc
  obtain ⟨c', p1, p2⟩ := OwnL.put1 (i := j) (v := V.non) (m := M.hole) x.oe zr0
  have e : (σ.map gv).set j .non = (σ.set j none).map gv := by
    rw [List.map_set]
    rfl
  rw [e] at p1
  have sf : Stp G H (fun b => c b + d b) G H (fun b => c b + d b) := ⟨fun _ _ h => h, r.sGH, fun _ h => .inl h, fun _ _ h _ => h, fun _ h => .inl h⟩
  refine r.stp h4 (c' := c') (d' := d) (sf.less fun b hb => by have e1_ := p2 b; walk_at "cn") ⟨p1, x.of, fun b => by have e1_ := p2 b; have e2_ := x.le b; walk_at "cn"⟩ (by rw [List.length_set, List.length_set]; exact r.len) (fun i hi => ?_) (fun i hi => ?_)
  · rw [gt_set] at hi
    by_cases q : j = i ∧ j < env.length
    · rw [if_pos q] at hi
      exact absurd rfl hi
    · rw [if_neg q] at hi
      obtain ⟨v, hv⟩ := r.asg i hi
      by_cases e : j = i
      · exfalso
        subst e
        have hl : σ.length = env.length := r.len
        have := (List.getElem?_eq_some_iff.mp hv).1
        omega
      · exact ⟨v, by rw [List.getElem?_set_ne e]; exact hv⟩
  · have e : j ≠ i := fun z => hj (z ▸ hi)
    rw [List.getElem?_set_ne e]
    exact r.fix i hi
theorem sv_try {b h : List S} {C : String} {j : Nat} {c n : Str} {body suite : List Stmt} {b₀ : Stmt} {np pos pos' : Pos} (hco : cc.hot = false) (hs : GS g cc Γ X) (tk : Takes X W) (hc : (C, c) ∈ cc.xns) (gl : glB cc.sc c = true) (hd : dbg c = true)
    (hn : slB cc n j = true) (hl : cc.sc.names.lookup n = some .local) (hj : j ∉ fx)
    (hb : ∀ (X' : Cx) (W' : WX), GS g cc Γ X' → Takes X' W' → SSV g Γ X' W' fx b body)
    (hh : ∀ (Γ' : Gm) (X' : Cx) (W' : WX), GS g (hotS cc) Γ' X' → Takes X' W' → SSV g Γ' X' W' fx h (b₀ :: suite)) :
    SV g Γ X W fx (.tryS b [C] (some j) h) (.Try body [.ExceptHandler (some (.Name c np)) (some n) (b₀ :: suite) pos'] [] [] pos) := by
  have hg := hs.ge.good
  obtain ⟨u, nm, hex⟩ := names_of hg hc gl hd
  obtain ⟨s1, _, _⟩ := slot_of hg hn
  have hln : X.env.kindOf n = some .local := by
    show X.env.scope.names.lookup n = some .local
    rw [hg.esc]
    exact hl
  let tb : WX → TS := fun W' D σ H => ∀ (pn : List (Addr × Obj)) (xe : Value → Shared → Prop), Takes (X.tr pn xe) W' → PassesOwn (model X.prog X.w) X.A X.env xe → ∃ t : TS, PSs (X.tr pn xe) body t ∧ t D σ H
  let ts : Addr → Value → Option Addr → TS := fun a cls d D σ H => ∀ (oe : Obj) (pn : List (Addr × Obj)), Zc cls d oe → (∃ vs, oe.data = .fields vs) → ∃ t : TS, PSs (X.suite a ((a, oe) :: pn)) (b₀ :: suite) t ∧ t D σ H
  refine ⟨_, L2.ps_try_as (tb := tb) (ts := ts) hs.stk hs.frm hg.nd s1 hln nm tk (fun W' pn xe tk' po => ⟨fun pins s σ H D I q => ?_⟩) (fun a oe cls d pn hz hf => ⟨fun pins s σ H D I q => ?_⟩), fun B env σ H G D Dx hB rl hq k => ?_⟩
  · obtain ⟨t, t1, t2⟩ := q pn xe tk' po
    exact t1.run pins s σ H D I t2
  · obtain ⟨t, t1, t2⟩ := q oe pn hz hf
    exact t1.run pins s σ H D I t2
  · intro pn xe tk' po
    obtain ⟨t, t1, k1⟩ := hb (X.tr pn xe) _ (good_tr hco hs po) tk'
    refine ⟨t, t1, k1 B env σ H G _ Dx hB rl hq ⟨k.nx, k.bk, k.ct, k.rt, fun σ' x env' H' G' cls d hx r xr => ?_⟩⟩
    obtain ⟨hcls, hmem, ws, hxd, hol⟩ := id xr
    subst hcls
    refine ⟨Γ.sub x.1 C, hex x.1 hmem, fun hy a na oe pn hz hf => ?_, fun hy => ?_⟩
    · have hx : (match [C].any (Γ.sub x.1) with
        | true => ∀ a d, semSs { Γ with ex := some (a, d, x.1) } h { nx := fun en => D.nx (en.set j .hole), rt := D.rt, bk := fun en => D.bk (en.set j .hole), ct := fun en => D.ct (en.set j .hole), ex := fun _ _ => False } (env'.set j (.exc a d x.1 x.2))
        | false => D.ex x env') := hx
      rw [show [C].any (Γ.sub x.1) = true by simp [hy]] at hx
      obtain ⟨t2, t3, k2⟩ := hh { Γ with ex := some (a, d, x.1) } (X.suite a ((a, oe) :: pn)) (fun _ _ _ _ => False) (good_su hs (.inr ⟨_, d, x.1, hz, hf, rfl, rfl, hmem⟩)) L2.takes0
      refine ⟨t2, t3, ?_⟩
      have r2 := (r.push0 (v := .ref a) (m := .exc a d x.1 x.2) ⟨⟨ws, rfl, hxd, hol⟩, zr0⟩).set (i := j) (by rw [hB]; exact hj)
      have dn : ∀ {en : En} {σ2 : L2.St} {H2 G2 : Hp}, Rel g B en [] σ2 H2 G2 → Rel g B (en.set j .hole) [] (σ2.set j none) H2 G2 := fun r => r.gone (by rw [hB]; exact hj)
      exact k2 B _ _ _ G' _ _ hB r2 (hx a d) ⟨fun en σ2 H2 G2 hn r => k.nx _ _ _ _ hn (dn r), fun en σ2 H2 G2 hn r => k.bk _ _ _ _ hn (dn r), fun en σ2 H2 G2 hn r => k.ct _ _ _ _ hn (dn r), k.rt, fun _ _ _ _ _ _ _ z => z.elim⟩
    · have hx : (match [C].any (Γ.sub x.1) with
        | true => ∀ a d, semSs { Γ with ex := some (a, d, x.1) } h { nx := fun en => D.nx (en.set j .hole), rt := D.rt, bk := fun en => D.bk (en.set j .hole), ct := fun en => D.ct (en.set j .hole), ex := fun _ _ => False } (env'.set j (.exc a d x.1 x.2))
        | false => D.ex x env') := hx
      rw [show [C].any (Γ.sub x.1) = false by simp [hy]] at hx
      exact k.ex σ' x env' H' G' _ d hx r xr
theorem sv_try0 {b h : List S} {C : String} {c : Str} {body suite : List Stmt} {b₀ : Stmt} {np pos pos' : Pos} (hco : cc.hot = false) (hs : GS g cc Γ X) (tk : Takes X W) (hc : (C, c) ∈ cc.xns) (gl : glB cc.sc c = true) (hd : dbg c = true)
    (hb : ∀ (X' : Cx) (W' : WX), GS g cc Γ X' → Takes X' W' → SSV g Γ X' W' fx b body)
    (hh : ∀ (Γ' : Gm) (X' : Cx) (W' : WX), GS g (hotS cc) Γ' X' → Takes X' W' → SSV g Γ' X' W' fx h (b₀ :: suite)) :
    SV g Γ X W fx (.tryS b [C] none h) (.Try body [.ExceptHandler (some (.Name c np)) none (b₀ :: suite) pos'] [] [] pos) := by
  have hg := hs.ge.good
  obtain ⟨u, nm, hex⟩ := names_of hg hc gl hd
  let tb : WX → TS := fun W' D σ H => ∀ (pn : List (Addr × Obj)) (xe : Value → Shared → Prop), Takes (X.tr pn xe) W' → PassesOwn (model X.prog X.w) X.A X.env xe → ∃ t : TS, PSs (X.tr pn xe) body t ∧ t D σ H
  let ts : Addr → Value → Option Addr → TS := fun a cls d D σ H => ∀ (oe : Obj) (pn : List (Addr × Obj)), Zc cls d oe → (∃ vs, oe.data = .fields vs) → ∃ t : TS, PSs (X.suite a ((a, oe) :: pn)) (b₀ :: suite) t ∧ t D σ H
  refine ⟨_, L2.ps_try_only (tb := tb) (ts := ts) hs.stk hs.frm nm tk (fun W' pn xe tk' po => ⟨fun pins s σ H D I q => ?_⟩) (fun a oe cls d pn hz hf => ⟨fun pins s σ H D I q => ?_⟩), fun B env σ H G D Dx hB rl hq k => ?_⟩
  · obtain ⟨t, t1, t2⟩ := q pn xe tk' po
    exact t1.run pins s σ H D I t2
  · obtain ⟨t, t1, t2⟩ := q oe pn hz hf
    exact t1.run pins s σ H D I t2
  · intro pn xe tk' po
    obtain ⟨t, t1, k1⟩ := hb (X.tr pn xe) _ (good_tr hco hs po) tk'
    refine ⟨t, t1, k1 B env σ H G _ Dx hB rl hq ⟨k.nx, k.bk, k.ct, k.rt, fun σ' x env' H' G' cls d hx r xr => ?_⟩⟩
    obtain ⟨hcls, hmem, ws, hxd, hol⟩ := id xr
    subst hcls
    refine ⟨Γ.sub x.1 C, hex x.1 hmem, fun hy a na oe pn hz hf => ?_, fun hy => ?_⟩
    · have hx : (match [C].any (Γ.sub x.1) with
        | true => semSs { Γ with ex := none } h { nx := D.nx, rt := D.rt, bk := D.bk, ct := D.ct, ex := fun _ _ => False } env'
        | false => D.ex x env') := hx
      rw [show [C].any (Γ.sub x.1) = true by simp [hy]] at hx
      obtain ⟨t2, t3, k2⟩ := hh { Γ with ex := none } (X.suite a ((a, oe) :: pn)) (fun _ _ _ _ => False) (good_su hs (.inl rfl)) L2.takes0
      exact ⟨t2, t3, k2 B _ _ _ G' _ _ hB r hx ⟨k.nx, k.bk, k.ct, k.rt, fun _ _ _ _ _ _ _ z => z.elim⟩⟩
    · have hx : (match [C].any (Γ.sub x.1) with
        | true => semSs { Γ with ex := none } h { nx := D.nx, rt := D.rt, bk := D.bk, ct := D.ct, ex := fun _ _ => False } env'
        | false => D.ex x env') := hx
      rw [show [C].any (Γ.sub x.1) = false by simp [hy]] at hx
      exact k.ex σ' x env' H' G' _ d hx r xr
/-! ### a dict's entries put into another -/
theorem mergeD_snoc {κ α : Type} [DecidableEq κ] : ∀ {ks2 : List κ} {vs2 : List α} {ks : List κ} {vs : List α} {k : κ} {v : α}, ks2.length = vs2.length → mergeD ks vs (ks2 ++ [k]) (vs2 ++ [v]) = putD (mergeD ks vs ks2 vs2).1 (mergeD ks vs ks2 vs2).2 k v
  | [], [], ks, vs, k, v, _ => rfl
  | [], _ :: _, _, _, _, _, h => by simp at h
  | _ :: _, [], _, _, _, _, h => by simp at h
  | j :: ks2, w :: vs2, ks, vs, k, v, h => by
    show mergeD (putD ks vs j w).1 (putD ks vs j w).2 (ks2 ++ [k]) (vs2 ++ [v]) = _
    rw [mergeD_snoc (ks2 := ks2) (vs2 := vs2) (by simpa using h)]
    rfl
theorem mergeD_len {κ α : Type} [DecidableEq κ] : ∀ {ks2 : List κ} {vs2 : List α} {ks : List κ} {vs : List α}, ks.length = vs.length → (mergeD ks vs ks2 vs2).1.length = (mergeD ks vs ks2 vs2).2.length ∧ (mergeD ks vs ks2 vs2).1.length ≤ ks.length + ks2.length
  | [], _, ks, vs, h => ⟨h, Nat.le_add_right _ _⟩
  | _ :: _, [], ks, vs, h => ⟨h, Nat.le_add_right _ _⟩
  | k :: ks2, v :: vs2, ks, vs, h => by
    obtain ⟨h1, h2⟩ := mergeD_len (ks2 := ks2) (vs2 := vs2) (putD_len (k := k) (v := v) h)
    have h3 : (putD ks vs k v).1.length ≤ ks.length + 1 := by
      unfold putD
      split
      · exact Nat.le_succ _
      · simp
    refine ⟨h1, ?_⟩
    have h2 : (mergeD ks vs (k :: ks2) (v :: vs2)).1.length ≤ (putD ks vs k v).1.length + ks2.length := h2
    rw [List.length_cons]
    omega
theorem mergeD_keys {κ α β : Type} [DecidableEq κ] : ∀ {ks2 : List κ} {vs2 : List α} {ws2 : List β} {ks : List κ} {vs : List α} {ws : List β}, vs2.length = ws2.length → (mergeD ks vs ks2 vs2).1 = (mergeD ks ws ks2 ws2).1
  | [], _, _, _, _, _, _ => rfl
  | _ :: _, [], [], _, _, _, _ => rfl
  | _ :: _, [], _ :: _, _, _, _, h => by simp at h
  | _ :: _, _ :: _, [], _, _, _, h => by simp at h
  | k :: ks2, v :: vs2, w :: ws2, ks, vs, ws, h => by
    show (mergeD (putD ks vs k v).1 (putD ks vs k v).2 ks2 vs2).1 = (mergeD (putD ks ws k w).1 (putD ks ws k w).2 ks2 ws2).1
    have e : (putD ks vs k v).1 = (putD ks ws k w).1 := by unfold putD; split <;> rfl
    rw [e]
    exact mergeD_keys (by simpa using h)
theorem own_mergeD {G H : Hp} {κ : Type} [DecidableEq κ] : ∀ {ks2 : List κ} {us2 : List V} {ms2 : List M} {ks : List κ} {us : List V} {ms : List M} {c : Cn}, OwnL g G H us2 ms2 (fun _ => 0) → ks.length = us.length → OwnL g G H us ms c → ∃ c', OwnL g G H (mergeD ks us ks2 us2).2 (mergeD ks ms ks2 ms2).2 c' ∧ ∀ b, c' b ≤ c b
  | [], us2, ms2, ks, us, ms, c, _, _, h => ⟨c, h, fun _ => Nat.le_refl _⟩
  | _ :: _, [], [], ks, us, ms, c, _, _, h => ⟨c, h, fun _ => Nat.le_refl _⟩
  | _ :: _, [], _ :: _, _, _, _, _, h, _, _ => h.elim
  | _ :: _, _ :: _, [], _, _, _, _, h, _, _ => h.elim
  | k :: ks2, u :: us2, m :: ms2, ks, us, ms, c, ⟨c1, c2, h1, h2, hc⟩, hl, h => by
    have e1 : c1 = fun _ => 0 := funext fun b => by have e1_ := hc b; walk_at "cn"
    have e2 : c2 = fun _ => 0 := funext fun b => by have e1_ := hc b; walk_at "cn"
    subst e1 e2
    obtain ⟨c', p1, p2⟩ := own_putD (k := k) h1 hl h
    have ek : (putD ks us k u).1 = (putD ks ms k m).1 := by unfold putD; split <;> rfl
    obtain ⟨c3, q1, q2⟩ := own_mergeD (ks2 := ks2) h2 (putD_len (k := k) (v := u) hl) p1
    refine ⟨c3, ?_, fun b => Nat.le_trans (q2 b) (p2 b)⟩
    show OwnL g G H (mergeD (putD ks us k u).1 (putD ks us k u).2 ks2 us2).2 (mergeD (putD ks ms k m).1 (putD ks ms k m).2 ks2 ms2).2 c3
    rw [← ek]
    exact q1
theorem valV_zip {κ κ' : Type} [DecidableEq κ] [DecidableEq κ'] {f : κ → κ'} (inj : ∀ {a b}, f a = f b → a = b) : ∀ {ks : List κ} {us : List V} {n : Nat} {k : κ} {u : V}, ks.Nodup → ks[n]? = some k → us[n]? = some u → valV ((ks.map f).zip us) (f k) = some u
  | [], _, _, _, _, _, h, _ => by simp at h
  | _ :: _, [], _, _, _, _, _, h => by simp at h
  | j :: ks, w :: us, 0, k, u, _, h1, h2 => by
    have e1 : j = k := by simpa using h1
    have e2 : w = u := by simpa using h2
    subst e1 e2
    rw [List.map_cons, List.zip_cons_cons]
    exact valV_pos rfl
  | j :: ks, w :: us, n + 1, k, u, nd, h1, h2 => by
    have h1' : ks[n]? = some k := by simpa using h1
    have ne : ¬ j = k := fun z => by
      subst z
      exact (List.nodup_cons.mp nd).1 (List.mem_of_getElem? h1')
    rw [List.map_cons, List.zip_cons_cons, valV_neg (fun z => ne (inj z))]
    exact valV_zip inj (List.nodup_cons.mp nd).2 h1' (by simpa using h2)
theorem sv_copyD {i j tg : Nat} {x y z : Str} {p p2 p3 p4 p5 p6 p7 p8 p9 pos : Pos} (hco : cc.hot = false) (hs : GS g cc Γ X) (hz : (slB cc z i && visB cc.sc z) = true) (hy : (slB cc y j && visB cc.sc y) = true) (hx : (slB cc x tg && visB cc.sc x) = true) (h2 : locB cc.sc x = true)
    (h3 : tg ∉ fx) (h3i : i ∉ fx) (hti : tg ≠ i) (htj : tg ≠ j) (hij : i ≠ j) : SV g Γ X W fx (.copyD i j tg) (.For (.Name x p) (.Name y p2) [.Assign [.Subscript (.Name z p3) (.Name x p4) p5] (.Subscript (.Name y p6) (.Name x p7) p8) p9] [] pos) := by
  have hg := hs.ge.good
  have pv : ∀ {n : Str} {k : Nat} {q : Pos}, (slB cc n k && visB cc.sc n) = true → PE X (.Name n q) (tVar k) := fun {n k q} h => by
    obtain ⟨a1, a2⟩ := ba2 h
    obtain ⟨q1, q2, q3⟩ := slot_of hg a1
    exact pe_var q1 (vis_of hg a2) q2 q3
  obtain ⟨x1, _⟩ := ba2 hx
  obtain ⟨s1, _, _⟩ := slot_of hg x1
  have PGt : PG X (.Name x p) (gName tg) := pg_name hg.nd s1 (loc_of hg h2) (.inl (hs.fn x))
  have hw1 : swapsWithSole [.Subscript (.Name z p3) (.Name x p4) p5] (.Subscript (.Name y p6) (.Name x p7) p8) p9.line X.env = pure false := rfl
  refine ⟨_, ps_lock (ps_for (hs.po hco) (hg.calm hco) (pi_keys (pv (q := p2) hy)) PGt (pss_one (ps_asg (pe_dget hg.hu (pv (q := p6) hy) (pv (q := p7) hx) (fun _ _ => rfl)) (pg_sub (pv (q := p3) hz) (pv (q := p4) hx) (set_dict hg.hu) (by intro v; rfl)) hw1 (by rfl) (by rfl))) (fold_n rfl)), fun B env σ H G D Dx hB rl hq k => ?_⟩
  obtain ⟨z1, z2⟩ := yes_i (show yes ((gt env i).ok && (gt env j).ok && decide (tg < env.length)) (copyS (gt env i) (gt env j) fun c k => D.nx ((env.set i c).set tg k)) from hq)
  obtain ⟨z1, z3⟩ := ba2 z1
  obtain ⟨oi, oj⟩ := ba2 z1
  have htl : tg < σ.length := by rw [rl.len]; exact of_decide_eq_true z3
  obtain ⟨vi, ci, hvi, owi⟩ := rl.var (ok_hole oi)
  obtain ⟨vj, cj, hvj, owj⟩ := rl.var (ok_hole oj)
  -- apart
  obtain ⟨vj', hvj', rt⟩ := rl.take (ok_hole oj)
  have evj : vj' = vj := by rw [hvj] at hvj'; simpa using hvj'.symm
  subst evj
  generalize hmi : gt env i = mi at z2 owi
  generalize hmj : gt env j = mj at z2 owj rt
  match mi, mj, z2, owi, owj, hmi, hmj, rt with
  | .dK true ks vs, .dK o ks2 vs2, z2, owi, owj, hmi, hmj, rt =>
    obtain ⟨fz, nd, hlen, z2⟩ := yes_i (show yes (fzL vs2) (ks2.Nodup ∧ ks.length + ks2.length ≤ sl ∧ (match ks2.getLast? with | some k => D.nx ((env.set i (.dK true (mergeD ks vs ks2 vs2).1 (mergeD ks vs ks2 vs2).2)).set tg (kM k)) | none => False)) from z2)
    obtain ⟨a, us, c1, rfl, hGa, hHa, hn, ol, hc1⟩ := owi
    have cases2 := owj
    obtain ⟨d, us2, c2, rfl, hHd, hn2, ol2, _⟩ := Own.dk rl.sGH owj
    have had : d ≠ a := fun e => by
      subst e
      cases o with
      | false =>
        obtain ⟨d', us3, e, hG, _⟩ := cases2
        cases e
        rw [hGa] at hG
        cases hG
      | true =>
        obtain ⟨cE, cF, xr, _⟩ := rt.rc
        have gi : gt (env.set j .hole) i = .dK true ks vs := by rw [gt_set, if_neg (fun z => hij z.1.symm)]; exact hmi
        obtain ⟨w, e1, c3, hw, t1, t2, t3⟩ := OwnL.take1 xr.oe (gt_get (env := env.set j .hole) (i := i) (by rw [gi]; exact fun z => by cases z))
        rw [gi] at t1
        obtain ⟨a', us4, c4, ew, _, _, _, _, hc4⟩ := t1
        rw [List.getElem?_map, hvi] at hw
        have ew2 : V.ref d = w := by simpa using hw
        rw [← ew2] at ew
        cases ew
        obtain ⟨f1, f2, g1, g2, g3⟩ := xr.of
        obtain ⟨d', us5, c5, ed, _, _, _, _, hc5⟩ := g1
        cases ed
        have y1 := xr.le d
        have y2 := t3 d
        have y3 := hc4 d
        have y4 := g3 d
        have y5 := hc5 d
        have y6 := one_self d
        walk_at "cn"
    cases hlast : ks2.getLast? with
    | none => rw [hlast] at z2; exact z2.elim
    | some kl =>
      rw [hlast] at z2
      have hpos : 0 < ks2.length := by
        cases ks2 with
        | nil => simp at hlast
        | cons _ _ => simp
      refine ⟨d, _, hHd, trivial, fun od => ⟨.ref d, hvj, d, od, rfl, .inl ⟨_, upd_same, ?_⟩⟩⟩
      have h3' : ∀ q, tg ≠ q → ∀ {v : V} {s2 : L2.St}, (s2.set tg (some v))[q]? = s2[q]? := fun q h {v s2} => List.getElem?_set_ne h
      refine ⟨fun n m σ' H' => n ≤ ks2.length ∧ m = ks2.length - n ∧ (σ' = σ ∧ n = 0 ∨ ∃ n0 k0, n = n0 + 1 ∧ ks2[n0]? = some k0 ∧ σ' = σ.set tg (some (kV (kk k0)))) ∧
          H' = upd (upd H a (.dK (((mergeD ks us (ks2.take n) (us2.take n)).1.map kk).zip (mergeD ks us (ks2.take n) (us2.take n)).2))) d (.frz od (.dK ((ks2.map kk).zip us2))), ⟨_, Nat.zero_le _, rfl, .inl ⟨rfl, rfl⟩, ?_⟩, ?_⟩
      · have e : upd H a (.dK (((mergeD ks us (ks2.take 0) (us2.take 0)).1.map kk).zip (mergeD ks us (ks2.take 0) (us2.take 0)).2)) = H := by
          funext b
          by_cases hb : b = a
          · rw [hb, upd_same, hHa]
            rfl
          · rw [upd_ne hb]
        rw [e]
      · rintro n m σ' H' ⟨hnl, hme, hσ, rfl⟩
        have sget : ∀ q, tg ≠ q → σ'[q]? = σ[q]? := fun q h => by
          rcases hσ with ⟨rfl, _⟩ | ⟨n0, k0, _, _, rfl⟩
          · rfl
          · exact h3' q h
        have zl : ((ks2.map kk).zip us2).length = ks2.length := by rw [List.length_zip, List.length_map, ← hn2, Nat.min_self]
        by_cases hlt : n < ks2.length
        · right
          refine ⟨⟨upd_same, by rw [zl]; exact hlt⟩, fun σ2 H2 => (∃ k0, ks2[n]? = some k0 ∧ σ2 = σ.set tg (some (kV (kk k0)))) ∧ H2 = upd (upd H a (.dK (((mergeD ks us (ks2.take (n + 1)) (us2.take (n + 1))).1.map kk).zip (mergeD ks us (ks2.take (n + 1)) (us2.take (n + 1))).2))) d (.frz od (.dK ((ks2.map kk).zip us2))), fun σ2 H2 ⟨⟨k0, q1, q2⟩, q3⟩ => ⟨ks2.length - (n + 1), by omega, by omega, rfl, .inr ⟨n, k0, rfl, q1, q2⟩, q3⟩, fun w H2 hw => ?_⟩
          obtain ⟨rfl, kq, vq, hkv, rfl⟩ := hw
          obtain ⟨k0, hk0⟩ : ∃ k0, ks2[n]? = some k0 := ⟨_, List.getElem?_eq_getElem hlt⟩
          obtain ⟨u0, hu0⟩ : ∃ u0, us2[n]? = some u0 := ⟨_, List.getElem?_eq_getElem (by omega)⟩
          have ekv : (kq, vq) = (kk k0, u0) := by
            have e1 : ((ks2.map kk).zip us2)[n]? = some (kk k0, u0) := by
              rw [List.getElem?_zip_eq_some]
              exact ⟨by rw [List.getElem?_map, hk0]; rfl, hu0⟩
            rw [e1] at hkv
            exact (Option.some.inj hkv).symm
          obtain ⟨rfl, rfl⟩ := Prod.mk.inj ekv
          have htg : tg < σ'.length := by
            have e1 : σ'.length = σ.length := by
              rcases hσ with ⟨rfl, _⟩ | ⟨n0, k0, _, _, rfl⟩
              · rfl
              · rw [List.length_set]
            rw [e1]
            exact htl
          have gtg : (σ'.set tg (some (kV (kk k0))))[tg]? = some (some (kV (kk k0))) := by rw [List.getElem?_set_self htg]
          refine ⟨.ref d, by rw [h3' j htj, sget j htj]; exact hvj, _, gtg, d, vq, rfl, .inl ⟨_, _, .inr ⟨od, upd_same⟩, rfl, (valV_zip (fun {a b} h => kk_inj h) nd hk0 hu0).symm⟩, ?_⟩
          refine ⟨.ref a, by rw [h3' i hti, sget i hti]; exact hvi, _, gtg, a, _, rfl, DPut.k (by rw [upd_ne (Ne.symm had), upd_same]) ?_, ?_⟩
          · obtain ⟨l1, l2⟩ := mergeD_len (ks2 := ks2.take n) (vs2 := us2.take n) hn
            rw [List.length_zip, List.length_map, ← l1, Nat.min_self]
            rw [List.length_take] at l2
            show _ < sl
            omega
          · refine ⟨⟨k0, hk0, ?_⟩, ?_⟩
            · rcases hσ with ⟨rfl, _⟩ | ⟨n0, k1, _, _, rfl⟩
              · rfl
              · rw [List.set_set]
            · have e1 : ks2.take (n + 1) = ks2.take n ++ [k0] := by rw [List.take_add_one, hk0]; rfl
              have e2 : us2.take (n + 1) = us2.take n ++ [vq] := by rw [List.take_add_one, hu0]; rfl
              have e3 := putK_zip (f := kk) (fun {a b} h => kk_inj h) (k := k0) (v := vq) (mergeD_len (ks2 := ks2.take n) (vs2 := us2.take n) hn).1
              rw [e1, e2, mergeD_snoc (by rw [List.length_take, List.length_take, hn2]), e3]
              funext b
              by_cases hb : b = a
              · rw [hb, upd_same, upd_ne (Ne.symm had), upd_same]
              · rw [upd_ne hb]
                by_cases hd : b = d
                · rw [hd, upd_same, upd_same]
                · rw [upd_ne hd, upd_ne hb, upd_ne hd, upd_ne hb]
        · left
          have e : n = ks2.length := by omega
          subst e
          rw [List.take_length, show us2.take ks2.length = us2 by rw [hn2, List.take_length]]
          refine ⟨⟨upd_same, by rw [zl]; exact Nat.le_refl _⟩, upd_same, ?_⟩
          have eH : upd (upd (upd H a (.dK (((mergeD ks us ks2 us2).1.map kk).zip (mergeD ks us ks2 us2).2))) d (.frz od (.dK ((ks2.map kk).zip us2)))) d (.dK ((ks2.map kk).zip us2)) = upd H a (.dK (((mergeD ks us ks2 us2).1.map kk).zip (mergeD ks us ks2 us2).2)) := by
            funext b
            by_cases hd : b = d
            · rw [hd, upd_same, upd_ne had, hHd]
            · rw [upd_ne hd, upd_ne hd]
          rw [eH]
          have ek : (mergeD ks us ks2 us2).1 = (mergeD ks vs ks2 vs2).1 := mergeD_keys (OwnL.len ol2)
          have r2 : Rel g B (env.set i (.dK true (mergeD ks vs ks2 vs2).1 (mergeD ks vs ks2 vs2).2)) [] σ (upd H a (.dK (((mergeD ks us ks2 us2).1.map kk).zip (mergeD ks us ks2 us2).2))) G := by
            have pv0 : PathV g H (.ref a) (gt env i) [] (.ref a) (.dK true ks vs) := ⟨rfl, hmi.symm⟩
            have r3 := Rel.pop (v := .non) (m := .non) (Rel.modify (vs := []) (ms := []) (Fr := []) (i := i) (l := []) (m' := .dK true (mergeD ks vs ks2 vs2).1 (mergeD ks vs ks2 vs2).2) (mr := .non) (w := .non) (a := a) (o := .dK (((mergeD ks us ks2 us2).1.map kk).zip (mergeD ks us ks2 us2).2)) rl rfl (ok_hole oi) hvi pv0 fun c1' e o1 o2 hle => ?_)
            · exact r3
            obtain ⟨a', us3, c3, ea, hG2, hH2, hn3, ol3, hc3⟩ := o1
            cases ea
            rw [hHa] at hH2
            have hzz : (ks.map kk).zip us = (ks.map kk).zip us3 := HO.dK.inj (Option.some.inj hH2)
            have eus : us = us3 := by
              have e1 := congrArg (List.map Prod.snd) hzz
              rw [List.map_snd_zip (by simp [hn]), List.map_snd_zip (by simp [hn3])] at e1
              exact e1
            subst eus
            obtain ⟨c4, q1, q2⟩ := own_mergeD (ks2 := ks2) (ol2.z fz) hn ol3
            have na : ∀ b, 1 ≤ c4 b → b ≠ a := fun b hb q => by
              subst q
              have e1_ := hle b
              have e2_ := hc3 b
              have e3_ := one_self b
              have e4_ := q2 b
              walk_at "cn"
            refine ⟨fun b => one a b + c4 b, fun _ => 0, ⟨by have e2_ := hc3 a; have e3_ := one_self a; walk_at "cn", hGa⟩, ⟨a, (mergeD ks us ks2 us2).2, c4, rfl, hGa, by rw [upd_same, ek], by rw [← ek]; exact (mergeD_len (ks2 := ks2) (vs2 := us2) hn).1, OwnL.hm _ q1 fun b hb => upd_ne (na b hb), fun _ => rfl⟩, ⟨rfl, zr0⟩, fun b => by have e2_ := hc3 b; have e4_ := q2 b; have e5_ := o2 b; walk_at "cn"⟩
          obtain ⟨n0, k0, en, hk0, rfl⟩ : ∃ n0 k0, ks2.length = n0 + 1 ∧ ks2[n0]? = some k0 ∧ σ' = σ.set tg (some (kV (kk k0))) := by
            rcases hσ with ⟨_, z⟩ | h
            · omega
            · exact h
          have ekl : k0 = kl := by
            rw [List.getLast?_eq_getElem?, en] at hlast
            have : n0 + 1 - 1 = n0 := by omega
            rw [this, hk0] at hlast
            exact Option.some.inj hlast
          subst ekl
          have ow0 : Own g G (upd H a (.dK (((mergeD ks us ks2 us2).1.map kk).zip (mergeD ks us ks2 us2).2))) (kV (kk k0)) (kM k0) (fun _ => 0) := by
            cases k0 with
            | inl i => exact o_int i
            | inr cs => exact o_str cs
          exact k.nx _ _ _ _ z2 ((r2.push0 ow0).set (i := tg) (by rw [hB]; exact h3))
end
end Q
set_option Elab.async false
set_option linter.all false
set_option maxRecDepth 100000
set_option maxHeartbeats 4000000
namespace Q
open PySem PySem.Spec PyProof.Rows L2
local macro_rules | `(tactic| walk_at "cn") => `(tactic| ((try dsimp only at *); omega))
def isComp : E → Bool
  | .comp _ _ _ _ => true
  | _ => false
def isVw : I → Option Nat
  | .vw i => some i
  | _ => none
def isStr : E → Expr → Bool
  | .pu (.str _), .Constant (.str _) _ _ => true
  | _, _ => false
mutual
def chkS : S → Sc → List Nat → Stmt → Bool
  | .set i q, c, fx, st => (match st with
    | .Assign [.Name x _] e _ => slB c x i && locB c.sc x && !fx.contains i && chkE q c e && (match isComp q with | true => decide (c.sc.kind = .function) | false => nComp e)
    | _ => false)
  | .sti i p ix q, c, fx, st => (match st with
    | .Assign [.Subscript o y _] e _ => nComp e && nSli y && chkE q c e && chkPath c i p o && chkP c ix y
    | _ => false)
  | .aug i o q, c, fx, st => (match st with
    | .AugAssign (.Name x _) op e _ => slB c x i && locB c.sc x && !fx.contains i && chkE q c e && decide (bOp o = some op) && (decide (o = .add) || decide (o = .sub))
    | _ => false)
  | .ex q, c, fx, st => (match st with
    | .Expr e _ => chkE q c e && nComp e
    | _ => false)
  | .ite t a b, c, fx, st => (match st with
    | .If e x y _ => chkTT t c e && chkSs a c fx x && chkSs b c fx y
    | _ => false)
  | .for_ tg it b, c, fx, st => (match st with
    | .For (.Name x _) iter body [] _ => !c.hot && slB c x tg && locB c.sc x && !fx.contains tg && nSet iter && (match isVw it with
      | some i => (match vNam iter with | some y => slB c y i && visB c.sc y | none => false) && !decide (tg = i) && chkSs b c (i :: fx) body
      | none => chkI it c iter && chkSs b c fx body)
    | _ => false)
  | .whl t b, c, fx, st => (match st with
    | .While e x [] _ => !c.hot && chkTT t c e && chkSs b c fx x
    | _ => false)
  | .brk, _, _, st => (match st with | .Break _ => true | _ => false)
  | .cnt, _, _, st => (match st with | .Continue _ => true | _ => false)
  | .pass, _, _, st => (match st with | .Pass _ => true | _ => false)
  | .ret q, c, fx, st => (match st with | .Return (some e) _ => chkE q c e | _ => false)
  | .retN, _, _, st => (match st with | .Return none _ => true | _ => false)
  | .doc, _, _, st => (match st with | .Expr (.Constant (.str _) _ _) _ => true | _ => false)
  | .copyD i j tg, c, fx, st => (match st with
    | .For (.Name x _) (.Name y _) [.Assign [.Subscript (.Name z _) (.Name x2 _) _] (.Subscript (.Name y2 _) (.Name x3 _) _) _] [] _ => !c.hot && decide (x2 = x) && decide (x3 = x) && decide (y2 = y) && (slB c z i && visB c.sc z) && (slB c y j && visB c.sc y) && (slB c x tg && visB c.sc x) && locB c.sc x && !fx.contains tg && !fx.contains i && !decide (tg = i) && !decide (tg = j) && !decide (i = j)
    | _ => false)
  | .stk i p ix q, c, fx, st => (match st with
    | .Assign [.Subscript o y _] e _ => nComp e && nSli y && chkE q c e && chkPath c i p o && quiet ix && chkE ix c y
    | _ => false)
  | .stf i p C k q, c, fx, st => (match st with
    | .Assign [.Attribute o f _] e _ => nComp e && chkE q c e && chkPath c i p o && decide ((c.fl C)[k]? = some f) && decide ((c.fl C).length < 1000)
    | _ => false)
  | .scan tg i p t b, c, fx, st => (match st with
    | .For (.Name x _) o [.If tt body [] _] [] _ => !c.hot && slB c x tg && locB c.sc x && !fx.contains tg && !decide (tg = i) && nSet o && chkPath c i p o && chkT c t tt && chkSs b c fx body
    | _ => false)
  | .raise C [q], c, fx, st => (match st with
    | .Raise (some (.Call (.Name x _) [e] [] _)) none _ => !c.hot && glB c.sc x && dbg x && ((isStr q e && c.xrs.contains (C, x)) || (c.xri.contains (C, x) && nStar e && chkE q c e && decide (1 ≤ c.k)))
    | _ => false)
  | .tryS b [C] (some j) h, c, fx, st => (match st with
    | .Try body [.ExceptHandler (some (.Name cn _)) (some n) (b0 :: suite) _] [] [] _ => !c.hot && c.xns.contains (C, cn) && glB c.sc cn && dbg cn && slB c n j && decide (c.sc.names.lookup n = some .local) && !fx.contains j && chkSs b c fx body && chkSs h (hotS c) fx (b0 :: suite)
    | _ => false)
  | .tryS b [C] none h, c, fx, st => (match st with
    | .Try body [.ExceptHandler (some (.Name cn _)) none (b0 :: suite) _] [] [] _ => !c.hot && c.xns.contains (C, cn) && glB c.sc cn && dbg cn && chkSs b c fx body && chkSs h (hotS c) fx (b0 :: suite)
    | _ => false)
  | _, _, _, _ => false
def chkSs : List S → Sc → List Nat → List Stmt → Bool
  | [], _, _, [] => true
  | s :: r, c, fx, st :: rest => chkS s c fx st && chkSs r c fx rest
  | _, _, _, _ => false
end
section
variable {g : Gi} {Γ : Gm}
theorem nmem {l : List Nat} {i : Nat} (h : (!l.contains i) = true) : i ∉ l := by simpa using h
mutual
theorem S_ok : ∀ (s : S) {Γ : Gm} {X : Cx} {W : WX} {cc : Sc} {fx : List Nat} (st : Stmt), GS g cc Γ X → Takes X W → chkS s cc fx st = true → SV g Γ X W fx s st
  | .set i q, Γ, X, W, cc, fx, st, hs, tk, h => by
    have h : (match (generalizing := false) st with
    | .Assign [.Name x _] e _ => slB cc x i && locB cc.sc x && !fx.contains i && chkE q cc e && (match isComp q with | true => decide (cc.sc.kind = .function) | false => nComp e)
    | _ => false) = true := h
    split at h
    · rename_i x p e pos _
      obtain ⟨h, h5⟩ := ba2 h
      obtain ⟨h, h4⟩ := ba2 h
      obtain ⟨h, h3⟩ := ba2 h
      obtain ⟨h1, h2⟩ := ba2 h
      cases hq : isComp q with
      | true =>
        rw [hq] at h5
        cases q <;> first
          | (cases hq; done)
          | exact sv_setC hs tk h4 (of_decide_eq_true h5) h1 h2 (nmem h3)
      | false =>
        rw [hq] at h5
        exact sv_set hs h1 h2 (nmem h3) (E_ok q e hs.ge tk h4).1 (swp_n h5)
    · cases h
  | .sti i p ix q, Γ, X, W, cc, fx, st, hs, tk, h => by
    have h : (match (generalizing := false) st with
    | .Assign [.Subscript o y _] e _ => nComp e && nSli y && chkE q cc e && chkPath cc i p o && chkP cc ix y
    | _ => false) = true := h
    split at h
    · rename_i o y p2 e pos _
      obtain ⟨h, h5⟩ := ba2 h
      obtain ⟨h, h4⟩ := ba2 h
      obtain ⟨h, h3⟩ := ba2 h
      obtain ⟨h1, h2⟩ := ba2 h
      exact sv_sti hs (E_ok q e hs.ge tk h3).1 (pth hs.ge.good h4) (P_ok hs.ge.good ix y h5).1 h1 h2
    · cases h
  | .aug i o q, Γ, X, W, cc, fx, st, hs, tk, h => by
    have h : (match (generalizing := false) st with
    | .AugAssign (.Name x _) op e _ => slB cc x i && locB cc.sc x && !fx.contains i && chkE q cc e && decide (bOp o = some op) && (decide (o = .add) || decide (o = .sub))
    | _ => false) = true := h
    split at h
    · rename_i x p op e pos _
      obtain ⟨h, h6⟩ := ba2 h
      obtain ⟨h, h5⟩ := ba2 h
      obtain ⟨h, h4⟩ := ba2 h
      obtain ⟨h, h3⟩ := ba2 h
      obtain ⟨h1, h2⟩ := ba2 h
      refine sv_aug hs h1 h2 (nmem h3) (E_ok q e hs.ge tk h4).1 (of_decide_eq_true h5) ?_
      rcases Bool.or_eq_true_iff.mp h6 with z | z
      · exact .inl (of_decide_eq_true z)
      · exact .inr (of_decide_eq_true z)
    · cases h
  | .augi _ _ _ _ _, _, _, _, _, _, _, _, _, h => by cases h
  | .unp _ _, _, _, _, _, _, _, _, _, h => by cases h
  | .ex q, Γ, X, W, cc, fx, st, hs, tk, h => by
    have h : (match (generalizing := false) st with
    | .Expr e _ => chkE q cc e && nComp e
    | _ => false) = true := h
    split at h
    · rename_i e pos _
      obtain ⟨h1, h2⟩ := ba2 h
      exact sv_ex (E_ok q e hs.ge tk h1).1 h2
    · cases h
  | .ite t a b, Γ, X, W, cc, fx, st, hs, tk, h => by
    have h : (match (generalizing := false) st with
    | .If e x y _ => chkTT t cc e && chkSs a cc fx x && chkSs b cc fx y
    | _ => false) = true := h
    split at h
    · rename_i e x y pos _
      obtain ⟨h, h3⟩ := ba2 h
      obtain ⟨h1, h2⟩ := ba2 h
      exact sv_ite (TT_ok t e hs.ge tk h1).1 (Ss_ok a x hs tk h2) (Ss_ok b y hs tk h3)
    · cases h
  | .for_ tg it b, Γ, X, W, cc, fx, st, hs, tk, h => by
    have h : (match (generalizing := false) st with
    | .For (.Name x _) iter body [] _ => !cc.hot && slB cc x tg && locB cc.sc x && !fx.contains tg && nSet iter && (match isVw it with
      | some i => (match vNam iter with | some y => slB cc y i && visB cc.sc y | none => false) && !decide (tg = i) && chkSs b cc (i :: fx) body
      | none => chkI it cc iter && chkSs b cc fx body)
    | _ => false) = true := h
    split at h
    · rename_i x p iter body pos _
      obtain ⟨h, h5⟩ := ba2 h
      obtain ⟨h, h4⟩ := ba2 h
      obtain ⟨h, h3⟩ := ba2 h
      obtain ⟨h, h2⟩ := ba2 h
      obtain ⟨hco, h1⟩ := ba2 h
      have hco := cold_n hco
      cases hv : isVw it with
      | some i =>
        rw [hv] at h5
        obtain ⟨h5, h8⟩ := ba2 h5
        obtain ⟨h6, h7⟩ := ba2 h5
        split at h6
        · rename_i y e1
          obtain ⟨p2, rfl⟩ := vNam_i e1
          have hb := Ss_ok b body hs tk h8
          cases it with
          | vw j =>
            cases hv
            refine sv_forV hco hs h6 h1 h2 ?_ hb
            intro hm
            rcases List.mem_cons.mp hm with z | z
            · simp [z] at h7
            · exact nmem h3 z
          | _ => cases hv
        · cases h6
      | none =>
        rw [hv] at h5
        obtain ⟨h6, h7⟩ := ba2 h5
        exact sv_for hco hs (I_ok it (.Name x p) iter hs.ge tk h6) h1 h2 (nmem h3) (Ss_ok b body hs tk h7) h4 fun i e => by rw [e] at hv; cases hv
    · cases h
  | .whl t b, Γ, X, W, cc, fx, st, hs, tk, h => by
    have h : (match (generalizing := false) st with
    | .While e x [] _ => !cc.hot && chkTT t cc e && chkSs b cc fx x
    | _ => false) = true := h
    split at h
    · rename_i e x pos _
      obtain ⟨h, h2⟩ := ba2 h
      obtain ⟨hco, h1⟩ := ba2 h
      exact sv_whl (cold_n hco) hs (TT_ok t e hs.ge tk h1).1 (Ss_ok b x hs tk h2)
    · cases h
  | .brk, Γ, X, W, cc, fx, st, hs, tk, h => by
    have h : (match (generalizing := false) st with | .Break _ => true | _ => false) = true := h
    split at h
    · exact ⟨_, ps_break, fun B env σ H G D Dx hB rl hq k => k.bk _ _ _ _ hq rl⟩
    · cases h
  | .cnt, Γ, X, W, cc, fx, st, hs, tk, h => by
    have h : (match (generalizing := false) st with | .Continue _ => true | _ => false) = true := h
    split at h
    · exact ⟨_, ps_continue, fun B env σ H G D Dx hB rl hq k => k.ct _ _ _ _ hq rl⟩
    · cases h
  | .pass, Γ, X, W, cc, fx, st, hs, tk, h => by
    have h : (match (generalizing := false) st with | .Pass _ => true | _ => false) = true := h
    split at h
    · exact ⟨_, ps_pass, fun B env σ H G D Dx hB rl hq k => k.nx _ _ _ _ hq rl⟩
    · cases h
  | .ret q, Γ, X, W, cc, fx, st, hs, tk, h => by
    have h : (match (generalizing := false) st with | .Return (some e) _ => chkE q cc e | _ => false) = true := h
    split at h
    · rename_i e pos _
      exact sv_ret (E_ok q e hs.ge tk h).1
    · cases h
  | .retN, Γ, X, W, cc, fx, st, hs, tk, h => by
    have h : (match (generalizing := false) st with | .Return none _ => true | _ => false) = true := h
    split at h
    · exact sv_retN
    · cases h
  | .doc, Γ, X, W, cc, fx, st, hs, tk, h => by
    have h : (match (generalizing := false) st with | .Expr (.Constant (.str _) _ _) _ => true | _ => false) = true := h
    split at h
    · exact ⟨_, ps_doc, fun B env σ H G D Dx hB rl hq k => k.nx _ _ _ _ hq rl⟩
    · cases h
  | .copyD i j tg, Γ, X, W, cc, fx, st, hs, tk, h => by
    have h : (match (generalizing := false) st with
    | .For (.Name x _) (.Name y _) [.Assign [.Subscript (.Name z _) (.Name x2 _) _] (.Subscript (.Name y2 _) (.Name x3 _) _) _] [] _ => !cc.hot && decide (x2 = x) && decide (x3 = x) && decide (y2 = y) && (slB cc z i && visB cc.sc z) && (slB cc y j && visB cc.sc y) && (slB cc x tg && visB cc.sc x) && locB cc.sc x && !fx.contains tg && !fx.contains i && !decide (tg = i) && !decide (tg = j) && !decide (i = j)
    | _ => false) = true := h
    split at h
    · rename_i x p1 y p2 z p3 x2 p4 p5 y2 p6 x3 p7 p8 p9 pos _
      obtain ⟨h, e13⟩ := ba2 h
      obtain ⟨h, e12⟩ := ba2 h
      obtain ⟨h, e11⟩ := ba2 h
      obtain ⟨h, e10⟩ := ba2 h
      obtain ⟨h, e9⟩ := ba2 h
      obtain ⟨h, e8⟩ := ba2 h
      obtain ⟨h, e7⟩ := ba2 h
      obtain ⟨h, e6⟩ := ba2 h
      obtain ⟨h, e5⟩ := ba2 h
      obtain ⟨h, e4⟩ := ba2 h
      obtain ⟨h, e3⟩ := ba2 h
      obtain ⟨e1, e2⟩ := ba2 h
      have e2 := of_decide_eq_true e2
      have e3 := of_decide_eq_true e3
      have e4 := of_decide_eq_true e4
      subst e2 e3 e4
      exact sv_copyD (cold_n e1) hs e5 e6 e7 e8 (nmem e9) (nmem e10) (by simpa using e11) (by simpa using e12) (by simpa using e13)
    · cases h
  | .stk i p ix q, Γ, X, W, cc, fx, st, hs, tk, h => by
    have h : (match (generalizing := false) st with
    | .Assign [.Subscript o y _] e _ => nComp e && nSli y && chkE q cc e && chkPath cc i p o && quiet ix && chkE ix cc y
    | _ => false) = true := h
    split at h
    · rename_i o y p2 e pos _
      obtain ⟨h, h6⟩ := ba2 h
      obtain ⟨h, h5⟩ := ba2 h
      obtain ⟨h, h4⟩ := ba2 h
      obtain ⟨h, h3⟩ := ba2 h
      obtain ⟨h1, h2⟩ := ba2 h
      exact sv_stk hs (E_ok q e hs.ge tk h3).1 (pth hs.ge.good h4) ((E_ok ix y hs.ge tk h6).2.2 h5) h1 h2
    · cases h
  | .stf i p C k q, Γ, X, W, cc, fx, st, hs, tk, h => by
    have h : (match (generalizing := false) st with
    | .Assign [.Attribute o f _] e _ => nComp e && chkE q cc e && chkPath cc i p o && decide ((cc.fl C)[k]? = some f) && decide ((cc.fl C).length < 1000)
    | _ => false) = true := h
    split at h
    · rename_i o f p2 e pos _
      obtain ⟨h, h5⟩ := ba2 h
      obtain ⟨h, h4⟩ := ba2 h
      obtain ⟨h, h3⟩ := ba2 h
      obtain ⟨h1, h2⟩ := ba2 h
      exact sv_stf hs (E_ok q e hs.ge tk h2).1 (pth hs.ge.good h3) (of_decide_eq_true h4) h1 (of_decide_eq_true h5)
    · cases h
  | .scan tg i p t b, Γ, X, W, cc, fx, st, hs, tk, h => by
    have h : (match (generalizing := false) st with
    | .For (.Name x _) o [.If tt body [] _] [] _ => !cc.hot && slB cc x tg && locB cc.sc x && !fx.contains tg && !decide (tg = i) && nSet o && chkPath cc i p o && chkT cc t tt && chkSs b cc fx body
    | _ => false) = true := h
    split at h
    · rename_i x p2 o tt body p3 pos _
      obtain ⟨h, h9⟩ := ba2 h
      obtain ⟨h, h8⟩ := ba2 h
      obtain ⟨h, h7⟩ := ba2 h
      obtain ⟨h, h6⟩ := ba2 h
      obtain ⟨h, h5⟩ := ba2 h
      obtain ⟨h, h4⟩ := ba2 h
      obtain ⟨h, h3⟩ := ba2 h
      obtain ⟨h1, h2⟩ := ba2 h
      exact sv_scan (cold_n h1) hs (pth hs.ge.good h7) h2 h3 (nmem h4) (by simpa using h5) (T_ok hs.ge.good t tt h8).1 (Ss_ok b body hs tk h9) h6
    · cases h
  | .raise C [q], Γ, X, W, cc, fx, st, hs, tk, h => by
    have h : (match (generalizing := false) st with
    | .Raise (some (.Call (.Name x _) [e] [] _)) none _ => !cc.hot && glB cc.sc x && dbg x && ((isStr q e && cc.xrs.contains (C, x)) || (cc.xri.contains (C, x) && nStar e && chkE q cc e && decide (1 ≤ cc.k)))
    | _ => false) = true := h
    split at h
    · rename_i x p2 e p3 pos _
      obtain ⟨h, h4⟩ := ba2 h
      obtain ⟨h, h3⟩ := ba2 h
      obtain ⟨h1, h2⟩ := ba2 h
      rcases Bool.or_eq_true_iff.mp h4 with h4 | h4
      · obtain ⟨h4, h5⟩ := ba2 h4
        have key : ∃ cs m j p4, q = .pu (.str cs) ∧ e = .Constant (.str m) j p4 := by
          unfold isStr at h4
          split at h4
          · exact ⟨_, _, _, _, rfl, rfl⟩
          · cases h4
        obtain ⟨cs, m, j, p4, rfl, rfl⟩ := key
        exact sv_raise0 (cold_n h1) hs.ge tk (mem_of h5) h2 h3
      · obtain ⟨h4, h8⟩ := ba2 h4
        obtain ⟨h4, h7⟩ := ba2 h4
        obtain ⟨h5, h6⟩ := ba2 h4
        exact sv_raise1 (cold_n h1) (of_decide_eq_true h8) hs.ge tk (mem_of h5) h2 h3 (E_ok q e hs.ge tk h7).1 h6
    · cases h
  | .raise _ [], _, _, _, _, _, _, _, _, h => by cases h
  | .raise _ (_ :: _ :: _), _, _, _, _, _, _, _, _, h => by cases h
  | .tryS b [C] (some j) hd, Γ, X, W, cc, fx, st, hs, tk, h => by
    have h : (match (generalizing := false) st with
    | .Try body [.ExceptHandler (some (.Name cn _)) (some n) (b0 :: suite) _] [] [] _ => !cc.hot && cc.xns.contains (C, cn) && glB cc.sc cn && dbg cn && slB cc n j && decide (cc.sc.names.lookup n = some .local) && !fx.contains j && chkSs b cc fx body && chkSs hd (hotS cc) fx (b0 :: suite)
    | _ => false) = true := h
    split at h
    · rename_i body cn p2 n b0 suite p3 pos _
      obtain ⟨h, h9⟩ := ba2 h
      obtain ⟨h, h8⟩ := ba2 h
      obtain ⟨h, h7⟩ := ba2 h
      obtain ⟨h, h6⟩ := ba2 h
      obtain ⟨h, h5⟩ := ba2 h
      obtain ⟨h, h4⟩ := ba2 h
      obtain ⟨h, h3⟩ := ba2 h
      obtain ⟨h1, h2⟩ := ba2 h
      exact sv_try (cold_n h1) hs tk (mem_of h2) h3 h4 h5 (of_decide_eq_true h6) (nmem h7) (fun X' W' hs' tk' => Ss_ok b body hs' tk' h8) fun Γ' X' W' hs' tk' => Ss_ok hd (b0 :: suite) hs' tk' h9
    · cases h
  | .tryS b [C] none hd, Γ, X, W, cc, fx, st, hs, tk, h => by
    have h : (match (generalizing := false) st with
    | .Try body [.ExceptHandler (some (.Name cn _)) none (b0 :: suite) _] [] [] _ => !cc.hot && cc.xns.contains (C, cn) && glB cc.sc cn && dbg cn && chkSs b cc fx body && chkSs hd (hotS cc) fx (b0 :: suite)
    | _ => false) = true := h
    split at h
    · rename_i body cn p2 b0 suite p3 pos _
      obtain ⟨h, h6⟩ := ba2 h
      obtain ⟨h, h5⟩ := ba2 h
      obtain ⟨h, h4⟩ := ba2 h
      obtain ⟨h, h3⟩ := ba2 h
      obtain ⟨h1, h2⟩ := ba2 h
      exact sv_try0 (cold_n h1) hs tk (mem_of h2) h3 h4 (fun X' W' hs' tk' => Ss_ok b body hs' tk' h5) fun Γ' X' W' hs' tk' => Ss_ok hd (b0 :: suite) hs' tk' h6
    · cases h
  | .tryS _ [] _ _, _, _, _, _, _, _, _, _, h => by cases h
  | .tryS _ (_ :: _ :: _) _ _, _, _, _, _, _, _, _, _, h => by cases h
theorem Ss_ok : ∀ (s : List S) {Γ : Gm} {X : Cx} {W : WX} {cc : Sc} {fx : List Nat} (st : List Stmt), GS g cc Γ X → Takes X W → chkSs s cc fx st = true → SSV g Γ X W fx s st
  | [], Γ, X, W, cc, fx, [], hs, tk, h => ss_nil
  | [], _, _, _, _, _, _ :: _, _, _, h => by cases h
  | _ :: _, _, _, _, _, _, [], _, _, h => by cases h
  | s :: r, Γ, X, W, cc, fx, st :: rest, hs, tk, h => by
    obtain ⟨h1, h2⟩ := ba2 (show (chkS s cc fx st && chkSs r cc fx rest) = true from h)
    exact ss_cons (S_ok s st hs tk h1) (Ss_ok r rest hs tk h2)
end
/-! ### a def -/
/-- what does not depend on the def -/
structure Top (g : Gi) (Γ : Gm) (fl : String → List Str) (gn fr : List Str) (xrs xri xns : List (String × Str)) : Prop where
  efl : g.fl = fl
  fr : ∀ x : Str, fr.contains x = true → g.mg x = none
  gl : ∀ (k : Nat) (x : Str), gn[k]? = some x → ∃ m v u, Γ.gv[k]? = some m ∧ RelV v u ∧ g.mg x = some u ∧ ∀ G H, Own g G H v m (fun _ => 0)
  tab : Tb g Γ.tab
  cls : ∀ (C : String) (k : Nat) (f : Str), (g.fl C)[k]? = some f → Cls g.K (g.ca C) ∧ NoAttr g.K (g.ca C) f
  fnd : ∀ C : String, (g.fl C).Nodup
  xrs : ∀ C x, (C, x) ∈ xrs → XRs g C x false ∧ Γ.exf C = false
  xri : ∀ C x, (C, x) ∈ xri → XRs g C x true ∧ Γ.exf C = true
  xcl : ∀ C x, (C, x) ∈ xns → XName g Γ C x
  xok : ∀ C, C ∈ g.xcs → XCls g C
/-- what a def calls -/
structure Cal (g : Gi) (Γ : Gm) (k : Nat) (fns mts mks : List (String × Str)) : Prop where
  cf : ∀ f x, (f, x) ∈ fns → g.mg x = some (.ref (g.fa f)) ∧ FnG g k (g.fa f) (Γ.fs f)
  cm : ∀ C m, (C, m) ∈ mts → Cls g.K (g.ca C) ∧ m ∉ g.fl C ∧ ∃ a, Meth g.K (g.ca C) m a ∧ FnG g k a (Γ.ms C (Str.toString m))
  ck : ∀ C x, (C, x) ∈ mks → g.mg x = some (.ref (g.ca C)) ∧ ∃ a j, j + 1 ≤ k ∧ Mk g.K (g.ca C) a ∧ FnG g j a (Γ.mks C)
  cl : ∀ f, Γ.lf f = true → FnG g k (g.fa f) (Γ.fs f)
def mkSc (fl : String → List Str) (gn fr : List Str) (N : List Str) (sc : Scope) (k : Nat) (fns mts mks xrs xri xns : List (String × Str)) : Sc := { N := N, sc := sc, gn := gn, fr := fr, fl := fl, k := k, fns := fns, mts := mts, mks := mks, xrs := xrs, xri := xri, xns := xns, hot := false }
def outs (fx : List Nat) (np : Nat) (en : En) : List M := (List.range np).map fun i => if fx.contains i then gt en i else .hole
/-- what a def of this text does -/
def spOf (Γ : Gm) (n np : Nat) (fx : List Nat) (ss : List S) : FSp := fun ms Q X => ms.length = np ∧ semSs Γ ss { nx := fun en => Q .non (outs fx np en), rt := fun m en => Q m (outs fx np en), bk := fun _ => False, ct := fun _ => False, ex := fun x en => X x (outs fx np en) } (ms ++ List.replicate (n - np) .hole)
theorem own_hole {G H : Hp} : ∀ (n : Nat) (vs : List V), vs.length = n → OwnL g G H vs (List.replicate n .hole) (fun _ => 0)
  | 0, [], _ => zr0
  | n + 1, v :: vs, h => ⟨fun _ => 0, fun _ => 0, zr0, own_hole n vs (by simpa using h), fun _ => rfl⟩
theorem all_ok_hole {ms : List M} {n i : Nat} (h : gt (ms ++ List.replicate n .hole) i ≠ .hole) : i < ms.length := by
  induction ms generalizing i with
  | nil =>
    exfalso
    apply h
    clear h
    induction n generalizing i with
    | zero => rfl
    | succ n ih =>
      cases i with
      | zero => rfl
      | succ i => exact ih (i := i)
  | cons m ms ih =>
    cases i with
    | zero => simp
    | succ i => simpa using ih (i := i) h
/-- the parameters, given back -/
theorem own_outs {G H : Hp} {fx : List Nat} : ∀ {np : Nat} {σ : L2.St} {env : En} {vs : List V} {c : Cn}, OwnL g G H (σ.map gv) env c → vs.length = np → (∀ i, fx.contains i = true → i < np → σ[i]? = (vs[i]?).map some) → ∃ c', OwnL g G H vs (outs fx np env) c' ∧ ∀ b, c' b ≤ c b := by
  intro np
  -- by the first
  have go : ∀ (np : Nat) (fs : Nat → Bool) (σ : L2.St) (env : En) (vs : List V) (c : Cn), OwnL g G H (σ.map gv) env c → vs.length = np → (∀ i, fs i = true → i < np → σ[i]? = (vs[i]?).map some) → ∃ c', OwnL g G H vs ((List.range np).map fun i => if fs i then gt env i else .hole) c' ∧ ∀ b, c' b ≤ c b := by
    intro np
    induction np with
    | zero =>
      intro fs σ env vs c ho hl hf
      cases vs with
      | nil => exact ⟨fun _ => 0, zr0, fun b => by walk_at "cn"⟩
      | cons _ _ => cases hl
    | succ np ih =>
      intro fs σ env vs c ho hl hf
      cases vs with
      | nil => cases hl
      | cons v vs =>
        cases env with
        | nil =>
          cases σ with
          | cons _ _ => exact ho.elim
          | nil =>
            obtain ⟨c', k1, k2⟩ := ih (fun i => fs (i + 1)) [] [] vs c ho (by simpa using hl) fun i hi hlt => by
              have := hf (i + 1) hi (by omega)
              simpa using this
            rw [List.range_succ_eq_map, List.map_cons, List.map_map]
            cases hb : fs 0 with
            | true =>
              have e0 := hf 0 hb (by omega)
              simp at e0
            | false => exact ⟨fun b => 0 + c' b, ⟨fun _ => 0, c', by simpa [hb] using (show Own g G H v .hole (fun _ => 0) from zr0), k1, fun _ => rfl⟩, fun b => by have e2_ := k2 b; walk_at "cn"⟩
        | cons m env =>
          cases σ with
          | nil => exact ho.elim
          | cons s σ =>
            obtain ⟨c1, c2, h1, h2, hc⟩ := ho
            obtain ⟨c', k1, k2⟩ := ih (fun i => fs (i + 1)) σ env vs c2 h2 (by simpa using hl) fun i hi hlt => by
              have := hf (i + 1) hi (by omega)
              simpa using this
            rw [List.range_succ_eq_map, List.map_cons, List.map_map]
            cases hb : fs 0 with
            | true =>
              have e0 := hf 0 hb (by omega)
              have e1 : s = some v := by simpa using e0
              subst e1
              exact ⟨fun b => c1 b + c' b, ⟨c1, c', by simpa [hb, gt] using h1, k1, fun _ => rfl⟩, fun b => by have e1_ := hc b; have e2_ := k2 b; walk_at "cn"⟩
            | false =>
              exact ⟨fun b => 0 + c' b, ⟨fun _ => 0, c', by simpa [hb] using (show Own g G H v .hole (fun _ => 0) from zr0), k1, fun _ => rfl⟩, fun b => by have e1_ := hc b; have e2_ := k2 b; walk_at "cn"⟩
  intro σ env vs c ho hl hf
  exact go np (fun i => fx.contains i) σ env vs c ho hl hf
theorem start_get {N : List Str} {vs : List V} {i : Nat} (h : i < vs.length) : (L2.start N vs)[i]? = (vs[i]?).map some := by
  unfold L2.start
  rw [List.getElem?_append_left (by rw [List.length_map]; exact h), List.getElem?_map]
theorem def_fn {a : Addr} {x qual : Str} {params : Arguments} {body : List Stmt} {scope : Scope} {kws : List (Str × V)} {fd : FuncData} {N ps : List Str} {k : Nat} {gn fr : List Str} {fns mts mks xrs xri xns : List (String × Str)} {ss : List S} {fx : List Nat} {fl : String → List Str}
    (T : Top g Γ fl gn fr xrs xri xns) (F : FunD g.K x qual params body scope [] kws a fd) (S : FnScope N ps scope) (hf : Cal g Γ k fns mts mks)
    (chk : chkSs ss (mkSc fl gn fr N scope k fns mts mks xrs xri xns) fx body = true) : FnOk g.P g.w g.K g.mg g.base (L2.CX g.P g.w) (k + 1) a fd ps (_root_.Q.lift g (spOf Γ N.length ps.length fx ss)) := by
  refine F.ok S (fun vs H Q E h => ?_) (fun cdv A outer s H vs Q E hr h => ?_)
  · obtain ⟨G, ms, c, Q0, X0, _, ol, _, _, ⟨hl, _⟩, _⟩ := h
    rw [OwnL.len ol]; exact hl
  · obtain ⟨G, ms, c, Q0, X0, sG, ol, le, hok, ⟨hl, hsem⟩, kq, kx⟩ := h
    have hgs : GS g (mkSc fl gn fr N scope k fns mts mks xrs xri xns) Γ (cxOf (L2.CX g.P g.w) g.P g.w g.K g.mg g.base N qual scope a cdv A outer s H E) :=
      ⟨⟨⟨rfl, rfl, rfl, rfl, rfl, rfl, rfl, S.nd, fun _ => rfl, fun _ => hr, Nat.lt_of_le_of_lt (Nat.add_le_add_left (by decide : 8 ≤ 64) _) hr.units, fun z => (by cases z), T.xcl, T.xok, T.efl, T.fr, T.gl, T.tab, fun C k f h => T.cls C k f (by rw [T.efl]; exact h), fun C => by show (fl C).Nodup; rw [← T.efl]; exact T.fnd C⟩, hf.cf, hf.cm, T.xrs, T.xri, hf.cl, hf.ck⟩, fun _ => rfl, fun _ => passes_of rfl, rfl, rfl⟩
    have tk : Takes (cxOf (L2.CX g.P g.w) g.P g.w g.K g.mg g.base N qual scope a cdv A outer s H E) (fun cls d _ H => E cls d H) := takes_of rfl rfl rfl rfl
    obtain ⟨t, t1, t2⟩ := Ss_ok ss body hgs tk chk
    refine ⟨t, t1, ?_⟩
    have lv : vs.length = ms.length := OwnL.len ol
    have hpl : ps.length ≤ N.length := by
      have := congrArg List.length S.pre
      rw [List.length_take] at this
      omega
    have rl : Rel g ⟨G, H, c, L2.start N vs, fx⟩ (ms ++ List.replicate (N.length - ps.length) .hole) [] (L2.start N vs) H G := by
      refine ⟨sG, fun _ _ h => h, ?_, ⟨fun b => c b + 0, fun _ => 0, ?_, zr0, fun b => ?_, fun b hb => ?_⟩, fun i hi => ?_, fun b x h _ => h, fun b h => .inl h, fun _ _ => rfl⟩
      · unfold L2.start
        rw [List.length_append, List.length_append, List.length_map, List.length_replicate, List.length_replicate, lv, hl]
      · have e : (L2.start N vs).map gv = vs ++ List.replicate (N.length - ps.length) V.non := by
          unfold L2.start
          rw [List.map_append, List.map_map, List.map_replicate, lv, hl]
          have e2 : (gv ∘ some : V → V) = id := rfl
          rw [e2, List.map_id]
          rfl
        rw [e]
        exact OwnL.app ol (own_hole _ _ (by simp))
      · have e1_ := le b
        walk_at "cn"
      · exact .inl (by show 1 ≤ c b; walk_at "cn")
      · have h1 := all_ok_hole hi
        have h2 : i < vs.length := by rw [lv]; exact h1
        exact ⟨vs[i], by rw [start_get h2, List.getElem?_eq_getElem h2]; rfl⟩
    have fin : ∀ {m : M} {v : V} {env : En} {σ : L2.St} {H' G' : Hp}, Q0 m (outs fx ps.length env) → Rel g ⟨G, H, c, L2.start N vs, fx⟩ env [(v, m)] σ H' G' → Q v H' := by
      intro m v env σ H' G' hq r
      obtain ⟨c1, d1, y, y4⟩ := r.rc
      obtain ⟨d2, d3, k1, k2, kd⟩ := y.of
      obtain ⟨c', o1, o2⟩ := own_outs (fx := fx) (vs := vs) y.oe (by rw [lv, hl]) fun i hi hlt => by
        rw [r.fix i (by simpa using hi)]
        exact start_get (by rw [lv, hl]; exact hlt)
      refine kq v m _ G' H' c' d2 ⟨r.sG0, r.sGH, fun b hb => y4 b (by have e1_ := o2 b; have e2_ := kd b; walk_at "cn"), fun b x h z => r.off b x h z, fun b hb => r.fro b hb⟩ o1 k1 (fun b => by have e1_ := o2 b; have e2_ := kd b; have e3_ := y.le b; walk_at "cn") hq
    refine t2 ⟨G, H, c, L2.start N vs, fx⟩ _ _ H G _ _ rfl rl hsem ⟨fun env σ H' G' hn r => fin hn (r.push0 (v := .non) (m := .non) ⟨rfl, zr0⟩), fun env σ H G hn _ => hn.elim, fun env σ H G hn _ => hn.elim, fun m v env σ H' G' hn r => fin hn r, fun σ x env H' G' cls d hx r xr => ?_⟩
    obtain ⟨c1, d1, y, y4⟩ := r.rc
    obtain ⟨c', o1, o2⟩ := own_outs (fx := fx) (vs := vs) y.oe (by rw [lv, hl]) fun i hi hlt => by
      rw [r.fix i (by simpa using hi)]
      exact start_get (by rw [lv, hl]; exact hlt)
    exact kx cls d x _ G' H' c' ⟨r.sG0, r.sGH, fun b hb => y4 b (by have e1_ := o2 b; walk_at "cn"), fun b x h z => r.off b x h z, fun b hb => r.fro b hb⟩ o1 (fun b => by have e1_ := o2 b; have e3_ := y.le b; walk_at "cn") xr hx
theorem def_ok {a : Addr} {x qual : Str} {params : Arguments} {body : List Stmt} {scope : Scope} {kws : List (Str × V)} {fd : FuncData} {N ps : List Str} {k : Nat} {gn fr : List Str} {fns mts mks xrs xri xns : List (String × Str)} {ss : List S} {fx : List Nat} {fl : String → List Str}
    (T : Top g Γ fl gn fr xrs xri xns) (F : FunD g.K x qual params body scope [] kws a fd) (S : FnScope N ps scope) (bi : Binds g.K fd ps []) (hf : Cal g Γ k fns mts mks)
    (chk : chkSs ss (mkSc fl gn fr N scope k fns mts mks xrs xri xns) fx body = true) : FnG g (k + 1) a (spOf Γ N.length ps.length fx ss) := by
  exact ⟨fd, ps, _, [], [], def_fn T F S hf chk, F.kp, bi, .nil, fun vs H Q E h => by rw [List.append_nil]; exact h⟩
theorem FnG.imp {k : Nat} {a : Addr} {sp sp' : FSp} (F : FnG g k a sp) (h : ∀ ms Q X, sp' ms Q X → sp ms Q X) : FnG g k a sp' := by
  obtain ⟨fd, ps, s, dvs, ds, f, kp, bi, vd, hs⟩ := F.ex
  refine ⟨fd, ps, s, dvs, ds, f, kp, bi, vd, fun vs H Q E hl => hs vs H Q E ?_⟩
  obtain ⟨G, ms, c, Q0, X0, h1, h2, h3, h4, h5, h6, h7⟩ := hl
  exact ⟨G, ms, c, Q0, X0, h1, h2, h3, h4, h _ _ _ h5, h6, h7⟩
/-- a def of which nothing is wanted -/
theorem FnG.bot {k : Nat} {a : Addr} {x qual : Str} {params : Arguments} {body : List Stmt} {scope : Scope} {kws : List (Str × V)} {fd : FuncData} {ps : List Str} (F : FunD g.K x qual params body scope [] kws a fd) (bi : Binds g.K fd ps []) : FnG g k a (fun _ _ _ => False) :=
  ⟨fd, ps, fun _ _ _ _ => False, [], [], ⟨fun _ _ _ _ h => h.elim, fun _ _ _ _ _ _ _ _ _ _ _ _ _ h => h.elim⟩, F.kp, bi, .nil, fun vs H Q E h => by
    obtain ⟨G, ms, c, Q0, X0, h1, h2, h3, h4, h5, h6, h7⟩ := h
    exact h5.elim⟩
end
end Q
set_option Elab.async false
set_option linter.all false
set_option maxRecDepth 100000
set_option maxHeartbeats 4000000
namespace Q
open PySem PySem.Spec PyProof.Rows L2
/-! tables with text keys -/
theorem dic_none {K : PySem.W.Frag} {P : Params} {a : Addr} {ks : List Str} {x : Str} (h : He.dicW K a = some (He.keysIn P ks)) (hx : x ∉ ks) : PySem.W.nsIn K a x = some none := by
  have go : ∀ (l : List DictEntry) (ks : List Str), l.map He.keyOf = He.keysIn P ks → x ∉ ks → l.find? (·.key.isStr x) = none ∧ l.any (·.refKey) = false := by
    intro l
    induction l with
    | nil => intro ks _ _; exact ⟨rfl, rfl⟩
    | cons e l ih =>
      intro ks h hx
      cases ks with
      | nil => cases h
      | cons k ks =>
        have h1 : He.keyOf e :: l.map He.keyOf = some (k, PyData.keyHash P k) :: He.keysIn P ks := h
        injection h1 with h2 h3
        obtain ⟨i1, i2⟩ := ih ks h3 fun q => hx (List.mem_cons_of_mem _ q)
        unfold He.keyOf at h2
        split at h2
        · rename_i y t q
          obtain ⟨h5, h6⟩ := Prod.mk.inj (Option.some.inj h2)
          subst h5
          have hne : ¬ y = x := fun q => hx (by rw [q]; exact List.mem_cons_self)
          have e1 : e.key.isStr x = false := by
            rw [q]
            exact decide_eq_false hne
          have e2 : e.refKey = false := by
            unfold DictEntry.refKey
            rw [q]
          refine ⟨?_, ?_⟩
          · rw [List.find?_cons, e1]; exact i1
          · rw [List.any_cons, e2, i2]; rfl
        · cases h2
  unfold He.dicW at h
  unfold PySem.W.nsIn
  cases q : K.lookup a with
  | none => rw [q] at h; cases h
  | some o =>
    obtain ⟨oc, od, dt, osl⟩ := o
    rw [q] at h
    cases oc with
    | type c =>
      cases od with
      | none =>
        cases dt with
        | dict es n =>
          have h1 : (match decide (c = "dict") && (osl.isEmpty && !(a == sysModules)) with
            | true => some (es.toList.map He.keyOf)
            | false => none) = some (He.keysIn P ks) := h
          split at h1
          · obtain ⟨g1, g2⟩ := go _ _ (Option.some.inj h1) hx
            show (match es.toList.find? (·.key.isStr x) with
              | some e => some (some e.val)
              | none => if es.toList.any (·.refKey) then none else some none) = some none
            rw [g1, g2]
            rfl
          · cases h1
        | _ => cases h
      | some b => cases dt <;> cases h
    | _ => cases od <;> cases dt <;> cases h
/-- a table of texts, by its codes -/
theorem tab_txt {g : Gi} {n : String} {l : List (List Nat × List Nat)} {ks : List Str} (hd : He.dicW g.K (g.ga n) = some (He.keysIn g.w.params ks)) (hk : ks = l.map fun p => sS p.1) (hv : He.valsB g.K (g.ga n) (l.map fun p => (sS p.1, He.Dv.str (sS p.2))) = true) (cs : List Nat) : match (l.lookup cs).map M.str with
    | some r => ∃ v, KD g.K g.w (g.ga n) (sS cs) (some v) ∧ ∀ G H, Own g G H v r (fun _ => 0)
    | none => KD g.K g.w (g.ga n) (sS cs) none := by
  obtain ⟨es, m, D⟩ := He.dicW_ok hd
  have look : ∀ l : List (List Nat × List Nat), match l.lookup cs with | some f => (cs, f) ∈ l | none => ∀ p ∈ l, p.1 ≠ cs := by
    intro l
    induction l with
    | nil => intro p hp; cases hp
    | cons p l ih =>
      rw [List.lookup_cons]
      split
      · rename_i f heq
        split at heq
        · rename_i hb
          have : cs = p.1 := by simpa using hb
          cases heq
          rw [this]
          exact List.mem_cons_self
        · rw [heq] at ih
          exact List.mem_cons_of_mem _ ih
      · rename_i heq
        split at heq
        · cases heq
        · rename_i hb
          rw [heq] at ih
          intro q hq
          rcases List.mem_cons.mp hq with z | z
          · rw [z]
            intro y
            rw [y] at hb
            simp at hb
          · exact ih q z
  have lk := look l
  cases e : l.lookup cs with
  | some f =>
    rw [e] at lk
    obtain ⟨u, h1, h2⟩ := He.valsB_ok hv (q := (sS cs, He.Dv.str (sS f))) (List.mem_map.mpr ⟨(cs, f), lk, rfl⟩)
    exact ⟨.str (sS f), ⟨es, m, some u, D.at_, D.lit, D.low, h1, h2⟩, fun G H => ⟨rfl, zr0⟩⟩
  | none =>
    rw [e] at lk
    refine ⟨es, m, none, D.at_, D.lit, D.low, dic_none hd ?_, trivial⟩
    rw [hk]
    intro q
    obtain ⟨p, hp, e2⟩ := List.mem_map.mp q
    refine lk p hp ?_
    have := congrArg (fun s : Str => s.cps.toList) e2
    simpa using this
/-! exception classes -/
def exB (K : PySem.W.Frag) (D : Addr) : Bool :=
  decide (PySem.W.findIn K (.ref D) "__getattribute__" = some (some (.builtin "BaseException.__getattribute__"))) &&
  (decide (PySem.W.findIn K (.ref D) "__getattr__" = some none) &&
  (decide (PySem.W.subIn K (.ref D) (.type "BaseException") = some true) &&
  (PySem.W.hasDictIn K D &&
  (decide (PySem.W.findIn K (.ref D) "__class__" = some (some (.builtin "object.__class__"))) &&
  (decide (PySem.W.specialIn K (.builtin "object.__class__") "__get__" = some (some (.builtin "getset_descriptor.__get__"))) &&
  (decide (PySem.W.takesIn K (.builtin "object.__class__") = some true) &&
  decide (PySem.W.mroIn K D (.type "object") = some true)))))))
theorem exB_ok {K : PySem.W.Frag} {D : Addr} (h : exB K D = true) : ExcC K D ∧ XfC K D := by
  obtain ⟨h1, h⟩ := Bool.and_eq_true_iff.mp h
  obtain ⟨h2, h⟩ := Bool.and_eq_true_iff.mp h
  obtain ⟨h3, h⟩ := Bool.and_eq_true_iff.mp h
  obtain ⟨h4, h⟩ := Bool.and_eq_true_iff.mp h
  obtain ⟨h5, h⟩ := Bool.and_eq_true_iff.mp h
  obtain ⟨h6, h⟩ := Bool.and_eq_true_iff.mp h
  obtain ⟨h7, h8⟩ := Bool.and_eq_true_iff.mp h
  exact ⟨⟨of_decide_eq_true h1, of_decide_eq_true h2, of_decide_eq_true h3, h4, of_decide_eq_true h5, of_decide_eq_true h6, of_decide_eq_true h7, of_decide_eq_true h8⟩, ⟨of_decide_eq_true h1, of_decide_eq_true h2, of_decide_eq_true h3, h4⟩⟩
/-- which is under which -/
def sbB (K : PySem.W.Frag) (ca : String → Addr) (sub : String → String → Bool) (Ds Cs : List String) : Bool := Ds.all fun D => Cs.all fun C => decide (PySem.W.kitOne K (.ref (ca D)) (.ref (ca C)) = some (sub D C)) && decide (PySem.W.exmOne K (.ref (ca D)) (.ref (ca C)) = some (sub D C))
theorem sbB_ok {K : PySem.W.Frag} {ca : String → Addr} {sub : String → String → Bool} {Ds Cs : List String} (h : sbB K ca sub Ds Cs = true) {D C : String} (hD : D ∈ Ds) (hC : C ∈ Cs) : PySem.W.kitOne K (.ref (ca D)) (.ref (ca C)) = some (sub D C) ∧ PySem.W.exmOne K (.ref (ca D)) (.ref (ca C)) = some (sub D C) := by
  have h1 := List.all_eq_true.mp (List.all_eq_true.mp h D hD) C hC
  obtain ⟨h2, h3⟩ := Bool.and_eq_true_iff.mp h1
  exact ⟨of_decide_eq_true h2, of_decide_eq_true h3⟩
theorem xname_of {g : Gi} {Γ : Gm} {C : String} {x : Str} (hg : g.mg x = some (.ref (g.ca C))) (hs : ∀ D, D ∈ g.xcs → PySem.W.kitOne g.K (.ref (g.ca D)) (.ref (g.ca C)) = some (Γ.sub D C) ∧ PySem.W.exmOne g.K (.ref (g.ca D)) (.ref (g.ca C)) = some (Γ.sub D C)) : XName g Γ C x :=
  ⟨⟨_, .inl hg, ⟨.ref (g.ca C), rfl, fun w hw => hw⟩, hs⟩⟩
end Q
set_option Elab.async false
set_option linter.all false
set_option maxRecDepth 100000
set_option maxHeartbeats 4000000
namespace V
open PySem PySem.Spec PyProof.Rows L2 Q
/-! the text of a number, by its digits -/
theorem dchar : ∀ d, d < 10 → (Nat.digitChar d).toNat = 48 + d := by decide
theorem numL_lt {n : Nat} (h : n < 10) : numL n = [48 + n] := by
  unfold numL
  rw [Nat.toDigits_of_lt_base h, List.map_cons, List.map_nil, dchar n h]
theorem numL_ge {n : Nat} (h : 10 ≤ n) : numL n = numL (n / 10) ++ [48 + n % 10] := by
  unfold numL
  rw [Nat.toDigits_of_base_le (by decide) h, List.map_append, List.map_cons, List.map_nil, dchar _ (Nat.mod_lt _ (by decide))]
theorem numL_facts : ∀ (k n : Nat), n ≤ k → (∀ c ∈ numL n, 48 ≤ c ∧ c ≤ 57) ∧ (numL n).foldl (fun acc c => acc * 10 + (c - 48)) 0 = n ∧ numL n ≠ [] ∧ (0 < n → (numL n).head? ≠ some 48)
  | 0, n, h => by
    have : n = 0 := by omega
    subst this
    rw [numL_lt (by decide)]
    exact ⟨by decide, rfl, by decide, by decide⟩
  | k + 1, n, h => by
    by_cases h1 : n < 10
    · rw [numL_lt h1]
      refine ⟨fun c hc => ?_, ?_, by simp, fun h0 q => ?_⟩
      · rw [List.mem_singleton.mp hc]; omega
      · simp
      · have : 48 + n = 48 := by simpa using q
        omega
    · obtain ⟨i1, i2, i3, i4⟩ := numL_facts k (n / 10) (by omega)
      rw [numL_ge (by omega)]
      refine ⟨fun c hc => ?_, ?_, by simp, fun h0 q => ?_⟩
      · rcases List.mem_append.mp hc with z | z
        · exact i1 c z
        · rw [List.mem_singleton.mp z]; omega
      · rw [List.foldl_append, i2, List.foldl_cons, List.foldl_nil]; omega
      · refine i4 (by omega) ?_
        cases e : numL (n / 10) with
        | nil => exact (i3 e).elim
        | cons c r => rw [e] at q; simpa using q
theorem numL_len {n : Nat} (h : n < 10000) : (numL n).length ≤ 4 := by
  unfold numL
  rw [List.length_map]
  exact (Nat.length_toDigits_le_iff (by decide) (by decide)).mpr h
end V
set_option Elab.async false
set_option linter.all false
set_option maxRecDepth 100000
set_option maxHeartbeats 4000000
namespace V
open PySem PySem.Spec PyProof.Rows L2 Q
theorem at_0 {α : Type} {x : α} {xs : List α} : atL (x :: xs) 0 = some x := by unfold atL ixL; simp
theorem at_1 {α : Type} {x y : α} {xs : List α} : atL (x :: y :: xs) 1 = some y := by
  unfold atL ixL
  have h : (1 : Int) < ((x :: y :: xs).length : Int) := by simp only [List.length_cons]; omega
  rw [if_pos (by decide), if_pos h]
  rfl
theorem ix_0 {n : Nat} : ixL (n + 1) 0 = some 0 := by unfold ixL; simp
theorem ix_1 {n : Nat} : ixL (n + 1 + 1) 1 = some 1 := by
  unfold ixL
  have h : (1 : Int) < ((n + 1 + 1 : Nat) : Int) := by omega
  rw [if_pos (by decide), if_pos h]
  rfl
local macro_rules | `(tactic| walk_at "ev") => `(tactic| simp only [at_0, at_1, ix_0, ix_1, semSs, semS, semT, semE, semA, semEs, semGs, semI, evT, evP, evO, evTs, evS, o1E, o1P, o2E, o2P, cmpP, ixP, oLen, truM, sliceE, muE, setIx, gt, yes, M.ok, M.fz, fzL, M.isS, M.isL, rcv, asI, asB, fillG, backG, lentOk, agI, pVar, itemsK, itemsOf, rngL, at1, put1, atP, putP, scl, eqF, List.map_cons, List.map_nil, List.length_cons, List.length_nil, List.length_map, List.cons_append, List.nil_append, List.set_cons_zero, List.set_cons_succ, Bool.and_true, Bool.true_and, List.all_cons, List.all_nil, List.append_nil])
/-! _law_draw -/
def N__law_draw : List Str := [("pool" : Str), ("many" : Str)]
def P__law_draw : List Str := [("pool" : Str), ("many" : Str)]
def X__law_draw : List Nat := [0, 1]
def S__law_draw : List S := [
  .ite (.p (.p (.o2 .gt (.o1 .len (.var 0)) (.int 2)))) [.ret (.o2 .mod (.e (.o1 .toInt (.e (.mut .pop 0 [] [])))) (.v (.var 1)))] [],
  .sti 0 [] (.int 1) (.pu (.o2 .add (.o2 .idx (.var 0) (.int 1)) (.int 1))),
  .sti 0 [] (.int 0) (.pu (.o2 .mod (.o1 .toInt (.o2 .add (.o2 .mul (.o2 .idx (.var 0) (.int 0)) (.int 48271)) (.o2 .idx (.var 0) (.int 1)))) (.int 2147483647))),
  .ret (.pu (.o2 .mod (.o1 .toInt (.o2 .mod (.o1 .toInt (.o2 .mul (.o2 .idx (.var 0) (.int 0)) (.int 69621))) (.int 2147483629))) (.var 1)))]
def F__law_draw : List (String × Str) := []
/-! _law_number -/
def N__law_number : List Str := [("pool" : Str), ("low" : Str), ("high" : Str), ("kind" : Str), ("near" : Str)]
def P__law_number : List Str := [("pool" : Str), ("low" : Str), ("high" : Str)]
def X__law_number : List Nat := [0, 1, 2]
def S__law_number : List S := [
  .set 3 (.call "_law_draw" [.r 0, .e (.pu (.int 8))]),
  .set 4 (.o2 .sub (.e (.call "_law_draw" [.r 0, .e (.pu (.int 25))])) (.v (.int 12))),
  .ite (.p (.p (.o2 .eq (.var 3) (.int 0)))) [.ret (.pu (.var 1))] [],
  .ite (.p (.p (.o2 .eq (.var 3) (.int 1)))) [.ret (.pu (.var 2))] [],
  .ite (.p (.p (.o2 .lt (.var 3) (.int 5)))) [.ret (.pu (.o2 .min2 (.var 2) (.o2 .max2 (.var 1) (.var 4))))] [],
  .ret (.o2 .add (.v (.var 1)) (.e (.o2 .mod (.e (.o1 .toInt (.e (.o2 .add (.e (.o2 .mul (.e (.call "_law_draw" [.r 0, .e (.pu (.int 1000))])) (.v (.int 1000)))) (.e (.call "_law_draw" [.r 0, .e (.pu (.int 1000))])))))) (.v (.o2 .add (.o2 .sub (.var 2) (.var 1)) (.int 1))))))]
def F__law_number : List (String × Str) := [("_law_draw", ("_law_draw" : Str))]
/-! _law_pool -/
def N__law_pool : List Str := [("script" : Str), ("pool" : Str), ("seed" : Str), ("cell" : Str), ("left" : Str), ("k" : Str)]
def P__law_pool : List Str := [("script" : Str)]
def X__law_pool : List Nat := [0]
def S__law_pool : List S := [
  .set 1 (.lst []),
  .set 2 (.pu (.int 5)),
  .for_ 3 (.val 0 (.slc (.v (.var 0)) none (some (.int 63)))) [.set 4 (.pu (.o1 .abs (.var 3))), .set 2 (.pu (.o2 .mod (.o1 .toInt (.o2 .add (.o2 .add (.o2 .mul (.var 2) (.int 48271)) (.var 4)) (.int 7))) (.int 2147483647))), .ite (.p (.p (.o2 .lt (.var 4) (.o2 .pow (.int 10) (.int 18))))) [.ex (.mut .append 1 [] [(.pu (.o2 .mod (.o1 .toInt (.o2 .mul (.var 2) (.int 69621))) (.int 2147483629)))])] [.for_ 5 (.rng [(.pu (.int 20))]) [.ex (.mut .append 1 [] [(.pu (.o2 .mod (.o1 .toInt (.var 4)) (.int 1000)))]), .set 4 (.pu (.o2 .fdiv (.var 4) (.int 1000))), .ite (.p (.p (.o2 .eq (.var 4) (.int 0)))) [.brk] []]]],
  .ex (.mut .append 1 [] [(.pu (.int 1))]),
  .ex (.mut .append 1 [] [(.pu (.var 2))]),
  .ex (.mut .reverse 1 [] []),
  .ret (.mv 1)]
def F__law_pool : List (String × Str) := []
def Pok (ps : List M) : Prop := ∃ (a b : Int) (r : List Int), ps = .int a :: .int b :: r.map M.int ∧ 0 ≤ a ∧ a < 2147483648
def spDraw : FSp := fun ms Q _ => ∃ ps many, ms = [.lst true ps, .int many] ∧ Pok ps ∧ 0 < many ∧ ∀ ps' r, Pok ps' → 0 ≤ r → r < many → Q (.int r) [.lst true ps', .int many]
theorem o__law_draw (m n : M) : outs X__law_draw P__law_draw.length [m, n] = [m, n] := rfl
theorem r__law_draw : List.replicate (N__law_draw.length - P__law_draw.length) M.hole = [] := rfl
theorem log_small {i : Int} (h : i.natAbs < 2 ^ 64) : i.natAbs.log2 < 64 := by
  by_cases h0 : i.natAbs = 0
  · rw [h0]; decide
  · exact (Nat.log2_lt h0).mpr h
theorem draw_ok (Γ : Gm) (ms : List M) (Q : M → List M → Prop) (X : Exc → List M → Prop) (h : spDraw ms Q X) : spOf Γ N__law_draw.length P__law_draw.length X__law_draw S__law_draw ms Q X := by
  obtain ⟨ps, many, rfl, ⟨a, b, r, rfl, ha, ha2⟩, hm, hq⟩ := h
  refine ⟨rfl, ?_⟩
  rw [r__law_draw]
  simp only [S__law_draw]
  walk_at "ev"
  cases hd : decide ((2 : Int) < ((r.length + 1 + 1 : Nat) : Int)) with
  | true =>
    have hr : r ≠ [] := fun q => by rw [q] at hd; simp at hd
    obtain ⟨r', z, rfl⟩ : ∃ r' z, r = r' ++ [z] := ⟨r.dropLast, r.getLast hr, (List.dropLast_concat_getLast hr).symm⟩
    have e1 : (M.int a :: M.int b :: List.map M.int (r' ++ [z]))[(r' ++ [z]).length + 1 + 1 - 1]? = some (.int z) := by
      rw [List.length_append, List.map_append]
      simp
    have e2 : (M.int a :: M.int b :: List.map M.int (r' ++ [z])).dropLast = M.int a :: M.int b :: r'.map M.int := by
      rw [List.map_append]
      simp [List.dropLast]
    simp only [List.length_map, e1, e2]
    walk_at "ev"
    refine ⟨hm, ?_⟩
    rw [o__law_draw]
    exact hq _ _ ⟨a, b, r', rfl, ha, ha2⟩ (Int.emod_nonneg _ (by omega)) (Int.emod_lt_of_pos _ hm)
  | false =>
    walk_at "ev"
    rw [o__law_draw]
    have hc : 0 ≤ (a * 48271 + (b + 1)) % 2147483647 ∧ (a * 48271 + (b + 1)) % 2147483647 < 2147483647 := ⟨Int.emod_nonneg _ (by omega), Int.emod_lt_of_pos _ (by omega)⟩
    generalize hx : (a * 48271 + (b + 1)) % 2147483647 = x at hc
    have l1 : a.natAbs.log2 < 64 := log_small (by omega)
    have l2 : x.natAbs.log2 < 64 := log_small (by omega)
    have l3 : (48271 : Int).natAbs.log2 < 64 := by decide
    have l4 : (69621 : Int).natAbs.log2 < 64 := by decide
    refine ⟨by omega, by omega, by omega, by omega, hm, ?_⟩
    exact hq _ _ ⟨x, b + 1, r, rfl, by omega, by omega⟩ (Int.emod_nonneg _ (by omega)) (Int.emod_lt_of_pos _ hm)
theorem step {Γ : Gm} {s : S} {r : List S} {D : Dn} {env : En} (h : ∀ K, K = semSs Γ r D → semS Γ s { nx := K, rt := D.rt, bk := D.bk, ct := D.ct, ex := D.ex } env) : semSs Γ (s :: r) D env := h _ rfl
def spNum : FSp := fun ms Q _ => ∃ ps lo hi, ms = [.lst true ps, .int lo, .int hi] ∧ Pok ps ∧ lo ≤ hi ∧ ∀ ps' r, Pok ps' → lo ≤ r → r ≤ hi → Q (.int r) [.lst true ps', .int lo, .int hi]
theorem o__law_number (a b c d e : M) : outs X__law_number P__law_number.length [a, b, c, d, e] = [a, b, c] := rfl
theorem r__law_number : List.replicate (N__law_number.length - P__law_number.length) M.hole = [.hole, .hole] := rfl
theorem num_ok (Γ : Gm) (hD : Γ.fs "_law_draw" = spDraw) (ms : List M) (Q : M → List M → Prop) (X : Exc → List M → Prop) (h : spNum ms Q X) : spOf Γ N__law_number.length P__law_number.length X__law_number S__law_number ms Q X := by
  obtain ⟨ps, lo, hi, rfl, hp, hl, hq⟩ := h
  refine ⟨rfl, ?_⟩
  rw [r__law_number]
  refine step fun K hK => ?_
  walk_at "ev"
  rw [hD]
  refine ⟨trivial, trivial, _, _, rfl, hp, by decide, fun ps1 k hp1 hk1 hk2 => ?_⟩
  subst hK
  refine step fun K hK => ?_
  walk_at "ev"
  rw [hD]
  refine ⟨trivial, trivial, _, _, rfl, hp1, by decide, fun ps2 n hp2 hn1 hn2 => ?_⟩
  walk_at "ev"
  subst hK
  refine step fun K hK => ?_
  walk_at "ev"
  cases h0 : (k == 0) with
  | true =>
    walk_at "ev"
    rw [o__law_number]
    exact hq _ _ hp2 (Int.le_refl _) hl
  | false =>
    walk_at "ev"
    subst hK
    refine step fun K hK => ?_
    walk_at "ev"
    cases h1 : (k == 1) with
    | true =>
      walk_at "ev"
      rw [o__law_number]
      exact hq _ _ hp2 hl (Int.le_refl _)
    | false =>
      walk_at "ev"
      subst hK
      refine step fun K hK => ?_
      walk_at "ev"
      cases h2 : decide (k < 5) with
      | true =>
        walk_at "ev"
        rw [o__law_number]
        refine hq _ _ hp2 ?_ ?_
        · split <;> split <;> omega
        · split <;> split <;> omega
      | false =>
        walk_at "ev"
        subst hK
        refine step fun K hK => ?_
        walk_at "ev"
        rw [hD]
        refine ⟨trivial, trivial, _, _, rfl, hp2, by decide, fun ps3 u hp3 hu1 hu2 => ?_⟩
        walk_at "ev"
        refine ⟨?_, ?_⟩
        · have l1 : u.natAbs.log2 < 64 := log_small (by omega)
          have l3 : (1000 : Int).natAbs.log2 < 64 := by decide
          omega
        refine ⟨trivial, trivial, _, _, rfl, hp3, by decide, fun ps4 w hp4 hw1 hw2 => ?_⟩
        walk_at "ev"
        have hpos : 0 < hi - lo + 1 := by omega
        refine ⟨hpos, ?_⟩
        rw [o__law_number]
        have e1 := Int.emod_nonneg (u * 1000 + w) (b := hi - lo + 1) (by omega)
        have e2 := Int.emod_lt_of_pos (u * 1000 + w) hpos
        exact hq _ _ hp4 (by omega) (by omega)
def Wd (n : Nat) (cs : List Nat) : Prop := cs.length ≤ n ∧ ∀ c ∈ cs, c < 128
theorem at_nat {α : Type} {xs : List α} {i : Int} (h0 : 0 ≤ i) (h1 : i < xs.length) : ∃ x, atL xs i = some x ∧ x ∈ xs := by
  have h2 : i.toNat < xs.length := by omega
  refine ⟨xs[i.toNat], ?_, List.getElem_mem h2⟩
  unfold atL ixL
  rw [if_pos h0, if_pos h1]
  exact List.getElem?_eq_getElem h2
theorem for_rng {Γ : Gm} {tg : Nat} {es : List E} {b : List S} {D : Dn} {env : En} (h : ∀ BB, BB = semSs Γ b → semI Γ (.rng es) env (fun ms env1 => forL tg BB D ms env1) D.ex) : semS Γ (.for_ tg (.rng es) b) D env := h _ rfl
theorem for_val {Γ : Gm} {tg k : Nat} {e : E} {b : List S} {D : Dn} {env : En} (h : ∀ BB, BB = semSs Γ b → semI Γ (.val k e) env (fun ms env1 => forL tg BB D ms env1) D.ex) : semS Γ (.for_ tg (.val k e) b) D env := h _ rfl
theorem for_vw {Γ : Gm} {tg i : Nat} {b : List S} {D : Dn} {env : En} (h : ∀ BB, BB = semSs Γ b → yes (gt env i).ok (match itemsOf (gt env i) with | some ms => forV i tg (gt env i) BB D ms env | none => False)) : semS Γ (.for_ tg (.vw i) b) D env := h _ rfl
theorem cut_mem {α : Type} {xs : List α} {lo hi : Option Int} {c : α} (h : c ∈ cutL xs lo hi) : c ∈ xs := List.mem_of_mem_drop (List.mem_of_mem_take h)
theorem cut_len {α : Type} (xs : List α) (lo hi : Option Int) : (cutL xs lo hi).length ≤ xs.length := by
  unfold cutL
  rw [List.length_take, List.length_drop]
  omega
theorem slb {n : Nat} (h : n ≤ 1000) : decide (n ≤ sl) = true := decide_eq_true (Nat.le_trans h (by decide))
theorem sI_wd {i : Int} (h0 : 0 ≤ i) (h1 : i ≤ 9999) : Wd 4 (sI i) := by
  have e : sI i = numL i.natAbs := if_neg (by omega)
  rw [e]
  exact ⟨numL_len (by omega), fun c hc => by have := (numL_facts _ _ (Nat.le_refl i.natAbs)).1 c hc; omega⟩
theorem Wd.mono {a b : Nat} {cs : List Nat} (h : Wd a cs) (hl : a ≤ b) : Wd b cs := ⟨Nat.le_trans h.1 hl, h.2⟩
def abc : List Nat := [97, 98, 99, 100, 101, 102, 103, 104, 105, 106, 107, 108, 109, 110, 111, 112, 113, 114, 115, 116, 117, 118, 119, 120, 121, 122]
def dig : List Nat := [48, 49, 50, 51, 52, 53, 54, 55, 56, 57]
theorem abc_wd : Wd 100 abc := ⟨by decide, by decide +kernel⟩
theorem dig_wd : Wd 100 dig := ⟨by decide, by decide +kernel⟩
theorem sub_wd {sg cs : List Nat} {n : Nat} (h : Wd 100 sg) (hl : cs.length ≤ n) (hm : ∀ c ∈ cs, c ∈ sg) : Wd n cs := ⟨hl, fun c hc => h.2 c (hm c hc)⟩
theorem slp {n : Nat} (h : n ≤ 2000) : n < sl := Nat.lt_of_le_of_lt h (by decide)
def spPool : FSp := fun ms Q _ => ∃ ns, ms = [.scr ns] ∧ ∀ ps, Pok ps → Q (.lst true ps) [.scr ns]
theorem o__law_pool (a b c d e f : M) : outs X__law_pool P__law_pool.length [a, b, c, d, e, f] = [a] := rfl
theorem r__law_pool : List.replicate (N__law_pool.length - P__law_pool.length) M.hole = [.hole, .hole, .hole, .hole, .hole] := rfl
def b2 : List S := [.ex (.mut .append 1 [] [(.pu (.o2 .mod (.o1 .toInt (.var 4)) (.int 1000)))]), .set 4 (.pu (.o2 .fdiv (.var 4) (.int 1000))), .ite (.p (.p (.o2 .eq (.var 4) (.int 0)))) [.brk] []]
theorem pool2 (Γ : Gm) (D : Dn) (s c : M) (sd : Int) : ∀ (n : Nat) (i : Int) (ps : List Int) (lf : Int) (z : M), ps.length + n ≤ 1900 →
    (∀ (ps' : List Int) (lf' : Int) (z' : M), ps'.length ≤ ps.length + n → D.nx [s, .lst true (ps'.map M.int), .int sd, c, .int lf', z']) →
    forL 5 (semSs Γ b2) D (rngL i 1 n) [s, .lst true (ps.map M.int), .int sd, c, .int lf, z]
  | 0, i, ps, lf, z, hl, k => k ps lf z (by omega)
  | n + 1, i, ps, lf, z, hl, k => by
    show semSs Γ _ _ _
    refine step fun K hK => ?_
    walk_at "ev"
    refine ⟨by decide, slp (by omega), ?_⟩
    subst hK
    refine step fun K hK => ?_
    walk_at "ev"
    refine ⟨by decide, by decide, ?_⟩
    subst hK
    refine step fun K hK => ?_
    walk_at "ev"
    have e : List.map M.int ps ++ [M.int (lf % 1000)] = (ps ++ [lf % 1000]).map M.int := by rw [List.map_append]; rfl
    rw [e]
    cases h0 : (lf / 1000 == 0) with
    | true =>
      walk_at "ev"
      exact k _ _ _ (by rw [List.length_append, List.length_singleton]; omega)
    | false =>
      walk_at "ev"
      subst hK
      exact pool2 Γ D s c sd n (i + 1) _ _ _ (by rw [List.length_append, List.length_singleton]; omega) fun ps' lf' z' h => k ps' lf' z' (by rw [List.length_append, List.length_singleton] at h; omega)
def b1 : List S := [.set 4 (.pu (.o1 .abs (.var 3))), .set 2 (.pu (.o2 .mod (.o1 .toInt (.o2 .add (.o2 .add (.o2 .mul (.var 2) (.int 48271)) (.var 4)) (.int 7))) (.int 2147483647))), .ite (.p (.p (.o2 .lt (.var 4) (.o2 .pow (.int 10) (.int 18))))) [.ex (.mut .append 1 [] [(.pu (.o2 .mod (.o1 .toInt (.o2 .mul (.var 2) (.int 69621))) (.int 2147483629)))])] [.for_ 5 (.rng [(.pu (.int 20))]) b2]]
theorem pool1 (Γ : Gm) (D : Dn) (s : M) : ∀ (ns : List Int) (ps : List Int) (sd : Int) (z3 z4 z5 : M), ps.length + 20 * ns.length ≤ 1800 → 0 ≤ sd → sd < 2147483648 →
    (∀ (ps' : List Int) (sd' : Int) (z3 z4 z5 : M), ps'.length ≤ 1800 → 0 ≤ sd' → sd' < 2147483648 → D.nx [s, .lst true (ps'.map M.int), .int sd', z3, z4, z5]) →
    forL 3 (semSs Γ b1) D (ns.map M.int) [s, .lst true (ps.map M.int), .int sd, z3, z4, z5]
  | [], ps, sd, z3, z4, z5, hl, h0, h1, k => k ps sd z3 z4 z5 (by simpa using hl) h0 h1
  | x :: ns, ps, sd, z3, z4, z5, hl, h0, h1, k => by
    rw [List.length_cons] at hl
    show semSs Γ _ _ _
    refine step fun K hK => ?_
    walk_at "ev"
    subst hK
    refine step fun K hK => ?_
    walk_at "ev"
    have l1 : sd.natAbs.log2 < 64 := log_small (by omega)
    have l3 : (48271 : Int).natAbs.log2 < 64 := by decide
    refine ⟨by omega, by decide, ?_⟩
    subst hK
    generalize (if x < 0 then -x else x) = y
    have hs : 0 ≤ (sd * 48271 + y + 7) % 2147483647 ∧ (sd * 48271 + y + 7) % 2147483647 < 2147483647 := ⟨Int.emod_nonneg _ (by omega), Int.emod_lt_of_pos _ (by omega)⟩
    generalize (sd * 48271 + y + 7) % 2147483647 = sd2 at hs
    refine step fun K hK => ?_
    generalize hb : S.for_ 5 (.rng [(.pu (.int 20))]) b2 = F2
    walk_at "ev"
    refine ⟨by decide, by decide, by decide, ?_⟩
    cases hc : decide (y < 10 ^ (18 : Int).toNat) with
    | true =>
      walk_at "ev"
      have l2 : sd2.natAbs.log2 < 64 := log_small (by omega)
      have l4 : (69621 : Int).natAbs.log2 < 64 := by decide
      refine ⟨by omega, by decide, slp (by omega), ?_⟩
      subst hK
      have e : List.map M.int ps ++ [M.int (sd2 * 69621 % 2147483629)] = (ps ++ [sd2 * 69621 % 2147483629]).map M.int := by rw [List.map_append]; rfl
      rw [e]
      exact pool1 Γ D s ns _ sd2 _ _ _ (by rw [List.length_append, List.length_singleton]; omega) hs.1 (by omega) k
    | false =>
      dsimp only
      subst hb
      refine for_rng fun BB hB => ?_
      walk_at "ev"
      refine ⟨by decide, by decide, ?_⟩
      rw [hB]
      refine pool2 Γ _ s _ sd2 20 0 ps y _ (by omega) fun ps' lf' z' h => ?_
      subst hK
      exact pool1 Γ D s ns _ sd2 _ _ _ (by omega) hs.1 (by omega) k
theorem fz_ints : ∀ l : List Int, fzL (l.map M.int) = true
  | [] => rfl
  | _ :: r => fz_ints r
theorem fz_strs : ∀ l : List (List Nat), fzL (l.map M.str) = true
  | [] => rfl
  | _ :: r => fz_strs r
theorem pool_ok (Γ : Gm) (ms : List M) (Q : M → List M → Prop) (X : Exc → List M → Prop) (h : spPool ms Q X) : spOf Γ N__law_pool.length P__law_pool.length X__law_pool S__law_pool ms Q X := by
  obtain ⟨ns, rfl, hq⟩ := h
  refine ⟨rfl, ?_⟩
  rw [r__law_pool]
  refine step fun K hK => ?_
  walk_at "ev"
  rw [show decide (0 ≤ sl) = true from rfl]
  walk_at "ev"
  subst hK
  refine step fun K hK => ?_
  walk_at "ev"
  subst hK
  refine step fun K hK => for_val fun BB hB => ?_
  walk_at "ev"
  rw [if_pos (fz_ints _), hB]
  dsimp only
  have hl : (cutL ns none (some 63)).length ≤ 63 := by
    unfold cutL
    rw [List.length_take]
    have e : pIx ns.length ns.length (some 63) = min 63 ns.length := by
      show (if (63 : Int) < 0 then ((63 : Int) + ns.length).toNat else min (63 : Int).toNat ns.length) = _
      rw [if_neg (by decide)]
      rfl
    rw [e]
    omega
  refine pool1 Γ _ _ (cutL ns none (some 63)) [] 5 _ _ _ (by simp; omega) (by decide) (by decide) fun ps' sd z3 z4 z5 h1 h2 h3 => ?_
  dsimp only
  subst hK
  refine step fun K hK => ?_
  walk_at "ev"
  refine ⟨slp (by omega), ?_⟩
  subst hK
  refine step fun K hK => ?_
  walk_at "ev"
  refine ⟨by rw [List.length_append, List.length_map]; exact slp (by simp; omega), ?_⟩
  subst hK
  refine step fun K hK => ?_
  walk_at "ev"
  subst hK
  refine step fun K hK => ?_
  walk_at "ev"
  rw [o__law_pool]
  refine hq _ ⟨sd, 1, ps'.reverse, ?_, h2, h3⟩
  simp
def spLaw : FSp := fun ms Q _ => ∃ ns, ms = [.scr ns] ∧ Q (.bl true) [.scr ns]
theorem set_comp {Γ : Gm} {k i : Nat} {it : I} {cs : List T} {q : E} {D : Dn} {env : En} (h : ∀ (C : En → (Bool → Prop) → Prop) (F : En → (M → En → Prop) → Prop), (∀ en q', evTs Γ en cs q' → C en q') → (∀ en q', semE Γ q en q' (fun _ _ => False) → F en q') →
    semI Γ it env (fun ms env1 => cmpL i C F (fun acc env2 => D.nx ((env2.set i (gt env1 i)).set k (.lst true acc))) ms [] (env1.set i .hole)) D.ex) : semS Γ (.set k (.comp i it cs q)) D env := h _ _ (fun _ _ h => h) (fun _ _ h => h)
theorem ite_step {Γ : Gm} {t : Q.TT} {a b : List S} {D : Dn} {env : En} (h : ∀ KA KB, KA = semSs Γ a D → KB = semSs Γ b D → semT Γ t env (fun c env1 => match c with | true => KA env1 | false => KB env1) D.ex) : semS Γ (.ite t a b) D env := h _ _ rfl rfl
theorem abc_iff : ∀ c, c < 128 → decide (c ∈ abc) = (!decide (c < 97) && !decide (122 < c)) := by
  have h : (List.range 128).all (fun c => decide (c ∈ abc) == (!decide (c < 97) && !decide (122 < c))) = true := by decide +kernel
  intro c hc
  simpa using List.all_eq_true.mp h c (List.mem_range.mpr hc)
theorem fnd_dig : ∀ c, c < 128 → fnd [c] 0 dig = if c ∈ dig then some (c - 48) else none := by
  have h : (List.range 128).all (fun c => decide (fnd [c] 0 dig = if c ∈ dig then some (c - 48) else none)) = true := by decide +kernel
  intro c hc
  exact of_decide_eq_true (List.all_eq_true.mp h c (List.mem_range.mpr hc))
theorem lt_one (a b : Nat) : decide (([a] : List Nat) < [b]) = decide (a < b) := by
  by_cases h : a < b
  · rw [decide_eq_true h]; exact decide_eq_true (by simp [List.cons_lt_cons_iff, h])
  · rw [decide_eq_false h]; exact decide_eq_false (by simp [List.cons_lt_cons_iff, h])
theorem cut_1 (w : List Nat) : cutL w none (some 1) = w.take 1 := by
  unfold cutL
  have e : pIx w.length w.length (some 1) = min 1 w.length := by
    show (if (1 : Int) < 0 then ((1 : Int) + w.length).toNat else min (1 : Int).toNat w.length) = _
    rw [if_neg (by decide)]
    rfl
  rw [e]
  show (w.drop 0).take (min 1 w.length - 0) = _
  cases w with
  | nil => rfl
  | cons c r => simp
theorem cut_2 (w : List Nat) : cutL w (some 1) none = w.drop 1 := by
  unfold cutL
  have e : pIx w.length 0 (some 1) = min 1 w.length := by
    show (if (1 : Int) < 0 then ((1 : Int) + w.length).toNat else min (1 : Int).toNat w.length) = _
    rw [if_neg (by decide)]
    rfl
  rw [e]
  show (w.drop (min 1 w.length)).take (w.length - min 1 w.length) = _
  cases w with
  | nil => rfl
  | cons c r => simp
theorem Wd.drop {n k : Nat} {w : List Nat} (h : Wd n w) : Wd n (w.drop k) := ⟨by rw [List.length_drop]; have := h.1; omega, fun c hc => h.2 c (List.mem_of_mem_drop hc)⟩
end V
set_option Elab.async false
set_option linter.all false
set_option maxRecDepth 100000
set_option maxHeartbeats 4000000
namespace V
open PySem PySem.Spec PyProof.Rows L2 Q
local macro_rules | `(tactic| walk_at "ev") => `(tactic| simp only [at_0, at_1, ix_0, ix_1, semSs, semS, semT, semE, semA, semEs, semGs, semI, evT, evP, evO, evTs, evS, o1E, o1P, o2E, o2P, cmpP, ixP, oLen, truM, sliceE, muE, setIx, gt, yes, M.ok, M.fz, fzL, M.isS, M.isL, rcv, asI, asB, fillG, backG, lentOk, agI, pVar, itemsK, itemsOf, rngL, at1, put1, atP, putP, scl, eqF, List.map_cons, List.map_nil, List.length_cons, List.length_nil, List.length_map, List.cons_append, List.nil_append, List.set_cons_zero, List.set_cons_succ, Bool.and_true, Bool.true_and, List.all_cons, List.all_nil, List.append_nil])
/-! is_name -/
def N_is_name : List Str := [("word" : Str), ("sign" : Str)]
def P_is_name : List Str := [("word" : Str)]
def X_is_name : List Nat := [0]
def S_is_name : List S := [
  .ite (.p (.or (.p (.o2 .lt (.o1 .len (.var 0)) (.int 1))) (.p (.o2 .gt (.o1 .len (.var 0)) (.int 8))))) [.ret (.pu (.bl false))] [],
  .for_ 1 (.vw 0) [.ite (.p (.p (.o2 .notin (.var 1) (.glb 0)))) [.ret (.pu (.bl false))] []],
  .ret (.pu (.bl true))]
def F_is_name : List (String × Str) := []
/-! read_number -/
def N_read_number : List Str := [("word" : Str), ("sign" : Str)]
def P_read_number : List Str := [("word" : Str)]
def X_read_number : List Nat := [0]
def S_read_number : List S := [
  .ite (.p (.or (.p (.o2 .lt (.o1 .len (.var 0)) (.int 1))) (.p (.o2 .gt (.o1 .len (.var 0)) (.int 4))))) [.ret (.pu (.o1 .neg (.int 1)))] [],
  .for_ 1 (.vw 0) [.ite (.p (.p (.o2 .notin (.var 1) (.glb 1)))) [.ret (.pu (.o1 .neg (.int 1)))] []],
  .ite (.p (.and (.p (.o2 .eq (.o2 .idx (.var 0) (.int 0)) (.str [48]))) (.p (.o2 .gt (.o1 .len (.var 0)) (.int 1))))) [.ret (.pu (.o1 .neg (.int 1)))] [],
  .ret (.pu (.o1 .toInt (.var 0)))]
def F_read_number : List (String × Str) := []
/-! read_signed -/
def N_read_signed : List Str := [("word" : Str), ("size" : Str)]
def P_read_signed : List Str := [("word" : Str)]
def X_read_signed : List Nat := [0]
def S_read_signed : List S := [
  .ite (.p (.p (.o2 .eq (.slS (.var 0) none (some (.int 1))) (.str [45])))) [.set 1 (.call "read_number" [.e (.pu (.slS (.var 0) (some (.int 1)) none))]), .ite (.p (.p (.o2 .lt (.var 1) (.int 1)))) [.ret (.pu .non)] [], .ret (.pu (.o1 .neg (.var 1)))] [],
  .set 1 (.call "read_number" [.e (.pu (.var 0))]),
  .ite (.p (.p (.o2 .lt (.var 1) (.int 0)))) [.ret (.pu .non)] [],
  .ret (.pu (.var 1))]
def F_read_signed : List (String × Str) := [("read_number", ("read_number" : Str))]
/-! _law_is_name -/
def N__law_is_name : List Str := [("word" : Str), ("sign" : Str)]
def P__law_is_name : List Str := [("word" : Str)]
def X__law_is_name : List Nat := [0]
def S__law_is_name : List S := [
  .for_ 1 (.vw 0) [.ite (.p (.or (.p (.o2 .lt (.var 1) (.str [97]))) (.p (.o2 .gt (.var 1) (.str [122]))))) [.ret (.pu (.bl false))] []],
  .ret (.pu (.and (.o2 .le (.int 1) (.o1 .len (.var 0))) (.o2 .le (.o1 .len (.var 0)) (.int 8))))]
def F__law_is_name : List (String × Str) := []
def isNm (w : List Nat) : Bool := decide (1 ≤ w.length) && decide (w.length ≤ 8) && w.all fun c => decide (c ∈ abc)
def spIsNm : FSp := fun ms Q _ => ∃ w, ms = [.str w] ∧ Wd 900 w ∧ Q (.bl (isNm w)) [.str w]
theorem o_is_name (a b : M) : outs X_is_name P_is_name.length [a, b] = [a] := rfl
theorem r_is_name : List.replicate (N_is_name.length - P_is_name.length) M.hole = [.hole] := rfl
theorem in_loop (Γ : Gm) (gs : List Nat) (j : Nat) (hG : Γ.gv[j]? = some (.str gs)) (D : Dn) (w : List Nat) (rv : M) (re : E) (hre : ∀ z Q X, Q rv [.str w, z] → semE Γ re [.str w, z] Q X) : ∀ (l : List Nat) (z : M), (l.all (fun c => decide (c ∈ gs)) = true → ∀ z, D.nx [.str w, z]) → (l.all (fun c => decide (c ∈ gs)) = false → ∀ z, D.rt rv [.str w, z]) →
    forV 0 1 (.str w) (semSs Γ [.ite (.p (.p (.o2 .notin (.var 1) (.glb j)))) [.ret re] []]) D (l.map fun c => .str [c]) [.str w, z]
  | [], z, h1, h2 => ⟨rfl, h1 rfl z⟩
  | c :: l, z, h1, h2 => by
    refine ⟨rfl, ?_⟩
    refine step fun K hK => ?_
    simp only [semS, semT, evT, evP, gt, yes, M.ok, rcv, List.set_cons_succ, List.set_cons_zero]
    rw [hG]
    simp only [o2P, cmpP, truM, yes, List.length_cons, List.length_nil]
    cases hc : decide (c ∈ gs) with
    | true =>
      have e : decide (([c] : List Nat).getD 0 0 ∈ gs) = true := hc
      simp only [e, Bool.not_true]
      show semSs Γ [] _ _
      simp only [semSs]
      subst hK
      refine in_loop Γ gs j hG D w rv re hre l _ (fun h => h1 ?_) (fun h => h2 ?_)
      · rw [List.all_cons, hc, h]; rfl
      · rw [List.all_cons, hc, h]; rfl
    | false =>
      have e : decide (([c] : List Nat).getD 0 0 ∈ gs) = false := hc
      simp only [e, Bool.not_false]
      refine step fun K2 hK2 => ?_
      show semE Γ re _ D.rt D.ex
      exact hre _ _ _ (h2 (by rw [List.all_cons, hc]; rfl) _)
theorem isnm_ok (Γ : Gm) (hG : Γ.gv[0]? = some (.str abc)) (ms : List M) (Q : M → List M → Prop) (X : Exc → List M → Prop) (h : spIsNm ms Q X) : spOf Γ N_is_name.length P_is_name.length X_is_name S_is_name ms Q X := by
  obtain ⟨w, rfl, ⟨h1, h2⟩, hq⟩ := h
  refine ⟨rfl, ?_⟩
  rw [r_is_name]
  have hsl := slb (n := w.length) (by omega)
  refine step fun K hK => ?_
  walk_at "ev"
  rw [hsl]
  walk_at "ev"
  cases c1 : decide ((w.length : Int) < 1) with
  | true =>
    walk_at "ev"
    rw [o_is_name]
    have e : isNm w = false := by
      unfold isNm
      have := of_decide_eq_true c1
      rw [show decide (1 ≤ w.length) = false from decide_eq_false (by omega)]
      rfl
    rw [e] at hq; exact hq
  | false =>
  walk_at "ev"
  cases c2 : decide ((8 : Int) < (w.length : Int)) with
  | true =>
    walk_at "ev"
    rw [o_is_name]
    have e : isNm w = false := by
      unfold isNm
      have := of_decide_eq_true c2
      rw [show decide (w.length ≤ 8) = false from decide_eq_false (by omega), Bool.and_false]
      rfl
    rw [e] at hq; exact hq
  | false =>
  walk_at "ev"
  have k1 := of_decide_eq_false c1
  have k2 := of_decide_eq_false c2
  have e : isNm w = w.all fun c => decide (c ∈ abc) := by
    unfold isNm
    rw [show decide (1 ≤ w.length) = true from decide_eq_true (by omega), show decide (w.length ≤ 8) = true from decide_eq_true (by omega)]
    rfl
  subst hK
  refine step fun K hK => for_vw fun BB hB => ?_
  walk_at "ev"
  rw [hB]
  refine in_loop Γ abc 0 hG _ w (.bl false) (.pu (.bl false)) (fun z Q X h => h) w _ (fun ha z => ?_) (fun ha z => ?_)
  · subst hK
    refine step fun K hK => ?_
    walk_at "ev"
    rw [o_is_name]
    rw [e, ha] at hq; exact hq
  · show Q (.bl false) (outs X_is_name P_is_name.length [.str w, z])
    rw [o_is_name]
    rw [e, ha] at hq; exact hq
def dgs (w : List Nat) : Bool := w.all fun c => decide (c ∈ dig)
def valN (w : List Nat) : Int := if decide (1 ≤ w.length) && decide (w.length ≤ 4) && dgs w && !(decide (w.head? = some 48) && decide (1 < w.length)) then ((PySem.NumText.digitsVal w : Nat) : Int) else -1
def spVal : FSp := fun ms Q _ => ∃ w, ms = [.str w] ∧ Wd 900 w ∧ Q (.int (valN w)) [.str w]
theorem o_read_number (a b : M) : outs X_read_number P_read_number.length [a, b] = [a] := rfl
theorem r_read_number : List.replicate (N_read_number.length - P_read_number.length) M.hole = [.hole] := rfl
theorem dgs_all {w : List Nat} (h : dgs w = true) : w.all (fun c => decide (48 ≤ c) && decide (c ≤ 57)) = true := by
  rw [List.all_eq_true]
  intro c hc
  have h1 := of_decide_eq_true (List.all_eq_true.mp h c hc)
  have h2 : ∀ c ∈ dig, (decide (48 ≤ c) && decide (c ≤ 57)) = true := by decide +kernel
  exact h2 c h1
theorem rdnum_ok (Γ : Gm) (hG : Γ.gv[1]? = some (.str dig)) (ms : List M) (Q : M → List M → Prop) (X : Exc → List M → Prop) (h : spVal ms Q X) : spOf Γ N_read_number.length P_read_number.length X_read_number S_read_number ms Q X := by
  obtain ⟨w, rfl, ⟨h1, h2⟩, hq⟩ := h
  refine ⟨rfl, ?_⟩
  rw [r_read_number]
  have hsl := slb (n := w.length) (by omega)
  refine step fun K hK => ?_
  walk_at "ev"
  rw [hsl]
  walk_at "ev"
  cases c1 : decide ((w.length : Int) < 1) with
  | true =>
    walk_at "ev"
    rw [o_read_number]
    have e : valN w = -1 := by
      unfold valN
      have := of_decide_eq_true c1
      rw [show decide (1 ≤ w.length) = false from decide_eq_false (by omega)]
      rfl
    rw [e] at hq; exact hq
  | false =>
  walk_at "ev"
  cases c2 : decide ((4 : Int) < (w.length : Int)) with
  | true =>
    walk_at "ev"
    rw [o_read_number]
    have e : valN w = -1 := by
      unfold valN
      have := of_decide_eq_true c2
      rw [show decide (w.length ≤ 4) = false from decide_eq_false (by omega), Bool.and_false]
      rfl
    rw [e] at hq; exact hq
  | false =>
  walk_at "ev"
  have k1 := of_decide_eq_false c1
  have k2 := of_decide_eq_false c2
  have e : valN w = if dgs w && !(decide (w.head? = some 48) && decide (1 < w.length)) then ((PySem.NumText.digitsVal w : Nat) : Int) else -1 := by
    unfold valN
    rw [show decide (1 ≤ w.length) = true from decide_eq_true (by omega), show decide (w.length ≤ 4) = true from decide_eq_true (by omega)]
    rfl
  subst hK
  refine step fun K hK => for_vw fun BB hB => ?_
  walk_at "ev"
  rw [hB]
  refine in_loop Γ dig 1 hG _ w (.int (-1)) (.pu (.o1 .neg (.int 1))) (fun z Q X h => h) w _ (fun ha z => ?_) (fun ha z => ?_)
  · have ha : dgs w = true := ha
    dsimp only
    subst hK
    refine step fun K hK => ?_
    cases w with
    | nil => exact (k1 (by decide)).elim
    | cons c r =>
    walk_at "ev"
    have hsl' : decide (r.length + 1 ≤ sl) = true := hsl
    have fin : valN (c :: r) = ((PySem.NumText.digitsVal (c :: r) : Nat) : Int) → K [.str (c :: r), z] := fun hv => by
      subst hK
      refine step fun K hK => ?_
      walk_at "ev"
      have hn := SX.int_S (a := c :: r) (dgs_all ha) (by simp) (by omega)
      refine ⟨_, hn, by simp only [List.length_cons] at k2 ⊢; omega, ?_⟩
      rw [o_read_number, ← hv]
      exact hq
    simp only [hsl']
    cases c3 : ([c] == ([48] : List Nat)) with
    | true =>
      have ec : c = 48 := by simpa using c3
      dsimp only
      cases c4 : decide ((1 : Int) < ((r.length + 1 : Nat) : Int)) with
      | true =>
        dsimp only
        rw [o_read_number]
        have k4 := of_decide_eq_true c4
        rw [ha, show decide ((c :: r).head? = some 48) = true from by simp [ec], show decide (1 < (c :: r).length) = true from decide_eq_true (by simp only [List.length_cons]; omega)] at e
        rw [e] at hq; exact hq
      | false =>
        dsimp only
        have k4 := of_decide_eq_false c4
        refine fin ?_
        rw [e, ha, show decide (1 < (c :: r).length) = false from decide_eq_false (by simp only [List.length_cons]; omega), Bool.and_false]
        rfl
    | false =>
      dsimp only
      refine fin ?_
      have ec : ¬ c = 48 := by simpa using c3
      rw [e, ha, show decide ((c :: r).head? = some 48) = false from by simp [ec]]
      rfl
  · show Q (.int (-1)) (outs X_read_number P_read_number.length [.str w, z])
    rw [o_read_number]
    have ha : dgs w = false := ha
    rw [e, ha] at hq; exact hq
def sgN (w : List Nat) : M := if w.take 1 = [45] then (if valN (w.drop 1) < 1 then .non else .int (-valN (w.drop 1))) else if valN w < 0 then .non else .int (valN w)
def spSgn : FSp := fun ms Q _ => ∃ w, ms = [.str w] ∧ Wd 900 w ∧ Q (sgN w) [.str w]
theorem o_read_signed (a b : M) : outs X_read_signed P_read_signed.length [a, b] = [a] := rfl
theorem r_read_signed : List.replicate (N_read_signed.length - P_read_signed.length) M.hole = [.hole] := rfl
theorem rdsgn_ok (Γ : Gm) (hV : Γ.fs "read_number" = spVal) (ms : List M) (Q : M → List M → Prop) (X : Exc → List M → Prop) (h : spSgn ms Q X) : spOf Γ N_read_signed.length P_read_signed.length X_read_signed S_read_signed ms Q X := by
  obtain ⟨w, rfl, hw, hq⟩ := h
  refine ⟨rfl, ?_⟩
  rw [r_read_signed]
  have hsl := slb (n := w.length) (by have := hw.1; omega)
  refine step fun K hK => ?_
  walk_at "ev"
  rw [hsl, cut_1]
  dsimp only
  cases c1 : (w.take 1 == ([45] : List Nat)) with
  | true =>
    have e1 : w.take 1 = [45] := by simpa using c1
    dsimp only
    rw [cut_2, hV]
    refine ⟨trivial, trivial, _, rfl, hw.drop, ?_⟩
    walk_at "ev"
    unfold sgN at hq
    rw [if_pos e1] at hq
    cases c2 : decide (valN (w.drop 1) < 1) with
    | true =>
      dsimp only
      rw [if_pos (of_decide_eq_true c2)] at hq
      rw [o_read_signed]; exact hq
    | false =>
      dsimp only
      rw [if_neg (of_decide_eq_false c2)] at hq
      rw [o_read_signed]; exact hq
  | false =>
    have e1 : ¬ w.take 1 = [45] := by simpa using c1
    walk_at "ev"
    subst hK
    refine step fun K hK => ?_
    walk_at "ev"
    rw [hV]
    refine ⟨trivial, trivial, _, rfl, hw, ?_⟩
    walk_at "ev"
    subst hK
    refine step fun K hK => ?_
    walk_at "ev"
    unfold sgN at hq
    rw [if_neg e1] at hq
    cases c2 : decide (valN w < 0) with
    | true =>
      dsimp only
      rw [if_pos (of_decide_eq_true c2)] at hq
      rw [o_read_signed]; exact hq
    | false =>
      dsimp only
      rw [if_neg (of_decide_eq_false c2)] at hq
      subst hK
      refine step fun K hK => ?_
      walk_at "ev"
      rw [o_read_signed]; exact hq
theorem o__law_is_name (a b : M) : outs X__law_is_name P__law_is_name.length [a, b] = [a] := rfl
theorem r__law_is_name : List.replicate (N__law_is_name.length - P__law_is_name.length) M.hole = [.hole] := rfl
theorem lin_loop (Γ : Gm) (D : Dn) (w : List Nat) : ∀ (l : List Nat) (z : M), (∀ c ∈ l, c < 128) → (l.all (fun c => decide (c ∈ abc)) = true → ∀ z, D.nx [.str w, z]) → (l.all (fun c => decide (c ∈ abc)) = false → ∀ z, D.rt (.bl false) [.str w, z]) →
    forV 0 1 (.str w) (semSs Γ [.ite (.p (.or (.p (.o2 .lt (.var 1) (.str [97]))) (.p (.o2 .gt (.var 1) (.str [122]))))) [.ret (.pu (.bl false))] []]) D (l.map fun c => .str [c]) [.str w, z]
  | [], z, _, h1, h2 => ⟨rfl, h1 rfl z⟩
  | c :: l, z, hs, h1, h2 => by
    refine ⟨rfl, ?_⟩
    refine step fun K hK => ?_
    have ha := abc_iff c (hs c List.mem_cons_self)
    walk_at "ev"
    rw [lt_one]
    cases q1 : decide (c < 97) with
    | true =>
      rw [q1] at ha
      dsimp only
      exact h2 (by rw [List.all_cons, ha]; rfl) _
    | false =>
      dsimp only
      rw [lt_one]
      cases q2 : decide (122 < c) with
      | true =>
        rw [q1, q2] at ha
        dsimp only
        exact h2 (by rw [List.all_cons, ha]; rfl) _
      | false =>
        rw [q1, q2] at ha
        dsimp only
        subst hK
        refine lin_loop Γ D w l _ (fun x hx => hs x (List.mem_cons_of_mem _ hx)) (fun h => h1 ?_) (fun h => h2 ?_)
        · rw [List.all_cons, ha, h]; rfl
        · rw [List.all_cons, ha, h]; rfl
theorem lisnm_ok (Γ : Gm) (ms : List M) (Q : M → List M → Prop) (X : Exc → List M → Prop) (h : spIsNm ms Q X) : spOf Γ N__law_is_name.length P__law_is_name.length X__law_is_name S__law_is_name ms Q X := by
  obtain ⟨w, rfl, ⟨h1, h2⟩, hq⟩ := h
  refine ⟨rfl, ?_⟩
  rw [r__law_is_name]
  have hsl := slb (n := w.length) (by omega)
  refine step fun K hK => for_vw fun BB hB => ?_
  walk_at "ev"
  rw [hB]
  unfold isNm at hq
  refine lin_loop Γ _ w w _ h2 (fun ha z => ?_) (fun ha z => ?_)
  · dsimp only
    subst hK
    refine step fun K hK => ?_
    walk_at "ev"
    rw [hsl]
    walk_at "ev"
    rw [ha, Bool.and_true] at hq
    have e1 : decide ((1 : Int) ≤ (w.length : Int)) = decide (1 ≤ w.length) := by
      by_cases q : 1 ≤ w.length
      · rw [decide_eq_true q]; exact decide_eq_true (by omega)
      · rw [decide_eq_false q]; exact decide_eq_false (by omega)
    have e2 : decide ((w.length : Int) ≤ 8) = decide (w.length ≤ 8) := by
      by_cases q : w.length ≤ 8
      · rw [decide_eq_true q]; exact decide_eq_true (by omega)
      · rw [decide_eq_false q]; exact decide_eq_false (by omega)
    rw [e1, e2]
    rw [o__law_is_name]
    cases q1 : decide (1 ≤ w.length) with
    | true =>
      rw [q1] at hq
      dsimp only
      exact hq
    | false =>
      rw [q1] at hq
      dsimp only
      exact hq
  · show Q (.bl false) (outs X__law_is_name P__law_is_name.length [.str w, z])
    rw [o__law_is_name]
    rw [ha, Bool.and_false] at hq; exact hq
end V
set_option Elab.async false
set_option linter.all false
set_option maxRecDepth 100000
set_option maxHeartbeats 4000000
namespace V
open PySem PySem.Spec PyProof.Rows L2 Q
local macro_rules | `(tactic| walk_at "ev") => `(tactic| simp only [at_0, at_1, ix_0, ix_1, semSs, semS, semT, semE, semA, semEs, semGs, semI, evT, evP, evO, evTs, evS, o1E, o1P, o2E, o2P, cmpP, ixP, oLen, truM, sliceE, muE, setIx, gt, yes, M.ok, M.fz, fzL, M.isS, M.isL, rcv, asI, asB, fillG, backG, lentOk, agI, pVar, itemsK, itemsOf, rngL, at1, put1, atP, putP, scl, eqF, List.map_cons, List.map_nil, List.length_cons, List.length_nil, List.length_map, List.cons_append, List.nil_append, List.set_cons_zero, List.set_cons_succ, Bool.and_true, Bool.true_and, List.all_cons, List.all_nil, List.append_nil])
/-! _law_same -/
def N__law_same : List Str := [("actual" : Str), ("due" : Str), ("k" : Str)]
def P__law_same : List Str := [("actual" : Str), ("due" : Str)]
def X__law_same : List Nat := [0, 1]
def S__law_same : List S := [
  .ite (.p (.p (.o1 .isN (.var 1)))) [.ret (.pu (.o1 .isN (.var 0)))] [],
  .ite (.p (.p (.o1 (.isi ["bool"]) (.var 1)))) [.ret (.pu (.and (.o1 (.isi ["bool"]) (.var 0)) (.o2 .eq (.var 0) (.var 1))))] [],
  .ite (.p (.p (.o1 (.isi ["int"]) (.var 1)))) [.ret (.pu (.and (.o1 (.isi ["int"]) (.var 0)) (.and (.not (.o1 (.isi ["bool"]) (.var 0))) (.o2 .eq (.var 0) (.var 1)))))] [],
  .ite (.p (.p (.o1 (.isi ["str"]) (.var 1)))) [.ret (.pu (.and (.o1 (.isi ["str"]) (.var 0)) (.o2 .eq (.var 0) (.var 1))))] [],
  .ite (.p (.p (.o1 (.isi ["tuple"]) (.var 1)))) [.ite (.p (.not (.p (.o1 (.isi ["tuple"]) (.var 0))))) [.ret (.pu (.bl false))] []] [.ite (.p (.not (.p (.o1 (.isi ["list"]) (.var 0))))) [.ret (.pu (.bl false))] []],
  .ite (.p (.p (.o2 .ne (.o1 .len (.var 0)) (.o1 .len (.var 1))))) [.ret (.pu (.bl false))] [],
  .for_ 2 (.rng [(.pu (.o1 .len (.var 1)))]) [.ite (.not (.e (.call "_law_same" [.e (.sh 0 [.i (.var 2)]), .e (.sh 1 [.i (.var 2)])]))) [.ret (.pu (.bl false))] []],
  .ret (.pu (.bl true))]
def F__law_same : List (String × Str) := [("_law_same", ("_law_same" : Str))]
/-- a row's kind and entries -/
def sq : M → Option (Bool × List M)
  | .tup ms => some (true, ms)
  | .lst _ ms => some (false, ms)
  | _ => none
/-- what _law_same finds to be the same -/
def Sam : Nat → M → M → Prop
  | 0, a, d => d.flat = true ∧ a = d
  | n + 1, a, d => (d.flat = true ∧ a = d) ∨ ∃ b xs ys, sq a = some (b, xs) ∧ sq d = some (b, ys) ∧ xs.length = ys.length ∧ xs.length ≤ 100000 ∧ ∀ (i : Nat) (x y : M), xs[i]? = some x → ys[i]? = some y → x.ok = true ∧ y.ok = true ∧ Sam n x.frz y.frz
def spSame (n : Nat) : FSp := fun ms Q _ => ∃ a d, ms = [a, d] ∧ Sam n a d ∧ ∀ a' d', Q (.bl true) [a', d']
def spS : Nat → FSp
  | 0 => fun _ _ _ => False
  | n + 1 => spSame n
theorem sq_ok {a : M} {p : Bool × List M} (h : sq a = some p) : a.ok = true := by
  cases a <;> first | rfl | cases h
theorem sq_put {a : M} {b : Bool} {xs : List M} {k : Nat} {y r : M} (h : sq a = some (b, xs)) (hy : xs[k]? = some y) : sq (putP a [.i k] r) = some (b, xs.set k r) := by
  cases a <;> first
    | (cases h; done)
    | (cases h; simp only [putP, at1, hy, put1, sq])
theorem ix_nat {n : Nat} {j : Int} (h0 : 0 ≤ j) (h1 : j.toNat < n) : ixL n j = some j.toNat := by
  unfold ixL
  rw [if_pos h0, if_pos (by omega)]
theorem sh_sq {Γ : Gm} {env : En} {i : Nat} {j : Int} {a y : M} {b : Bool} {xs : List M} {Q : QE} {X : QX} (h0 : gt env i = a) (h1 : sq a = some (b, xs)) (h2 : gt env 2 = .int j) (h3 : 0 ≤ j) (h4 : xs[j.toNat]? = some y) (h5 : y.ok = true) (h : Q y.frz (env.set i (putP a [.i j.toNat] y.frz))) : semE Γ (.sh i [.i (.var 2)]) env Q X := by
  have hl : j.toNat < xs.length := (List.getElem?_eq_some_iff.mp h4).1
  have e := ix_nat h3 hl
  have hok : a.ok = true := sq_ok h1
  have oi : (M.int j).ok = true := rfl
  cases a <;> first
    | (cases h1; done)
    | (cases h1
       simp only [semE, evS, evP, h0, h2, hok, oi, yes, asI, e, h4, h5]
       exact h)
theorem ln_sq {a : M} {b : Bool} {xs : List M} {Q : M → Prop} (h : sq a = some (b, xs)) : o1P .len a Q = Q (.int xs.length) := by
  cases a <;> first
    | (cases h; done)
    | (cases h; rfl)
theorem r__law_same : List.replicate (N__law_same.length - P__law_same.length) M.hole = [.hole] := rfl
theorem o__law_same (a b c : M) : outs X__law_same P__law_same.length [a, b, c] = [a, b] := rfl
theorem frz_ok {m : M} (h : m.ok = true) : m.frz.ok = true := by
  cases m <;> first | rfl | (cases h; done) | (unfold M.frz; rfl)
def same_b : List S := [.ite (.not (.e (.call "_law_same" [.e (.sh 0 [.i (.var 2)]), .e (.sh 1 [.i (.var 2)])]))) [.ret (.pu (.bl false))] []]
theorem same_loop (Γ : Gm) (n : Nat) (hS : Γ.fs "_law_same" = spSame n) (D : Dn) (b : Bool) (xs0 ys0 : List M) (hx : ∀ (i : Nat) (x y : M), xs0[i]? = some x → ys0[i]? = some y → x.ok = true ∧ y.ok = true ∧ Sam n x.frz y.frz) (hl : xs0.length = ys0.length) (k : ∀ a d z, D.nx [a, d, z]) : ∀ (m j : Nat) (a d z : M) (xs ys : List M), sq a = some (b, xs) → sq d = some (b, ys) → xs.length = xs0.length → ys.length = xs0.length → j + m = xs0.length → (∀ i, j ≤ i → xs[i]? = xs0[i]? ∧ ys[i]? = ys0[i]?) →
    forL 2 (semSs Γ same_b) D (rngL (j : Int) 1 m) [a, d, z]
  | 0, j, a, d, z, xs, ys, _, _, _, _, _, _ => k a d z
  | m + 1, j, a, d, z, xs, ys, ha, hd, hlx, hly, hj, he => by
    have hj1 : j < xs0.length := by omega
    have e1 : xs0[j]? = some xs0[j] := List.getElem?_eq_getElem hj1
    have e2 : ys0[j]? = some (ys0[j]'(by omega)) := List.getElem?_eq_getElem (by omega)
    obtain ⟨o1, o2, sm⟩ := hx j _ _ e1 e2
    have g1 := (he j (Nat.le_refl _)).1.trans e1
    have g2 := (he j (Nat.le_refl _)).2.trans e2
    show semSs Γ _ _ _
    refine step fun K hK => ?_
    have t : ((j : Nat) : Int).toNat = j := Int.toNat_natCast j
    refine ite_step fun KA KB hA hB => ?_
    show lentOk _ _ = true ∧ semE Γ _ _ _ _
    refine ⟨rfl, ?_⟩
    refine sh_sq (j := (j : Int)) rfl ha rfl (by omega) (by rw [t]; exact g1) o1 ?_
    show semE Γ _ _ _ _
    refine sh_sq (j := (j : Int)) rfl hd rfl (by omega) (by rw [t]; exact g2) o2 ?_
    rw [t]
    show (fillG _ _ _).all M.ok = true ∧ Γ.fs "_law_same" _ _ _
    rw [hS]
    have f1 := frz_ok o1
    have f2 := frz_ok o2
    refine ⟨?_, _, _, rfl, sm, fun a' d' => ?_⟩
    · show (_ && (_ && true)) = true
      rw [f1, f2]; rfl
    · show KB _
      subst hB
      show K _
      subst hK
      refine same_loop Γ n hS D b xs0 ys0 hx hl k m (j + 1) _ _ _ _ _ (sq_put ha g1) (sq_put hd g2) (by rw [List.length_set]; exact hlx) (by rw [List.length_set]; exact hly) (by omega) fun i hi => ?_
      rw [List.getElem?_set_ne (by omega), List.getElem?_set_ne (by omega)]
      exact he i (by omega)
theorem same_ok (Γ : Gm) (n : Nat) (hS : Γ.fs "_law_same" = spS n) (ms : List M) (Q : M → List M → Prop) (X : Exc → List M → Prop) (h : spSame n ms Q X) : spOf Γ N__law_same.length P__law_same.length X__law_same S__law_same ms Q X := by
  obtain ⟨a, d, rfl, hs, hq⟩ := h
  refine ⟨rfl, ?_⟩
  rw [r__law_same]
  have flat : d.flat = true ∧ a = d → semSs Γ S__law_same { nx := fun en => Q .non (outs X__law_same P__law_same.length en), rt := fun m en => Q m (outs X__law_same P__law_same.length en), bk := fun _ => False, ct := fun _ => False, ex := fun x en => X x (outs X__law_same P__law_same.length en) } [a, d, .hole] := by
    rintro ⟨hf, rfl⟩
    match a, hf, hq with
    | .non, _, hq => exact hq _ _
    | .bl true, _, hq => exact hq _ _
    | .bl false, _, hq => exact hq _ _
    | .int i, _, hq =>
      have e : eqF (.int i) (.int i) = true := beq_self_eq_true i
      show Q (.bl (eqF (.int i) (.int i))) _
      rw [e]
      exact hq _ _
    | .str i, _, hq =>
      have e : eqF (.str i) (.str i) = true := beq_self_eq_true i
      show Q (.bl (eqF (.str i) (.str i))) _
      rw [e]
      exact hq _ _
  match n, hS, hs with
  | 0, _, hs => exact flat hs
  | n + 1, hS, .inl hs => exact flat hs
  | n + 1, hS, .inr ⟨b, xs, ys, ha, hd, hl, hle, hx⟩ =>
    have go : semSs Γ (S__law_same.drop 5) { nx := fun en => Q .non (outs X__law_same P__law_same.length en), rt := fun m en => Q m (outs X__law_same P__law_same.length en), bk := fun _ => False, ct := fun _ => False, ex := fun x en => X x (outs X__law_same P__law_same.length en) } [a, d, .hole] := by
      show semSs Γ (_ :: _ :: _) _ _
      refine step fun K hK => ?_
      refine ite_step fun KA KB hA hB => ?_
      simp only [semT, evT, evP, gt, sq_ok ha, sq_ok hd, yes, ln_sq ha, rcv, ln_sq hd, o2P, cmpP, scl, eqF, truM, hl, beq_self_eq_true, Bool.not_true]
      subst hB
      show K _
      subst hK
      refine step fun K hK => for_rng fun BB hB => ?_
      simp only [semI, semEs, semE, evP, gt, sq_ok hd, yes, ln_sq hd, M.fz]
      refine ⟨by omega, by omega, ?_⟩
      rw [hB]
      refine same_loop Γ n hS _ b xs ys hx hl (fun a d z => ?_) ys.length 0 a d _ xs ys ha hd rfl hl.symm (by omega) fun i _ => ⟨rfl, rfl⟩
      subst hK
      exact hq _ _
    cases a <;> first
      | (cases ha; done)
      | (cases d <;> first
        | (cases hd; done)
        | (cases ha; cases hd; done)
        | exact go)
end V
set_option Elab.async false
set_option linter.all false
set_option maxRecDepth 100000
set_option maxHeartbeats 4000000
namespace V
open PySem PySem.Spec PyProof.Rows L2 Q
local macro_rules | `(tactic| walk_at "ev") => `(tactic| simp only [at_0, at_1, ix_0, ix_1, semSs, semS, semT, semE, semA, semEs, semGs, semI, evT, evP, evO, evTs, evS, o1E, o1P, o2E, o2P, cmpP, ixP, oLen, truM, sliceE, muE, setIx, gt, yes, M.ok, M.fz, fzL, M.isS, M.isL, rcv, asI, asB, fillG, backG, lentOk, agI, pVar, itemsK, itemsOf, rngL, at1, put1, atP, putP, scl, eqF, List.map_cons, List.map_nil, List.length_cons, List.length_nil, List.length_map, List.cons_append, List.nil_append, List.set_cons_zero, List.set_cons_succ, Bool.and_true, Bool.true_and, List.all_cons, List.all_nil, List.append_nil])
/-! _law_name -/
def N__law_name : List Str := [("pool" : Str), ("used" : Str), ("letters" : Str), ("words" : Str), ("kind" : Str), ("word" : Str), ("k" : Str), ("at" : Str)]
def P__law_name : List Str := [("pool" : Str), ("used" : Str)]
def X__law_name : List Nat := [0, 1]
def S__law_name : List S := [
  .set 2 (.pu (.str [97, 98, 99, 100, 101, 102, 103, 104, 105, 106, 107, 108, 109, 110, 111, 112, 113, 114, 115, 116, 117, 118, 119, 120, 121, 122])),
  .set 3 (.lst [(.pu (.str [112, 97, 116, 116, 101, 114, 110])), (.pu (.str [115, 105, 122, 101, 115])), (.pu (.str [99, 108, 111, 116, 104])), (.pu (.str [112, 105, 101, 99, 101])), (.pu (.str [110, 111, 116, 99, 104])), (.pu (.str [115, 101, 97, 109])), (.pu (.str [111, 118, 101, 114])), (.pu (.str [108, 101, 110, 103, 116, 104])), (.pu (.str [116, 105, 101])), (.pu (.str [111, 112, 101, 110, 105, 110, 103])), (.pu (.str [112, 108, 97, 105, 110])), (.pu (.str [116, 117, 114, 110, 101, 100]))]),
  .set 3 (.o2 .add (.v (.var 3)) (.e (.lst [(.pu (.str [104, 97, 110, 100])), (.pu (.str [117, 112])), (.pu (.str [100, 111, 119, 110])), (.pu (.str [102, 114, 101, 101])), (.pu (.str [114, 105, 103, 104, 116])), (.pu (.str [119, 114, 111, 110, 103])), (.pu (.str [102, 108, 97, 116])), (.pu (.str [102, 111, 108, 100])), (.pu (.str [97])), (.pu (.str [122])), (.pu (.str [122, 122])), (.pu (.str [122, 122, 122, 122, 122, 122, 122, 122]))]))),
  .set 4 (.call "_law_draw" [.r 0, .e (.pu (.int 7))]),
  .set 5 (.pu (.str [])),
  .ite (.p (.and (.p (.o2 .eq (.var 4) (.int 0))) (.p (.o2 .gt (.o1 .len (.var 1)) (.int 0))))) [.set 5 (.o2 .idx (.v (.var 1)) (.e (.call "_law_draw" [.r 0, .e (.pu (.o1 .len (.var 1)))]))), .set 7 (.call "_law_draw" [.r 0, .e (.pu (.o1 .len (.var 5)))]), .set 5 (.o2 .add (.e (.o2 .add (.v (.slS (.var 5) none (some (.var 7)))) (.e (.o2 .idx (.v (.var 2)) (.e (.call "_law_draw" [.r 0, .e (.pu (.int 26))])))))) (.v (.slS (.var 5) (some (.o2 .add (.var 7) (.int 1))) none)))] [.ite (.p (.and (.p (.o2 .eq (.var 4) (.int 1))) (.p (.o2 .gt (.o1 .len (.var 1)) (.int 0))))) [.set 5 (.slc (.e (.o2 .add (.e (.o2 .idx (.v (.var 1)) (.e (.call "_law_draw" [.r 0, .e (.pu (.o1 .len (.var 1)))])))) (.e (.o2 .idx (.v (.var 2)) (.e (.call "_law_draw" [.r 0, .e (.pu (.int 26))])))))) none (some (.int 8)))] [.ite (.p (.p (.o2 .eq (.var 4) (.int 2)))) [.set 5 (.o2 .idx (.v (.var 3)) (.e (.call "_law_draw" [.r 0, .e (.pu (.int 24))])))] [.ite (.p (.p (.o2 .eq (.var 4) (.int 3)))) [.for_ 6 (.rng [(.o2 .add (.v (.int 1)) (.e (.call "_law_draw" [.r 0, .e (.pu (.int 3))])))]) [.set 5 (.o2 .add (.v (.var 5)) (.e (.o2 .idx (.v (.str [97, 98])) (.e (.call "_law_draw" [.r 0, .e (.pu (.int 2))])))))]] [.for_ 6 (.rng [(.o2 .add (.v (.int 1)) (.e (.call "_law_draw" [.r 0, .e (.pu (.int 8))])))]) [.set 5 (.o2 .add (.v (.var 5)) (.e (.o2 .idx (.v (.var 2)) (.e (.call "_law_draw" [.r 0, .e (.pu (.int 26))])))))]]]]],
  .for_ 6 (.rng [(.pu (.int 700))]) [.ite (.p (.p (.o2 .notin (.var 5) (.var 1)))) [.brk] [], .set 5 (.pu (.o2 .add (.o2 .idx (.var 2) (.o2 .mod (.o1 .toInt (.o2 .fdiv (.var 6) (.int 26))) (.int 26))) (.o2 .idx (.var 2) (.o2 .mod (.o1 .toInt (.var 6)) (.int 26)))))],
  .ret (.pu (.var 5))]
def F__law_name : List (String × Str) := [("_law_draw", ("_law_draw" : Str))]
/-! parts of texts -/
theorem cut_take {α : Type} (xs : List α) {i : Int} (h : 0 ≤ i) : cutL xs none (some i) = xs.take i.toNat := by
  have e : pIx xs.length xs.length (some i) = min i.toNat xs.length := by
    show (if i < 0 then (i + xs.length).toNat else min i.toNat xs.length) = _
    rw [if_neg (by omega)]
  show (xs.drop 0).take (pIx xs.length xs.length (some i) - 0) = _
  rw [e, Nat.sub_zero, List.drop_zero]
  by_cases hl : i.toNat ≤ xs.length
  · rw [Nat.min_eq_left hl]
  · rw [Nat.min_eq_right (by omega), List.take_of_length_le (Nat.le_refl _), List.take_of_length_le (by omega)]
theorem cut_drop {α : Type} (xs : List α) {i : Int} (h : 0 ≤ i) : cutL xs (some i) none = xs.drop i.toNat := by
  have e : pIx xs.length 0 (some i) = min i.toNat xs.length := by
    show (if i < 0 then (i + xs.length).toNat else min i.toNat xs.length) = _
    rw [if_neg (by omega)]
  show (xs.drop (pIx xs.length 0 (some i))).take (xs.length - pIx xs.length 0 (some i)) = _
  rw [e]
  by_cases hl : i.toNat ≤ xs.length
  · rw [Nat.min_eq_left hl, List.take_of_length_le (by rw [List.length_drop]; omega)]
  · rw [Nat.min_eq_right (by omega), List.drop_eq_nil_of_le (Nat.le_refl _), List.drop_eq_nil_of_le (as := xs) (i := i.toNat) (by omega), List.take_nil]
/-- a name -/
def Nm (w : List Nat) : Prop := 1 ≤ w.length ∧ w.length ≤ 8 ∧ ∀ c ∈ w, c ∈ abc
theorem Nm.is {w : List Nat} (h : Nm w) : isNm w = true := by
  unfold isNm
  rw [decide_eq_true h.1, decide_eq_true h.2.1]
  simp only [Bool.true_and, List.all_eq_true]
  exact fun c hc => decide_eq_true (h.2.2 c hc)
theorem Nm.of {w : List Nat} (h : isNm w = true) : Nm w := by
  unfold isNm at h
  simp only [Bool.and_eq_true, decide_eq_true_eq, List.all_eq_true] at h
  exact ⟨h.1.1, h.1.2, h.2⟩
theorem Nm.wd {w : List Nat} (h : Nm w) : Wd 8 w := ⟨h.2.1, fun c hc => abc_wd.2 c (h.2.2 c hc)⟩
/-- the two-letter words -/
def pw (i : Nat) : List Nat := [abc.getD (i / 26 % 26) 0, abc.getD (i % 26) 0]
theorem abc_at (i : Nat) (h : i < 26) : abc[i]? = some (abc.getD i 0) ∧ abc.getD i 0 ∈ abc := by
  have h1 : i < abc.length := h
  have e : abc[i]? = some abc[i] := List.getElem?_eq_getElem h1
  rw [List.getD_eq_getElem?_getD, e]
  exact ⟨rfl, List.getElem_mem h1⟩
theorem pw_nm (i : Nat) : Nm (pw i) := ⟨by show 1 ≤ 2; decide, by show 2 ≤ 8; decide, fun c hc => by
  simp only [pw, List.mem_cons, List.not_mem_nil, or_false] at hc
  rcases hc with rfl | rfl
  · exact (abc_at _ (Nat.mod_lt _ (by decide))).2
  · exact (abc_at _ (Nat.mod_lt _ (by decide))).2⟩
theorem abc_val : ∀ i, i < 26 → abc.getD i 0 = 97 + i := by decide +kernel
theorem pw_inj : ((List.range 676).map pw).Nodup := by
  rw [List.Nodup, List.pairwise_map]
  refine List.Pairwise.imp_of_mem ?_ (List.pairwise_lt_range (n := 676))
  intro a b ha hb hab he
  have ha := List.mem_range.mp ha
  have hb := List.mem_range.mp hb
  simp only [pw, List.cons.injEq, and_true] at he
  obtain ⟨h1, h2⟩ := he
  rw [abc_val _ (Nat.mod_lt _ (by decide)), abc_val _ (Nat.mod_lt _ (by decide))] at h1 h2
  omega
theorem pigeon {α : Type} [DecidableEq α] : ∀ {xs ys : List α}, xs.Nodup → (∀ x ∈ xs, x ∈ ys) → xs.length ≤ ys.length
  | [], ys, _, _ => Nat.zero_le _
  | x :: xs, ys, hn, hs => by
    have hx : x ∈ ys := hs x List.mem_cons_self
    have := pigeon (ys := ys.erase x) (List.nodup_cons.mp hn).2 fun y hy => by
      have hne : y ≠ x := fun e => (List.nodup_cons.mp hn).1 (e ▸ hy)
      exact (List.mem_erase_of_ne hne).mpr (hs y (List.mem_cons_of_mem _ hy))
    rw [List.length_erase_of_mem hx] at this
    have h0 : 0 < ys.length := List.length_pos_of_mem hx
    simp only [List.length_cons]
    omega
def spName : FSp := fun ms Q _ => ∃ (ps : List M) (o : Bool) (ws : List (List Nat)), ms = [.lst true ps, .lst o (ws.map M.str)] ∧ Pok ps ∧ (∀ w ∈ ws, Nm w) ∧ ws.length ≤ 600 ∧ ∀ ps' w, Pok ps' → Nm w → w ∉ ws → Q (.str w) [.lst true ps', .lst o (ws.map M.str)]
theorem r__law_name : List.replicate (N__law_name.length - P__law_name.length) M.hole = [.hole, .hole, .hole, .hole, .hole, .hole] := rfl
theorem o__law_name (a b c d e f g h : M) : outs X__law_name P__law_name.length [a, b, c, d, e, f, g, h] = [a, b] := rfl
theorem any_mem (w : List Nat) : ∀ ws : List (List Nat), ((ws.map M.str).any fun x => eqF x (.str w)) = decide (w ∈ ws)
  | [] => rfl
  | x :: ws => by
    rw [List.map_cons, List.any_cons, any_mem w ws]
    have e : eqF (.str x) (.str w) = decide (w = x) := by
      show (x == w) = _
      by_cases h : w = x
      · subst h; simp
      · rw [decide_eq_false h]; simp; exact fun q => h q.symm
    rw [e]
    by_cases h1 : w = x <;> by_cases h2 : w ∈ ws <;> simp [h1, h2]
theorem all_flat : ∀ ws : List (List Nat), (ws.map M.str).all M.flat = true
  | [] => rfl
  | x :: ws => by rw [List.map_cons, List.all_cons, all_flat ws]; rfl
def name_b : List S := [.ite (.p (.p (.o2 .notin (.var 5) (.var 1)))) [.brk] [], .set 5 (.pu (.o2 .add (.o2 .idx (.var 2) (.o2 .mod (.o1 .toInt (.o2 .fdiv (.var 6) (.int 26))) (.int 26))) (.o2 .idx (.var 2) (.o2 .mod (.o1 .toInt (.var 6)) (.int 26)))))]
theorem abc_idx (i : Nat) (h : i < 26) : atL abc (i : Int) = some (abc.getD i 0) := by
  unfold atL ixL
  have h1 : ((i : Nat) : Int) < (abc.length : Int) := by show (i : Int) < 26; omega
  rw [if_pos (by omega), if_pos h1]
  exact (abc_at i h).1
theorem name_loop (Γ : Gm) (D : Dn) (p l4 : M) (kd : M) (z7 : M) (o : Bool) (ws : List (List Nat)) (hw : ws.length ≤ 600) (k : ∀ w z6, Nm w → w ∉ ws → D.nx [p, .lst o (ws.map M.str), .str abc, l4, kd, .str w, z6, z7]) : ∀ (m j : Nat) (w : List Nat) (z6 : M), Nm w → j + m = 700 → (j = 0 ∨ (w = pw (j - 1) ∧ ∀ i, i < j - 1 → pw i ∈ ws)) →
    forL 6 (semSs Γ name_b) D (rngL (j : Int) 1 m) [p, .lst o (ws.map M.str), .str abc, l4, kd, .str w, z6, z7]
  | 0, j, w, z6, hn, hj, hi => by
    exfalso
    rcases hi with hi | ⟨_, hi⟩
    · omega
    · have := pigeon pw_inj (ys := ws) fun x hx => by
        obtain ⟨i, h1, rfl⟩ := List.mem_map.mp hx
        exact hi i (by have := List.mem_range.mp h1; omega)
      rw [List.length_map, List.length_range] at this
      omega
  | m + 1, j, w, z6, hn, hj, hi => by
    show semSs Γ _ _ _
    refine step fun K hK => ite_step fun KA KB hA hB => ?_
    simp only [semT, evT, evP, gt, yes, M.ok, rcv, o2P, cmpP, M.flat, all_flat, Bool.and_self, any_mem, truM, List.set_cons_succ, List.set_cons_zero]
    cases hc : decide (w ∈ ws) with
    | false =>
      simp only [Bool.not_false]
      subst hA
      exact k w _ hn (of_decide_eq_false hc)
    | true =>
      have hc := of_decide_eq_true hc
      simp only [Bool.not_true]
      subst hB
      show K _
      subst hK
      refine step fun K hK => ?_
      walk_at "ev"
      have e1 : (j : Int) / 26 % 26 = ((j / 26 % 26 : Nat) : Int) := by omega
      have e2 : (j : Int) % 26 = ((j % 26 : Nat) : Int) := by omega
      rw [e1, e2, abc_idx _ (Nat.mod_lt _ (by decide)), abc_idx _ (Nat.mod_lt _ (by decide))]
      rw [show decide (abc.length ≤ sl) = true from by decide]
      refine ⟨by decide, by decide, by decide, ?_⟩
      dsimp only
      refine ⟨by decide, ?_⟩
      rw [show decide (0 + 1 + (0 + 1) ≤ sl) = true from by decide]
      dsimp only
      subst hK
      refine name_loop Γ D p l4 kd z7 o ws hw k m (j + 1) (pw j) _ (pw_nm j) (by omega) (.inr ⟨by simp, fun i hi' => ?_⟩)
      rcases hi with rfl | ⟨rfl, hi⟩
      · omega
      · by_cases h : i = j - 1
        · rw [h]; exact hc
        · exact hi i (by omega)
theorem take_put {w : List Nat} {i : Nat} (h : i < w.length) (c : Nat) : w.take i ++ [c] ++ w.drop (i + 1) = w.set i c := by
  rw [List.set_eq_take_append_cons_drop, if_pos h, List.append_assoc]; rfl
theorem Nm.set {w : List Nat} (h : Nm w) {i c : Nat} (hc : c ∈ abc) : Nm (w.set i c) := ⟨by rw [List.length_set]; exact h.1, by rw [List.length_set]; exact h.2.1, fun d hd => by
  rcases List.mem_or_eq_of_mem_set hd with q | q
  · exact h.2.2 d q
  · rw [q]; exact hc⟩
theorem row_loop2 (Γ : Gm) (hD : Γ.fs "_law_draw" = spDraw) (D : Dn) (u l4 kd z7 : M) : ∀ (m : Nat) (j : Int) (ps : List M) (w : List Nat) (z6 : M), Pok ps → w.length + m ≤ 8 → (∀ c ∈ w, c ∈ abc) → (m = 0 → 1 ≤ w.length) →
    (∀ ps' w z6, Pok ps' → Nm w → D.nx [.lst true ps', u, .str abc, l4, kd, .str w, z6, z7]) →
    forL 6 (semSs Γ [.set 5 (.o2 .add (.v (.var 5)) (.e (.o2 .idx (.v (.var 2)) (.e (.call "_law_draw" [.r 0, .e (.pu (.int 26))])))))]) D (rngL j 1 m) [.lst true ps, u, .str abc, l4, kd, .str w, z6, z7]
  | 0, j, ps, w, z6, hp, hl, hm, h1, k => k ps w z6 hp ⟨h1 rfl, by omega, hm⟩
  | m + 1, j, ps, w, z6, hp, hl, hm, h1, k => by
    show semSs Γ _ _ _
    refine step fun K hK => ?_
    walk_at "ev"
    rw [hD]
    refine ⟨trivial, trivial, _, _, rfl, hp, by decide, fun ps1 i hp1 h0 h26 => ?_⟩
    walk_at "ev"
    obtain ⟨x, e, hx⟩ := at_nat (xs := abc) h0 h26
    rw [show decide (abc.length ≤ sl) = true from by decide, e]
    dsimp only
    rw [slb (n := w.length + (0 + 1)) (by omega)]
    dsimp only
    subst hK
    refine row_loop2 Γ hD D u l4 kd z7 m (j + 1) ps1 (w ++ [x]) _ hp1 (by rw [List.length_append, List.length_singleton]; omega) (fun c hc => ?_) (fun _ => by rw [List.length_append, List.length_singleton]; omega) k
    rcases List.mem_append.mp hc with q | q
    · exact hm c q
    · rw [List.mem_singleton.mp q]; exact hx
theorem row_loop3 (Γ : Gm) (hD : Γ.fs "_law_draw" = spDraw) (D : Dn) (u l2 l4 kd z7 : M) : ∀ (m : Nat) (j : Int) (ps : List M) (w : List Nat) (z6 : M), Pok ps → w.length + m ≤ 8 → (∀ c ∈ w, c ∈ abc) → (m = 0 → 1 ≤ w.length) →
    (∀ ps' w z6, Pok ps' → Nm w → D.nx [.lst true ps', u, l2, l4, kd, .str w, z6, z7]) →
    forL 6 (semSs Γ [.set 5 (.o2 .add (.v (.var 5)) (.e (.o2 .idx (.v (.str [97, 98])) (.e (.call "_law_draw" [.r 0, .e (.pu (.int 2))])))))]) D (rngL j 1 m) [.lst true ps, u, l2, l4, kd, .str w, z6, z7]
  | 0, j, ps, w, z6, hp, hl, hm, h1, k => k ps w z6 hp ⟨h1 rfl, by omega, hm⟩
  | m + 1, j, ps, w, z6, hp, hl, hm, h1, k => by
    show semSs Γ _ _ _
    refine step fun K hK => ?_
    walk_at "ev"
    rw [hD]
    refine ⟨trivial, trivial, _, _, rfl, hp, by decide, fun ps1 i hp1 h0 h26 => ?_⟩
    walk_at "ev"
    obtain ⟨x, e, hx⟩ := at_nat (xs := [97, 98]) h0 h26
    have hx : x ∈ abc := by
      have : ∀ x ∈ ([97, 98] : List Nat), x ∈ abc := by decide
      exact this x hx
    rw [show decide (0 + 1 + 1 ≤ sl) = true from by decide, e]
    dsimp only
    rw [slb (n := w.length + (0 + 1)) (by omega)]
    dsimp only
    subst hK
    refine row_loop3 Γ hD D u l2 l4 kd z7 m (j + 1) ps1 (w ++ [x]) _ hp1 (by rw [List.length_append, List.length_singleton]; omega) (fun c hc => ?_) (fun _ => by rw [List.length_append, List.length_singleton]; omega) k
    rcases List.mem_append.mp hc with q | q
    · exact hm c q
    · rw [List.mem_singleton.mp q]; exact hx
end V
set_option Elab.async false
set_option linter.all false
set_option maxRecDepth 100000
set_option maxHeartbeats 4000000
namespace V
open PySem PySem.Spec PyProof.Rows L2 Q
local macro_rules | `(tactic| walk_at "ev") => `(tactic| simp only [at_0, at_1, ix_0, ix_1, semSs, semS, semT, semE, semA, semEs, semGs, semI, evT, evP, evO, evTs, evS, o1E, o1P, o2E, o2P, cmpP, ixP, oLen, truM, sliceE, muE, setIx, gt, yes, M.ok, M.fz, fzL, M.isS, M.isL, rcv, asI, asB, fillG, backG, lentOk, agI, pVar, itemsK, itemsOf, rngL, at1, put1, atP, putP, scl, eqF, List.map_cons, List.map_nil, List.length_cons, List.length_nil, List.length_map, List.cons_append, List.nil_append, List.set_cons_zero, List.set_cons_succ, Bool.and_true, Bool.true_and, List.all_cons, List.all_nil, List.append_nil])
def nms : List (List Nat) := [[112, 97, 116, 116, 101, 114, 110], [115, 105, 122, 101, 115], [99, 108, 111, 116, 104], [112, 105, 101, 99, 101], [110, 111, 116, 99, 104], [115, 101, 97, 109], [111, 118, 101, 114], [108, 101, 110, 103, 116, 104], [116, 105, 101], [111, 112, 101, 110, 105, 110, 103], [112, 108, 97, 105, 110], [116, 117, 114, 110, 101, 100], [104, 97, 110, 100], [117, 112], [100, 111, 119, 110], [102, 114, 101, 101], [114, 105, 103, 104, 116], [119, 114, 111, 110, 103], [102, 108, 97, 116], [102, 111, 108, 100], [97], [122], [122, 122], [122, 122, 122, 122, 122, 122, 122, 122]]
theorem nms_nm : ∀ w ∈ nms, Nm w := by
  have : nms.all isNm = true := by decide +kernel
  exact fun w hw => Nm.of (List.all_eq_true.mp this w hw)
theorem name_ok (Γ : Gm) (hD : Γ.fs "_law_draw" = spDraw) (ms : List M) (Q : M → List M → Prop) (X : Exc → List M → Prop) (h : spName ms Q X) : spOf Γ N__law_name.length P__law_name.length X__law_name S__law_name ms Q X := by
  obtain ⟨ps, o, ws, rfl, hp, hw, hl, hq⟩ := h
  refine ⟨rfl, ?_⟩
  rw [r__law_name]
  refine step fun K hK => ?_
  walk_at "ev"
  subst hK
  refine step fun K hK => ?_
  walk_at "ev"
  rw [show ∀ n : Nat, decide (n ≤ sl) = decide (n ≤ 16777216) from fun _ => rfl]
  simp only [Nat.zero_add, Nat.reduceAdd, Nat.reduceLeDiff, decide_true]
  subst hK
  refine step fun K hK => ?_
  walk_at "ev"
  rw [show ∀ n : Nat, decide (n ≤ sl) = decide (n ≤ 16777216) from fun _ => rfl]
  simp only [Nat.zero_add, Nat.reduceAdd, Nat.reduceLeDiff, decide_true]
  refine ⟨by decide, ?_⟩
  subst hK
  show semSs Γ _ _ [.lst true ps, .lst o (ws.map M.str), .str abc, .lst true (nms.map M.str), .hole, .hole, .hole, .hole]
  generalize hW : M.lst true (nms.map M.str) = W
  refine step fun K hK => ?_
  walk_at "ev"
  rw [hD]
  refine ⟨trivial, trivial, _, _, rfl, hp, by decide, fun ps1 kd hp1 _ _ => ?_⟩
  walk_at "ev"
  subst hK
  refine step fun K hK => ?_
  walk_at "ev"
  subst hK
  refine step fun K hK => ?_
  have fin : ∀ ps w z6 z7, Pok ps → Nm w → K [.lst true ps, .lst o (ws.map M.str), .str abc, W, .int kd, .str w, z6, z7] := fun ps w z6 z7 hp hn => by
    subst hK
    refine step fun K hK => for_rng fun BB hB => ?_
    walk_at "ev"
    refine ⟨by decide, by decide, ?_⟩
    rw [hB]
    refine name_loop Γ _ _ _ _ _ o ws hl (fun w z6 h1 h2 => ?_) 700 0 w z6 hn rfl (.inl rfl)
    subst hK
    refine step fun K hK => ?_
    walk_at "ev"
    rw [o__law_name]
    exact hq _ _ hp h1 h2
  clear hK
  have hlen : ((ws.map M.str).length : Int) = (ws.length : Int) := by rw [List.length_map]
  refine ite_step fun KA KB hA hB => ?_
  walk_at "ev"
  cases c1 : (kd == 0 : Bool) && decide (0 < (ws.length : Int)) with
  | true =>
    obtain ⟨e1, e2⟩ := Bool.and_eq_true_iff.mp c1
    rw [e1]; dsimp only; rw [e2]; dsimp only
    subst hA
    have hpos : 0 < (ws.length : Int) := of_decide_eq_true e2
    refine step fun K1 hK1 => ?_
    walk_at "ev"
    rw [hD]
    refine ⟨trivial, trivial, _, _, rfl, hp1, hpos, fun ps2 i hp2 h0 h1 => ?_⟩
    walk_at "ev"
    obtain ⟨x, e, hx⟩ := at_nat (xs := ws.map M.str) h0 (by rw [List.length_map]; exact h1)
    obtain ⟨w, hxw, rfl⟩ := List.mem_map.mp hx
    have hn := hw w hxw
    rw [e]
    dsimp only
    subst hK1
    refine step fun K1 hK1 => ?_
    walk_at "ev"
    rw [slb (n := w.length) (by have := hn.2.1; omega)]
    dsimp only
    rw [hD]
    refine ⟨trivial, trivial, _, _, rfl, hp2, by have := hn.1; omega, fun ps3 j hp3 j0 j1 => ?_⟩
    walk_at "ev"
    subst hK1
    refine step fun K1 hK1 => ?_
    walk_at "ev"
    rw [slb (n := w.length) (by have := hn.2.1; omega), cut_take w j0]
    dsimp only
    rw [hD]
    refine ⟨trivial, trivial, _, _, rfl, hp3, by decide, fun ps4 m hp4 m0 m1 => ?_⟩
    walk_at "ev"
    obtain ⟨x, e, hx⟩ := at_nat (xs := abc) m0 m1
    rw [show decide (abc.length ≤ sl) = true from by decide, e]
    dsimp only
    rw [slb (n := (w.take j.toNat).length + (0 + 1)) (by rw [List.length_take]; have := hn.2.1; omega)]
    dsimp only
    rw [slb (n := w.length) (by have := hn.2.1; omega)]
    dsimp only
    rw [cut_drop w (show 0 ≤ j + 1 by omega)]
    rw [slb (n := (w.take j.toNat ++ [x]).length + (w.drop (j + 1).toNat).length) (by rw [List.length_append, List.length_take, List.length_drop, List.length_singleton]; have := hn.2.1; omega)]
    dsimp only
    have ej : (j + 1).toNat = j.toNat + 1 := by omega
    rw [ej, take_put (by omega)]
    subst hK1
    exact fin _ _ _ _ hp4 (hn.set hx)
  | false =>
    have stepB : KB [.lst true ps1, .lst o (ws.map M.str), .str abc, W, .int kd, .str [], .hole, .hole] := by
      subst hB
      refine step fun K1 hK1 => ite_step fun KA KB hA hB => ?_
      rw [← (show K1 = K from hK1)] at fin
      walk_at "ev"
      cases c2 : (kd == 1 : Bool) && decide (0 < (ws.length : Int)) with
      | true =>
        obtain ⟨e1, e2⟩ := Bool.and_eq_true_iff.mp c2
        rw [e1]; dsimp only; rw [e2]; dsimp only
        subst hA
        have hpos : 0 < (ws.length : Int) := of_decide_eq_true e2
        refine step fun K1' hK1 => ?_
        walk_at "ev"
        rw [hD]
        refine ⟨trivial, trivial, _, _, rfl, hp1, hpos, fun ps2 i hp2 h0 h1 => ?_⟩
        walk_at "ev"
        obtain ⟨x, e, hx⟩ := at_nat (xs := ws.map M.str) h0 (by rw [List.length_map]; exact h1)
        obtain ⟨w, hxw, rfl⟩ := List.mem_map.mp hx
        have hn := hw w hxw
        rw [e]
        dsimp only
        refine ⟨trivial, trivial, _, _, rfl, hp2, by decide, fun ps4 m hp4 m0 m1 => ?_⟩
        walk_at "ev"
        obtain ⟨x, e, hx⟩ := at_nat (xs := abc) m0 m1
        rw [show decide (abc.length ≤ sl) = true from by decide, e]
        dsimp only
        rw [slb (n := w.length + (0 + 1)) (by have := hn.2.1; omega)]
        dsimp only
        rw [slb (n := (w ++ [x]).length) (by rw [List.length_append, List.length_singleton]; have := hn.2.1; omega), cut_take _ (by decide)]
        dsimp only
        subst hK1
        refine fin _ _ _ _ hp4 ⟨?_, ?_, fun c hc => ?_⟩
        · rw [List.length_take, List.length_append, List.length_singleton]; have := hn.1; have : (8 : Int).toNat = 8 := rfl; omega
        · rw [List.length_take]; have : (8 : Int).toNat = 8 := rfl; omega
        · rcases List.mem_append.mp (List.mem_of_mem_take hc) with q | q
          · exact hn.2.2 c q
          · rw [List.mem_singleton.mp q]; exact hx
      | false =>
        have stepC : KB [.lst true ps1, .lst o (ws.map M.str), .str abc, W, .int kd, .str [], .hole, .hole] := by
          subst hB
          refine step fun K2 hK2 => ite_step fun KA KB hA hB => ?_
          rw [← (show K2 = K1 from hK2)] at fin
          walk_at "ev"
          cases c3 : (kd == 2 : Bool) with
          | true =>
            dsimp only
            subst hA
            refine step fun K1 hK1 => ?_
            subst hW
            walk_at "ev"
            rw [hD]
            refine ⟨trivial, trivial, _, _, rfl, hp1, by decide, fun ps2 i hp2 h0 h1 => ?_⟩
            walk_at "ev"
            obtain ⟨x, e, hx⟩ := at_nat (xs := nms.map M.str) h0 h1
            obtain ⟨w, hxw, rfl⟩ := List.mem_map.mp hx
            rw [e]
            dsimp only
            subst hK1
            exact fin _ _ _ _ hp2 (nms_nm w hxw)
          | false =>
            dsimp only
            subst hB
            refine step fun K3 hK3 => ite_step fun KA KB hA hB => ?_
            rw [← (show K3 = K2 from hK3)] at fin
            walk_at "ev"
            cases c4 : (kd == 3 : Bool) with
            | true =>
              dsimp only
              subst hA
              refine step fun K1 hK1 => for_rng fun BB hB => ?_
              walk_at "ev"
              rw [hD]
              refine ⟨trivial, trivial, _, _, rfl, hp1, by decide, fun ps2 i hp2 h0 h1 => ?_⟩
              walk_at "ev"
              refine ⟨by omega, by omega, ?_⟩
              rw [hB]
              refine row_loop3 Γ hD _ _ _ _ _ _ _ 0 ps2 [] _ hp2 (by simp only [List.length_nil]; omega) (fun c hc => by cases hc) (fun h => by omega) fun ps w z6 h1 h2 => ?_
              subst hK1
              exact fin _ _ _ _ h1 h2
            | false =>
              dsimp only
              subst hB
              refine step fun K1 hK1 => for_rng fun BB hB => ?_
              walk_at "ev"
              rw [hD]
              refine ⟨trivial, trivial, _, _, rfl, hp1, by decide, fun ps2 i hp2 h0 h1 => ?_⟩
              walk_at "ev"
              refine ⟨by omega, by omega, ?_⟩
              rw [hB]
              refine row_loop2 Γ hD _ _ _ _ _ _ 0 ps2 [] _ hp2 (by simp only [List.length_nil]; omega) (fun c hc => by cases hc) (fun h => by omega) fun ps w z6 h1 h2 => ?_
              subst hK1
              exact fin _ _ _ _ h1 h2
        cases c5 : (kd == 1 : Bool) with
        | true => rw [c5] at c2; rw [Bool.true_and] at c2; rw [c2]; exact stepC
        | false => exact stepC
    cases c5 : (kd == 0 : Bool) with
    | true => rw [c5] at c1; rw [Bool.true_and] at c1; rw [c1]; exact stepB
    | false => exact stepB
end V
set_option Elab.async false
set_option linter.all false
set_option maxRecDepth 100000
set_option maxHeartbeats 4000000
namespace V
open PySem PySem.Spec PyProof.Rows L2 Q
local macro_rules | `(tactic| walk_at "ev") => `(tactic| simp only [at_0, at_1, ix_0, ix_1, semSs, semS, semT, semE, semA, semEs, semGs, semI, evT, evP, evO, evTs, evS, o1E, o1P, o2E, o2P, cmpP, ixP, oLen, truM, sliceE, muE, setIx, gt, yes, M.ok, M.fz, fzL, M.isS, M.isL, rcv, asI, asB, fillG, backG, lentOk, agI, pVar, itemsK, itemsOf, rngL, at1, put1, atP, putP, scl, eqF, List.map_cons, List.map_nil, List.length_cons, List.length_nil, List.length_map, List.cons_append, List.nil_append, List.set_cons_zero, List.set_cons_succ, Bool.and_true, Bool.true_and, List.all_cons, List.all_nil, List.append_nil])
/-! _law_forms -/
def N__law_forms : List Str := [("forms" : Str), ("more" : Str), ("word" : Str)]
def P__law_forms : List Str := []
def X__law_forms : List Nat := []
def S__law_forms : List S := [
  .set 0 (.dS [[114, 101, 97, 99, 104], [101, 97, 115, 101], [109, 97, 110, 110, 101, 114], [115, 105, 100, 101], [115, 101, 97, 109], [117, 110, 115, 101, 97, 109], [111, 118, 101, 114]] [[110, 110], [110, 110, 110], [110], [110], [110, 119, 110, 110, 119, 119, 110, 110, 110], [110], [110, 110, 110]]),
  .set 1 (.dS [[117, 110, 111, 118, 101, 114], [116, 105, 101], [117, 110, 116, 105, 101], [110, 111, 116, 99, 104], [108, 101, 110, 103, 116, 104], [117, 110, 108, 101, 110, 103, 116, 104], [103, 105, 114, 116, 104]] [[110], [110, 110, 110, 110, 110, 110], [110], [110, 110], [110, 110, 110, 110], [110], [110, 110, 110]]),
  .copyD 0 1 2,
  .sti 0 [] (.str [99, 108, 111, 116, 104]) (.pu (.str [110])),
  .ret (.mv 0)]
def F__law_forms : List (String × Str) := []
/-! _law_value -/
def N__law_value : List Str := [("word" : Str), ("digits" : Str), ("total" : Str), ("sign" : Str), ("at" : Str)]
def P__law_value : List Str := [("word" : Str)]
def X__law_value : List Nat := [0]
def S__law_value : List S := [
  .set 1 (.pu (.var 0)),
  .ite (.p (.p (.o2 .startswith (.var 0) (.str [45])))) [.set 1 (.pu (.slS (.var 0) (some (.int 1)) none))] [],
  .set 2 (.pu (.int 0)),
  .for_ 3 (.vw 1) [.set 4 (.pu (.o2 .find (.str [48, 49, 50, 51, 52, 53, 54, 55, 56, 57]) (.var 3))), .ite (.p (.p (.o2 .lt (.var 4) (.int 0)))) [.ret (.pu .non)] [], .set 2 (.pu (.o2 .add (.o2 .mul (.var 2) (.int 10)) (.var 4)))],
  .ite (.p (.or (.p (.o2 .eq (.o1 .len (.var 1)) (.int 0))) (.or (.p (.o2 .gt (.o1 .len (.var 1)) (.int 4))) (.and (.p (.o2 .eq (.o2 .idx (.var 1) (.int 0)) (.str [48]))) (.p (.o2 .ne (.var 0) (.str [48]))))))) [.ret (.pu .non)] [],
  .ite (.p (.p (.o2 .ne (.var 1) (.var 0)))) [.ret (.pu (.o2 .sub (.int 0) (.var 2)))] [],
  .ret (.pu (.var 2))]
def F__law_value : List (String × Str) := []
/-! the forms of the edits -/
def forms : List (List Nat × List Nat) := [([114, 101, 97, 99, 104], [110, 110]), ([101, 97, 115, 101], [110, 110, 110]), ([109, 97, 110, 110, 101, 114], [110]), ([115, 105, 100, 101], [110]), ([115, 101, 97, 109], [110, 119, 110, 110, 119, 119, 110, 110, 110]), ([117, 110, 115, 101, 97, 109], [110]), ([111, 118, 101, 114], [110, 110, 110]), ([117, 110, 111, 118, 101, 114], [110]), ([116, 105, 101], [110, 110, 110, 110, 110, 110]), ([117, 110, 116, 105, 101], [110]), ([110, 111, 116, 99, 104], [110, 110]), ([108, 101, 110, 103, 116, 104], [110, 110, 110, 110]), ([117, 110, 108, 101, 110, 103, 116, 104], [110]), ([103, 105, 114, 116, 104], [110, 110, 110]), ([99, 108, 111, 116, 104], [110])]
def formsM : M := .dK true (forms.map fun p => Sum.inr p.1) (forms.map fun p => .str p.2)
def spForms : FSp := fun ms Q _ => ms = [] ∧ Q formsM []
theorem r__law_forms : List.replicate (N__law_forms.length - P__law_forms.length) M.hole = [.hole, .hole, .hole] := rfl
theorem o__law_forms (a b c : M) : outs X__law_forms P__law_forms.length [a, b, c] = [] := rfl
theorem forms_ok (Γ : Gm) (ms : List M) (Q : M → List M → Prop) (X : Exc → List M → Prop) (h : spForms ms Q X) : spOf Γ N__law_forms.length P__law_forms.length X__law_forms S__law_forms ms Q X := by
  obtain ⟨rfl, hq⟩ := h
  refine ⟨rfl, ?_⟩
  rw [r__law_forms]
  refine step fun K hK => ?_
  simp only [semS, semE]
  rw [show (decide _ && decide _ && decide _ : Bool) = true from by decide +kernel]
  simp only [yes]
  subst hK
  refine step fun K hK => ?_
  simp only [semS, semE]
  rw [show (decide _ && decide _ && decide _ : Bool) = true from by decide +kernel]
  simp only [yes]
  subst hK
  refine step fun K hK => ?_
  show _ ∧ _ ∧ K _
  refine ⟨by decide +kernel, by decide +kernel, ?_⟩
  subst hK
  refine step fun K hK => ?_
  show ∃ k, keyM _ = some k ∧ _ < sl ∧ K _
  refine ⟨_, rfl, by decide +kernel, ?_⟩
  subst hK
  refine step fun K hK => ?_
  exact hq
/-! the value of a signed word -/
def spSgnV := spSgn
theorem r__law_value : List.replicate (N__law_value.length - P__law_value.length) M.hole = [.hole, .hole, .hole, .hole] := rfl
theorem o__law_value (a b c d e : M) : outs X__law_value P__law_value.length [a, b, c, d, e] = [a] := rfl
abbrev dv (t : Nat) (l : List Nat) : Nat := l.foldl (fun acc c => acc * 10 + (c - 48)) t
theorem dig_le {c : Nat} (h : c ∈ dig) : 48 ≤ c ∧ c ≤ 57 := by
  have h2 : ∀ c ∈ dig, 48 ≤ c ∧ c ≤ 57 := by decide +kernel
  exact h2 c h
theorem dv_le : ∀ (l : List Nat) (t : Nat), t ≤ dv t l
  | [], t => Nat.le_refl _
  | c :: l, t => Nat.le_trans (by omega) (dv_le l (t * 10 + (c - 48)))
theorem sval_loop (Γ : Gm) (D : Dn) (w0 : M) (w : List Nat) : ∀ (l : List Nat) (t k : Nat) (z2 z3 : M), (∀ c ∈ l, c < 128) → k + l.length ≤ 900 → t < 2 ^ (4 * k + 1) → (dgs l = true → ∀ z2 z3, D.nx [w0, .str w, .int ((dv t l : Nat) : Int), z2, z3]) → (dgs l = false → ∀ t z2 z3, D.rt .non [w0, .str w, t, z2, z3]) →
    forV 1 3 (.str w) (semSs Γ [.set 4 (.pu (.o2 .find (.str [48, 49, 50, 51, 52, 53, 54, 55, 56, 57]) (.var 3))), .ite (.p (.p (.o2 .lt (.var 4) (.int 0)))) [.ret (.pu .non)] [], .set 2 (.pu (.o2 .add (.o2 .mul (.var 2) (.int 10)) (.var 4)))]) D (l.map fun c => .str [c]) [w0, .str w, .int (t : Int), z2, z3]
  | [], t, k, z2, z3, _, _, _, h1, h2 => ⟨rfl, h1 rfl z2 z3⟩
  | c :: l, t, k, z2, z3, hs, hk, ht, h1, h2 => by
    refine ⟨rfl, ?_⟩
    have ha := fnd_dig c (hs c List.mem_cons_self)
    refine step fun K hK => ?_
    walk_at "ev"
    have ha' : fnd [c] 0 [48, 49, 50, 51, 52, 53, 54, 55, 56, 57] = if c ∈ dig then some (c - 48) else none := ha
    simp only [List.isEmpty_cons, Bool.not_false]
    rw [ha']
    subst hK
    by_cases hc : c ∈ dig
    · rw [if_pos hc]
      dsimp only
      obtain ⟨c1, c2⟩ := dig_le hc
      refine step fun K hK => ?_
      walk_at "ev"
      rw [show decide (((c - 48 : Nat) : Int) < 0) = false from decide_eq_false (by omega)]
      dsimp only
      subst hK
      refine step fun K hK => ?_
      walk_at "ev"
      have lt1 : t.log2 < 4000 := by
        by_cases h0 : t = 0
        · rw [h0]; decide
        · exact (Nat.log2_lt h0).mpr (Nat.lt_of_lt_of_le ht (Nat.pow_le_pow_right (by decide) (by simp only [List.length_cons] at hk; omega)))
      refine ⟨?_, ?_⟩
      · rw [Int.natAbs_natCast]
        have l4 : (10 : Int).natAbs.log2 < 64 := by decide
        omega
      subst hK
      have e : (t : Int) * 10 + ((c - 48 : Nat) : Int) = ((t * 10 + (c - 48) : Nat) : Int) := by omega
      rw [e]
      simp only [List.length_cons] at hk
      refine sval_loop Γ D w0 w l (t * 10 + (c - 48)) (k + 1) _ _ (fun x hx => hs x (List.mem_cons_of_mem _ hx)) (by omega) ?_ (fun h => h1 ?_) (fun h => h2 ?_)
      · have e2 : 2 ^ (4 * (k + 1) + 1) = 16 * 2 ^ (4 * k + 1) := by
          rw [show 4 * (k + 1) + 1 = 4 + (4 * k + 1) by omega, Nat.pow_add]
        have e3 : 2 ≤ 2 ^ (4 * k + 1) := by
          rw [Nat.pow_succ]
          have := Nat.one_le_two_pow (n := 4 * k)
          omega
        omega
      · unfold dgs; rw [List.all_cons, decide_eq_true hc]; exact h
      · unfold dgs; rw [List.all_cons, decide_eq_true hc]; exact h
    · rw [if_neg hc]
      dsimp only
      refine step fun K hK => ?_
      walk_at "ev"
      rw [show decide ((-1 : Int) < 0) = true from rfl]
      dsimp only
      exact h2 (by unfold dgs; rw [List.all_cons, decide_eq_false hc]; rfl) _ _ _
theorem pre_45 (w : List Nat) : pre [45] w = (w.take 1 == [45]) := rfl
/-- the value of the digits alone, as the law tells it -/
theorem valN_bad {w : List Nat} (h : dgs w = false) : valN w = -1 := by
  unfold valN; rw [h]; simp
theorem valN_cons {c : Nat} {r : List Nat} (ha : dgs (c :: r) = true) (h4 : (c :: r).length ≤ 4) : valN (c :: r) = if c = 48 ∧ r ≠ [] then -1 else ((dv 0 (c :: r) : Nat) : Int) := by
  unfold valN
  rw [show decide ((c :: r).length ≤ 4) = true from decide_eq_true h4, show decide (1 ≤ (c :: r).length) = true from decide_eq_true (by simp), ha]
  show (if _ then ((dv 0 (c :: r) : Nat) : Int) else -1) = _
  generalize dv 0 (c :: r) = v
  by_cases h1 : c = 48 <;> cases r <;> simp [h1]
theorem valN_long {w : List Nat} (h : 4 < w.length) : valN w = -1 := by
  unfold valN
  rw [show decide (w.length ≤ 4) = false from decide_eq_false (by omega)]
  simp
theorem sval_ok (Γ : Gm) (ms : List M) (Q : M → List M → Prop) (X : Exc → List M → Prop) (h : spSgn ms Q X) : spOf Γ N__law_value.length P__law_value.length X__law_value S__law_value ms Q X := by
  obtain ⟨w, rfl, ⟨h1, h2⟩, hq⟩ := h
  refine ⟨rfl, ?_⟩
  rw [r__law_value]
  have hsl := slb (n := w.length) (by omega)
  refine step fun K hK => ?_
  walk_at "ev"
  subst hK
  refine step fun K hK => ite_step fun KA KB hA hB => ?_
  walk_at "ev"
  rw [pre_45]
  -- the rest, for digits d
  have rest : ∀ (d : List Nat), (d = w ∨ (w = 45 :: d)) → (dgs d = false → Q .non [.str w]) → ((d = [] ∨ 4 < d.length ∨ (d.head? = some 48 ∧ w ≠ [48])) → Q .non [.str w]) → (d ≠ w → Q (.int (0 - (dv 0 d : Nat))) [.str w] ∨ ¬ (dgs d = true ∧ d ≠ [] ∧ d.length ≤ 4 ∧ ¬ (d.head? = some 48 ∧ w ≠ [48]))) → (d = w → Q (.int (dv 0 d : Nat)) [.str w] ∨ ¬ (dgs d = true ∧ d ≠ [] ∧ d.length ≤ 4 ∧ ¬ (d.head? = some 48 ∧ w ≠ [48]))) → K [.str w, .str d, .hole, .hole, .hole] := by
    intro d hd q1 q2 q3 q4
    have hdl : d.length ≤ w.length := by
      rcases hd with rfl | rfl
      · exact Nat.le_refl _
      · simp
    have hd128 : ∀ c ∈ d, c < 128 := by
      rcases hd with rfl | rfl
      · exact h2
      · exact fun c hc => h2 c (List.mem_cons_of_mem _ hc)
    have hsd := slb (n := d.length) (by omega)
    subst hK
    refine step fun K hK => ?_
    walk_at "ev"
    subst hK
    refine step fun K hK => for_vw fun BB hB => ?_
    walk_at "ev"
    rw [hB]
    refine sval_loop Γ _ (.str w) d d 0 0 _ _ hd128 (by omega) (by decide) (fun ha z2 z3 => ?_) (fun ha t z2 z3 => q1 ha)
    dsimp only
    subst hK
    refine step fun K hK => ite_step fun KA KB hA hB => ?_
    walk_at "ev"
    rw [hsd]
    dsimp only
    have bad : (d = [] ∨ 4 < d.length ∨ (d.head? = some 48 ∧ w ≠ [48])) → KA [.str w, .str d, .int ((dv 0 d : Nat) : Int), z2, z3] := fun h => by
      subst hA
      exact q2 h
    have good : d ≠ [] → d.length ≤ 4 → ¬ (d.head? = some 48 ∧ w ≠ [48]) → KB [.str w, .str d, .int ((dv 0 d : Nat) : Int), z2, z3] := fun g1 g2 g3 => by
      subst hB
      show K _
      subst hK
      refine step fun K hK => ite_step fun KA KB hA hB => ?_
      walk_at "ev"
      cases c1 : (d == w) with
      | true =>
        have e : d = w := by simpa using c1
        simp only [Bool.not_true]
        subst hB
        show K _
        subst hK
        refine (q4 e).resolve_right fun q => q ⟨ha, g1, g2, g3⟩
      | false =>
        have e : d ≠ w := by simpa using c1
        simp only [Bool.not_false]
        subst hA
        refine (q3 e).resolve_right fun q => q ⟨ha, g1, g2, g3⟩
    cases d with
    | nil => exact bad (.inl rfl)
    | cons c r =>
    have e0 : ((((c :: r).length : Nat) : Int) == 0) = false := beq_eq_false_iff_ne.mpr (by simp only [List.length_cons]; omega)
    rw [e0]
    dsimp only
    cases p1 : decide ((4 : Int) < ((c :: r).length : Nat)) with
    | true =>
      dsimp only
      have := of_decide_eq_true p1
      exact bad (.inr (.inl (by omega)))
    | false =>
      have k1 := of_decide_eq_false p1
      dsimp only
      rw [at_0]
      dsimp only
      cases p2 : ([c] == ([48] : List Nat)) with
      | true =>
        have ec : c = 48 := by simpa using p2
        dsimp only
        cases p3 : (w == ([48] : List Nat)) with
        | true =>
          have ew : w = [48] := by simpa using p3
          simp only [Bool.not_true]
          exact good (by simp) (by omega) fun q => q.2 ew
        | false =>
          have ew : w ≠ [48] := by simpa using p3
          simp only [Bool.not_false]
          exact bad (.inr (.inr ⟨by simp [ec], ew⟩))
      | false =>
        have ec : ¬ c = 48 := by simpa using p2
        dsimp only
        exact good (by simp) (by omega) fun q => ec (by simpa using q.1)
  unfold sgN at hq
  cases c1 : (w.take 1 == ([45] : List Nat)) with
  | true =>
    have e1 : w.take 1 = [45] := by simpa using c1
    rw [if_pos e1] at hq
    dsimp only
    subst hA
    obtain ⟨d, rfl⟩ : ∃ d, w = 45 :: d := by
      cases w with
      | nil => cases e1
      | cons c d => simp at e1; exact ⟨d, by rw [e1]⟩
    refine step fun K2 hK2 => ?_
    walk_at "ev"
    rw [show decide (d.length + 1 ≤ sl) = true from hsl, cut_2]
    dsimp only
    subst hK2
    show K _
    have ed : (45 :: d).drop 1 = d := rfl
    rw [ed] at hq ⊢
    refine rest d (.inr rfl) (fun h => ?_) (fun h => ?_) (fun _ => ?_) (fun h => ?_)
    · rw [valN_bad h] at hq; exact hq
    · refine (show valN d < 1 → Q .non _ from fun q => by rw [if_pos q] at hq; exact hq) ?_
      rcases h with rfl | h | ⟨h, _⟩
      · decide
      · rw [valN_long h]; decide
      · cases d with
        | nil => cases h
        | cons c r =>
          have ec : c = 48 := by simpa using h
          subst ec
          by_cases hd : dgs (48 :: r) = true
          · by_cases h4 : (48 :: r).length ≤ 4
            · rw [valN_cons hd h4]
              by_cases hr : r = []
              · rw [hr]; decide
              · rw [if_pos ⟨rfl, hr⟩]; decide
            · rw [valN_long (by omega)]; decide
          · rw [valN_bad (by simpa using hd)]; decide
    · by_cases hg : dgs d = true ∧ d ≠ [] ∧ d.length ≤ 4 ∧ ¬ (d.head? = some 48 ∧ (45 :: d) ≠ [48])
      · left
        obtain ⟨g1, g2, g3, g4⟩ := hg
        cases d with
        | nil => exact (g2 rfl).elim
        | cons c r =>
          have ec : ¬ c = 48 := fun q => g4 ⟨by simp [q], by simp⟩
          have hv := valN_cons g1 g3
          rw [if_neg (fun q => ec q.1)] at hv
          have hc : c ∈ dig := by
            have := List.all_eq_true.mp g1 c List.mem_cons_self
            exact of_decide_eq_true this
          have hc := dig_le hc
          have : 1 ≤ dv 0 (c :: r) := Nat.le_trans (show 1 ≤ 0 * 10 + (c - 48) by omega) (dv_le r _)
          rw [if_neg (by omega), hv] at hq
          rw [show (0 : Int) - ((dv 0 (c :: r) : Nat) : Int) = -((dv 0 (c :: r) : Nat) : Int) by omega]
          exact hq
      · exact .inr hg
    · exfalso
      have := congrArg List.length h
      simp at this
  | false =>
    have e1 : ¬ w.take 1 = [45] := by simpa using c1
    rw [if_neg e1] at hq
    dsimp only
    subst hB
    show K _
    have non : valN w = -1 → Q .non [.str w] := fun q => by rw [if_pos (by omega)] at hq; exact hq
    refine rest w (.inl rfl) (fun h => non (valN_bad h)) (fun h => non ?_) (fun h => (h rfl).elim) (fun _ => ?_)
    · rcases h with rfl | h | ⟨h, hw⟩
      · rfl
      · exact valN_long h
      · cases w with
        | nil => cases h
        | cons c r =>
          have ec : c = 48 := by simpa using h
          subst ec
          by_cases hd : dgs (48 :: r) = true
          · by_cases h4 : (48 :: r).length ≤ 4
            · rw [valN_cons hd h4]
              rw [if_pos ⟨rfl, fun q => hw (by rw [q])⟩]
            · exact valN_long (by omega)
          · exact valN_bad (by simpa using hd)
    · by_cases hg : dgs w = true ∧ w ≠ [] ∧ w.length ≤ 4 ∧ ¬ (w.head? = some 48 ∧ w ≠ [48])
      · left
        obtain ⟨g1, g2, g3, g4⟩ := hg
        cases w with
        | nil => exact (g2 rfl).elim
        | cons c r =>
          have hv := valN_cons g1 g3
          rw [if_neg (fun q => g4 ⟨by simp [q.1], fun z => q.2 (by simpa using (List.cons.inj z).2)⟩)] at hv
          rw [if_neg (by omega), hv] at hq
          exact hq
      · exact .inr hg
end V
set_option Elab.async false
set_option linter.all false
set_option maxRecDepth 100000
set_option maxHeartbeats 4000000
namespace V
open PySem PySem.Spec PyProof.Rows L2 Q
local macro_rules | `(tactic| walk_at "ev") => `(tactic| simp only [at_0, at_1, ix_0, ix_1, semSs, semS, semT, semE, semA, semEs, semGs, semI, evT, evP, evO, evTs, evS, o1E, o1P, o2E, o2P, cmpP, ixP, oLen, truM, sliceE, muE, setIx, gt, yes, M.ok, M.fz, fzL, M.isS, M.isL, rcv, asI, asB, fillG, backG, lentOk, agI, pVar, itemsK, itemsOf, rngL, at1, put1, atP, putP, scl, eqF, List.map_cons, List.map_nil, List.length_cons, List.length_nil, List.length_map, List.cons_append, List.nil_append, List.set_cons_zero, List.set_cons_succ, Bool.and_true, Bool.true_and, List.all_cons, List.all_nil, List.append_nil])
/-! read_edit -/
def N_read_edit : List Str := [("line" : Str), ("words" : Str), ("form" : Str), ("entries" : Str), ("at" : Str), ("word" : Str), ("number" : Str)]
def P_read_edit : List Str := [("line" : Str)]
def X_read_edit : List Nat := [0]
def S_read_edit : List S := [
  .set 1 (.o2s .split (.var 0) (.v (.str [32]))),
  .ite (.p (.p (.o2 .notin (.o2 .idx (.var 1) (.int 0)) (.glb 13)))) [.raise "BadEdit" [(.pu (.str [110, 111, 32, 101, 100, 105, 116, 32, 98, 101, 103, 105, 110, 115, 32, 119, 105, 116, 104, 32, 116, 104, 105, 115, 32, 119, 111, 114, 100]))]] [],
  .set 2 (.pu (.o2 .idx (.glb 13) (.o2 .idx (.var 1) (.int 0)))),
  .ite (.p (.p (.o2 .ne (.o1 .len (.var 1)) (.o2 .add (.o1 .len (.var 2)) (.int 1))))) [.raise "BadEdit" [(.pu (.str [116, 104, 101, 32, 101, 100, 105, 116, 32, 104, 97, 115, 32, 97, 110, 111, 116, 104, 101, 114, 32, 110, 117, 109, 98, 101, 114, 32, 111, 102, 32, 119, 111, 114, 100, 115]))]] [],
  .set 3 (.lst [(.pu (.o2 .idx (.var 1) (.int 0)))]),
  .for_ 4 (.rng [(.pu (.o1 .len (.var 2)))]) [.set 5 (.pu (.o2 .idx (.var 1) (.o2 .add (.var 4) (.int 1)))), .ite (.p (.p (.o2 .eq (.o2 .idx (.var 2) (.var 4)) (.str [110])))) [.set 6 (.call "read_signed" [.e (.pu (.var 5))]), .ite (.p (.p (.o1 .isN (.var 6)))) [.raise "BadEdit" [(.pu (.str [97, 32, 110, 117, 109, 98, 101, 114, 32, 105, 115, 32, 98, 97, 100, 108, 121, 32, 119, 114, 105, 116, 116, 101, 110]))]] [], .ex (.mut .append 3 [] [(.pu (.var 6))])] [.ite (.not (.e (.call "is_name" [.e (.pu (.var 5))]))) [.raise "BadEdit" [(.pu (.str [97, 32, 110, 97, 109, 101, 32, 105, 115, 32, 98, 97, 100, 108, 121, 32, 119, 114, 105, 116, 116, 101, 110]))]] [], .ex (.mut .append 3 [] [(.pu (.var 5))])]],
  .ret (.o1 .tupleOf (.v (.var 3)))]
def F_read_edit : List (String × Str) := [("is_name", ("is_name" : Str)), ("read_signed", ("read_signed" : Str))]
/-! _law_reading -/
def N__law_reading : List Str := [("line" : Str), ("words" : Str), ("form" : Str), ("entries" : Str), ("k" : Str), ("entry" : Str)]
def P__law_reading : List Str := [("line" : Str)]
def X__law_reading : List Nat := [0]
def S__law_reading : List S := [
  .set 1 (.o2s .split (.var 0) (.v (.str [32]))),
  .set 2 (.get2 (.e (.call "_law_forms" [])) (.o2 .idx (.var 1) (.int 0)) (.str [])),
  .ite (.p (.or (.p (.o2 .eq (.var 2) (.str []))) (.p (.o2 .ne (.o1 .len (.var 1)) (.o2 .add (.o1 .len (.var 2)) (.int 1)))))) [.ret (.tup [(.pu (.str [114, 101, 102, 117, 115, 101, 100])), (.pu (.bl true)), (.pu (.bl false))])] [],
  .set 3 (.lst [(.pu (.o2 .idx (.var 1) (.int 0)))]),
  .for_ 4 (.rng [(.pu (.o1 .len (.var 2)))]) [.set 5 (.pu (.o2 .idx (.var 1) (.o2 .add (.var 4) (.int 1)))), .ite (.p (.p (.o2 .eq (.o2 .idx (.var 2) (.var 4)) (.str [110])))) [.set 5 (.call "_law_value" [.e (.pu (.o2 .idx (.var 1) (.o2 .add (.var 4) (.int 1))))]), .ite (.p (.p (.o1 .isN (.var 5)))) [.ret (.tup [(.pu (.str [114, 101, 102, 117, 115, 101, 100])), (.pu (.bl true)), (.pu (.bl false))])] []] [.ite (.not (.e (.call "_law_is_name" [.e (.pu (.var 5))]))) [.ret (.tup [(.pu (.str [114, 101, 102, 117, 115, 101, 100])), (.pu (.bl true)), (.pu (.bl false))])] []], .ex (.mut .append 3 [] [(.pu (.var 5))])],
  .ret (.o1 .tupleOf (.v (.var 3)))]
def F__law_reading : List (String × Str) := [("_law_forms", ("_law_forms" : Str)), ("_law_is_name", ("_law_is_name" : Str)), ("_law_value", ("_law_value" : Str))]
/-! _law_asked -/
def N__law_asked : List Str := [("line" : Str), ("e" : Str)]
def P__law_asked : List Str := [("line" : Str)]
def X__law_asked : List Nat := [0]
def S__law_asked : List S := [
  .tryS [.ret (.call "read_edit" [.e (.pu (.var 0))])] ["SeamError"] (some 1) [.ret (.tup [(.pu (.str [114, 101, 102, 117, 115, 101, 100])), (.pu (.exI 1 ["BadEdit"])), (.pu (.exI 1 ["BadText"]))])]]
def F__law_asked : List (String × Str) := [("read_edit", ("read_edit" : Str))]
/-! write_edit -/
def N_write_edit : List Str := [("edit" : Str), ("entry" : Str)]
def P_write_edit : List Str := [("edit" : Str)]
def X_write_edit : List Nat := [0]
def S_write_edit : List S := [
  .ret (.o2s .join (.str [32]) (.e (.comp 1 (.vw 0) [] (.pu (.o1 .toStr (.var 1))))))]
def F_write_edit : List (String × Str) := []
theorem at_map {ws : List (List Nat)} {j : Nat} (h : j < ws.length) : atL (ws.map M.str) (j : Int) = some (.str ws[j]) := by
  unfold atL ixL
  rw [if_pos (by omega), if_pos (by rw [List.length_map]; omega)]
  show (ws.map M.str)[((j : Nat) : Int).toNat]? = _
  rw [Int.toNat_natCast, List.getElem?_map, List.getElem?_eq_getElem h]; rfl
theorem at_str {ws : List Nat} {j : Nat} (h : j < ws.length) : atL ws (j : Int) = some ws[j] := by
  unfold atL ixL
  rw [if_pos (by omega), if_pos (by omega)]
  show ws[((j : Nat) : Int).toNat]? = _
  rw [Int.toNat_natCast, List.getElem?_eq_getElem h]
/-- the entries behind the first word -/
def rdE : List (List Nat) → List Nat → Option (List M)
  | [], [] => some []
  | w :: ws, c :: cs => if c = 110 then (match sgN w with | .int i => (rdE ws cs).map (.int i :: ·) | _ => none) else if isNm w then (rdE ws cs).map (.str w :: ·) else none
  | _, _ => none
def rdW : List (List Nat) → Option (List M)
  | [] => none
  | w :: ws => match forms.lookup w with
    | some f => (rdE ws f).map (.str w :: ·)
    | none => none
def rd (line : List Nat) : Option (List M) := rdW (spl1 32 [] line)
theorem rdE_len : ∀ (ws : List (List Nat)) (f : List Nat), ws.length ≠ f.length → rdE ws f = none
  | [], [], h => (h rfl).elim
  | [], _ :: _, _ => rfl
  | _ :: _, [], _ => rfl
  | w :: ws, c :: cs, h => by
    have h' := rdE_len ws cs fun q => h (by simp [q])
    simp only [rdE, h', Option.map_none]
    split <;> split <;> rfl
theorem sgN_cases (w : List Nat) : sgN w = .non ∨ ∃ i, sgN w = .int i := by
  unfold sgN
  split <;> split <;> first | exact .inl rfl | exact .inr ⟨_, rfl⟩
theorem spl_wd {c : Nat} {n : Nat} : ∀ (l acc : List Nat), acc.length + l.length ≤ n → (∀ c ∈ acc, c < 128) → (∀ c ∈ l, c < 128) → (∀ w ∈ spl1 c acc l, Wd n w) ∧ (spl1 c acc l).length ≤ l.length + 1 ∧ spl1 c acc l ≠ []
  | [], acc, hl, ha, _ => ⟨fun w hw => by
      rw [List.mem_singleton.mp hw]; exact ⟨by simpa using hl, ha⟩, by simp [spl1], by simp [spl1]⟩
  | x :: l, acc, hl, ha, hc => by
    simp only [List.length_cons] at hl
    simp only [spl1]
    split
    · obtain ⟨h1, h2, _⟩ := spl_wd (c := c) (n := n) l [] (by simp; omega) (fun _ h => by cases h) fun y hy => hc y (List.mem_cons_of_mem _ hy)
      refine ⟨fun w hw => ?_, by simp; omega, by simp⟩
      rcases List.mem_cons.mp hw with q | q
      · rw [q]; exact ⟨by omega, ha⟩
      · exact h1 w q
    · obtain ⟨h1, h2, h3⟩ := spl_wd (c := c) (n := n) l (acc ++ [x]) (by rw [List.length_append, List.length_singleton]; omega) (fun y hy => by
        rcases List.mem_append.mp hy with q | q
        · exact ha y q
        · rw [List.mem_singleton.mp q]; exact hc x List.mem_cons_self) fun y hy => hc y (List.mem_cons_of_mem _ hy)
      exact ⟨h1, by simp; omega, h3⟩
def spRead : FSp := fun ms Q X => ∃ line, ms = [.str line] ∧ Wd 500 line ∧ (∀ es, rd line = some es → Q (.tup es) [.str line]) ∧ (rd line = none → X ("BadEdit", []) [.str line])
theorem r_read_edit : List.replicate (N_read_edit.length - P_read_edit.length) M.hole = [.hole, .hole, .hole, .hole, .hole, .hole] := rfl
theorem o_read_edit (a b c d e f g : M) : outs X_read_edit P_read_edit.length [a, b, c, d, e, f, g] = [a] := rfl
def read_b : List S := [.set 5 (.pu (.o2 .idx (.var 1) (.o2 .add (.var 4) (.int 1)))), .ite (.p (.p (.o2 .eq (.o2 .idx (.var 2) (.var 4)) (.str [110])))) [.set 6 (.call "read_signed" [.e (.pu (.var 5))]), .ite (.p (.p (.o1 .isN (.var 6)))) [.raise "BadEdit" [(.pu (.str [97, 32, 110, 117, 109, 98, 101, 114, 32, 105, 115, 32, 98, 97, 100, 108, 121, 32, 119, 114, 105, 116, 116, 101, 110]))]] [], .ex (.mut .append 3 [] [(.pu (.var 6))])] [.ite (.not (.e (.call "is_name" [.e (.pu (.var 5))]))) [.raise "BadEdit" [(.pu (.str [97, 32, 110, 97, 109, 101, 32, 105, 115, 32, 98, 97, 100, 108, 121, 32, 119, 114, 105, 116, 116, 101, 110]))]] [], .ex (.mut .append 3 [] [(.pu (.var 5))])]]
theorem read_loop (Γ : Gm) (hS : Γ.fs "read_signed" = spSgn) (hN : Γ.fs "is_name" = spIsNm) (hX : Γ.exf "BadEdit" = false) (D : Dn) (line : M) (w0 : List Nat) (ws : List (List Nat)) (f : List Nat) (hw : ∀ w ∈ ws, Wd 900 w) (hl : ws.length = f.length) (hf : f.length ≤ 900) : ∀ (m j : Nat) (acc : List M) (z4 z5 z6 : M), j + m = f.length → acc.length ≤ j + 1 →
    (∀ r, rdE (ws.drop j) (f.drop j) = some r → ∀ z4 z5 z6, D.nx [line, .lst true ((w0 :: ws).map M.str), .str f, .lst true (acc ++ r), z4, z5, z6]) →
    (rdE (ws.drop j) (f.drop j) = none → ∀ en, D.ex ("BadEdit", []) (line :: en)) →
    forL 4 (semSs Γ read_b) D (rngL (j : Int) 1 m) [line, .lst true ((w0 :: ws).map M.str), .str f, .lst true acc, z4, z5, z6]
  | 0, j, acc, z4, z5, z6, hj, ha, k1, k2 => by
    rw [List.drop_eq_nil_of_le (show f.length ≤ j by omega), List.drop_eq_nil_of_le (show ws.length ≤ j by omega)] at k1
    have := k1 [] rfl z4 z5 z6
    rw [List.append_nil] at this
    exact this
  | m + 1, j, acc, z4, z5, z6, hj, ha, k1, k2 => by
    have j1 : j < ws.length := by omega
    have j2 : j < f.length := by omega
    rw [List.drop_eq_getElem_cons j1, List.drop_eq_getElem_cons j2] at k1 k2
    show semSs Γ _ _ _
    refine step fun K hK => ?_
    have ai : atL (List.map M.str (w0 :: ws)) ((j : Int) + 1) = some (.str ws[j]) := by
      have := at_map (ws := w0 :: ws) (j := j + 1) (by simp; omega)
      rw [show (((j + 1 : Nat) : Int)) = (j : Int) + 1 by omega] at this
      exact this
    simp only [semS, semE, evP, gt, yes, M.ok, M.fz, rcv, o2P, ixP, List.set_cons_succ, List.set_cons_zero]
    rw [ai]
    simp only [yes, M.ok, M.fz]
    subst hK
    refine step fun K hK => ite_step fun KA KB hA hB => ?_
    have af := at_str j2
    simp only [semT, evT, evP, gt, yes, M.ok, M.fz, rcv, o2P, cmpP, ixP, List.set_cons_succ, List.set_cons_zero]
    rw [slb (n := f.length) (by omega), af]
    simp only [scl, eqF, truM]
    have hwj : Wd 900 ws[j] := hw _ (List.getElem_mem j1)
    cases hc : ([f[j]] == ([110] : List Nat)) with
    | true =>
      have ec : f[j] = 110 := by simpa using hc
      simp only [rdE, if_pos ec] at k1 k2
      dsimp only
      subst hA
      refine step fun K1 hK1 => ?_
      walk_at "ev"
      rw [hS]
      refine ⟨trivial, trivial, _, rfl, hwj, ?_⟩
      walk_at "ev"
      subst hK1
      refine step fun K1 hK1 => ite_step fun KA KB hA hB => ?_
      rcases sgN_cases ws[j] with e | ⟨i, e⟩
      · rw [e] at k2
        rw [e]
        walk_at "ev"
        subst hA
        refine step fun K2 hK2 => ?_
        walk_at "ev"
        rw [hX]
        exact k2 rfl _
      · rw [e] at k1 k2
        rw [e]
        walk_at "ev"
        subst hB
        show K1 _
        subst hK1
        refine step fun K1 hK1 => ?_
        walk_at "ev"
        refine ⟨slp (by omega), ?_⟩
        subst hK1
        show K _
        subst hK
        refine read_loop Γ hS hN hX D line w0 ws f hw hl hf m (j + 1) (acc ++ [.int i]) _ _ _ (by omega) (by rw [List.length_append, List.length_singleton]; omega) (fun r hr => ?_) fun hr => k2 (by rw [hr]; rfl)
        have := k1 (.int i :: r) (by rw [hr]; rfl)
        rw [List.append_assoc]
        exact this
    | false =>
      have ec : ¬ f[j] = 110 := by simpa using hc
      simp only [rdE, if_neg ec] at k1 k2
      dsimp only
      subst hB
      refine step fun K1 hK1 => ite_step fun KA KB hA hB => ?_
      walk_at "ev"
      rw [hN]
      refine ⟨trivial, trivial, _, rfl, hwj, ?_⟩
      walk_at "ev"
      cases e : isNm ws[j] with
      | false =>
        rw [e] at k2
        simp only [Bool.not_false]
        subst hA
        refine step fun K2 hK2 => ?_
        walk_at "ev"
        rw [hX]
        exact k2 rfl _
      | true =>
        rw [e] at k1 k2
        simp only [Bool.not_true]
        subst hB
        show K1 _
        subst hK1
        refine step fun K1 hK1 => ?_
        walk_at "ev"
        refine ⟨slp (by omega), ?_⟩
        subst hK1
        show K _
        subst hK
        refine read_loop Γ hS hN hX D line w0 ws f hw hl hf m (j + 1) (acc ++ [.str ws[j]]) _ _ _ (by omega) (by rw [List.length_append, List.length_singleton]; omega) (fun r hr => ?_) fun hr => k2 (by rw [hr]; rfl)
        have := k1 (.str ws[j] :: r) (by rw [hr]; rfl)
        rw [List.append_assoc]
        exact this
end V
set_option Elab.async false
set_option linter.all false
set_option maxRecDepth 100000
set_option maxHeartbeats 4000000
namespace V
open PySem PySem.Spec PyProof.Rows L2 Q
local macro_rules | `(tactic| walk_at "ev") => `(tactic| simp only [at_0, at_1, ix_0, ix_1, semSs, semS, semT, semE, semA, semEs, semGs, semI, evT, evP, evO, evTs, evS, o1E, o1P, o2E, o2P, cmpP, ixP, oLen, truM, sliceE, muE, setIx, gt, yes, M.ok, M.fz, fzL, M.isS, M.isL, rcv, asI, asB, fillG, backG, lentOk, agI, pVar, itemsK, itemsOf, rngL, at1, put1, atP, putP, scl, eqF, List.map_cons, List.map_nil, List.length_cons, List.length_nil, List.length_map, List.cons_append, List.nil_append, List.set_cons_zero, List.set_cons_succ, Bool.and_true, Bool.true_and, List.all_cons, List.all_nil, List.append_nil])
theorem rdE_fz : ∀ (ws : List (List Nat)) (f : List Nat) (r : List M), rdE ws f = some r → fzL r = true ∧ r.length = f.length ∧ ∀ m ∈ r, m.flat = true
  | [], [], r, h => by cases h; exact ⟨rfl, rfl, fun _ h => by cases h⟩
  | [], _ :: _, _, h => by cases h
  | _ :: _, [], _, h => by cases h
  | w :: ws, c :: cs, r, h => by
    have ih := rdE_fz ws cs
    simp only [rdE] at h
    split at h
    · split at h
      · rename_i i _
        cases e : rdE ws cs with
        | none => rw [e] at h; cases h
        | some r' =>
          rw [e] at h; cases h
          obtain ⟨h1, h2, h3⟩ := ih r' e
          exact ⟨h1, by simp [h2], fun m hm => by
            rcases List.mem_cons.mp hm with q | q
            · rw [q]; rfl
            · exact h3 m q⟩
      · cases h
    · split at h
      · cases e : rdE ws cs with
        | none => rw [e] at h; cases h
        | some r' =>
          rw [e] at h; cases h
          obtain ⟨h1, h2, h3⟩ := ih r' e
          exact ⟨h1, by simp [h2], fun m hm => by
            rcases List.mem_cons.mp hm with q | q
            · rw [q]; rfl
            · exact h3 m q⟩
      · cases h
def tabF : Tab := fun t cs => if t = "FORMS" then (forms.lookup cs).map M.str else none
theorem read_ok (Γ : Gm) (hG : Γ.gv[13]? = some (.gd "FORMS")) (hT : Γ.tab "FORMS" = tabF "FORMS") (hS : Γ.fs "read_signed" = spSgn) (hN : Γ.fs "is_name" = spIsNm) (hX : Γ.exf "BadEdit" = false) (ms : List M) (Q : M → List M → Prop) (X : Exc → List M → Prop) (h : spRead ms Q X) : spOf Γ N_read_edit.length P_read_edit.length X_read_edit S_read_edit ms Q X := by
  obtain ⟨line, rfl, ⟨h1, h2⟩, q1, q2⟩ := h
  refine ⟨rfl, ?_⟩
  rw [r_read_edit]
  obtain ⟨s1, s2, s3⟩ := spl_wd (c := 32) (n := 900) line [] (by simp; omega) (fun _ h => by cases h) h2
  unfold rd at q1 q2
  refine step fun K hK => ?_
  walk_at "ev"
  rw [show ((([32] : List Nat).getD 0 0)) = 32 from rfl]
  refine ⟨Nat.le_trans (Nat.add_le_add_right h1 2) (by decide), ?_⟩
  match e : spl1 32 [] line, s3 with
  | w0 :: ws, _ =>
  rw [e] at q1 q2 s1 s2
  simp only [rdW] at q1 q2
  subst hK
  refine step fun K hK => ite_step fun KA KB hA hB => ?_
  walk_at "ev"
  rw [hG]
  simp only [cmpP, truM]
  rw [hT]
  cases el : forms.lookup w0 with
  | none =>
    rw [el] at q2
    simp only [tabF, if_pos, el, Option.map_none, Option.isSome_none, Bool.not_false]
    subst hA
    refine step fun K2 hK2 => ?_
    walk_at "ev"
    rw [hX]
    exact q2 rfl
  | some f =>
    rw [el] at q1 q2
    dsimp only at q1 q2
    have hfl : f.length ≤ 9 := by
      have : ∀ p ∈ forms, p.2.length ≤ 9 := by decide
      have hm : (w0, f) ∈ forms := by
        have go : ∀ l : List (List Nat × List Nat), l.lookup w0 = some f → (w0, f) ∈ l := by
          intro l
          induction l with
          | nil => intro h; cases h
          | cons p l ih =>
            intro h
            rw [List.lookup_cons] at h
            split at h
            · rename_i hb
              cases h
              have : w0 = p.1 := by simpa using hb
              rw [this]; exact List.mem_cons_self
            · exact List.mem_cons_of_mem _ (ih h)
        exact go _ el
      exact this _ hm
    simp only [tabF, if_pos, el, Option.map_some, Option.isSome_some, Bool.not_true]
    subst hB
    show K _
    subst hK
    refine step fun K hK => ?_
    walk_at "ev"
    rw [hG]
    simp only [rcv, yes, ixP]
    rw [hT]
    simp only [tabF, if_pos, el, Option.map_some, M.fz]
    subst hK
    refine step fun K hK => ite_step fun KA KB hA hB => ?_
    walk_at "ev"
    rw [slb (n := f.length) (by omega)]
    dsimp only
    cases hc : ((((ws.length + 1 : Nat) : Int)) == ((f.length : Nat) : Int) + 1) with
    | false =>
      have hne : ws.length ≠ f.length := fun q => by rw [q] at hc; simp at hc
      simp only [Bool.not_false]
      subst hA
      refine step fun K2 hK2 => ?_
      walk_at "ev"
      rw [hX]
      exact q2 (by rw [rdE_len _ _ hne]; rfl)
    | true =>
      have heq : ws.length = f.length := by have := eq_of_beq hc; omega
      simp only [Bool.not_true]
      subst hB
      show K _
      subst hK
      refine step fun K hK => ?_
      walk_at "ev"
      rw [show decide (0 + 1 ≤ sl) = true from by decide]
      simp only [yes]
      subst hK
      refine step fun K hK => for_rng fun BB hB => ?_
      walk_at "ev"
      rw [slb (n := f.length) (by omega)]
      dsimp only
      refine ⟨by omega, by omega, ?_⟩
      rw [hB]
      refine read_loop Γ hS hN hX _ _ w0 ws f (fun w hw => s1 w (List.mem_cons_of_mem _ hw)) heq (by omega) f.length 0 [.str w0] _ _ _ (by omega) (by simp) (fun r hr z4 z5 z6 => ?_) fun hr en => ?_
      · have hr : rdE ws f = some r := hr
        subst hK
        refine step fun K hK => ?_
        walk_at "ev"
        rw [(rdE_fz _ _ _ hr).1]
        simp only [yes]
        exact q1 _ (by rw [hr]; rfl)
      · have hr : rdE ws f = none := hr
        exact q2 (by rw [hr]; rfl)
/-! as the law reads -/
def refused : M := .tup [.str [114, 101, 102, 117, 115, 101, 100], .bl true, .bl false]
def spReading : FSp := fun ms Q _ => ∃ line, ms = [.str line] ∧ Wd 500 line ∧ Q (match rd line with | some es => .tup es | none => refused) [.str line]
theorem r__law_reading : List.replicate (N__law_reading.length - P__law_reading.length) M.hole = [.hole, .hole, .hole, .hole, .hole] := rfl
theorem o__law_reading (a b c d e f : M) : outs X__law_reading P__law_reading.length [a, b, c, d, e, f] = [a] := rfl
def lread_b : List S := [.set 5 (.pu (.o2 .idx (.var 1) (.o2 .add (.var 4) (.int 1)))), .ite (.p (.p (.o2 .eq (.o2 .idx (.var 2) (.var 4)) (.str [110])))) [.set 5 (.call "_law_value" [.e (.pu (.o2 .idx (.var 1) (.o2 .add (.var 4) (.int 1))))]), .ite (.p (.p (.o1 .isN (.var 5)))) [.ret (.tup [(.pu (.str [114, 101, 102, 117, 115, 101, 100])), (.pu (.bl true)), (.pu (.bl false))])] []] [.ite (.not (.e (.call "_law_is_name" [.e (.pu (.var 5))]))) [.ret (.tup [(.pu (.str [114, 101, 102, 117, 115, 101, 100])), (.pu (.bl true)), (.pu (.bl false))])] []], .ex (.mut .append 3 [] [(.pu (.var 5))])]
theorem lread_loop (Γ : Gm) (hS : Γ.fs "_law_value" = spSgn) (hN : Γ.fs "_law_is_name" = spIsNm) (D : Dn) (line : M) (w0 : List Nat) (ws : List (List Nat)) (f : List Nat) (hw : ∀ w ∈ ws, Wd 900 w) (hl : ws.length = f.length) (hf : f.length ≤ 900) : ∀ (m j : Nat) (acc : List M) (z4 z5 : M), j + m = f.length → acc.length ≤ j + 1 →
    (∀ r, rdE (ws.drop j) (f.drop j) = some r → ∀ z4 z5, D.nx [line, .lst true ((w0 :: ws).map M.str), .str f, .lst true (acc ++ r), z4, z5]) →
    (rdE (ws.drop j) (f.drop j) = none → ∀ en, D.rt refused (line :: en)) →
    forL 4 (semSs Γ lread_b) D (rngL (j : Int) 1 m) [line, .lst true ((w0 :: ws).map M.str), .str f, .lst true acc, z4, z5]
  | 0, j, acc, z4, z5, hj, ha, k1, k2 => by
    rw [List.drop_eq_nil_of_le (show f.length ≤ j by omega), List.drop_eq_nil_of_le (show ws.length ≤ j by omega)] at k1
    have := k1 [] rfl z4 z5
    rw [List.append_nil] at this
    exact this
  | m + 1, j, acc, z4, z5, hj, ha, k1, k2 => by
    have j1 : j < ws.length := by omega
    have j2 : j < f.length := by omega
    rw [List.drop_eq_getElem_cons j1, List.drop_eq_getElem_cons j2] at k1 k2
    show semSs Γ _ _ _
    refine step fun K hK => ?_
    have ai : atL (List.map M.str (w0 :: ws)) ((j : Int) + 1) = some (.str ws[j]) := by
      have := at_map (ws := w0 :: ws) (j := j + 1) (by simp; omega)
      rw [show (((j + 1 : Nat) : Int)) = (j : Int) + 1 by omega] at this
      exact this
    simp only [semS, semE, evP, gt, yes, M.ok, M.fz, rcv, o2P, ixP, List.set_cons_succ, List.set_cons_zero]
    rw [ai]
    simp only [yes, M.ok, M.fz]
    subst hK
    refine step fun K hK => ite_step fun KA KB hA hB => ?_
    have af := at_str j2
    simp only [semT, evT, evP, gt, yes, M.ok, M.fz, rcv, o2P, cmpP, ixP, List.set_cons_succ, List.set_cons_zero]
    rw [slb (n := f.length) (by omega), af]
    simp only [scl, eqF, truM]
    have hwj : Wd 900 ws[j] := hw _ (List.getElem_mem j1)
    have again : ∀ (x : M), x.fz = true → x.ok = true → (∀ r, rdE (ws.drop (j + 1)) (f.drop (j + 1)) = some r → rdE (ws[j] :: ws.drop (j + 1)) (f[j] :: f.drop (j + 1)) = some (x :: r)) → (rdE (ws.drop (j + 1)) (f.drop (j + 1)) = none → rdE (ws[j] :: ws.drop (j + 1)) (f[j] :: f.drop (j + 1)) = none) → K [line, .lst true ((w0 :: ws).map M.str), .str f, .lst true acc, .int j, x] := by
      intro x hx hxo g1 g2
      subst hK
      refine step fun K1 hK1 => ?_
      simp only [semS, semE, semEs, evP, gt, yes, hx, hxo, M.isL, muE, List.set_cons_succ, List.set_cons_zero, show ∀ o ms, (M.lst o ms).ok = true from fun _ _ => rfl]
      refine ⟨slp (by omega), ?_⟩
      subst hK1
      refine lread_loop Γ hS hN D line w0 ws f hw hl hf m (j + 1) (acc ++ [x]) _ _ (by omega) (by rw [List.length_append, List.length_singleton]; omega) (fun r hr => ?_) fun hr => k2 (g2 hr)
      have := k1 (x :: r) (g1 r hr)
      rw [List.append_assoc]
      exact this
    cases hc : ([f[j]] == ([110] : List Nat)) with
    | true =>
      have ec : f[j] = 110 := by simpa using hc
      simp only [rdE, if_pos ec] at again k2
      dsimp only
      subst hA
      refine step fun K1 hK1 => ?_
      simp only [semS, semE, semGs, lentOk, evP, gt, yes, M.ok, M.fz, rcv, o2P, ixP, List.set_cons_succ, List.set_cons_zero]
      rw [ai]
      walk_at "ev"
      rw [hS]
      refine ⟨trivial, trivial, _, rfl, hwj, ?_⟩
      walk_at "ev"
      subst hK1
      refine step fun K1 hK1 => ite_step fun KA KB hA hB => ?_
      rcases sgN_cases ws[j] with e | ⟨i, e⟩
      · rw [e] at k2
        rw [e]
        walk_at "ev"
        subst hA
        refine step fun K2 hK2 => ?_
        walk_at "ev"
        rw [show decide (0 + 1 + 1 + 1 ≤ sl) = true from by decide]
        exact k2 rfl _
      · rw [e] at again
        rw [e]
        walk_at "ev"
        subst hB
        show K1 _
        subst hK1
        exact again (.int i) rfl rfl (fun r hr => by rw [hr]; rfl) fun hr => by rw [hr]; rfl
    | false =>
      have ec : ¬ f[j] = 110 := by simpa using hc
      simp only [rdE, if_neg ec] at again k2
      dsimp only
      subst hB
      refine step fun K1 hK1 => ite_step fun KA KB hA hB => ?_
      walk_at "ev"
      rw [hN]
      refine ⟨trivial, trivial, _, rfl, hwj, ?_⟩
      walk_at "ev"
      cases e : isNm ws[j] with
      | false =>
        rw [e] at k2
        simp only [Bool.not_false]
        subst hA
        refine step fun K2 hK2 => ?_
        walk_at "ev"
        rw [show decide (0 + 1 + 1 + 1 ≤ sl) = true from by decide]
        exact k2 rfl _
      | true =>
        rw [e] at again
        simp only [Bool.not_true]
        subst hB
        show K1 _
        subst hK1
        exact again (.str ws[j]) rfl rfl (fun r hr => by rw [hr]; rfl) fun hr => by rw [hr]; rfl
end V
set_option Elab.async false
set_option linter.all false
set_option maxRecDepth 100000
set_option maxHeartbeats 4000000
namespace V
open PySem PySem.Spec PyProof.Rows L2 Q
local macro_rules | `(tactic| walk_at "ev") => `(tactic| simp only [at_0, at_1, ix_0, ix_1, semSs, semS, semT, semE, semA, semEs, semGs, semI, evT, evP, evO, evTs, evS, o1E, o1P, o2E, o2P, cmpP, ixP, oLen, truM, sliceE, muE, setIx, gt, yes, M.ok, M.fz, fzL, M.isS, M.isL, rcv, asI, asB, fillG, backG, lentOk, agI, pVar, itemsK, itemsOf, rngL, at1, put1, atP, putP, scl, eqF, List.map_cons, List.map_nil, List.length_cons, List.length_nil, List.length_map, List.cons_append, List.nil_append, List.set_cons_zero, List.set_cons_succ, Bool.and_true, Bool.true_and, List.all_cons, List.all_nil, List.append_nil])
theorem look_tab : ∀ (l : List (List Nat × List Nat)) (w : List Nat), look (l.map fun p => (Sum.inr p.1 : MK)) (l.map fun p => M.str p.2) (Sum.inr w) = (l.lookup w).map M.str
  | [], w => rfl
  | p :: l, w => by
    simp only [List.map_cons, look]
    rw [List.lookup_cons]
    by_cases h : p.1 = w
    · subst h
      simp
    · rw [if_neg (fun q => h (by cases q; rfl)), look_tab l w]
      have : (w == p.1) = false := by simpa using fun q => h q.symm
      rw [this]
theorem forms_ne : ∀ (w : List Nat) (f : List Nat), forms.lookup w = some f → f ≠ [] ∧ f.length ≤ 9 ∧ ∀ c ∈ f, c = 110 ∨ c = 119 := by
  intro w f el
  have : ∀ p ∈ forms, p.2 ≠ [] ∧ p.2.length ≤ 9 ∧ ∀ c ∈ p.2, c = 110 ∨ c = 119 := by decide
  have hm : (w, f) ∈ forms := by
    have go : ∀ l : List (List Nat × List Nat), l.lookup w = some f → (w, f) ∈ l := by
      intro l
      induction l with
      | nil => intro h; cases h
      | cons p l ih =>
        intro h
        rw [List.lookup_cons] at h
        split at h
        · rename_i hb
          cases h
          have : w = p.1 := by simpa using hb
          rw [this]; exact List.mem_cons_self
        · exact List.mem_cons_of_mem _ (ih h)
    exact go _ el
  exact this _ hm
theorem reading_ok (Γ : Gm) (hF : Γ.fs "_law_forms" = spForms) (hS : Γ.fs "_law_value" = spSgn) (hN : Γ.fs "_law_is_name" = spIsNm) (ms : List M) (Q : M → List M → Prop) (X : Exc → List M → Prop) (h : spReading ms Q X) : spOf Γ N__law_reading.length P__law_reading.length X__law_reading S__law_reading ms Q X := by
  obtain ⟨line, rfl, ⟨h1, h2⟩, hq⟩ := h
  refine ⟨rfl, ?_⟩
  rw [r__law_reading]
  obtain ⟨s1, s2, s3⟩ := spl_wd (c := 32) (n := 900) line [] (by simp; omega) (fun _ h => by cases h) h2
  unfold rd at hq
  refine step fun K hK => ?_
  walk_at "ev"
  rw [show ((([32] : List Nat).getD 0 0)) = 32 from rfl]
  refine ⟨Nat.le_trans (Nat.add_le_add_right h1 2) (by decide), ?_⟩
  match e : spl1 32 [] line, s3 with
  | w0 :: ws, _ =>
  rw [e] at hq s1 s2
  simp only [rdW] at hq
  subst hK
  refine step fun K hK => ?_
  walk_at "ev"
  rw [hF]
  refine ⟨trivial, trivial, rfl, ?_⟩
  simp only [formsM, backG, evP, gt, yes, rcv, o2P, ixP, at_0, M.ok]
  refine ⟨_, rfl, ?_⟩
  rw [look_tab]
  cases el : forms.lookup w0 with
  | none =>
    rw [el] at hq
    simp only [Option.map_none, yes, M.fz, List.set_cons_succ, List.set_cons_zero]
    subst hK
    refine step fun K hK => ite_step fun KA KB hA hB => ?_
    walk_at "ev"
    rw [show (([] : List Nat) == []) = true from rfl]
    dsimp only
    subst hA
    refine step fun K hK => ?_
    walk_at "ev"
    rw [show decide (0 + 1 + 1 + 1 ≤ sl) = true from by decide]
    exact hq
  | some f =>
    rw [el] at hq
    dsimp only at hq
    obtain ⟨f1, f2, f3⟩ := forms_ne _ _ el
    simp only [Option.map_some, yes, M.fz, Bool.and_self, List.set_cons_succ, List.set_cons_zero]
    subst hK
    refine step fun K hK => ite_step fun KA KB hA hB => ?_
    walk_at "ev"
    rw [show (f == ([] : List Nat)) = false from by simpa using f1, slb (n := f.length) (by omega)]
    dsimp only
    cases hc : ((((ws.length + 1 : Nat) : Int)) == ((f.length : Nat) : Int) + 1) with
    | false =>
      have hne : ws.length ≠ f.length := fun q => by rw [q] at hc; simp at hc
      rw [rdE_len _ _ hne] at hq
      simp only [Bool.not_false]
      subst hA
      refine step fun K hK => ?_
      walk_at "ev"
      rw [show decide (0 + 1 + 1 + 1 ≤ sl) = true from by decide]
      exact hq
    | true =>
      have heq : ws.length = f.length := by have := eq_of_beq hc; omega
      simp only [Bool.not_true]
      subst hB
      show K _
      subst hK
      refine step fun K hK => ?_
      walk_at "ev"
      rw [show decide (0 + 1 ≤ sl) = true from by decide]
      simp only [yes]
      subst hK
      refine step fun K hK => for_rng fun BB hB => ?_
      walk_at "ev"
      rw [slb (n := f.length) (by omega)]
      dsimp only
      refine ⟨by omega, by omega, ?_⟩
      rw [hB]
      refine lread_loop Γ hS hN _ _ w0 ws f (fun w hw => s1 w (List.mem_cons_of_mem _ hw)) heq (by omega) f.length 0 [.str w0] _ _ (by omega) (by simp) (fun r hr z4 z5 => ?_) fun hr en => ?_
      · have hr : rdE ws f = some r := hr
        rw [hr] at hq
        subst hK
        refine step fun K hK => ?_
        walk_at "ev"
        rw [(rdE_fz _ _ _ hr).1]
        simp only [yes]
        exact hq
      · have hr : rdE ws f = none := hr
        rw [hr] at hq
        exact hq
/-! what is asked -/
theorem r__law_asked : List.replicate (N__law_asked.length - P__law_asked.length) M.hole = [.hole] := rfl
theorem o__law_asked (a b : M) : outs X__law_asked P__law_asked.length [a, b] = [a] := rfl
theorem asked_ok (Γ : Gm) (hR : Γ.fs "read_edit" = spRead) (s1 : Γ.sub "BadEdit" "SeamError" = true) (s2 : Γ.sub "BadEdit" "BadEdit" = true) (s3 : Γ.sub "BadEdit" "BadText" = false) (ms : List M) (Q : M → List M → Prop) (X : Exc → List M → Prop) (h : spReading ms Q X) : spOf Γ N__law_asked.length P__law_asked.length X__law_asked S__law_asked ms Q X := by
  obtain ⟨line, rfl, h1, hq⟩ := h
  refine ⟨rfl, ?_⟩
  rw [r__law_asked]
  simp only [S__law_asked]
  walk_at "ev"
  rw [hR]
  refine ⟨trivial, trivial, line, rfl, h1, fun es he => ?_, fun he => ?_⟩
  · rw [he] at hq
    exact hq
  · rw [he] at hq
    simp only [List.any_cons, List.any_nil, s1, Bool.or_false]
    intro a d
    simp only [backG, gt, List.set_cons_succ, List.set_cons_zero, List.any_cons, List.any_nil, s2, s3, Bool.or_false, true_and, yes, M.fz, List.length_cons, List.length_nil]
    rw [show decide (0 + 1 + 1 + 1 ≤ sl) = true from by decide]
    exact hq
/-! a line -/
def txE : M → List Nat
  | .int i => sI i
  | .str cs => cs
  | _ => []
def Ent (m : M) : Prop := (∃ i, m = .int i ∧ -9999 ≤ i ∧ i ≤ 9999) ∨ ∃ w, m = .str w ∧ Wd 8 w
theorem log10k {i : Int} (h1 : -9999 ≤ i) (h2 : i ≤ 9999) : i.natAbs.log2 < 1920 := Nat.lt_of_lt_of_le (log_small (by omega)) (by decide)
theorem sI_wd2 {i : Int} (h1 : -9999 ≤ i) (h2 : i ≤ 9999) : Wd 5 (sI i) := by
  by_cases h : i < 0
  · have e : sI i = 45 :: numL i.natAbs := if_pos h
    have := sI_wd (i := -i) (by omega) (by omega)
    have e2 : sI (-i) = numL i.natAbs := by
      unfold sI
      rw [if_neg (by omega), Int.natAbs_neg]
    rw [e2] at this
    rw [e]
    exact ⟨by simp; exact this.1, fun c hc => by
      rcases List.mem_cons.mp hc with q | q
      · rw [q]; decide
      · exact this.2 c q⟩
  · exact (sI_wd (by omega) h2).mono (by decide)
theorem Ent.wd {m : M} (h : Ent m) : Wd 8 (txE m) := by
  rcases h with ⟨i, rfl, h1, h2⟩ | ⟨w, rfl, h⟩
  · exact (sI_wd2 h1 h2).mono (by decide)
  · exact h
theorem cmp_txt (i : Nat) (Q : List M → En → Prop) (C : En → (Bool → Prop) → Prop) (F : En → (M → En → Prop) → Prop) (ok : En → Prop) (hC : ∀ en q, q true → C en q) (hF : ∀ (en : En) m q, ok en → Ent m → q (.str (txE m)) (en.set i m) → F (en.set i m) q) (hok : ∀ en m, ok en → ok ((en.set i m).set i .hole)) : ∀ (es : List M) (acc : List M) (en : En), (∀ m ∈ es, Ent m) → acc.length + es.length ≤ 1000 → ok en → en.set i .hole = en → Q (acc ++ es.map fun m => .str (txE m)) en → cmpL i C F Q es acc en
  | [], acc, en, _, _, _, _, k => by rw [List.map_nil, List.append_nil] at k; exact k
  | m :: es, acc, en, he, hl, ho, hh, k => by
    simp only [List.length_cons] at hl
    refine hC _ _ ?_
    dsimp only
    refine hF en m _ ho (he m List.mem_cons_self) ⟨slp (by omega), ?_⟩
    rw [show (en.set i m).set i M.hole = en from by rw [List.set_set]; exact hh]
    refine cmp_txt i Q C F ok hC hF hok es (acc ++ [.str (txE m)]) en (fun x hx => he x (List.mem_cons_of_mem _ hx)) (by rw [List.length_append, List.length_singleton]; omega) ho hh ?_
    rw [List.append_assoc]
    exact k
end V
set_option Elab.async false
set_option linter.all false
set_option maxRecDepth 100000
set_option maxHeartbeats 4000000
namespace V
open PySem PySem.Spec PyProof.Rows L2 Q
local macro_rules | `(tactic| walk_at "ev") => `(tactic| simp only [at_0, at_1, ix_0, ix_1, semSs, semS, semT, semE, semA, semEs, semGs, semI, evT, evP, evO, evTs, evS, o1E, o1P, o2E, o2P, cmpP, ixP, oLen, truM, sliceE, muE, setIx, gt, yes, M.ok, M.fz, fzL, M.isS, M.isL, rcv, asI, asB, fillG, backG, lentOk, agI, pVar, itemsK, itemsOf, rngL, at1, put1, atP, putP, scl, eqF, List.map_cons, List.map_nil, List.length_cons, List.length_nil, List.length_map, List.cons_append, List.nil_append, List.set_cons_zero, List.set_cons_succ, Bool.and_true, Bool.true_and, List.all_cons, List.all_nil, List.append_nil])
theorem comp_E {Γ : Gm} {i : Nat} {it : I} {cs : List T} {q : E} {Q : QE} {X : QX} {env : En} (h : ∀ (C : En → (Bool → Prop) → Prop) (F : En → (M → En → Prop) → Prop), (∀ en q', evTs Γ en cs q' → C en q') → (∀ en q', semE Γ q en q' (fun _ _ => False) → F en q') →
    semI Γ it env (fun ms env1 => cmpL i C F (fun acc env2 => Q (.lst true acc) (env2.set i (gt env1 i))) ms [] (env1.set i .hole)) X) : semE Γ (.comp i it cs q) env Q X := h _ _ (fun _ _ h => h) (fun _ _ h => h)
theorem o2s_E {Γ : Gm} {o : O2} {p : P} {b : A} {env : En} {Q : QE} {X : QX} (h : evP Γ env p fun m => yes m.isS (semA Γ b env (fun n env1 => o2E Γ.tab o m n fun r => Q r env1) X)) : semE Γ (.o2s o p b) env Q X := h
theorem strs_tx : ∀ es : List M, strsOf (es.map fun m => M.str (txE m)) = some (es.map txE)
  | [] => rfl
  | m :: es => by
    show (strsOf (es.map fun m => M.str (txE m))).map (txE m :: ·) = _
    rw [strs_tx es]; rfl
theorem sum_tx : ∀ es : List M, (∀ m ∈ es, Ent m) → ((es.map txE).map List.length).sum ≤ 8 * es.length
  | [], _ => Nat.zero_le _
  | m :: es, h => by
    have := (h m List.mem_cons_self).wd.1
    have ih := sum_tx es fun x hx => h x (List.mem_cons_of_mem _ hx)
    simp only [List.map_cons, List.sum_cons, List.length_cons]
    omega
theorem join_wd : ∀ (n : Nat) (ys : List (List Nat)), (∀ y ∈ ys, Wd n y) → Wd ((n + 1) * ys.length) (joinL [32] ys)
  | n, [], _ => ⟨Nat.zero_le _, fun _ h => by cases h⟩
  | n, [x], h => ⟨by have := (h x List.mem_cons_self).1; simp [joinL]; omega, (h x List.mem_cons_self).2⟩
  | n, x :: y :: r, h => by
    have ih := join_wd n (y :: r) fun z hz => h z (List.mem_cons_of_mem _ hz)
    have hx := h x List.mem_cons_self
    have e : joinL [32] (x :: y :: r) = x ++ [32] ++ joinL [32] (y :: r) := rfl
    rw [e]
    refine ⟨?_, fun c hc => ?_⟩
    · have h1 := hx.1
      have h2 := ih.1
      rw [List.length_append, List.length_append, List.length_singleton, List.length_cons, Nat.mul_succ]
      omega
    · rcases List.mem_append.mp hc with q | q
      · rcases List.mem_append.mp q with q | q
        · exact hx.2 c q
        · rw [List.mem_singleton.mp q]; decide
      · exact ih.2 c q
theorem spl_app : ∀ (y acc r : List Nat), 32 ∉ y → spl1 32 acc (y ++ r) = spl1 32 (acc ++ y) r
  | [], acc, r, _ => by rw [List.append_nil]; rfl
  | c :: y, acc, r, h => by
    have h1 : ¬ c = 32 := fun q => h (by rw [q]; exact List.mem_cons_self)
    show (if c = 32 then _ else spl1 32 (acc ++ [c]) (y ++ r)) = _
    rw [if_neg h1, spl_app y _ r fun q => h (List.mem_cons_of_mem _ q), List.append_assoc]
    rfl
theorem spl_join : ∀ (ys : List (List Nat)), ys ≠ [] → (∀ y ∈ ys, 32 ∉ y) → spl1 32 [] (joinL [32] ys) = ys
  | [], h, _ => (h rfl).elim
  | [x], _, h => by
    have := spl_app x [] [] (h x List.mem_cons_self)
    rw [List.append_nil] at this
    exact this
  | x :: y :: r, _, h => by
    have ih := spl_join (y :: r) (by simp) fun z hz => h z (List.mem_cons_of_mem _ hz)
    have e : joinL [32] (x :: y :: r) = x ++ (32 :: joinL [32] (y :: r)) := by
      show x ++ [32] ++ joinL [32] (y :: r) = _
      rw [List.append_assoc]; rfl
    rw [e, spl_app x [] _ (h x List.mem_cons_self), List.nil_append]
    show (if (32 : Nat) = 32 then x :: spl1 32 [] (joinL [32] (y :: r)) else _) = _
    rw [if_pos rfl, ih]
def spWrite : FSp := fun ms Q _ => ∃ es, ms = [.tup es] ∧ (∀ m ∈ es, Ent m) ∧ es.length ≤ 20 ∧ Q (.str (joinL [32] (es.map txE))) [.tup es]
theorem r_write_edit : List.replicate (N_write_edit.length - P_write_edit.length) M.hole = [.hole] := rfl
theorem fz_ent : ∀ es : List M, (∀ m ∈ es, Ent m) → fzL es = true
  | [], _ => rfl
  | m :: es, h => by
    have ih := fz_ent es fun x hx => h x (List.mem_cons_of_mem _ hx)
    rcases h m List.mem_cons_self with ⟨i, rfl, _⟩ | ⟨w, rfl, _⟩ <;> exact ih
theorem frzL_ent : ∀ es : List M, (∀ m ∈ es, Ent m) → frzL es = es
  | [], _ => rfl
  | m :: es, h => by
    have ih := frzL_ent es fun x hx => h x (List.mem_cons_of_mem _ hx)
    rcases h m List.mem_cons_self with ⟨i, rfl, _⟩ | ⟨w, rfl, _⟩ <;> (show _ :: _ = _; rw [ih]; rfl)
/-- the line of an edit, wherever it is made -/
theorem line_E (Γ : Gm) (env : En) (j i : Nat) (es : List M) (hj : gt env j = .tup es) (hi : gt env i = .hole) (hil : i < env.length) (hne : i ≠ j) (he : ∀ m ∈ es, Ent m) (hl : es.length ≤ 20) (Q : QE) (X : QX) (k : Q (.str (joinL [32] (es.map txE))) env) : semE Γ (.o2s .join (.str [32]) (.e (.comp i (.vw j) [] (.pu (.o1 .toStr (.var i)))))) env Q X := by
  have set0 : ∀ (env : En) (i : Nat), gt env i = .hole → env.set i .hole = env := by
    intro env
    induction env with
    | nil => intro i _; rfl
    | cons m env ih =>
      intro i h
      cases i with
      | zero => show M.hole :: env = m :: env; rw [show m = M.hole from h]
      | succ i => show m :: env.set i .hole = _; rw [ih i h]
  have setj : ∀ (env : En) (j : Nat) (m : M), gt env j = m → m ≠ .hole → env.set j m = env := by
    intro env
    induction env with
    | nil => intro i _ _ _; rfl
    | cons m env ih =>
      intro i m' h hn
      cases i with
      | zero => show m' :: env = m :: env; rw [show m = m' from h]
      | succ i => show m :: env.set i m' = _; rw [ih i m' h hn]
  have gset : ∀ (env : En) (i : Nat) (m : M), i < env.length → gt (env.set i m) i = m := by
    intro env
    induction env with
    | nil => intro i _ h; cases h
    | cons m env ih =>
      intro i m' h
      cases i with
      | zero => rfl
      | succ i => exact ih i m' (by simpa using h)
  refine o2s_E ?_
  simp only [evP, yes, M.isS, semA]
  refine comp_E fun C F hC hF => ?_
  simp only [semI, hj, yes, M.ok, itemsOf, M.frz]
  rw [frzL_ent es he, if_pos (fz_ent es he)]
  dsimp only
  rw [setj env j (.tup es) hj (by simp), set0 env i hi]
  refine cmp_txt i _ C F (fun en => en.length = env.length) (fun en q h => hC en q h) (fun en m q ho hm h => hF _ _ ?_) (fun en m h => by simp only [List.length_set]; exact h) es [] env he (by simp; omega) rfl (set0 env i hi) ?_
  · simp only [semE, evP]
    rw [gset en i m (by rw [ho]; exact hil)]
    rcases hm with ⟨n, rfl, n1, n2⟩ | ⟨w, rfl, _⟩
    · simp only [M.ok, yes, o1P, M.fz]
      exact ⟨log10k n1 n2, h⟩
    · simp only [M.ok, yes, o1P, M.fz]
      exact h
  · rw [hi, set0 env i hi, List.nil_append]
    simp only [o2E, o2P, yes, M.fz]
    refine ⟨_, strs_tx es, ?_, k⟩
    have := sum_tx es he
    rw [List.length_map]
    exact Nat.le_trans (show _ ≤ 1000 by simp only [List.length_cons, List.length_nil]; omega) (by decide)
theorem write_ok (Γ : Gm) (ms : List M) (Q : M → List M → Prop) (X : Exc → List M → Prop) (h : spWrite ms Q X) : spOf Γ N_write_edit.length P_write_edit.length X_write_edit S_write_edit ms Q X := by
  obtain ⟨es, rfl, he, hl, hq⟩ := h
  refine ⟨rfl, ?_⟩
  rw [r_write_edit]
  refine step fun K hK => ?_
  exact line_E Γ _ 0 1 es rfl rfl (by show 1 < 2; decide) (by decide) he hl _ _ hq
end V
set_option Elab.async false
set_option linter.all false
set_option maxRecDepth 100000
set_option maxHeartbeats 4000000
namespace V
open PySem PySem.Spec PyProof.Rows L2 Q
local macro_rules | `(tactic| walk_at "ev") => `(tactic| simp only [at_0, at_1, ix_0, ix_1, semSs, semS, semT, semE, semA, semEs, semGs, semI, evT, evP, evO, evTs, evS, o1E, o1P, o2E, o2P, cmpP, ixP, oLen, truM, sliceE, muE, setIx, gt, yes, M.ok, M.fz, fzL, M.isS, M.isL, rcv, asI, asB, fillG, backG, lentOk, agI, pVar, itemsK, itemsOf, rngL, at1, put1, atP, putP, scl, eqF, List.map_cons, List.map_nil, List.length_cons, List.length_nil, List.length_map, List.cons_append, List.nil_append, List.set_cons_zero, List.set_cons_succ, Bool.and_true, Bool.true_and, List.all_cons, List.all_nil, List.append_nil])
theorem num_at {n : Nat} (h : n < 10000) : valN (numL n) = (n : Int) ∧ (numL n).take 1 ≠ [45] ∧ 32 ∉ numL n := by
  obtain ⟨a1, a2, a3, a4⟩ := numL_facts _ _ (Nat.le_refl n)
  have hl := numL_len h
  have hd : dgs (numL n) = true := by
    have h2 : ∀ c, 48 ≤ c → c ≤ 57 → c ∈ dig := by
      intro c h1 h2
      simp only [dig, List.mem_cons, List.not_mem_nil, or_false]
      omega
    exact List.all_eq_true.mpr fun c hc => decide_eq_true (h2 c (a1 c hc).1 (a1 c hc).2)
  refine ⟨?_, fun q => ?_, fun q => by have := (a1 32 q).1; omega⟩
  · cases e : numL n with
    | nil => exact (a3 e).elim
    | cons c r =>
      rw [e] at hd hl a2
      rw [valN_cons hd hl, if_neg, show dv 0 (c :: r) = n from a2]
      rintro ⟨q1, q2⟩
      by_cases h0 : 0 < n
      · exact a4 h0 (by rw [e, q1]; rfl)
      · have hn : n = 0 := by omega
        rw [hn, numL_lt (by decide)] at e
        exact q2 (by injection e with _ e2; exact e2.symm)
  · cases e : numL n with
    | nil => exact a3 e
    | cons c r =>
      rw [e] at q
      have hc : c = 45 := by simpa using q
      have := (a1 c (by rw [e]; exact List.mem_cons_self)).1
      omega
end V
set_option Elab.async false
set_option linter.all false
set_option maxRecDepth 100000
set_option maxHeartbeats 4000000
namespace V
open PySem PySem.Spec PyProof.Rows L2 Q
local macro_rules | `(tactic| walk_at "ev") => `(tactic| simp only [at_0, at_1, ix_0, ix_1, semSs, semS, semT, semE, semA, semEs, semGs, semI, evT, evP, evO, evTs, evS, o1E, o1P, o2E, o2P, cmpP, ixP, oLen, truM, sliceE, muE, setIx, gt, yes, M.ok, M.fz, fzL, M.isS, M.isL, rcv, asI, asB, fillG, backG, lentOk, agI, pVar, itemsK, itemsOf, rngL, at1, put1, atP, putP, scl, eqF, List.map_cons, List.map_nil, List.length_cons, List.length_nil, List.length_map, List.cons_append, List.nil_append, List.set_cons_zero, List.set_cons_succ, Bool.and_true, Bool.true_and, List.all_cons, List.all_nil, List.append_nil])
/-- entries that fit a form -/
def Fit : List Nat → List M → Prop
  | [], [] => True
  | c :: cs, m :: ms => (if c = 110 then ∃ i, m = .int i ∧ -9999 ≤ i ∧ i ≤ 9999 else ∃ w, m = .str w ∧ Nm w) ∧ Fit cs ms
  | _, _ => False
theorem Fit.ent : ∀ (f : List Nat) (es : List M), Fit f es → (∀ m ∈ es, Ent m) ∧ es.length = f.length
  | [], [], _ => ⟨(fun _ h => by cases h), rfl⟩
  | [], _ :: _, h => h.elim
  | _ :: _, [], h => h.elim
  | c :: cs, m :: ms, ⟨h1, h2⟩ => by
    obtain ⟨i1, i2⟩ := Fit.ent cs ms h2
    refine ⟨fun x hx => ?_, by simp [i2]⟩
    rcases List.mem_cons.mp hx with q | q
    · subst q
      split at h1
      · exact .inl h1
      · obtain ⟨w, rfl, hw⟩ := h1
        exact .inr ⟨w, rfl, hw.wd⟩
    · exact i1 x q
theorem sgN_sI {i : Int} (h1 : -9999 ≤ i) (h2 : i ≤ 9999) : sgN (sI i) = .int i ∧ 32 ∉ sI i := by
  by_cases h : i < 0
  · have e : sI i = 45 :: numL i.natAbs := if_pos h
    obtain ⟨a1, a2, a3⟩ := num_at (n := i.natAbs) (by omega)
    rw [e]
    unfold sgN
    rw [if_pos (show (45 :: numL i.natAbs).take 1 = [45] from rfl), show (45 :: numL i.natAbs).drop 1 = numL i.natAbs from rfl, a1, if_neg (by omega)]
    refine ⟨by rw [show -((i.natAbs : Nat) : Int) = i by omega], fun q => ?_⟩
    rcases List.mem_cons.mp q with q | q
    · cases q
    · exact a3 q
  · have e : sI i = numL i.natAbs := if_neg h
    obtain ⟨a1, a2, a3⟩ := num_at (n := i.natAbs) (by omega)
    rw [e]
    unfold sgN
    rw [if_neg a2, a1, if_neg (by omega)]
    exact ⟨by rw [show ((i.natAbs : Nat) : Int) = i by omega], a3⟩
theorem abc_sp : ∀ c ∈ abc, c ≠ 32 := by decide +kernel
theorem rd_fit : ∀ (f : List Nat) (es : List M), Fit f es → rdE (es.map txE) f = some es ∧ ∀ y ∈ es.map txE, 32 ∉ y
  | [], [], _ => ⟨rfl, fun _ h => by cases h⟩
  | [], _ :: _, h => h.elim
  | _ :: _, [], h => h.elim
  | c :: cs, m :: ms, ⟨h1, h2⟩ => by
    obtain ⟨i1, i2⟩ := rd_fit cs ms h2
    simp only [List.map_cons, rdE]
    split at h1
    · rename_i hc
      obtain ⟨i, rfl, b1, b2⟩ := h1
      obtain ⟨s1, s2⟩ := sgN_sI b1 b2
      rw [if_pos hc, show txE (.int i) = sI i from rfl, s1, i1]
      refine ⟨rfl, fun y hy => ?_⟩
      rcases List.mem_cons.mp hy with q | q
      · rw [q]; exact s2
      · exact i2 y q
    · rename_i hc
      obtain ⟨w, rfl, hw⟩ := h1
      rw [if_neg hc, show txE (.str w) = w from rfl, if_pos hw.is, i1]
      refine ⟨rfl, fun y hy => ?_⟩
      rcases List.mem_cons.mp hy with q | q
      · rw [q]; exact fun h => abc_sp 32 (hw.2.2 32 h) rfl
      · exact i2 y q
/-- an edit -/
def Edt (es : List M) : Prop := ∃ w f r, es = .str w :: r ∧ forms.lookup w = some f ∧ Fit f r
theorem forms_key : ∀ p ∈ forms, Wd 8 p.1 ∧ 32 ∉ p.1 := by
  have : ∀ p ∈ forms, (p.1.length ≤ 8 ∧ ∀ c ∈ p.1, c < 128) ∧ 32 ∉ p.1 := by decide +kernel
  exact this
theorem look_mem {w f : List Nat} : ∀ l : List (List Nat × List Nat), l.lookup w = some f → (w, f) ∈ l
  | [], h => by cases h
  | p :: l, h => by
    rw [List.lookup_cons] at h
    split at h
    · rename_i hb
      cases h
      have : w = p.1 := by simpa using hb
      rw [this]; exact List.mem_cons_self
    · exact List.mem_cons_of_mem _ (look_mem l h)
theorem Edt.ent {es : List M} (h : Edt es) : (∀ m ∈ es, Ent m) ∧ es.length ≤ 10 := by
  obtain ⟨w, f, r, rfl, hf, ht⟩ := h
  obtain ⟨h1, h2⟩ := Fit.ent f r ht
  have hk := forms_key _ (look_mem _ hf)
  refine ⟨fun m hm => ?_, by have := (forms_ne _ _ hf).2.1; simp [h2]; omega⟩
  rcases List.mem_cons.mp hm with q | q
  · exact .inr ⟨w, q, hk.1⟩
  · exact h1 m q
theorem Edt.rd {es : List M} (h : Edt es) : rd (joinL [32] (es.map txE)) = some es := by
  obtain ⟨w, f, r, rfl, hf, ht⟩ := h
  have hk := forms_key _ (look_mem _ hf)
  obtain ⟨h1, h2⟩ := rd_fit f r ht
  have e : spl1 32 [] (joinL [32] ((M.str w :: r).map txE)) = (M.str w :: r).map txE := spl_join _ (by simp) fun y hy => by
    rcases List.mem_cons.mp hy with q | q
    · rw [q]; exact hk.2
    · exact h2 y q
  unfold V.rd
  rw [e]
  show rdW (w :: r.map txE) = _
  simp only [rdW, hf, h1]
  rfl
theorem Edt.wd {es : List M} (h : Edt es) : Wd 90 (joinL [32] (es.map txE)) := by
  obtain ⟨h1, h2⟩ := h.ent
  refine (join_wd 8 (es.map txE) fun y hy => ?_).mono (by rw [List.length_map]; omega)
  obtain ⟨m, hm, rfl⟩ := List.mem_map.mp hy
  exact (h1 m hm).wd
end V
set_option Elab.async false
set_option linter.all false
set_option maxRecDepth 100000
set_option maxHeartbeats 4000000
namespace V
open PySem PySem.Spec PyProof.Rows L2 Q
local macro_rules | `(tactic| walk_at "ev") => `(tactic| simp only [at_0, at_1, ix_0, ix_1, semSs, semS, semT, semE, semA, semEs, semGs, semI, evT, evP, evO, evTs, evS, o1E, o1P, o2E, o2P, cmpP, ixP, oLen, truM, sliceE, muE, setIx, gt, yes, M.ok, M.fz, fzL, M.isS, M.isL, rcv, asI, asB, fillG, backG, lentOk, agI, pVar, itemsK, itemsOf, rngL, at1, put1, atP, putP, scl, eqF, List.map_cons, List.map_nil, List.length_cons, List.length_nil, List.length_map, List.cons_append, List.nil_append, List.set_cons_zero, List.set_cons_succ, Bool.and_true, Bool.true_and, List.all_cons, List.all_nil, List.append_nil])
/-! _law_edit -/
def N__law_edit : List Str := [("pool" : Str), ("forms" : Str), ("words" : Str), ("word" : Str), ("entries" : Str), ("sign" : Str)]
def P__law_edit : List Str := [("pool" : Str)]
def X__law_edit : List Nat := [0]
def S__law_edit : List S := [
  .set 1 (.call "_law_forms" []),
  .set 2 (.o1 .listOf (.v (.var 1))),
  .set 3 (.o2 .idx (.v (.var 2)) (.e (.call "_law_draw" [.r 0, .e (.pu (.int 15))]))),
  .set 4 (.lst [(.pu (.var 3))]),
  .for_ 5 (.val 2 (.pu (.o2 .idx (.var 1) (.var 3)))) [.ite (.p (.p (.o2 .eq (.var 5) (.str [110])))) [.ex (.mut .append 4 [] [(.call "_law_number" [.r 0, .e (.pu (.o1 .neg (.int 9999))), .e (.pu (.int 9999))])])] [.ex (.mut .append 4 [] [(.call "_law_name" [.r 0, .e (.lst [])])])]],
  .ret (.o1 .tupleOf (.v (.var 4)))]
def F__law_edit : List (String × Str) := [("_law_draw", ("_law_draw" : Str)), ("_law_forms", ("_law_forms" : Str)), ("_law_name", ("_law_name" : Str)), ("_law_number", ("_law_number" : Str))]
def spEdit : FSp := fun ms Q _ => ∃ ps, ms = [.lst true ps] ∧ Pok ps ∧ ∀ ps' es, Pok ps' → Edt es → Q (.tup es) [.lst true ps']
theorem r__law_edit : List.replicate (N__law_edit.length - P__law_edit.length) M.hole = [.hole, .hole, .hole, .hole, .hole] := rfl
theorem o__law_edit (a b c d e f : M) : outs X__law_edit P__law_edit.length [a, b, c, d, e, f] = [a] := rfl
def edit_b : List S := [.ite (.p (.p (.o2 .eq (.var 5) (.str [110])))) [.ex (.mut .append 4 [] [(.call "_law_number" [.r 0, .e (.pu (.o1 .neg (.int 9999))), .e (.pu (.int 9999))])])] [.ex (.mut .append 4 [] [(.call "_law_name" [.r 0, .e (.lst [])])])]]
theorem edit_loop (Γ : Gm) (hN : Γ.fs "_law_number" = spNum) (hM : Γ.fs "_law_name" = spName) (D : Dn) (fm wd w : M) : ∀ (f : List Nat) (ps : List M) (acc : List M) (z : M), Pok ps → acc.length + f.length ≤ 1000 → (∀ c ∈ f, c = 110 ∨ c = 119) →
    (∀ ps r z, Pok ps → Fit f r → D.nx [.lst true ps, fm, wd, w, .lst true (acc ++ r), z]) →
    forL 5 (semSs Γ edit_b) D (f.map fun c => .str [c]) [.lst true ps, fm, wd, w, .lst true acc, z]
  | [], ps, acc, z, hp, hl, hf, k => by
    have := k ps [] z hp trivial
    rw [List.append_nil] at this
    exact this
  | c :: f, ps, acc, z, hp, hl, hf, k => by
    simp only [List.length_cons] at hl
    show semSs Γ _ _ _
    refine step fun K hK => ite_step fun KA KB hA hB => ?_
    walk_at "ev"
    cases hc : ([c] == ([110] : List Nat)) with
    | true =>
      have ec : c = 110 := by simpa using hc
      dsimp only
      subst hA
      refine step fun K1 hK1 => ?_
      walk_at "ev"
      rw [hN]
      refine ⟨trivial, trivial, _, _, _, rfl, hp, by decide, fun ps1 i hp1 i1 i2 => ?_⟩
      walk_at "ev"
      refine ⟨slp (by omega), ?_⟩
      subst hK1
      show K _
      subst hK
      refine edit_loop Γ hN hM D fm wd w f ps1 (acc ++ [.int i]) _ hp1 (by rw [List.length_append, List.length_singleton]; omega) (fun x hx => hf x (List.mem_cons_of_mem _ hx)) fun ps r z h1 h2 => ?_
      rw [List.append_assoc]
      exact k ps (.int i :: r) z h1 ⟨by rw [if_pos ec]; exact ⟨i, rfl, by omega, i2⟩, h2⟩
    | false =>
      have ec : ¬ c = 110 := by simpa using hc
      dsimp only
      subst hB
      refine step fun K1 hK1 => ?_
      walk_at "ev"
      rw [show decide (0 ≤ sl) = true from by decide]
      simp only [yes]
      rw [hM]
      refine ⟨trivial, trivial, ps, true, [], rfl, hp, (fun _ h => by cases h), by decide, fun ps1 x hp1 hx _ => ?_⟩
      walk_at "ev"
      refine ⟨slp (by omega), ?_⟩
      subst hK1
      show K _
      subst hK
      refine edit_loop Γ hN hM D fm wd w f ps1 (acc ++ [.str x]) _ hp1 (by rw [List.length_append, List.length_singleton]; omega) (fun x hx => hf x (List.mem_cons_of_mem _ hx)) fun ps r z h1 h2 => ?_
      rw [List.append_assoc]
      exact k ps (.str x :: r) z h1 ⟨by rw [if_neg ec]; exact ⟨x, rfl, hx⟩, h2⟩
theorem keys_str : ∀ l : List (List Nat × List Nat), (l.map fun p => (Sum.inr p.1 : MK)).map kM = l.map fun p => M.str p.1
  | [] => rfl
  | p :: l => by rw [List.map_cons, List.map_cons, List.map_cons, keys_str l]; rfl
theorem edit_ok (Γ : Gm) (hF : Γ.fs "_law_forms" = spForms) (hD : Γ.fs "_law_draw" = spDraw) (hN : Γ.fs "_law_number" = spNum) (hM : Γ.fs "_law_name" = spName) (ms : List M) (Q : M → List M → Prop) (X : Exc → List M → Prop) (h : spEdit ms Q X) : spOf Γ N__law_edit.length P__law_edit.length X__law_edit S__law_edit ms Q X := by
  obtain ⟨ps, rfl, hp, hq⟩ := h
  refine ⟨rfl, ?_⟩
  rw [r__law_edit]
  refine step fun K hK => ?_
  walk_at "ev"
  rw [hF]
  refine ⟨trivial, trivial, rfl, ?_⟩
  walk_at "ev"
  subst hK
  refine step fun K hK => ?_
  simp only [semS, semE, semA, evP, gt, formsM, M.ok, yes, o1E]
  rw [keys_str]
  subst hK
  show semSs Γ _ _ [.lst true ps, formsM, .lst true (forms.map fun p => M.str p.1), .hole, .hole, .hole]
  refine step fun K hK => ?_
  walk_at "ev"
  rw [hD]
  refine ⟨trivial, trivial, _, _, rfl, hp, by decide, fun ps1 n hp1 n0 n1 => ?_⟩
  walk_at "ev"
  obtain ⟨x, e, hx⟩ := at_nat (xs := forms.map fun p => M.str p.1) n0 (by rw [List.length_map]; exact n1)
  obtain ⟨p, hpm, rfl⟩ := List.mem_map.mp hx
  have el : forms.lookup p.1 = some p.2 := by
    have : ∀ p ∈ forms, forms.lookup p.1 = some p.2 := by decide +kernel
    exact this p hpm
  obtain ⟨w, f⟩ := p
  have el : forms.lookup w = some f := el
  obtain ⟨f1, f2, f3⟩ := forms_ne _ _ el
  rw [e]
  dsimp only
  subst hK
  refine step fun K hK => ?_
  walk_at "ev"
  rw [show decide (0 + 1 ≤ sl) = true from by decide]
  simp only [yes]
  subst hK
  refine step fun K hK => for_val fun BB hB => ?_
  simp only [semI, semE, evP, gt, formsM, M.ok, yes, rcv, o2P, ixP]
  refine ⟨_, rfl, ?_⟩
  rw [look_tab, el]
  simp only [Option.map_some, M.ok, yes, M.fz, itemsK]
  rw [hB]
  refine edit_loop Γ hN hM _ _ _ _ f ps1 [.str w] _ hp1 (by simp; omega) f3 fun ps2 r z hp2 hr => ?_
  subst hK
  refine step fun K hK => ?_
  walk_at "ev"
  have hE : Edt (.str w :: r) := ⟨w, f, r, rfl, el, hr⟩
  have hz := fz_ent _ hE.ent.1
  rw [show fzL r = true from hz]
  simp only [yes]
  exact hq _ _ hp2 hE
end V
set_option Elab.async false
set_option linter.all false
set_option maxRecDepth 100000
set_option maxHeartbeats 4000000
namespace V
open PySem PySem.Spec PyProof.Rows L2 Q
local macro_rules | `(tactic| walk_at "ev") => `(tactic| simp only [at_0, at_1, ix_0, ix_1, semSs, semS, semT, semE, semA, semEs, semGs, semI, evT, evP, evO, evTs, evS, o1E, o1P, o2E, o2P, cmpP, ixP, oLen, truM, sliceE, muE, setIx, gt, yes, M.ok, M.fz, fzL, M.isS, M.isL, rcv, asI, asB, fillG, backG, lentOk, agI, pVar, itemsK, itemsOf, rngL, at1, put1, atP, putP, scl, eqF, List.map_cons, List.map_nil, List.length_cons, List.length_nil, List.length_map, List.cons_append, List.nil_append, List.set_cons_zero, List.set_cons_succ, Bool.and_true, Bool.true_and, List.all_cons, List.all_nil, List.append_nil])
/-! lengths of rows of words -/
def tot : List (List Nat) → Nat
  | [] => 0
  | w :: ws => w.length + 1 + tot ws
def Tx (n : Nat) (ws : List (List Nat)) : Prop := tot ws ≤ n ∧ ∀ w ∈ ws, ∀ c ∈ w, c < 128
theorem sum_tot : ∀ ws : List (List Nat), (ws.map List.length).sum + ws.length * ([32] : List Nat).length = tot ws
  | [] => rfl
  | w :: ws => by
    have := sum_tot ws
    simp only [List.map_cons, List.sum_cons, List.length_cons, tot, List.length_nil] at this ⊢
    omega
theorem tot_app : ∀ a b : List (List Nat), tot (a ++ b) = tot a + tot b
  | [], b => by simp [tot]
  | w :: a, b => by
    have := tot_app a b
    simp only [List.cons_append, tot]
    omega
theorem tot_set : ∀ (ws : List (List Nat)) (i : Nat) (w : List Nat), tot (ws.set i w) ≤ tot ws + w.length
  | [], _, _ => Nat.zero_le _
  | x :: ws, 0, w => by simp only [List.set_cons_zero, tot]; omega
  | x :: ws, i + 1, w => by
    have := tot_set ws i w
    simp only [List.set_cons_succ, tot]; omega
theorem tot_erase : ∀ (ws : List (List Nat)) (i : Nat), tot (ws.eraseIdx i) ≤ tot ws
  | [], _ => Nat.le_refl _
  | x :: ws, 0 => by simp only [List.eraseIdx_cons_zero, tot]; omega
  | x :: ws, i + 1 => by
    have := tot_erase ws i
    simp only [List.eraseIdx_cons_succ, tot]; omega
theorem tot_cut (ws : List (List Nat)) (i : Nat) : tot (ws.take i) + tot (ws.drop i) = tot ws := by
  rw [← tot_app, List.take_append_drop]
theorem tot_mem : ∀ (ws : List (List Nat)) (w : List Nat), w ∈ ws → w.length + 1 ≤ tot ws
  | x :: ws, w, h => by
    simp only [tot]
    rcases List.mem_cons.mp h with q | q
    · rw [q]; omega
    · have := tot_mem ws w q; omega
theorem spl_tot {c : Nat} : ∀ (l acc : List Nat), tot (spl1 c acc l) = acc.length + l.length + 1
  | [], acc => by simp [spl1, tot]
  | x :: l, acc => by
    simp only [spl1]
    split
    · have := spl_tot (c := c) l []
      simp only [tot, this, List.length_cons, List.length_nil]; omega
    · have := spl_tot (c := c) l (acc ++ [x])
      rw [this, List.length_append, List.length_singleton, List.length_cons]; omega
theorem join_tx : ∀ (n : Nat) (ws : List (List Nat)), Tx n ws → Wd n (joinL [32] ws)
  | n, [], _ => ⟨Nat.zero_le _, fun _ h => by cases h⟩
  | n, [x], ⟨h1, h2⟩ => ⟨by simp only [tot] at h1; simp only [joinL]; omega, h2 x List.mem_cons_self⟩
  | n, x :: y :: r, ⟨h1, h2⟩ => by
    have ih := join_tx (n - x.length - 1) (y :: r) ⟨by simp only [tot] at h1 ⊢; omega, fun w hw => h2 w (List.mem_cons_of_mem _ hw)⟩
    have e : joinL [32] (x :: y :: r) = x ++ [32] ++ joinL [32] (y :: r) := rfl
    rw [e]
    have i1 := ih.1
    refine ⟨by simp only [tot] at h1; rw [List.length_append, List.length_append, List.length_singleton]; omega, fun c hc => ?_⟩
    rcases List.mem_append.mp hc with q | q
    · rcases List.mem_append.mp q with q | q
      · exact h2 x List.mem_cons_self c q
      · rw [List.mem_singleton.mp q]; decide
    · exact ih.2 c q
theorem strs_str : ∀ ws : List (List Nat), strsOf (ws.map M.str) = some ws
  | [] => rfl
  | w :: ws => by
    show (strsOf (ws.map M.str)).map (w :: ·) = _
    rw [strs_str ws]; rfl
/-! big letters -/
theorem up_txt : ∀ cs : List Nat, (∀ c ∈ cs, c < 128) → ∃ ds, Txt.upper (sS cs) = sS ds ∧ ds.length = cs.length ∧ ∀ d ∈ ds, d < 128
  | [], _ => ⟨[], by decide +kernel, rfl, fun _ h => by cases h⟩
  | c :: cs, h => by
    obtain ⟨ds, h1, h2, h3⟩ := up_txt cs fun x hx => h x (List.mem_cons_of_mem _ hx)
    have hc := h c List.mem_cons_self
    have e : ∀ (x : Nat) (l : List Nat), sS (x :: l) = (⟨#[x]⟩ : Str) ++ sS l := by
      intro x l
      refine PySem.Str.ext' ?_
      rw [PySem.Str.cps_append]
      exact Array.ext' (by simp)
    refine ⟨(if 97 ≤ c ∧ c ≤ 122 then c - 32 else c) :: ds, ?_, by simp [h2], fun d hd => ?_⟩
    · rw [e, PySem.W.KOpn.upper_app, PySem.W.KOpn.upper_one hc, h1, ← e]
    · rcases List.mem_cons.mp hd with q | q
      · rw [q]; split <;> omega
      · exact h3 d q
end V
set_option Elab.async false
set_option linter.all false
set_option maxRecDepth 100000
set_option maxHeartbeats 4000000
namespace V
open PySem PySem.Spec PyProof.Rows L2 Q
local macro_rules | `(tactic| walk_at "ev") => `(tactic| simp only [at_0, at_1, ix_0, ix_1, semSs, semS, semT, semE, semA, semEs, semGs, semI, evT, evP, evO, evTs, evS, o1E, o1P, o2E, o2P, cmpP, ixP, oLen, truM, sliceE, muE, setIx, gt, yes, M.ok, M.fz, fzL, M.isS, M.isL, rcv, asI, asB, fillG, backG, lentOk, agI, pVar, itemsK, itemsOf, rngL, at1, put1, atP, putP, scl, eqF, List.map_cons, List.map_nil, List.length_cons, List.length_nil, List.length_map, List.cons_append, List.nil_append, List.set_cons_zero, List.set_cons_succ, Bool.and_true, Bool.true_and, List.all_cons, List.all_nil, List.append_nil])
/-! _law_odd_word -/
def N__law_odd_word : List Str := [("pool" : Str), ("words" : Str)]
def P__law_odd_word : List Str := [("pool" : Str)]
def X__law_odd_word : List Nat := [0]
def S__law_odd_word : List S := [
  .set 1 (.lst [(.pu (.str [])), (.pu (.str [48])), (.pu (.str [45, 48])), (.pu (.str [48, 48])), (.pu (.str [48, 55])), (.pu (.str [45, 48, 55])), (.pu (.str [43, 49])), (.pu (.str [49, 46, 48])), (.pu (.str [49, 95, 48])), (.pu (.str [57, 57, 57, 57])), (.pu (.str [45, 57, 57, 57, 57])), (.pu (.str [49, 48, 48, 48, 48])), (.pu (.str [45, 49, 48, 48, 48, 48])), (.pu (.str [45, 45, 49])), (.pu (.str [45])), (.pu (.str [65])), (.pu (.str [97]))]),
  .set 1 (.o2 .add (.v (.var 1)) (.e (.lst [(.pu (.str [97, 49])), (.pu (.str [122, 122, 122, 122, 122, 122, 122, 122])), (.pu (.str [122, 122, 122, 122, 122, 122, 122, 122, 122])), (.pu (.str [112, 108, 97, 105, 110])), (.pu (.str [116, 117, 114, 110, 101, 100])), (.pu (.str [104, 97, 110, 100])), (.pu (.str [114, 105, 103, 104, 116])), (.pu (.str [115, 101, 97, 109])), (.pu (.str [111, 118, 101, 114])), (.pu (.str [117, 110, 111, 118, 101, 114])), (.pu (.str [49, 97])), (.pu (.str [120]))]))),
  .ret (.o2 .idx (.v (.var 1)) (.e (.call "_law_draw" [.r 0, .e (.pu (.int 29))])))]
def F__law_odd_word : List (String × Str) := [("_law_draw", ("_law_draw" : Str))]
/-! _law_spoilt -/
def N__law_spoilt : List Str := [("pool" : Str), ("line" : Str), ("kind" : Str), ("words" : Str), ("spot" : Str), ("at" : Str), ("sign" : Str)]
def P__law_spoilt : List Str := [("pool" : Str), ("line" : Str)]
def X__law_spoilt : List Nat := [0, 1]
def S__law_spoilt : List S := [
  .set 2 (.call "_law_draw" [.r 0, .e (.pu (.int 10))]),
  .set 3 (.o2s .split (.var 1) (.v (.str [32]))),
  .set 4 (.call "_law_draw" [.r 0, .e (.pu (.o1 .len (.var 3)))]),
  .ite (.p (.p (.o2 .lt (.var 2) (.int 2)))) [.sti 3 [] (.var 4) (.call "_law_odd_word" [.r 0]), .ret (.pu (.o2 .join (.str [32]) (.var 3)))] [],
  .ite (.p (.p (.o2 .eq (.var 2) (.int 2)))) [.ex (.mut .insert 3 [] [(.pu (.var 4)), (.call "_law_odd_word" [.r 0])]), .ret (.pu (.o2 .join (.str [32]) (.var 3)))] [],
  .ite (.p (.p (.o2 .eq (.var 2) (.int 3)))) [.ex (.mut .popAt 3 [] [(.pu (.var 4))]), .ret (.pu (.o2 .join (.str [32]) (.var 3)))] [],
  .ite (.p (.p (.o2 .eq (.var 2) (.int 4)))) [.ret (.o2s .join (.str [32]) (.e (.o2 .add (.e (.o2 .add (.e (.slc (.v (.var 3)) none (some (.var 4)))) (.e (.lst [(.pu (.o2 .idx (.var 3) (.var 4)))])))) (.e (.slc (.v (.var 3)) (some (.var 4)) none)))))] [],
  .ite (.p (.p (.o2 .eq (.var 2) (.int 5)))) [.sti 3 [] (.int 0) (.o2 .idx (.e (.o1 .listOf (.e (.call "_law_forms" [])))) (.e (.call "_law_draw" [.r 0, .e (.pu (.int 15))]))), .ret (.pu (.o2 .join (.str [32]) (.var 3)))] [],
  .ite (.p (.p (.o2 .eq (.var 2) (.int 6)))) [.ret (.o2 .add (.v (.var 1)) (.e (.o2 .idx (.e (.lst [(.pu (.str [32])), (.pu (.str [10])), (.pu (.str [9])), (.pu (.str [32, 48]))])) (.e (.call "_law_draw" [.r 0, .e (.pu (.int 4))])))))] [],
  .ite (.p (.p (.o2 .eq (.var 2) (.int 7)))) [.ret (.o2 .add (.e (.o2 .idx (.e (.lst [(.pu (.str [32])), (.pu (.str [10])), (.pu (.str [117, 110])), (.pu (.str [48, 32]))])) (.e (.call "_law_draw" [.r 0, .e (.pu (.int 4))])))) (.v (.var 1)))] [],
  .ite (.p (.p (.o2 .eq (.var 2) (.int 8)))) [.ret (.pu (.o1 .upper (.var 1)))] [],
  .set 5 (.call "_law_draw" [.r 0, .e (.pu (.o2 .add (.o1 .len (.var 1)) (.int 1)))]),
  .set 6 (.o2 .idx (.e (.lst [(.pu (.str [])), (.pu (.str [32])), (.pu (.str [45])), (.pu (.str [48])), (.pu (.str [49])), (.pu (.str [57])), (.pu (.str [97])), (.pu (.str [122])), (.pu (.str [65])), (.pu (.str [10]))])) (.e (.call "_law_draw" [.r 0, .e (.pu (.int 10))]))),
  .ret (.o2 .add (.v (.o2 .add (.slS (.var 1) none (some (.var 5))) (.var 6))) (.e (.sll (.var 1) (.o2 .add (.v (.var 5)) (.e (.call "_law_draw" [.r 0, .e (.pu (.int 2))]))))))]
def F__law_spoilt : List (String × Str) := [("_law_draw", ("_law_draw" : Str)), ("_law_forms", ("_law_forms" : Str)), ("_law_odd_word", ("_law_odd_word" : Str))]
def spOdd : FSp := fun ms Q _ => ∃ ps, ms = [.lst true ps] ∧ Pok ps ∧ ∀ ps' cs, Pok ps' → Wd 9 cs → Q (.str cs) [.lst true ps']
theorem o__law_odd_word (a b : M) : outs X__law_odd_word P__law_odd_word.length [a, b] = [a] := rfl
theorem r__law_odd_word : List.replicate (N__law_odd_word.length - P__law_odd_word.length) M.hole = [.hole] := rfl
def odds : List (List Nat) := [[], [48], [45, 48], [48, 48], [48, 55], [45, 48, 55], [43, 49], [49, 46, 48], [49, 95, 48], [57, 57, 57, 57], [45, 57, 57, 57, 57], [49, 48, 48, 48, 48], [45, 49, 48, 48, 48, 48], [45, 45, 49], [45], [65], [97], [97, 49], [122, 122, 122, 122, 122, 122, 122, 122], [122, 122, 122, 122, 122, 122, 122, 122, 122], [112, 108, 97, 105, 110], [116, 117, 114, 110, 101, 100], [104, 97, 110, 100], [114, 105, 103, 104, 116], [115, 101, 97, 109], [111, 118, 101, 114], [117, 110, 111, 118, 101, 114], [49, 97], [120]]
theorem odd_ok (Γ : Gm) (hD : Γ.fs "_law_draw" = spDraw) (ms : List M) (Q : M → List M → Prop) (X : Exc → List M → Prop) (h : spOdd ms Q X) : spOf Γ N__law_odd_word.length P__law_odd_word.length X__law_odd_word S__law_odd_word ms Q X := by
  obtain ⟨ps, rfl, hp, hq⟩ := h
  refine ⟨rfl, ?_⟩
  rw [r__law_odd_word]
  refine step fun K hK => ?_
  walk_at "ev"
  rw [show ∀ n : Nat, decide (n ≤ sl) = decide (n ≤ 16777216) from fun _ => rfl]
  simp only [Nat.zero_add, Nat.reduceAdd, Nat.reduceLeDiff, decide_true]
  subst hK
  refine step fun K hK => ?_
  walk_at "ev"
  rw [show ∀ n : Nat, decide (n ≤ sl) = decide (n ≤ 16777216) from fun _ => rfl]
  simp only [Nat.zero_add, Nat.reduceAdd, Nat.reduceLeDiff, decide_true]
  refine ⟨by decide, ?_⟩
  subst hK
  refine step fun K hK => ?_
  walk_at "ev"
  rw [hD]
  refine ⟨trivial, trivial, _, _, rfl, hp, by decide, fun ps1 k hp1 hk1 hk2 => ?_⟩
  walk_at "ev"
  obtain ⟨x, e, hx⟩ := at_nat (xs := odds.map M.str) hk1 hk2
  have hw : ∃ cs, x = .str cs ∧ Wd 9 cs := by
    obtain ⟨cs, h1, rfl⟩ := List.mem_map.mp hx
    refine ⟨cs, rfl, ?_⟩
    have : ∀ cs ∈ odds, cs.length ≤ 9 ∧ ∀ c ∈ cs, c < 128 := by decide +kernel
    exact this cs h1
  clear hx
  obtain ⟨cs, rfl, hw⟩ := hw
  simp only [odds, List.map_cons, List.map_nil] at e
  rw [e]
  walk_at "ev"
  rw [o__law_odd_word]
  exact hq _ _ hp1 hw
/-! a spoilt line -/
def spSpoilt : FSp := fun ms Q _ => ∃ ps line, ms = [.lst true ps, .str line] ∧ Pok ps ∧ Wd 90 line ∧ ∀ ps' cs, Pok ps' → Wd 300 cs → Q (.str cs) [.lst true ps', .str line]
theorem r__law_spoilt : List.replicate (N__law_spoilt.length - P__law_spoilt.length) M.hole = [.hole, .hole, .hole, .hole, .hole] := rfl
theorem o__law_spoilt (a b c d e f g : M) : outs X__law_spoilt P__law_spoilt.length [a, b, c, d, e, f, g] = [a, b] := rfl
theorem set_str (ws : List (List Nat)) (k : Nat) (w : List Nat) : (ws.map M.str).set k (.str w) = (ws.set k w).map M.str := by rw [List.map_set]
theorem ins_str (ws : List (List Nat)) (k : Nat) (w : List Nat) : (ws.map M.str).take k ++ [M.str w] ++ (ws.map M.str).drop k = (ws.take k ++ [w] ++ ws.drop k).map M.str := by
  rw [List.map_append, List.map_append, List.map_take, List.map_drop]; rfl
theorem era_str : ∀ (ws : List (List Nat)) (k : Nat), (ws.map M.str).eraseIdx k = (ws.eraseIdx k).map M.str
  | [], _ => rfl
  | w :: ws, 0 => rfl
  | w :: ws, k + 1 => by
    show M.str w :: (ws.map M.str).eraseIdx k = M.str w :: (ws.eraseIdx k).map M.str
    rw [era_str ws k]
theorem Tx.sl {n : Nat} {ws : List (List Nat)} (h : Tx n ws) (hn : n ≤ 1000) : (ws.map List.length).sum + ws.length * ([32] : List Nat).length ≤ sl := by
  rw [sum_tot]
  exact Nat.le_trans h.1 (Nat.le_trans hn (by decide))
theorem one_of (l : List (List Nat)) (n : Nat) (hl : ∀ w ∈ l, w.length ≤ n ∧ ∀ c ∈ w, c < 128) {i : Int} (h0 : 0 ≤ i) (h1 : i < ((l.map M.str).length : Int)) : ∃ w, atL (l.map M.str) i = some (.str w) ∧ Wd n w := by
  obtain ⟨x, e, hx⟩ := at_nat h0 h1
  obtain ⟨w, hw, rfl⟩ := List.mem_map.mp hx
  exact ⟨w, e, hl w hw⟩
theorem spoilt_ok (Γ : Gm) (hF : Γ.fs "_law_forms" = spForms) (hD : Γ.fs "_law_draw" = spDraw) (hO : Γ.fs "_law_odd_word" = spOdd) (ms : List M) (Q : M → List M → Prop) (X : Exc → List M → Prop) (h : spSpoilt ms Q X) : spOf Γ N__law_spoilt.length P__law_spoilt.length X__law_spoilt S__law_spoilt ms Q X := by
  obtain ⟨ps, line, rfl, hp, hw, hq⟩ := h
  have hll := hw.1
  refine ⟨rfl, ?_⟩
  rw [r__law_spoilt]
  refine step fun K hK => ?_
  walk_at "ev"
  rw [hD]
  refine ⟨trivial, trivial, _, _, rfl, hp, by decide, fun ps1 kd hp1 _ _ => ?_⟩
  walk_at "ev"
  subst hK
  refine step fun K hK => ?_
  walk_at "ev"
  rw [show ((([32] : List Nat).getD 0 0)) = 32 from rfl]
  refine ⟨Nat.le_trans (Nat.add_le_add_right hll 2) (by decide), ?_⟩
  have ht : tot (spl1 32 [] line) = line.length + 1 := by rw [spl_tot]; simp
  obtain ⟨s1, s2, s3⟩ := spl_wd (c := 32) (n := 90) line [] (by simpa using hll) (fun _ h => by cases h) hw.2
  generalize spl1 32 [] line = ws at ht s1 s2 s3
  have hT : Tx 91 ws := ⟨by omega, fun w hw => (s1 w hw).2⟩
  subst hK
  refine step fun K hK => ?_
  walk_at "ev"
  rw [hD]
  have hpos : 0 < ws.length := by
    cases ws with
    | nil => exact (s3 rfl).elim
    | cons => simp
  refine ⟨trivial, trivial, _, _, rfl, hp1, by omega, fun ps2 sp hp2 p0 p1 => ?_⟩
  walk_at "ev"
  have psp : sp.toNat < ws.length := by omega
  have ixs : ixL (ws.map M.str).length sp = some sp.toNat := ix_nat p0 (by rw [List.length_map]; exact psp)
  have ixs' : ixL ws.length sp = some sp.toNat := ix_nat p0 psp
  have ats : atL (ws.map M.str) sp = some (.str ws[sp.toNat]) := by
    have := at_map (ws := ws) psp
    rw [show ((sp.toNat : Nat) : Int) = sp by omega] at this
    exact this
  have mws : ws[sp.toNat] ∈ ws := List.getElem_mem psp
  subst hK
  refine step fun K hK => ite_step fun KA KB hA hB => ?_
  walk_at "ev"
  cases c1 : decide (kd < 2) with
  | true =>
    dsimp only
    subst hA
    refine step fun K1 hK1 => ?_
    walk_at "ev"
    rw [hO]
    refine ⟨trivial, trivial, _, rfl, hp2, fun ps3 o hp3 ho => ?_⟩
    walk_at "ev"
    rw [ixs']
    dsimp only
    rw [set_str]
    subst hK1
    refine step fun K1 hK1 => ?_
    have hT2 : Tx 100 (ws.set sp.toNat o) := ⟨Nat.le_trans (tot_set _ _ _) (by have := ho.1; have := hT.1; omega), fun w hw => by
      rcases List.mem_or_eq_of_mem_set hw with q | q
      · exact hT.2 w q
      · rw [q]; exact ho.2⟩
    walk_at "ev"
    refine ⟨_, strs_str _, hT2.sl (by decide), ?_⟩
    exact hq _ _ hp3 ((join_tx _ _ hT2).mono (by decide))
  | false =>
  dsimp only
  subst hB
  show K _
  subst hK
  refine step fun K hK => ite_step fun KA KB hA hB => ?_
  walk_at "ev"
  cases c2 : (kd == 2 : Bool) with
  | true =>
    dsimp only
    subst hA
    refine step fun K1 hK1 => ?_
    walk_at "ev"
    rw [hO]
    refine ⟨trivial, trivial, _, rfl, hp2, fun ps3 o hp3 ho => ?_⟩
    walk_at "ev"
    refine ⟨slp (by omega), p0, by omega, ?_⟩
    rw [ins_str]
    subst hK1
    refine step fun K1 hK1 => ?_
    have hT2 : Tx 101 (ws.take sp.toNat ++ [o] ++ ws.drop sp.toNat) := ⟨by
      have h1 := tot_cut ws sp.toNat
      have h2 := ho.1
      have h3 := hT.1
      rw [tot_app, tot_app]
      simp only [tot]
      omega, fun w hw => by
      rcases List.mem_append.mp hw with q | q
      · rcases List.mem_append.mp q with q | q
        · exact hT.2 w (List.mem_of_mem_take q)
        · rw [List.mem_singleton.mp q]; exact ho.2
      · exact hT.2 w (List.mem_of_mem_drop q)⟩
    walk_at "ev"
    refine ⟨_, strs_str _, hT2.sl (by decide), ?_⟩
    exact hq _ _ hp3 ((join_tx _ _ hT2).mono (by decide))
  | false =>
  dsimp only
  subst hB
  show K _
  subst hK
  refine step fun K hK => ite_step fun KA KB hA hB => ?_
  walk_at "ev"
  cases c3 : (kd == 3 : Bool) with
  | true =>
    dsimp only
    subst hA
    refine step fun K1 hK1 => ?_
    walk_at "ev"
    refine ⟨by omega, by omega, ?_⟩
    rw [ixs']
    dsimp only
    rw [show (ws.map M.str)[sp.toNat]? = some (.str ws[sp.toNat]) from by rw [List.getElem?_map, List.getElem?_eq_getElem psp]; rfl]
    dsimp only
    rw [era_str]
    subst hK1
    refine step fun K1 hK1 => ?_
    have hT2 : Tx 101 (ws.eraseIdx sp.toNat) := ⟨Nat.le_trans (tot_erase _ _) (by have := hT.1; omega), fun w hw => hT.2 w (List.mem_of_mem_eraseIdx hw)⟩
    walk_at "ev"
    refine ⟨_, strs_str _, hT2.sl (by decide), ?_⟩
    exact hq _ _ hp2 ((join_tx _ _ hT2).mono (by decide))
  | false =>
  dsimp only
  subst hB
  show K _
  subst hK
  refine step fun K hK => ite_step fun KA KB hA hB => ?_
  walk_at "ev"
  cases c4 : (kd == 4 : Bool) with
  | true =>
    dsimp only
    subst hA
    refine step fun K1 hK1 => ?_
    walk_at "ev"
    rw [fz_strs]
    dsimp only
    rw [ats]
    dsimp only
    rw [show decide (0 + 1 ≤ sl) = true from by decide]
    dsimp only
    rw [cut_take _ p0, cut_drop _ p0, ← List.map_take, fz_strs]
    simp only [M.fz, Bool.and_self]
    rw [← List.map_drop, show (List.take sp.toNat ws).map M.str ++ [M.str ws[sp.toNat]] = (ws.take sp.toNat ++ [ws[sp.toNat]]).map M.str from by rw [List.map_append]; rfl, fz_strs, fz_strs]
    simp only [Bool.and_self]
    rw [← List.map_append]
    have hT2 : Tx 190 (ws.take sp.toNat ++ [ws[sp.toNat]] ++ ws.drop sp.toNat) := ⟨by
      have h1 := tot_cut ws sp.toNat
      have h2 := tot_mem ws _ mws
      have h3 := hT.1
      rw [tot_app, tot_app]
      simp only [tot]
      omega, fun w hw => by
      rcases List.mem_append.mp hw with q | q
      · rcases List.mem_append.mp q with q | q
        · exact hT.2 w (List.mem_of_mem_take q)
        · rw [List.mem_singleton.mp q]; exact hT.2 _ mws
      · exact hT.2 w (List.mem_of_mem_drop q)⟩
    refine ⟨Nat.le_of_lt (slp (by rw [List.length_map, List.length_take]; omega)), Nat.le_of_lt (slp (by simp only [List.length_map, List.length_append, List.length_take, List.length_drop, List.length_cons, List.length_nil]; omega)), _, strs_str _, hT2.sl (by decide), ?_⟩
    exact hq _ _ hp2 ((join_tx _ _ hT2).mono (by decide))
  | false =>
  dsimp only
  subst hB
  show K _
  subst hK
  refine step fun K hK => ite_step fun KA KB hA hB => ?_
  walk_at "ev"
  cases c5 : (kd == 5 : Bool) with
  | true =>
    dsimp only
    subst hA
    refine step fun K1 hK1 => ?_
    walk_at "ev"
    rw [hF]
    refine ⟨trivial, trivial, rfl, ?_⟩
    simp only [formsM, o1E, M.fz, backG]
    rw [keys_str]
    rw [hD]
    refine ⟨trivial, trivial, _, _, rfl, hp2, by decide, fun ps3 n hp3 n0 n1 => ?_⟩
    walk_at "ev"
    obtain ⟨x, e, hx⟩ := at_nat (xs := forms.map fun p => M.str p.1) n0 (by rw [List.length_map]; exact n1)
    obtain ⟨p, hpm, rfl⟩ := List.mem_map.mp hx
    have hk := (forms_key p hpm).1
    rw [e]
    dsimp only
    rw [show ixL ws.length 0 = some 0 from ix_nat (by decide) hpos]
    dsimp only
    rw [set_str]
    subst hK1
    refine step fun K1 hK1 => ?_
    have hT2 : Tx 100 (ws.set 0 p.1) := ⟨Nat.le_trans (tot_set _ _ _) (by have := hk.1; have := hT.1; omega), fun w hw => by
      rcases List.mem_or_eq_of_mem_set hw with q | q
      · exact hT.2 w q
      · rw [q]; exact hk.2⟩
    walk_at "ev"
    refine ⟨_, strs_str _, hT2.sl (by decide), ?_⟩
    exact hq _ _ hp3 ((join_tx _ _ hT2).mono (by decide))
  | false =>
  dsimp only
  subst hB
  show K _
  subst hK
  refine step fun K hK => ite_step fun KA KB hA hB => ?_
  walk_at "ev"
  cases c6 : (kd == 6 : Bool) with
  | true =>
    dsimp only
    subst hA
    refine step fun K1 hK1 => ?_
    walk_at "ev"
    rw [show decide (0 + 1 + 1 + 1 + 1 ≤ sl) = true from by decide]
    dsimp only
    rw [hD]
    refine ⟨trivial, trivial, _, _, rfl, hp2, by decide, fun ps3 n hp3 n0 n1 => ?_⟩
    walk_at "ev"
    obtain ⟨w, e, hw2⟩ := one_of [[32], [10], [9], [32, 48]] 2 (by decide +kernel) n0 n1
    rw [show atL [M.str [32], M.str [10], M.str [9], M.str [32, 48]] n = _ from e]
    dsimp only
    have := hw2.1
    rw [slb (n := line.length + w.length) (by omega)]
    exact hq _ _ hp3 ⟨by rw [List.length_append]; omega, fun c hc => by
      rcases List.mem_append.mp hc with q | q
      · exact hw.2 c q
      · exact hw2.2 c q⟩
  | false =>
  dsimp only
  subst hB
  show K _
  subst hK
  refine step fun K hK => ite_step fun KA KB hA hB => ?_
  walk_at "ev"
  cases c7 : (kd == 7 : Bool) with
  | true =>
    dsimp only
    subst hA
    refine step fun K1 hK1 => ?_
    walk_at "ev"
    rw [show decide (0 + 1 + 1 + 1 + 1 ≤ sl) = true from by decide]
    dsimp only
    rw [hD]
    refine ⟨trivial, trivial, _, _, rfl, hp2, by decide, fun ps3 n hp3 n0 n1 => ?_⟩
    walk_at "ev"
    obtain ⟨w, e, hw2⟩ := one_of [[32], [10], [117, 110], [48, 32]] 2 (by decide +kernel) n0 n1
    rw [show atL [M.str [32], M.str [10], M.str [117, 110], M.str [48, 32]] n = _ from e]
    dsimp only
    have := hw2.1
    rw [slb (n := w.length + line.length) (by omega)]
    exact hq _ _ hp3 ⟨by rw [List.length_append]; omega, fun c hc => by
      rcases List.mem_append.mp hc with q | q
      · exact hw2.2 c q
      · exact hw.2 c q⟩
  | false =>
  dsimp only
  subst hB
  show K _
  subst hK
  refine step fun K hK => ite_step fun KA KB hA hB => ?_
  walk_at "ev"
  cases c8 : (kd == 8 : Bool) with
  | true =>
    dsimp only
    subst hA
    refine step fun K1 hK1 => ?_
    walk_at "ev"
    refine ⟨Nat.le_trans hll (by decide), ?_⟩
    obtain ⟨ds, h1, h2, h3⟩ := up_txt line hw.2
    rw [h1]
    exact hq _ _ hp2 ⟨by show ds.length ≤ 300; omega, h3⟩
  | false =>
  dsimp only
  subst hB
  show K _
  subst hK
  refine step fun K hK => ?_
  walk_at "ev"
  rw [slb (n := line.length) (by omega)]
  dsimp only
  rw [hD]
  refine ⟨trivial, trivial, _, _, rfl, hp2, by omega, fun ps3 at_ hp3 a0 a1 => ?_⟩
  walk_at "ev"
  subst hK
  refine step fun K hK => ?_
  walk_at "ev"
  rw [show decide (0 + 1 + 1 + 1 + 1 + 1 + 1 + 1 + 1 + 1 + 1 ≤ sl) = true from by decide]
  dsimp only
  rw [hD]
  refine ⟨trivial, trivial, _, _, rfl, hp3, by decide, fun ps4 n hp4 n0 n1 => ?_⟩
  walk_at "ev"
  obtain ⟨w, e, hw2⟩ := one_of [[], [32], [45], [48], [49], [57], [97], [122], [65], [10]] 1 (by decide +kernel) n0 n1
  rw [show atL [M.str [], M.str [32], M.str [45], M.str [48], M.str [49], M.str [57], M.str [97], M.str [122], M.str [65], M.str [10]] n = _ from e]
  dsimp only
  subst hK
  refine step fun K hK => ?_
  walk_at "ev"
  have hw21 := hw2.1
  have hcl := cut_len line none (some at_)
  rw [slb (n := line.length) (by omega)]
  dsimp only
  rw [slb (n := (cutL line none (some at_)).length + w.length) (by omega)]
  dsimp only
  rw [hD]
  refine ⟨trivial, trivial, _, _, rfl, hp4, by decide, fun ps5 m hp5 m0 m1 => ?_⟩
  walk_at "ev"
  have hcl2 := cut_len line (some (at_ + m)) none
  rw [slb (n := (cutL line none (some at_) ++ w).length + (cutL line (some (at_ + m)) none).length) (by rw [List.length_append]; omega)]
  dsimp only
  refine hq _ _ hp5 ⟨by rw [List.length_append, List.length_append]; omega, fun c hc => ?_⟩
  rcases List.mem_append.mp hc with q | q
  · rcases List.mem_append.mp q with q | q
    · exact hw.2 c (cut_mem q)
    · exact hw2.2 c q
  · exact hw.2 c (cut_mem q)
end V
set_option Elab.async false
set_option linter.all false
set_option maxRecDepth 100000
set_option maxHeartbeats 4000000
namespace V
open PySem PySem.Spec PyProof.Rows L2 Q
local macro_rules | `(tactic| walk_at "ev") => `(tactic| simp only [at_0, at_1, ix_0, ix_1, semSs, semS, semT, semE, semA, semEs, semGs, semI, evT, evP, evO, evTs, evS, o1E, o1P, o2E, o2P, cmpP, ixP, oLen, truM, sliceE, muE, setIx, gt, yes, M.ok, M.fz, fzL, M.isS, M.isL, rcv, asI, asB, fillG, backG, lentOk, agI, pVar, itemsK, itemsOf, rngL, at1, put1, atP, putP, scl, eqF, List.map_cons, List.map_nil, List.length_cons, List.length_nil, List.length_map, List.cons_append, List.nil_append, List.set_cons_zero, List.set_cons_succ, Bool.and_true, Bool.true_and, List.all_cons, List.all_nil, List.append_nil])
/-! law -/
def N_law : List Str := [("script" : Str), ("pool" : Str), ("k" : Str), ("edit" : Str), ("line" : Str), ("j" : Str), ("spoilt" : Str), ("entry" : Str)]
def P_law : List Str := [("script" : Str)]
def X_law : List Nat := [0]
def S_law : List S := [
  .set 1 (.call "_law_pool" [.e (.pu (.var 0))]),
  .for_ 2 (.rng [(.pu (.int 12))]) [.set 3 (.call "_law_edit" [.r 1]), .set 4 (.o2s .join (.str [32]) (.e (.comp 7 (.vw 3) [] (.pu (.o1 .toStr (.var 7)))))), .ite (.or (.not (.e (.call "_law_same" [.e (.call "write_edit" [.e (.pu (.var 3))]), .e (.pu (.var 4))]))) (.not (.e (.call "_law_same" [.e (.call "_law_asked" [.e (.pu (.var 4))]), .e (.pu (.var 3))])))) [.ret (.pu (.bl false))] [], .for_ 5 (.rng [(.pu (.int 4))]) [.set 6 (.call "_law_spoilt" [.r 1, .e (.pu (.var 4))]), .ite (.not (.e (.call "_law_same" [.e (.call "_law_asked" [.e (.pu (.var 6))]), .e (.call "_law_reading" [.e (.pu (.var 6))])]))) [.ret (.pu (.bl false))] []]],
  .ret (.call "_law_same" [.e (.call "_law_asked" [.e (.pu (.str []))]), .e (.tup [(.pu (.str [114, 101, 102, 117, 115, 101, 100])), (.pu (.bl true)), (.pu (.bl false))])])]
def F_law : List (String × Str) := [("_law_asked", ("_law_asked" : Str)), ("_law_edit", ("_law_edit" : Str)), ("_law_pool", ("_law_pool" : Str)), ("_law_reading", ("_law_reading" : Str)), ("_law_same", ("_law_same" : Str)), ("_law_spoilt", ("_law_spoilt" : Str)), ("write_edit", ("write_edit" : Str))]
theorem sam_flat {n : Nat} {d : M} (h : d.flat = true) : Sam n d d := by
  cases n with
  | zero => exact ⟨h, rfl⟩
  | succ n => exact .inl ⟨h, rfl⟩
theorem flat_ok {m : M} (h : m.flat = true) : m.ok = true ∧ m.frz = m := by
  cases m <;> first | exact ⟨rfl, rfl⟩ | cases h
theorem sam_tup {n : Nat} {es : List M} (h : ∀ m ∈ es, m.flat = true) (hl : es.length ≤ 100000) : Sam (n + 1) (.tup es) (.tup es) :=
  .inr ⟨true, es, es, rfl, rfl, rfl, hl, fun i x y hx hy => by
    have e : x = y := by rw [hx] at hy; cases hy; rfl
    subst e
    have hf := h x (List.mem_of_getElem? hx)
    obtain ⟨h1, h2⟩ := flat_ok hf
    exact ⟨h1, h1, by rw [h2]; exact sam_flat hf⟩⟩
theorem rd_flat {line : List Nat} {es : List M} (h : rd line = some es) : (∀ m ∈ es, m.flat = true) ∧ es.length ≤ 100 := by
  unfold rd at h
  generalize spl1 32 [] line = ws at h
  cases ws with
  | nil => cases h
  | cons w ws =>
    simp only [rdW] at h
    cases el : forms.lookup w with
    | none => rw [el] at h; cases h
    | some f =>
      rw [el] at h
      dsimp only at h
      cases er : rdE ws f with
      | none => rw [er] at h; cases h
      | some r =>
        rw [er] at h
        cases h
        obtain ⟨_, h2, h3⟩ := rdE_fz _ _ _ er
        have := (forms_ne _ _ el).2.1
        refine ⟨fun m hm => ?_, by simp [h2]; omega⟩
        rcases List.mem_cons.mp hm with q | q
        · rw [q]; rfl
        · exact h3 m q
abbrev ans (line : List Nat) : M := match rd line with | some es => .tup es | none => refused
theorem ref_flat : ∀ m ∈ [M.str [114, 101, 102, 117, 115, 101, 100], .bl true, .bl false], m.flat = true := by
  intro m hm
  simp only [List.mem_cons, List.not_mem_nil, or_false] at hm
  rcases hm with rfl | rfl | rfl <;> rfl
theorem sam_ans (line : List Nat) : Sam 1 (ans line) (ans line) := by
  unfold ans
  cases e : rd line with
  | none => exact sam_tup ref_flat (by decide)
  | some es => obtain ⟨h1, h2⟩ := rd_flat e; exact sam_tup h1 (by omega)
theorem ans_ok (line : List Nat) : (ans line).ok = true := by
  unfold ans
  split <;> rfl
theorem r_law : List.replicate (N_law.length - P_law.length) M.hole = [.hole, .hole, .hole, .hole, .hole, .hole, .hole] := rfl
theorem o_law (a b c d e f g h : M) : outs X_law P_law.length [a, b, c, d, e, f, g, h] = [a] := rfl
def law_b2 : List S := [.set 6 (.call "_law_spoilt" [.r 1, .e (.pu (.var 4))]), .ite (.not (.e (.call "_law_same" [.e (.call "_law_asked" [.e (.pu (.var 6))]), .e (.call "_law_reading" [.e (.pu (.var 6))])]))) [.ret (.pu (.bl false))] []]
theorem law_loop2 (Γ : Gm) (hSp : Γ.fs "_law_spoilt" = spSpoilt) (hSa : Γ.fs "_law_same" = spSame 1) (hA : Γ.fs "_law_asked" = spReading) (hR : Γ.fs "_law_reading" = spReading) (D : Dn) (s k ed : M) (line : List Nat) (hl : Wd 90 line) : ∀ (n : Nat) (j : Int) (ps : List M) (z5 z6 : M), Pok ps → (∀ ps z5 z6, Pok ps → D.nx [s, .lst true ps, k, ed, .str line, z5, z6, .hole]) →
    forL 5 (semSs Γ law_b2) D (rngL j 1 n) [s, .lst true ps, k, ed, .str line, z5, z6, .hole]
  | 0, j, ps, z5, z6, hp, h => h ps z5 z6 hp
  | n + 1, j, ps, z5, z6, hp, h => by
    show semSs Γ _ _ _
    refine step fun K hK => ?_
    walk_at "ev"
    rw [hSp]
    refine ⟨trivial, trivial, _, _, rfl, hp, hl, fun ps1 sp hp1 hsp => ?_⟩
    walk_at "ev"
    have hsp5 : Wd 500 sp := hsp.mono (by decide)
    subst hK
    refine step fun K hK => ite_step fun KA KB hA' hB => ?_
    walk_at "ev"
    rw [hA]
    refine ⟨trivial, trivial, trivial, sp, rfl, hsp5, ?_⟩
    walk_at "ev"
    rw [hR]
    refine ⟨trivial, trivial, sp, rfl, hsp5, ?_⟩
    simp only [List.all_cons, List.all_nil, Bool.and_true, fillG, List.map_cons, List.map_nil, agI]
    rw [hSa]
    refine ⟨by cases rd sp <;> rfl, _, _, rfl, sam_ans sp, fun a' d' => ?_⟩
    simp only [backG, truM, Bool.not_true]
    subst hB
    show K _
    subst hK
    exact law_loop2 Γ hSp hSa hA hR D s k ed line hl n (j + 1) ps1 _ _ hp1 h
def law_b1 : List S := [.set 3 (.call "_law_edit" [.r 1]), .set 4 (.o2s .join (.str [32]) (.e (.comp 7 (.vw 3) [] (.pu (.o1 .toStr (.var 7)))))), .ite (.or (.not (.e (.call "_law_same" [.e (.call "write_edit" [.e (.pu (.var 3))]), .e (.pu (.var 4))]))) (.not (.e (.call "_law_same" [.e (.call "_law_asked" [.e (.pu (.var 4))]), .e (.pu (.var 3))])))) [.ret (.pu (.bl false))] [], .for_ 5 (.rng [(.pu (.int 4))]) law_b2]
theorem law_loop1 (Γ : Gm) (hE : Γ.fs "_law_edit" = spEdit) (hW : Γ.fs "write_edit" = spWrite) (hSp : Γ.fs "_law_spoilt" = spSpoilt) (hSa : Γ.fs "_law_same" = spSame 1) (hA : Γ.fs "_law_asked" = spReading) (hR : Γ.fs "_law_reading" = spReading) (D : Dn) (s : M) : ∀ (n : Nat) (j : Int) (ps : List M) (z2 z3 z4 z5 z6 : M), Pok ps → (∀ ps z2 z3 z4 z5 z6, Pok ps → D.nx [s, .lst true ps, z2, z3, z4, z5, z6, .hole]) →
    forL 2 (semSs Γ law_b1) D (rngL j 1 n) [s, .lst true ps, z2, z3, z4, z5, z6, .hole]
  | 0, j, ps, z2, z3, z4, z5, z6, hp, h => h ps z2 z3 z4 z5 z6 hp
  | n + 1, j, ps, z2, z3, z4, z5, z6, hp, h => by
    show semSs Γ _ _ _
    refine step fun K hK => ?_
    walk_at "ev"
    rw [hE]
    refine ⟨trivial, trivial, _, rfl, hp, fun ps1 es hp1 he => ?_⟩
    walk_at "ev"
    have hent := he.ent
    have hfz := fz_ent es hent.1
    subst hK
    refine step fun K hK => ?_
    refine line_E Γ _ 3 7 es rfl rfl (by show 7 < 8; decide) (by decide) hent.1 (by omega) _ _ ?_
    walk_at "ev"
    have hwd := he.wd
    have hrd := he.rd
    obtain ⟨line, hline⟩ : ∃ l, l = joinL [32] (es.map txE) := ⟨_, rfl⟩
    rw [← hline] at hwd hrd ⊢
    subst hK
    refine step fun K hK => ite_step fun KA KB hA' hB => ?_
    walk_at "ev"
    rw [hfz]
    dsimp only
    rw [hW]
    refine ⟨trivial, trivial, trivial, es, rfl, hent.1, by omega, ?_⟩
    rw [← hline]
    walk_at "ev"
    rw [hSa]
    refine ⟨trivial, _, _, rfl, sam_flat rfl, fun a' d' => ?_⟩
    walk_at "ev"
    simp only [Bool.not_true]
    rw [hA]
    refine ⟨trivial, trivial, trivial, line, rfl, hwd.mono (by decide), ?_⟩
    rw [hrd]
    walk_at "ev"
    rw [hfz]
    dsimp only
    refine ⟨trivial, _, _, rfl, ?_, fun a' d' => ?_⟩
    · obtain ⟨h1, h2⟩ := rd_flat hrd
      exact sam_tup h1 (by omega)
    · simp only [backG, truM, Bool.not_true]
      subst hB
      show K _
      subst hK
      refine step fun K hK => for_rng fun BB hB => ?_
      walk_at "ev"
      refine ⟨by decide, by decide, ?_⟩
      rw [hB]
      refine law_loop2 Γ hSp hSa hA hR _ _ _ _ line hwd 4 0 ps1 _ _ hp1 fun ps z5 z6 hp => ?_
      dsimp only
      subst hK
      exact law_loop1 Γ hE hW hSp hSa hA hR D s n (j + 1) ps _ _ _ _ _ hp h
theorem law_ok (Γ : Gm) (hP : Γ.fs "_law_pool" = spPool) (hE : Γ.fs "_law_edit" = spEdit) (hW : Γ.fs "write_edit" = spWrite) (hSp : Γ.fs "_law_spoilt" = spSpoilt) (hSa : Γ.fs "_law_same" = spSame 1) (hA : Γ.fs "_law_asked" = spReading) (hR : Γ.fs "_law_reading" = spReading) (ms : List M) (Q : M → List M → Prop) (X : Exc → List M → Prop) (h : spLaw ms Q X) : spOf Γ N_law.length P_law.length X_law S_law ms Q X := by
  obtain ⟨ns, rfl, hq⟩ := h
  refine ⟨rfl, ?_⟩
  rw [r_law]
  refine step fun K hK => ?_
  walk_at "ev"
  rw [hP]
  refine ⟨trivial, trivial, ns, rfl, fun ps hp => ?_⟩
  walk_at "ev"
  subst hK
  refine step fun K hK => for_rng fun BB hB => ?_
  walk_at "ev"
  refine ⟨by decide, by decide, ?_⟩
  rw [hB]
  refine law_loop1 Γ hE hW hSp hSa hA hR _ _ 12 0 ps _ _ _ _ _ hp fun ps z2 z3 z4 z5 z6 hp => ?_
  subst hK
  refine step fun K hK => ?_
  walk_at "ev"
  rw [hA]
  refine ⟨trivial, trivial, trivial, [], rfl, ⟨by decide, fun _ h => by cases h⟩, ?_⟩
  walk_at "ev"
  rw [show decide (0 + 1 + 1 + 1 ≤ sl) = true from by decide]
  simp only [List.all_cons, List.all_nil, Bool.and_true, fillG, List.map_cons, List.map_nil, agI]
  rw [hSa]
  refine ⟨rfl, _, _, rfl, ?_, fun a' d' => ?_⟩
  · exact sam_ans []
  · exact hq
end V
set_option Elab.async false
set_option linter.all false
set_option maxRecDepth 100000
set_option maxHeartbeats 0
namespace J
open PySem PySem.Spec PyProof.Rows L2 Q V
def top (i : Nat) : Stmt := PySem.Challenge.pw_seamhouse_k51_edit_lines.main.body.getD i (.Pass ⟨0, 0, 0, 0⟩)
def gn : List Str := [("LETTERS" : Str), ("DIGITS" : Str), ("LETTERS" : Str), ("LETTERS" : Str), ("LETTERS" : Str), ("LETTERS" : Str), ("LETTERS" : Str), ("LETTERS" : Str), ("LETTERS" : Str), ("LETTERS" : Str), ("LETTERS" : Str), ("LETTERS" : Str), ("LETTERS" : Str), ("FORMS" : Str)]
def fr : List Str := [("ValueError" : Str), ("abs" : Str), ("bool" : Str), ("int" : Str), ("isinstance" : Str), ("len" : Str), ("list" : Str), ("max" : Str), ("min" : Str), ("range" : Str), ("str" : Str), ("super" : Str), ("tuple" : Str)]
def xs : List (String × Str) := [("BadEdit", ("BadEdit" : Str))]
def xn : List (String × Str) := [("SeamError", ("SeamError" : Str)), ("BadEdit", ("BadEdit" : Str)), ("BadText", ("BadText" : Str))]
def xcs : List String := ["SeamError", "BadText", "BadEdit"]
def d7 : He.DefD := ⟨("is_name", none), "is_name", "is_name", defArgs (top 7), defBody (top 7), defScope (top 7), [], []⟩
def d8 : He.DefD := ⟨("read_number", none), "read_number", "read_number", defArgs (top 8), defBody (top 8), defScope (top 8), [], []⟩
def d9 : He.DefD := ⟨("read_signed", none), "read_signed", "read_signed", defArgs (top 9), defBody (top 9), defScope (top 9), [], []⟩
def d12 : He.DefD := ⟨("write_edit", none), "write_edit", "write_edit", defArgs (top 12), defBody (top 12), defScope (top 12), [], []⟩
def d13 : He.DefD := ⟨("read_edit", none), "read_edit", "read_edit", defArgs (top 13), defBody (top 13), defScope (top 13), [], []⟩
def d15 : He.DefD := ⟨("_law_pool", none), "_law_pool", "_law_pool", defArgs (top 15), defBody (top 15), defScope (top 15), [], []⟩
def d16 : He.DefD := ⟨("_law_draw", none), "_law_draw", "_law_draw", defArgs (top 16), defBody (top 16), defScope (top 16), [], []⟩
def d17 : He.DefD := ⟨("_law_number", none), "_law_number", "_law_number", defArgs (top 17), defBody (top 17), defScope (top 17), [], []⟩
def d18 : He.DefD := ⟨("_law_same", none), "_law_same", "_law_same", defArgs (top 18), defBody (top 18), defScope (top 18), [], []⟩
def d19 : He.DefD := ⟨("_law_name", none), "_law_name", "_law_name", defArgs (top 19), defBody (top 19), defScope (top 19), [], []⟩
def d20 : He.DefD := ⟨("_law_forms", none), "_law_forms", "_law_forms", defArgs (top 20), defBody (top 20), defScope (top 20), [], []⟩
def d21 : He.DefD := ⟨("_law_edit", none), "_law_edit", "_law_edit", defArgs (top 21), defBody (top 21), defScope (top 21), [], []⟩
def d22 : He.DefD := ⟨("_law_value", none), "_law_value", "_law_value", defArgs (top 22), defBody (top 22), defScope (top 22), [], []⟩
def d23 : He.DefD := ⟨("_law_is_name", none), "_law_is_name", "_law_is_name", defArgs (top 23), defBody (top 23), defScope (top 23), [], []⟩
def d24 : He.DefD := ⟨("_law_reading", none), "_law_reading", "_law_reading", defArgs (top 24), defBody (top 24), defScope (top 24), [], []⟩
def d25 : He.DefD := ⟨("_law_asked", none), "_law_asked", "_law_asked", defArgs (top 25), defBody (top 25), defScope (top 25), [], []⟩
def d26 : He.DefD := ⟨("_law_odd_word", none), "_law_odd_word", "_law_odd_word", defArgs (top 26), defBody (top 26), defScope (top 26), [], []⟩
def d27 : He.DefD := ⟨("_law_spoilt", none), "_law_spoilt", "_law_spoilt", defArgs (top 27), defBody (top 27), defScope (top 27), [], []⟩
def d28 : He.DefD := ⟨("law", none), "law", "law", defArgs (top 28), defBody (top 28), defScope (top 28), [], []⟩
def fn : List He.DefD := [d7, d8, d9, d12, d13, d15, d16, d17, d18, d19, d20, d21, d22, d23, d24, d25, d26, d27, d28]
def fa : List He.Fa := [.glo "is_name", .glo "read_number", .glo "read_signed", .glo "write_edit", .glo "read_edit", .glo "_law_pool", .glo "_law_draw", .glo "_law_number", .glo "_law_same", .glo "_law_name", .glo "_law_forms", .glo "_law_edit", .glo "_law_value", .glo "_law_is_name", .glo "_law_reading", .glo "_law_asked", .glo "_law_odd_word", .glo "_law_spoilt", .glo "law", .glo "SeamError", .glo "BadText", .glo "BadEdit", .glo "FORMS", .free "ValueError", .free "abs"] ++ [.free "bool", .free "int", .free "isinstance", .free "len", .free "list", .free "max", .free "min", .free "range", .free "str", .free "super", .free "tuple", .str "LETTERS" "abcdefghijklmnopqrstuvwxyz", .str "DIGITS" "0123456789", .exc "BadEdit"]
def loose0 : List Str := [("is_name" : Str), ("read_number" : Str), ("read_signed" : Str), ("write_edit" : Str), ("read_edit" : Str), ("_law_pool" : Str), ("_law_draw" : Str), ("_law_number" : Str), ("_law_same" : Str), ("_law_name" : Str), ("_law_forms" : Str), ("_law_edit" : Str), ("_law_value" : Str), ("_law_is_name" : Str), ("_law_reading" : Str), ("_law_asked" : Str), ("_law_odd_word" : Str), ("_law_spoilt" : Str), ("SeamError" : Str), ("BadText" : Str), ("BadEdit" : Str), ("LETTERS" : Str), ("DIGITS" : Str), ("FORMS" : Str)]
def loose : List Str := loose0
def sub (D C : String) : Bool := D == C || (D == "BadText" && C == "SeamError") || (D == "BadEdit" && C == "SeamError")
def caK (K : PySem.W.Frag) (n : String) : Addr := He.ga K (Str.ofString n)
def ts : List He.Tab := [(fun K => caK K "FORMS", V.forms.map fun p => sS p.1)]
def ex (K : PySem.W.Frag) : Bool := He.valsB K (caK K "FORMS") (V.forms.map fun p => (sS p.1, He.Dv.str (sS p.2))) && (xcs.all (fun C => exB K (caK K C)) && (sbB K (caK K) sub xcs xcs))
abbrev R : PySem.W.OpenRow := PySem.W.OpenLaw.row PySem.Challenge.rw_seamhouse_k51_edit_lines
abbrev hk : PySem.W.Hook := He.hookX 6 fa fn ts [] ex
def ob (s : PySem.W.SharedT) : He.AlX := He.obsX 6 fa fn ts [] ex (HandSHeadRun.getT s)
theorem ob_eq (s : PySem.W.SharedT) : ob s = hk.obs s.abs := He.obsX_eq (HandSHeadRun.getT_eq s)
theorem runF (w : World) : HandSHeadRun.RunEq R (PySem.W.view R.prog [28]) hk ob 4000 loose (w.withFollow "special-get-raises" false) := by
  intro os
  kernel_rfl
theorem runT (w : World) : HandSHeadRun.RunEq R (PySem.W.view R.prog [28]) hk ob 4000 loose (w.withFollow "special-get-raises" true) := by
  intro os
  kernel_rfl
theorem run (w : World) : HandSHeadRun.RunEq R (PySem.W.view R.prog [28]) hk ob 4000 loose w :=
  PySem.W.byRow2 "special-get-raises" (P := fun w => HandSHeadRun.RunEq R (PySem.W.view R.prog [28]) hk ob 4000 loose w) runF runT w
def fs0 : List (String × FSp) := [("_law_draw", spDraw), ("is_name", spIsNm), ("read_number", spVal), ("read_signed", spSgn), ("_law_pool", spPool), ("_law_number", spNum), ("_law_same", spSame 1), ("_law_name", spName), ("_law_forms", spForms), ("_law_edit", spEdit), ("_law_value", spSgn), ("_law_is_name", spIsNm), ("write_edit", spWrite), ("read_edit", spRead), ("_law_reading", spReading), ("_law_asked", spReading), ("_law_odd_word", spOdd), ("_law_spoilt", spSpoilt)]
def Γ0 : Gm := { gv := [.str V.abc, .str V.dig, .str V.abc, .str V.abc, .str V.abc, .str V.abc, .str V.abc, .str V.abc, .str V.abc, .str V.abc, .str V.abc, .str V.abc, .str V.abc, .gd "FORMS"], tab := V.tabF, fs := fun n => (fs0.lookup n).getD (fun _ _ _ => False), ms := fun _ _ _ _ _ => False, mks := fun _ _ _ _ => False, sub := sub, exf := fun _ => false }
def Γs (i : Nat) : Gm := { Γ0 with fs := fun _ => spS i }
def gi (P : Program) (w : World) (K : PySem.W.Frag) (mg : Str → Option Value) (base : Heap) : Gi := ⟨P, w, K, mg, base, caK K, caK K, caK K, fun _ => [], ["FORMS"], xcs⟩
section
variable {P : Program} {w : World} {K : PySem.W.Frag} {h : Heap} {mg : Str → Option Value} {base : Heap}
theorem tops {Γ : Gm} (h1 : Γ.gv = Γ0.gv) (h2 : Γ.tab = Γ0.tab) (h3 : Γ.sub = sub) (h4 : Γ.exf = fun _ => false) (X : K.In h) (G : h.Ns mainGlobals mg) (c : He.SaysX fa fn ts [] ex w h K) : Top (gi P w K mg base) Γ (fun _ => []) gn fr xs [] xn where
  efl := rfl
  fr := by
    intro x hx
    have hm : x ∈ fr := by simpa using hx
    simp only [fr, List.mem_cons, List.not_mem_nil, or_false] at hm
    rcases hm with rfl | rfl | rfl | rfl | rfl | rfl | rfl | rfl | rfl | rfl | rfl | rfl | rfl <;> exact He.free_ok X G (He.SaysD.facts c.t.d (by simp [fa]))
  gl := by
    intro k x hk
    have e := h1
    obtain ⟨t0, e0⟩ := He.str_ok X G (He.SaysD.facts c.t.d (f := .str "LETTERS" "abcdefghijklmnopqrstuvwxyz") (by simp [fa]))
    obtain ⟨t1, e1⟩ := He.str_ok X G (He.SaysD.facts c.t.d (f := .str "DIGITS" "0123456789") (by simp [fa]))
    have g0 : mg "FORMS" = some (.ref (caK K "FORMS")) := He.glo_ok X G (He.SaysD.facts c.t.d (f := .glo "FORMS") (by simp [fa]))
    match k, hk with
    | 0, hk =>
      cases hk
      exact ⟨.str V.abc, .str "abcdefghijklmnopqrstuvwxyz", _, by rw [h1]; rfl, ⟨t0, rfl⟩, e0, fun G H => ⟨by decide +kernel, zr0⟩⟩
    | 1, hk =>
      cases hk
      exact ⟨.str V.dig, .str "0123456789", _, by rw [h1]; rfl, ⟨t1, rfl⟩, e1, fun G H => ⟨by decide +kernel, zr0⟩⟩
    | 2, hk =>
      cases hk
      exact ⟨.str V.abc, .str "abcdefghijklmnopqrstuvwxyz", _, by rw [h1]; rfl, ⟨t0, rfl⟩, e0, fun G H => ⟨by decide +kernel, zr0⟩⟩
    | 3, hk =>
      cases hk
      exact ⟨.str V.abc, .str "abcdefghijklmnopqrstuvwxyz", _, by rw [h1]; rfl, ⟨t0, rfl⟩, e0, fun G H => ⟨by decide +kernel, zr0⟩⟩
    | 4, hk =>
      cases hk
      exact ⟨.str V.abc, .str "abcdefghijklmnopqrstuvwxyz", _, by rw [h1]; rfl, ⟨t0, rfl⟩, e0, fun G H => ⟨by decide +kernel, zr0⟩⟩
    | 5, hk =>
      cases hk
      exact ⟨.str V.abc, .str "abcdefghijklmnopqrstuvwxyz", _, by rw [h1]; rfl, ⟨t0, rfl⟩, e0, fun G H => ⟨by decide +kernel, zr0⟩⟩
    | 6, hk =>
      cases hk
      exact ⟨.str V.abc, .str "abcdefghijklmnopqrstuvwxyz", _, by rw [h1]; rfl, ⟨t0, rfl⟩, e0, fun G H => ⟨by decide +kernel, zr0⟩⟩
    | 7, hk =>
      cases hk
      exact ⟨.str V.abc, .str "abcdefghijklmnopqrstuvwxyz", _, by rw [h1]; rfl, ⟨t0, rfl⟩, e0, fun G H => ⟨by decide +kernel, zr0⟩⟩
    | 8, hk =>
      cases hk
      exact ⟨.str V.abc, .str "abcdefghijklmnopqrstuvwxyz", _, by rw [h1]; rfl, ⟨t0, rfl⟩, e0, fun G H => ⟨by decide +kernel, zr0⟩⟩
    | 9, hk =>
      cases hk
      exact ⟨.str V.abc, .str "abcdefghijklmnopqrstuvwxyz", _, by rw [h1]; rfl, ⟨t0, rfl⟩, e0, fun G H => ⟨by decide +kernel, zr0⟩⟩
    | 10, hk =>
      cases hk
      exact ⟨.str V.abc, .str "abcdefghijklmnopqrstuvwxyz", _, by rw [h1]; rfl, ⟨t0, rfl⟩, e0, fun G H => ⟨by decide +kernel, zr0⟩⟩
    | 11, hk =>
      cases hk
      exact ⟨.str V.abc, .str "abcdefghijklmnopqrstuvwxyz", _, by rw [h1]; rfl, ⟨t0, rfl⟩, e0, fun G H => ⟨by decide +kernel, zr0⟩⟩
    | 12, hk =>
      cases hk
      exact ⟨.str V.abc, .str "abcdefghijklmnopqrstuvwxyz", _, by rw [h1]; rfl, ⟨t0, rfl⟩, e0, fun G H => ⟨by decide +kernel, zr0⟩⟩
    | 13, hk =>
      cases hk
      exact ⟨.gd "FORMS", .ref (caK K "FORMS"), _, by rw [h1]; rfl, rfl, g0, fun G H => ⟨⟨rfl, rfl⟩, zr0⟩⟩
    | k + 14, hk => cases hk
  tab := by
    rw [h2]
    intro n hn cs
    have hn : n = "FORMS" := by simpa [gi] using hn
    subst hn
    have hd := (List.cons.inj (congrArg (fun z : He.AlT => z.2) c.t)).1
    have hm := c.more
    exact tab_txt (g := gi P w K mg base) (n := "FORMS") (l := V.forms) hd rfl (He.ba hm).1 cs
  cls := fun C k f hk => by cases hk
  fnd := fun _ => List.nodup_nil
  xrs := by
    intro C x hx
    simp only [xs, List.mem_cons, List.not_mem_nil, or_false] at hx
    obtain ⟨rfl, rfl⟩ := Prod.mk.inj hx
    exact ⟨⟨He.glo_ok X G (He.SaysD.facts c.t.d (f := .glo "BadEdit") (by simp [fa])), (by decide : "BadEdit" ∈ xcs), He.exc_ok (He.SaysD.facts c.t.d (f := .exc "BadEdit") (by simp [fa]))⟩, by rw [h4]⟩
  xri := fun C x hx => by cases hx
  xcl := by
    intro C x hx
    simp only [xn, List.mem_cons, List.not_mem_nil, or_false] at hx
    rcases hx with hx | hx | hx
    · obtain ⟨rfl, rfl⟩ := Prod.mk.inj hx
      exact xname_of (He.glo_ok X G (He.SaysD.facts c.t.d (f := .glo "SeamError") (by simp [fa]))) fun D hD => by rw [h3]; exact sbB_ok (He.ba (He.ba c.more).2).2 hD (by decide)
    · obtain ⟨rfl, rfl⟩ := Prod.mk.inj hx
      exact xname_of (He.glo_ok X G (He.SaysD.facts c.t.d (f := .glo "BadEdit") (by simp [fa]))) fun D hD => by rw [h3]; exact sbB_ok (He.ba (He.ba c.more).2).2 hD (by decide)
    · obtain ⟨rfl, rfl⟩ := Prod.mk.inj hx
      exact xname_of (He.glo_ok X G (He.SaysD.facts c.t.d (f := .glo "BadText") (by simp [fa]))) fun D hD => by rw [h3]; exact sbB_ok (He.ba (He.ba c.more).2).2 hD (by decide)
  xok := by
    intro C hC
    have h := exB_ok (List.all_eq_true.mp (He.ba (He.ba c.more).2).1 C hC)
    exact ⟨h.2, h.1, fun f hf => by cases hf⟩
theorem all (X : K.In h) (G : h.Ns mainGlobals mg) (c : He.SaysX fa fn ts [] ex w h K) {fdl : FuncData} (ql : FunD K d28.name d28.qual d28.params d28.body d28.scope (d28.dvs K) (d28.kws K) (He.fAd K d28.at_) fdl) : FnOk P w K mg base (L2.CX P w) 5 (He.ga K "law") fdl ["script"] (_root_.Q.lift (gi P w K mg base) (spOf Γ0 N_law.length P_law.length X_law S_law)) := by
  have TB : ∀ Γ : Gm, Γ.gv = Γ0.gv → Γ.tab = Γ0.tab → Γ.sub = sub → Γ.exf = (fun _ => false) → Top (gi P w K mg base) Γ (fun _ => []) gn fr xs [] xn := fun Γ h1 h2 h3 h4 => tops h1 h2 h3 h4 X G c
  obtain ⟨fd__law_draw, q__law_draw⟩ := He.SaysD.def_ c.t.d 6 (d := d16) rfl
  have b__law_draw : Binds K fd__law_draw P__law_draw [] := FunD.bindsN q__law_draw fun _ _ _ _ _ _ us hl => match us, hl with | [_, _], _ => rfl
  have g__law_draw : mg "_law_draw" = some (.ref (He.ga K "_law_draw")) := He.glo_ok X G (He.SaysD.facts c.t.d (f := .glo "_law_draw") (by simp [fa]))
  have k__law_draw : FnG (gi P w K mg base) 1 (He.ga K "_law_draw") (spDraw) := (def_ok (g := gi P w K mg base) (Γ := Γ0) (N := N__law_draw) (ps := P__law_draw) (k := 0) (fns := F__law_draw) (mts := []) (mks := []) (ss := S__law_draw) (fx := X__law_draw) (TB Γ0 rfl rfl rfl rfl) q__law_draw ⟨rfl, rfl, rfl, by decide +kernel, rfl, by decide +kernel, by decide +kernel⟩ b__law_draw ⟨(fun f x hh => by cases hh), (fun _ _ hh => by cases hh), (fun _ _ hh => by cases hh), fun _ hh => by cases hh⟩ (by decide +kernel)).imp (draw_ok Γ0)
  obtain ⟨fd_is_name, q_is_name⟩ := He.SaysD.def_ c.t.d 0 (d := d7) rfl
  have b_is_name : Binds K fd_is_name P_is_name [] := FunD.bindsN q_is_name fun _ _ _ _ _ _ us hl => match us, hl with | [_], _ => rfl
  have g_is_name : mg "is_name" = some (.ref (He.ga K "is_name")) := He.glo_ok X G (He.SaysD.facts c.t.d (f := .glo "is_name") (by simp [fa]))
  have k_is_name : FnG (gi P w K mg base) 1 (He.ga K "is_name") (spIsNm) := (def_ok (g := gi P w K mg base) (Γ := Γ0) (N := N_is_name) (ps := P_is_name) (k := 0) (fns := F_is_name) (mts := []) (mks := []) (ss := S_is_name) (fx := X_is_name) (TB Γ0 rfl rfl rfl rfl) q_is_name ⟨rfl, rfl, rfl, by decide +kernel, rfl, by decide +kernel, by decide +kernel⟩ b_is_name ⟨(fun f x hh => by cases hh), (fun _ _ hh => by cases hh), (fun _ _ hh => by cases hh), fun _ hh => by cases hh⟩ (by decide +kernel)).imp (isnm_ok Γ0 rfl)
  obtain ⟨fd_read_number, q_read_number⟩ := He.SaysD.def_ c.t.d 1 (d := d8) rfl
  have b_read_number : Binds K fd_read_number P_read_number [] := FunD.bindsN q_read_number fun _ _ _ _ _ _ us hl => match us, hl with | [_], _ => rfl
  have g_read_number : mg "read_number" = some (.ref (He.ga K "read_number")) := He.glo_ok X G (He.SaysD.facts c.t.d (f := .glo "read_number") (by simp [fa]))
  have k_read_number : FnG (gi P w K mg base) 1 (He.ga K "read_number") (spVal) := (def_ok (g := gi P w K mg base) (Γ := Γ0) (N := N_read_number) (ps := P_read_number) (k := 0) (fns := F_read_number) (mts := []) (mks := []) (ss := S_read_number) (fx := X_read_number) (TB Γ0 rfl rfl rfl rfl) q_read_number ⟨rfl, rfl, rfl, by decide +kernel, rfl, by decide +kernel, by decide +kernel⟩ b_read_number ⟨(fun f x hh => by cases hh), (fun _ _ hh => by cases hh), (fun _ _ hh => by cases hh), fun _ hh => by cases hh⟩ (by decide +kernel)).imp (rdnum_ok Γ0 rfl)
  obtain ⟨fd_read_signed, q_read_signed⟩ := He.SaysD.def_ c.t.d 2 (d := d9) rfl
  have b_read_signed : Binds K fd_read_signed P_read_signed [] := FunD.bindsN q_read_signed fun _ _ _ _ _ _ us hl => match us, hl with | [_], _ => rfl
  have g_read_signed : mg "read_signed" = some (.ref (He.ga K "read_signed")) := He.glo_ok X G (He.SaysD.facts c.t.d (f := .glo "read_signed") (by simp [fa]))
  have k_read_signed : FnG (gi P w K mg base) 2 (He.ga K "read_signed") (spSgn) := (def_ok (g := gi P w K mg base) (Γ := Γ0) (N := N_read_signed) (ps := P_read_signed) (k := 1) (fns := F_read_signed) (mts := []) (mks := []) (ss := S_read_signed) (fx := X_read_signed) (TB Γ0 rfl rfl rfl rfl) q_read_signed ⟨rfl, rfl, rfl, by decide +kernel, rfl, by decide +kernel, by decide +kernel⟩ b_read_signed ⟨(fun f x hh => by
    simp only [F_read_signed, List.mem_cons, List.not_mem_nil, or_false] at hh
    obtain ⟨rfl, rfl⟩ := Prod.mk.inj hh
    exact ⟨g_read_number, k_read_number.mono (by decide)⟩), (fun _ _ hh => by cases hh), (fun _ _ hh => by cases hh), fun _ hh => by cases hh⟩ (by decide +kernel)).imp (rdsgn_ok Γ0 rfl)
  obtain ⟨fd__law_pool, q__law_pool⟩ := He.SaysD.def_ c.t.d 5 (d := d15) rfl
  have b__law_pool : Binds K fd__law_pool P__law_pool [] := FunD.bindsN q__law_pool fun _ _ _ _ _ _ us hl => match us, hl with | [_], _ => rfl
  have g__law_pool : mg "_law_pool" = some (.ref (He.ga K "_law_pool")) := He.glo_ok X G (He.SaysD.facts c.t.d (f := .glo "_law_pool") (by simp [fa]))
  have k__law_pool : FnG (gi P w K mg base) 1 (He.ga K "_law_pool") (spPool) := (def_ok (g := gi P w K mg base) (Γ := Γ0) (N := N__law_pool) (ps := P__law_pool) (k := 0) (fns := F__law_pool) (mts := []) (mks := []) (ss := S__law_pool) (fx := X__law_pool) (TB Γ0 rfl rfl rfl rfl) q__law_pool ⟨rfl, rfl, rfl, by decide +kernel, rfl, by decide +kernel, by decide +kernel⟩ b__law_pool ⟨(fun f x hh => by cases hh), (fun _ _ hh => by cases hh), (fun _ _ hh => by cases hh), fun _ hh => by cases hh⟩ (by decide +kernel)).imp (pool_ok Γ0)
  obtain ⟨fd__law_number, q__law_number⟩ := He.SaysD.def_ c.t.d 7 (d := d17) rfl
  have b__law_number : Binds K fd__law_number P__law_number [] := FunD.bindsN q__law_number fun _ _ _ _ _ _ us hl => match us, hl with | [_, _, _], _ => rfl
  have g__law_number : mg "_law_number" = some (.ref (He.ga K "_law_number")) := He.glo_ok X G (He.SaysD.facts c.t.d (f := .glo "_law_number") (by simp [fa]))
  have k__law_number : FnG (gi P w K mg base) 2 (He.ga K "_law_number") (spNum) := (def_ok (g := gi P w K mg base) (Γ := Γ0) (N := N__law_number) (ps := P__law_number) (k := 1) (fns := F__law_number) (mts := []) (mks := []) (ss := S__law_number) (fx := X__law_number) (TB Γ0 rfl rfl rfl rfl) q__law_number ⟨rfl, rfl, rfl, by decide +kernel, rfl, by decide +kernel, by decide +kernel⟩ b__law_number ⟨(fun f x hh => by
    simp only [F__law_number, List.mem_cons, List.not_mem_nil, or_false] at hh
    obtain ⟨rfl, rfl⟩ := Prod.mk.inj hh
    exact ⟨g__law_draw, k__law_draw.mono (by decide)⟩), (fun _ _ hh => by cases hh), (fun _ _ hh => by cases hh), fun _ hh => by cases hh⟩ (by decide +kernel)).imp (num_ok Γ0 rfl)
  obtain ⟨fd__law_same, q__law_same⟩ := He.SaysD.def_ c.t.d 8 (d := d18) rfl
  have b__law_same : Binds K fd__law_same P__law_same [] := FunD.bindsN q__law_same fun _ _ _ _ _ _ us hl => match us, hl with | [_, _], _ => rfl
  have g__law_same : mg "_law_same" = some (.ref (He.ga K "_law_same")) := He.glo_ok X G (He.SaysD.facts c.t.d (f := .glo "_law_same") (by simp [fa]))
  have k0_same : FnG (gi P w K mg base) 0 (He.ga K "_law_same") (spS 0) := FnG.bot q__law_same b__law_same
  have k1_same : FnG (gi P w K mg base) 1 (He.ga K "_law_same") (spS 1) := (def_ok (g := gi P w K mg base) (Γ := Γs 0) (N := N__law_same) (ps := P__law_same) (k := 0) (fns := F__law_same) (mts := []) (mks := []) (ss := S__law_same) (fx := X__law_same) (TB (Γs 0) rfl rfl rfl rfl) q__law_same ⟨rfl, rfl, rfl, by decide +kernel, rfl, by decide +kernel, by decide +kernel⟩ b__law_same ⟨(fun f x hh => by
    simp only [F__law_same, List.mem_cons, List.not_mem_nil, or_false] at hh
    obtain ⟨rfl, rfl⟩ := Prod.mk.inj hh
    exact ⟨g__law_same, k0_same⟩), (fun _ _ hh => by cases hh), (fun _ _ hh => by cases hh), fun _ hh => by cases hh⟩ (by decide +kernel)).imp (same_ok (Γs 0) 0 rfl)
  have k2_same : FnG (gi P w K mg base) 2 (He.ga K "_law_same") (spS 2) := (def_ok (g := gi P w K mg base) (Γ := Γs 1) (N := N__law_same) (ps := P__law_same) (k := 1) (fns := F__law_same) (mts := []) (mks := []) (ss := S__law_same) (fx := X__law_same) (TB (Γs 1) rfl rfl rfl rfl) q__law_same ⟨rfl, rfl, rfl, by decide +kernel, rfl, by decide +kernel, by decide +kernel⟩ b__law_same ⟨(fun f x hh => by
    simp only [F__law_same, List.mem_cons, List.not_mem_nil, or_false] at hh
    obtain ⟨rfl, rfl⟩ := Prod.mk.inj hh
    exact ⟨g__law_same, k1_same⟩), (fun _ _ hh => by cases hh), (fun _ _ hh => by cases hh), fun _ hh => by cases hh⟩ (by decide +kernel)).imp (same_ok (Γs 1) 1 rfl)
  have k__law_same : FnG (gi P w K mg base) 2 (He.ga K "_law_same") (spSame 1) := k2_same
  obtain ⟨fd__law_name, q__law_name⟩ := He.SaysD.def_ c.t.d 9 (d := d19) rfl
  have b__law_name : Binds K fd__law_name P__law_name [] := FunD.bindsN q__law_name fun _ _ _ _ _ _ us hl => match us, hl with | [_, _], _ => rfl
  have g__law_name : mg "_law_name" = some (.ref (He.ga K "_law_name")) := He.glo_ok X G (He.SaysD.facts c.t.d (f := .glo "_law_name") (by simp [fa]))
  have k__law_name : FnG (gi P w K mg base) 2 (He.ga K "_law_name") (spName) := (def_ok (g := gi P w K mg base) (Γ := Γ0) (N := N__law_name) (ps := P__law_name) (k := 1) (fns := F__law_name) (mts := []) (mks := []) (ss := S__law_name) (fx := X__law_name) (TB Γ0 rfl rfl rfl rfl) q__law_name ⟨rfl, rfl, rfl, by decide +kernel, rfl, by decide +kernel, by decide +kernel⟩ b__law_name ⟨(fun f x hh => by
    simp only [F__law_name, List.mem_cons, List.not_mem_nil, or_false] at hh
    obtain ⟨rfl, rfl⟩ := Prod.mk.inj hh
    exact ⟨g__law_draw, k__law_draw.mono (by decide)⟩), (fun _ _ hh => by cases hh), (fun _ _ hh => by cases hh), fun _ hh => by cases hh⟩ (by decide +kernel)).imp (name_ok Γ0 rfl)
  obtain ⟨fd__law_forms, q__law_forms⟩ := He.SaysD.def_ c.t.d 10 (d := d20) rfl
  have b__law_forms : Binds K fd__law_forms P__law_forms [] := FunD.bindsN q__law_forms fun _ _ _ _ _ _ us hl => match us, hl with | [], _ => rfl
  have g__law_forms : mg "_law_forms" = some (.ref (He.ga K "_law_forms")) := He.glo_ok X G (He.SaysD.facts c.t.d (f := .glo "_law_forms") (by simp [fa]))
  have k__law_forms : FnG (gi P w K mg base) 1 (He.ga K "_law_forms") (spForms) := (def_ok (g := gi P w K mg base) (Γ := Γ0) (N := N__law_forms) (ps := P__law_forms) (k := 0) (fns := F__law_forms) (mts := []) (mks := []) (ss := S__law_forms) (fx := X__law_forms) (TB Γ0 rfl rfl rfl rfl) q__law_forms ⟨rfl, rfl, rfl, by decide +kernel, rfl, by decide +kernel, by decide +kernel⟩ b__law_forms ⟨(fun f x hh => by cases hh), (fun _ _ hh => by cases hh), (fun _ _ hh => by cases hh), fun _ hh => by cases hh⟩ (by decide +kernel)).imp (forms_ok Γ0)
  obtain ⟨fd__law_edit, q__law_edit⟩ := He.SaysD.def_ c.t.d 11 (d := d21) rfl
  have b__law_edit : Binds K fd__law_edit P__law_edit [] := FunD.bindsN q__law_edit fun _ _ _ _ _ _ us hl => match us, hl with | [_], _ => rfl
  have g__law_edit : mg "_law_edit" = some (.ref (He.ga K "_law_edit")) := He.glo_ok X G (He.SaysD.facts c.t.d (f := .glo "_law_edit") (by simp [fa]))
  have k__law_edit : FnG (gi P w K mg base) 3 (He.ga K "_law_edit") (spEdit) := (def_ok (g := gi P w K mg base) (Γ := Γ0) (N := N__law_edit) (ps := P__law_edit) (k := 2) (fns := F__law_edit) (mts := []) (mks := []) (ss := S__law_edit) (fx := X__law_edit) (TB Γ0 rfl rfl rfl rfl) q__law_edit ⟨rfl, rfl, rfl, by decide +kernel, rfl, by decide +kernel, by decide +kernel⟩ b__law_edit ⟨(fun f x hh => by
    simp only [F__law_edit, List.mem_cons, List.not_mem_nil, or_false] at hh
    rcases hh with hh | hh | hh | hh
    · obtain ⟨rfl, rfl⟩ := Prod.mk.inj hh
      exact ⟨g__law_draw, k__law_draw.mono (by decide)⟩
    · obtain ⟨rfl, rfl⟩ := Prod.mk.inj hh
      exact ⟨g__law_forms, k__law_forms.mono (by decide)⟩
    · obtain ⟨rfl, rfl⟩ := Prod.mk.inj hh
      exact ⟨g__law_name, k__law_name.mono (by decide)⟩
    · obtain ⟨rfl, rfl⟩ := Prod.mk.inj hh
      exact ⟨g__law_number, k__law_number.mono (by decide)⟩), (fun _ _ hh => by cases hh), (fun _ _ hh => by cases hh), fun _ hh => by cases hh⟩ (by decide +kernel)).imp (edit_ok Γ0 rfl rfl rfl rfl)
  obtain ⟨fd__law_value, q__law_value⟩ := He.SaysD.def_ c.t.d 12 (d := d22) rfl
  have b__law_value : Binds K fd__law_value P__law_value [] := FunD.bindsN q__law_value fun _ _ _ _ _ _ us hl => match us, hl with | [_], _ => rfl
  have g__law_value : mg "_law_value" = some (.ref (He.ga K "_law_value")) := He.glo_ok X G (He.SaysD.facts c.t.d (f := .glo "_law_value") (by simp [fa]))
  have k__law_value : FnG (gi P w K mg base) 1 (He.ga K "_law_value") (spSgn) := (def_ok (g := gi P w K mg base) (Γ := Γ0) (N := N__law_value) (ps := P__law_value) (k := 0) (fns := F__law_value) (mts := []) (mks := []) (ss := S__law_value) (fx := X__law_value) (TB Γ0 rfl rfl rfl rfl) q__law_value ⟨rfl, rfl, rfl, by decide +kernel, rfl, by decide +kernel, by decide +kernel⟩ b__law_value ⟨(fun f x hh => by cases hh), (fun _ _ hh => by cases hh), (fun _ _ hh => by cases hh), fun _ hh => by cases hh⟩ (by decide +kernel)).imp (sval_ok Γ0)
  obtain ⟨fd__law_is_name, q__law_is_name⟩ := He.SaysD.def_ c.t.d 13 (d := d23) rfl
  have b__law_is_name : Binds K fd__law_is_name P__law_is_name [] := FunD.bindsN q__law_is_name fun _ _ _ _ _ _ us hl => match us, hl with | [_], _ => rfl
  have g__law_is_name : mg "_law_is_name" = some (.ref (He.ga K "_law_is_name")) := He.glo_ok X G (He.SaysD.facts c.t.d (f := .glo "_law_is_name") (by simp [fa]))
  have k__law_is_name : FnG (gi P w K mg base) 1 (He.ga K "_law_is_name") (spIsNm) := (def_ok (g := gi P w K mg base) (Γ := Γ0) (N := N__law_is_name) (ps := P__law_is_name) (k := 0) (fns := F__law_is_name) (mts := []) (mks := []) (ss := S__law_is_name) (fx := X__law_is_name) (TB Γ0 rfl rfl rfl rfl) q__law_is_name ⟨rfl, rfl, rfl, by decide +kernel, rfl, by decide +kernel, by decide +kernel⟩ b__law_is_name ⟨(fun f x hh => by cases hh), (fun _ _ hh => by cases hh), (fun _ _ hh => by cases hh), fun _ hh => by cases hh⟩ (by decide +kernel)).imp (lisnm_ok Γ0)
  obtain ⟨fd_write_edit, q_write_edit⟩ := He.SaysD.def_ c.t.d 3 (d := d12) rfl
  have b_write_edit : Binds K fd_write_edit P_write_edit [] := FunD.bindsN q_write_edit fun _ _ _ _ _ _ us hl => match us, hl with | [_], _ => rfl
  have g_write_edit : mg "write_edit" = some (.ref (He.ga K "write_edit")) := He.glo_ok X G (He.SaysD.facts c.t.d (f := .glo "write_edit") (by simp [fa]))
  have k_write_edit : FnG (gi P w K mg base) 1 (He.ga K "write_edit") (spWrite) := (def_ok (g := gi P w K mg base) (Γ := Γ0) (N := N_write_edit) (ps := P_write_edit) (k := 0) (fns := F_write_edit) (mts := []) (mks := []) (ss := S_write_edit) (fx := X_write_edit) (TB Γ0 rfl rfl rfl rfl) q_write_edit ⟨rfl, rfl, rfl, by decide +kernel, rfl, by decide +kernel, by decide +kernel⟩ b_write_edit ⟨(fun f x hh => by cases hh), (fun _ _ hh => by cases hh), (fun _ _ hh => by cases hh), fun _ hh => by cases hh⟩ (by decide +kernel)).imp (write_ok Γ0)
  obtain ⟨fd_read_edit, q_read_edit⟩ := He.SaysD.def_ c.t.d 4 (d := d13) rfl
  have b_read_edit : Binds K fd_read_edit P_read_edit [] := FunD.bindsN q_read_edit fun _ _ _ _ _ _ us hl => match us, hl with | [_], _ => rfl
  have g_read_edit : mg "read_edit" = some (.ref (He.ga K "read_edit")) := He.glo_ok X G (He.SaysD.facts c.t.d (f := .glo "read_edit") (by simp [fa]))
  have k_read_edit : FnG (gi P w K mg base) 3 (He.ga K "read_edit") (spRead) := (def_ok (g := gi P w K mg base) (Γ := Γ0) (N := N_read_edit) (ps := P_read_edit) (k := 2) (fns := F_read_edit) (mts := []) (mks := []) (ss := S_read_edit) (fx := X_read_edit) (TB Γ0 rfl rfl rfl rfl) q_read_edit ⟨rfl, rfl, rfl, by decide +kernel, rfl, by decide +kernel, by decide +kernel⟩ b_read_edit ⟨(fun f x hh => by
    simp only [F_read_edit, List.mem_cons, List.not_mem_nil, or_false] at hh
    rcases hh with hh | hh
    · obtain ⟨rfl, rfl⟩ := Prod.mk.inj hh
      exact ⟨g_is_name, k_is_name.mono (by decide)⟩
    · obtain ⟨rfl, rfl⟩ := Prod.mk.inj hh
      exact ⟨g_read_signed, k_read_signed.mono (by decide)⟩), (fun _ _ hh => by cases hh), (fun _ _ hh => by cases hh), fun _ hh => by cases hh⟩ (by decide +kernel)).imp (read_ok Γ0 rfl rfl rfl rfl rfl)
  obtain ⟨fd__law_reading, q__law_reading⟩ := He.SaysD.def_ c.t.d 14 (d := d24) rfl
  have b__law_reading : Binds K fd__law_reading P__law_reading [] := FunD.bindsN q__law_reading fun _ _ _ _ _ _ us hl => match us, hl with | [_], _ => rfl
  have g__law_reading : mg "_law_reading" = some (.ref (He.ga K "_law_reading")) := He.glo_ok X G (He.SaysD.facts c.t.d (f := .glo "_law_reading") (by simp [fa]))
  have k__law_reading : FnG (gi P w K mg base) 2 (He.ga K "_law_reading") (spReading) := (def_ok (g := gi P w K mg base) (Γ := Γ0) (N := N__law_reading) (ps := P__law_reading) (k := 1) (fns := F__law_reading) (mts := []) (mks := []) (ss := S__law_reading) (fx := X__law_reading) (TB Γ0 rfl rfl rfl rfl) q__law_reading ⟨rfl, rfl, rfl, by decide +kernel, rfl, by decide +kernel, by decide +kernel⟩ b__law_reading ⟨(fun f x hh => by
    simp only [F__law_reading, List.mem_cons, List.not_mem_nil, or_false] at hh
    rcases hh with hh | hh | hh
    · obtain ⟨rfl, rfl⟩ := Prod.mk.inj hh
      exact ⟨g__law_forms, k__law_forms.mono (by decide)⟩
    · obtain ⟨rfl, rfl⟩ := Prod.mk.inj hh
      exact ⟨g__law_is_name, k__law_is_name.mono (by decide)⟩
    · obtain ⟨rfl, rfl⟩ := Prod.mk.inj hh
      exact ⟨g__law_value, k__law_value.mono (by decide)⟩), (fun _ _ hh => by cases hh), (fun _ _ hh => by cases hh), fun _ hh => by cases hh⟩ (by decide +kernel)).imp (reading_ok Γ0 rfl rfl rfl)
  obtain ⟨fd__law_asked, q__law_asked⟩ := He.SaysD.def_ c.t.d 15 (d := d25) rfl
  have b__law_asked : Binds K fd__law_asked P__law_asked [] := FunD.bindsN q__law_asked fun _ _ _ _ _ _ us hl => match us, hl with | [_], _ => rfl
  have g__law_asked : mg "_law_asked" = some (.ref (He.ga K "_law_asked")) := He.glo_ok X G (He.SaysD.facts c.t.d (f := .glo "_law_asked") (by simp [fa]))
  have k__law_asked : FnG (gi P w K mg base) 4 (He.ga K "_law_asked") (spReading) := (def_ok (g := gi P w K mg base) (Γ := Γ0) (N := N__law_asked) (ps := P__law_asked) (k := 3) (fns := F__law_asked) (mts := []) (mks := []) (ss := S__law_asked) (fx := X__law_asked) (TB Γ0 rfl rfl rfl rfl) q__law_asked ⟨rfl, rfl, rfl, by decide +kernel, rfl, by decide +kernel, by decide +kernel⟩ b__law_asked ⟨(fun f x hh => by
    simp only [F__law_asked, List.mem_cons, List.not_mem_nil, or_false] at hh
    obtain ⟨rfl, rfl⟩ := Prod.mk.inj hh
    exact ⟨g_read_edit, k_read_edit.mono (by decide)⟩), (fun _ _ hh => by cases hh), (fun _ _ hh => by cases hh), fun _ hh => by cases hh⟩ (by decide +kernel)).imp (asked_ok Γ0 rfl (by decide) (by decide) (by decide))
  obtain ⟨fd__law_odd_word, q__law_odd_word⟩ := He.SaysD.def_ c.t.d 16 (d := d26) rfl
  have b__law_odd_word : Binds K fd__law_odd_word P__law_odd_word [] := FunD.bindsN q__law_odd_word fun _ _ _ _ _ _ us hl => match us, hl with | [_], _ => rfl
  have g__law_odd_word : mg "_law_odd_word" = some (.ref (He.ga K "_law_odd_word")) := He.glo_ok X G (He.SaysD.facts c.t.d (f := .glo "_law_odd_word") (by simp [fa]))
  have k__law_odd_word : FnG (gi P w K mg base) 2 (He.ga K "_law_odd_word") (spOdd) := (def_ok (g := gi P w K mg base) (Γ := Γ0) (N := N__law_odd_word) (ps := P__law_odd_word) (k := 1) (fns := F__law_odd_word) (mts := []) (mks := []) (ss := S__law_odd_word) (fx := X__law_odd_word) (TB Γ0 rfl rfl rfl rfl) q__law_odd_word ⟨rfl, rfl, rfl, by decide +kernel, rfl, by decide +kernel, by decide +kernel⟩ b__law_odd_word ⟨(fun f x hh => by
    simp only [F__law_odd_word, List.mem_cons, List.not_mem_nil, or_false] at hh
    obtain ⟨rfl, rfl⟩ := Prod.mk.inj hh
    exact ⟨g__law_draw, k__law_draw.mono (by decide)⟩), (fun _ _ hh => by cases hh), (fun _ _ hh => by cases hh), fun _ hh => by cases hh⟩ (by decide +kernel)).imp (odd_ok Γ0 rfl)
  obtain ⟨fd__law_spoilt, q__law_spoilt⟩ := He.SaysD.def_ c.t.d 17 (d := d27) rfl
  have b__law_spoilt : Binds K fd__law_spoilt P__law_spoilt [] := FunD.bindsN q__law_spoilt fun _ _ _ _ _ _ us hl => match us, hl with | [_, _], _ => rfl
  have g__law_spoilt : mg "_law_spoilt" = some (.ref (He.ga K "_law_spoilt")) := He.glo_ok X G (He.SaysD.facts c.t.d (f := .glo "_law_spoilt") (by simp [fa]))
  have k__law_spoilt : FnG (gi P w K mg base) 3 (He.ga K "_law_spoilt") (spSpoilt) := (def_ok (g := gi P w K mg base) (Γ := Γ0) (N := N__law_spoilt) (ps := P__law_spoilt) (k := 2) (fns := F__law_spoilt) (mts := []) (mks := []) (ss := S__law_spoilt) (fx := X__law_spoilt) (TB Γ0 rfl rfl rfl rfl) q__law_spoilt ⟨rfl, rfl, rfl, by decide +kernel, rfl, by decide +kernel, by decide +kernel⟩ b__law_spoilt ⟨(fun f x hh => by
    simp only [F__law_spoilt, List.mem_cons, List.not_mem_nil, or_false] at hh
    rcases hh with hh | hh | hh
    · obtain ⟨rfl, rfl⟩ := Prod.mk.inj hh
      exact ⟨g__law_draw, k__law_draw.mono (by decide)⟩
    · obtain ⟨rfl, rfl⟩ := Prod.mk.inj hh
      exact ⟨g__law_forms, k__law_forms.mono (by decide)⟩
    · obtain ⟨rfl, rfl⟩ := Prod.mk.inj hh
      exact ⟨g__law_odd_word, k__law_odd_word.mono (by decide)⟩), (fun _ _ hh => by cases hh), (fun _ _ hh => by cases hh), fun _ hh => by cases hh⟩ (by decide +kernel)).imp (spoilt_ok Γ0 rfl rfl rfl)
  have g_law : mg "law" = some (.ref (He.ga K "law")) := He.glo_ok X G (He.SaysD.facts c.t.d (f := .glo "law") (by simp [fa]))
  exact def_fn (g := gi P w K mg base) (Γ := Γ0) (N := N_law) (ps := P_law) (k := 4) (fns := F_law) (mts := []) (mks := []) (ss := S_law) (fx := X_law) (TB Γ0 rfl rfl rfl rfl) ql ⟨rfl, rfl, rfl, by decide +kernel, rfl, by decide +kernel, by decide +kernel⟩ ⟨(fun f x hh => by
    simp only [F_law, List.mem_cons, List.not_mem_nil, or_false] at hh
    rcases hh with hh | hh | hh | hh | hh | hh | hh
    · obtain ⟨rfl, rfl⟩ := Prod.mk.inj hh
      exact ⟨g__law_asked, k__law_asked.mono (by decide)⟩
    · obtain ⟨rfl, rfl⟩ := Prod.mk.inj hh
      exact ⟨g__law_edit, k__law_edit.mono (by decide)⟩
    · obtain ⟨rfl, rfl⟩ := Prod.mk.inj hh
      exact ⟨g__law_pool, k__law_pool.mono (by decide)⟩
    · obtain ⟨rfl, rfl⟩ := Prod.mk.inj hh
      exact ⟨g__law_reading, k__law_reading.mono (by decide)⟩
    · obtain ⟨rfl, rfl⟩ := Prod.mk.inj hh
      exact ⟨g__law_same, k__law_same.mono (by decide)⟩
    · obtain ⟨rfl, rfl⟩ := Prod.mk.inj hh
      exact ⟨g__law_spoilt, k__law_spoilt.mono (by decide)⟩
    · obtain ⟨rfl, rfl⟩ := Prod.mk.inj hh
      exact ⟨g_write_edit, k_write_edit.mono (by decide)⟩), (fun _ _ hh => by cases hh), (fun _ _ hh => by cases hh), fun _ hh => by cases hh⟩ (by decide +kernel)
end
def CXE : CXT := fun _ _ _ E _ _ => ∃ (cls : Value) (d : Option Addr) (H : Hp), E cls d H
theorem cxe {P : Program} {w : World} {K : PySem.W.Frag} {mg : Str → Option Value} {base : Heap} {k : Nat} {f : Addr} {fd : FuncData} {ps : List Str} {sp : Sp} (F : FnOk P w K mg base (L2.CX P w) k f fd ps sp) : FnOk P w K mg base CXE k f fd ps sp := by
  refine ⟨F.len, fun A outer s H args us vs Q E hr e0 hb r h => ?_⟩
  refine codeAny_mono (F.run A outer s H args us vs Q E hr e0 hb r h) fun z s' hz => ?_
  match z, hz with
  | .error e, hz =>
    obtain ⟨a, B, H', cls, d, _, _, _, _, _, _, _, q⟩ := hz
    exact ⟨cls, d, H', q⟩
  | .ok (.ret u), hz => exact hz
  | .ok .next, hz => exact hz
  | .ok .brk, hz => exact hz
  | .ok .cont, hz => exact hz
end J
open PySem PySem.W PySem.Calls PyProof.Rows
theorem PySem.Challenge.cw_seamhouse_k51_edit_lines_holds : PySem.Challenge.rw_seamhouse_k51_edit_lines.Holds := by
  w_on; o_law
  refine HandSHeadRun.head_any (r := OpenLaw.row PySem.Challenge.rw_seamhouse_k51_edit_lines) (q := view (OpenLaw.row PySem.Challenge.rw_seamhouse_k51_edit_lines).prog [28]) (H := J.hk) (ob := J.ob) (M := 4000) (loose := J.loose) (d := HandSHeadRun.topDef (OpenLaw.row PySem.Challenge.rw_seamhouse_k51_edit_lines).prog 28) (kwd := []) J.ob_eq
    (by kernel_rfl) (fun s => by kernel_rfl) J.run (by kernel_rfl) (by kernel_rfl) (by kernel_rfl) (by rfl) (by first | assumption | decide +kernel) (by decide +kernel) ⟨rfl, rfl, rfl, rfl, rfl, by decide +kernel⟩ ?hw ?hc
  case hw => w_witness2
  case hc =>
    refine L2.walk_ofE (l := PySem.Challenge.rw_seamhouse_k51_edit_lines) (n := 63) (k := 5) (x := "script") (CX := J.CXE) rfl (by decide) (by kernel_rfl) ⟨rfl, by decide, by decide⟩ ?F (fun _ _ _ _ ⟨_, _, _, z⟩ => z)
    intro w mg fa h Y G hmg0
    obtain ⟨K, KX, c⟩ := Y
    have hmg : mg ("law" : PySem.Str) = some (.ref fa) := by
      have e : (HandSHeadRun.topDef (OpenLaw.row PySem.Challenge.rw_seamhouse_k51_edit_lines).prog 28).name = ("law" : PySem.Str) := by kernel_rfl
      rw [← e]
      exact hmg0
    have el : mg ("law" : PySem.Str) = some (.ref (He.ga K "law")) := He.glo_ok KX G (He.SaysD.facts c.t.d (f := .glo "law") (by simp [J.fa]))
    obtain rfl : fa = He.ga K "law" := by
      have q := hmg.symm.trans el
      simpa using q
    obtain ⟨fd, q⟩ := He.SaysD.def_ c.t.d 18 (d := J.d28) rfl
    refine ⟨K, fd, fun vs H R E => ∀ base, Q.lift (J.gi (PySem.Challenge.rw_seamhouse_k51_edit_lines).prog w K mg base) (Q.spOf J.Γ0 V.N_law.length V.P_law.length V.X_law V.S_law) vs H R E, KX, fun s v => ?_, fun H a ns hl hO hS base => ?_, fun base _ _ => ?_⟩
    · exact (L2.FunD.bindsA (ps := V.P_law) q fun _ _ _ _ _ _ us hl => match us, hl with | [_], _ => rfl) s [v] rfl
    · refine ⟨H, [.scr ns], fun _ => 0, fun m _ => m = .bl true, fun _ _ => False, fun _ _ h => h, ⟨fun _ => 0, fun _ => 0, ⟨⟨a, rfl, hS⟩, Q.zr0⟩, Q.zr0, fun _ => rfl⟩, fun _ => Nat.zero_le _, rfl, V.law_ok J.Γ0 rfl rfl rfl rfl rfl rfl rfl _ (fun m _ => m = .bl true) (fun _ _ => False) ⟨ns, rfl, rfl⟩, fun v m ms' G' H' c' d' _ _ o2 _ e => ?_, fun _ _ _ _ _ _ _ _ _ _ _ z => z⟩
      subst e
      exact o2.1
    · refine J.cxe ?_
      have F := J.all (P := (PySem.Challenge.rw_seamhouse_k51_edit_lines).prog) (w := w) (base := base) KX G c q
      exact ⟨fun vs H Q E h => F.len _ _ _ _ (h base), fun A outer s H args us vs Q E hr e0 hb r h => F.run A outer s H args us vs Q E hr e0 hb r (h base)⟩
