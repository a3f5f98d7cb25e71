import PyProof.Rows.All
import Wide.All
import OpenK.AllK
import Wide.FinOn
import PySem.Challenge.RW_fewblocks_k71_whole_receivers_alike_or_p
import HandS.ForMost
import HandS.Words
import HandS.Style
import HandS.IsInst
import HandS.Property
import HandS.Star
import HandS.TupAny
import KE.SortData
import KE.KDictKeyed
import KE.KDictDisplayH
import PyProof.EnumMake
import KE.GoesMore
import HandS.Iter
import HandS.Defaults

section
set_option Elab.async false
set_option linter.all false
set_option maxRecDepth 100000
set_option maxHeartbeats 4000000
/-! Data over the hand layer: nested tuples of whole numbers, truth values, texts, None; frames whose slots hold data, lists, receivers, dicts. -/
namespace FB
open PySem L2

/-! ### data -/
mutual
def Rp (K : PySem.W.Frag) (H : Hp) : V → PyData → Prop
  | v, .none => v = .non
  | v, .bool b => v = .bl b
  | v, .int i => v = .int i
  | v, .str x => v = .str x
  | v, .tuple ds => ∃ a xs, v = .ref a ∧ SqT K H a xs ∧ RpA K H xs ds
  | _, .list _ => False
  | _, .dict _ => False
def RpA (K : PySem.W.Frag) (H : Hp) : List V → List PyData → Prop
  | [], [] => True
  | v :: vs, d :: ds => Rp K H v d ∧ RpA K H vs ds
  | [], _ :: _ => False
  | _ :: _, [] => False
end
/-- the tuples stay -/
abbrev TLe (K : PySem.W.Frag) (H H' : Hp) : Prop := ∀ a xs, SqT K H a xs → SqT K H' a xs
mutual
theorem Rp.mono {K : PySem.W.Frag} {H H' : Hp} (le : TLe K H H') : ∀ (d : PyData) {v : V}, Rp K H v d → Rp K H' v d
  | .none, v, h => by simp only [Rp] at h ⊢; exact h
  | .bool b, v, h => by simp only [Rp] at h ⊢; exact h
  | .int i, v, h => by simp only [Rp] at h ⊢; exact h
  | .str x, v, h => by simp only [Rp] at h ⊢; exact h
  | .tuple ds, v, h => by
    simp only [Rp] at h ⊢
    obtain ⟨a, xs, e, hs, ha⟩ := h
    exact ⟨a, xs, e, le a xs hs, RpA.mono le ds ha⟩
  | .list _, v, h => by simp only [Rp] at h
  | .dict _, v, h => by simp only [Rp] at h
theorem RpA.mono {K : PySem.W.Frag} {H H' : Hp} (le : TLe K H H') : ∀ (ds : List PyData) {vs : List V}, RpA K H vs ds → RpA K H' vs ds
  | [], [], _ => by simp only [RpA]
  | [], _ :: _, h => by simp only [RpA] at h
  | _ :: _, [], h => by simp only [RpA] at h
  | d :: ds, v :: vs, h => by
    simp only [RpA] at h ⊢
    exact ⟨Rp.mono le d h.1, RpA.mono le ds h.2⟩
end
section
variable {K : PySem.W.Frag} {H H' : Hp} {v : V} {vs ws : List V} {d : PyData} {ds es : List PyData}
theorem Same.tle (s : Same H H') : TLe K H H' := fun a xs h => by
  rcases h with (h | ⟨o, h⟩) | h
  · exact .inl (.inl (s _ _ h))
  · exact .inl (.inr ⟨o, s _ _ h⟩)
  · exact .inr h
theorem Same.rd {a : Addr} {u : HO} (s : Same H H') (h : Rd H a u) : Rd H' a u := h.elim (fun q => .inl (s _ _ q)) fun ⟨o, q⟩ => .inr ⟨o, s _ _ q⟩
theorem _root_.L2.Rd.some {H : Hp} {a : Addr} {u : HO} (h : Rd H a u) : H a ≠ none := fun n => by
  rcases h with q | ⟨o, q⟩ <;> (rw [n] at q; cases q)
theorem upd_tle {a : Addr} {o : HO} (h : ∀ xs, H a ≠ some (.tup xs)) (h' : ∀ ob u, H a ≠ some (.frz ob u)) : TLe K H (upd H a o) := fun b xs hb => by
  rcases hb with (hb | ⟨ob, hb⟩) | hb
  · exact .inl (.inl (by rw [upd_ne (fun e => h xs (by rw [← e]; exact hb))]; exact hb))
  · exact .inl (.inr ⟨ob, by rw [upd_ne (fun e => h' ob _ (by rw [← e]; exact hb))]; exact hb⟩)
  · exact .inr hb
theorem RpA.length : ∀ {vs : List V} {ds : List PyData}, RpA K H vs ds → vs.length = ds.length
  | [], [], _ => rfl
  | [], _ :: _, h => by simp only [RpA] at h
  | _ :: _, [], h => by simp only [RpA] at h
  | v :: vs, d :: ds, h => by
    simp only [RpA] at h
    rw [List.length_cons, List.length_cons, RpA.length h.2]
theorem RpA.get : ∀ {vs : List V} {ds : List PyData} {i : Nat} {v : V}, RpA K H vs ds → vs[i]? = some v → ∃ d, ds[i]? = some d ∧ Rp K H v d
  | [], [], _, _, _, e => by simp at e
  | [], _ :: _, _, _, h, _ => by simp only [RpA] at h
  | _ :: _, [], _, _, h, _ => by simp only [RpA] at h
  | v :: vs, d :: ds, 0, _, h, e => by
    simp only [RpA] at h
    simp at e
    subst e
    exact ⟨d, rfl, h.1⟩
  | v :: vs, d :: ds, i + 1, _, h, e => by
    simp only [RpA] at h
    obtain ⟨d', e1, e2⟩ := RpA.get (i := i) h.2 (by simpa using e)
    exact ⟨d', by simpa using e1, e2⟩
theorem RpA.get' {i : Nat} {d : PyData} (h : RpA K H vs ds) (e : ds[i]? = some d) : ∃ v, vs[i]? = some v ∧ Rp K H v d := by
  have hl := h.length
  have hi : i < vs.length := by
    have := (List.getElem?_eq_some_iff.mp e).1
    omega
  obtain ⟨d', e', r⟩ := h.get (List.getElem?_eq_getElem hi)
  rw [e] at e'; cases e'
  exact ⟨_, List.getElem?_eq_getElem hi, r⟩
theorem RpA.append : ∀ {vs : List V} {ds : List PyData} {ws : List V} {es : List PyData}, RpA K H vs ds → RpA K H ws es → RpA K H (vs ++ ws) (ds ++ es)
  | [], [], _, _, _, h => h
  | [], _ :: _, _, _, h, _ => by simp only [RpA] at h
  | _ :: _, [], _, _, h, _ => by simp only [RpA] at h
  | v :: vs, d :: ds, _, _, h, h' => by
    simp only [RpA] at h
    simp only [List.cons_append, RpA]
    exact ⟨h.1, RpA.append h.2 h'⟩
theorem RpA.snoc (h : RpA K H vs ds) (r : Rp K H v d) : RpA K H (vs ++ [v]) (ds ++ [d]) := h.append (by simp only [RpA]; exact ⟨r, trivial⟩)
theorem RpA.drop : ∀ {vs : List V} {ds : List PyData} (n : Nat), RpA K H vs ds → RpA K H (vs.drop n) (ds.drop n)
  | _, _, 0, h => h
  | [], [], _ + 1, h => h
  | [], _ :: _, _, h => by simp only [RpA] at h
  | _ :: _, [], _, h => by simp only [RpA] at h
  | v :: vs, d :: ds, n + 1, h => by
    simp only [RpA] at h
    exact RpA.drop n h.2
theorem RpA.take : ∀ {vs : List V} {ds : List PyData} (n : Nat), RpA K H vs ds → RpA K H (vs.take n) (ds.take n)
  | [], [], 0, h => h
  | _ :: _, _ :: _, 0, h => by simp only [List.take_zero, RpA]
  | [], [], _ + 1, h => h
  | [], _ :: _, _, h => by simp only [RpA] at h
  | _ :: _, [], _, h => by simp only [RpA] at h
  | v :: vs, d :: ds, n + 1, h => by
    simp only [RpA] at h
    simp only [List.take_succ_cons, RpA]
    exact ⟨h.1, RpA.take n h.2⟩
theorem RpA.reverse : ∀ {vs : List V} {ds : List PyData}, RpA K H vs ds → RpA K H vs.reverse ds.reverse
  | [], [], h => h
  | [], _ :: _, h => by simp only [RpA] at h
  | _ :: _, [], h => by simp only [RpA] at h
  | v :: vs, d :: ds, h => by
    simp only [RpA] at h
    rw [List.reverse_cons, List.reverse_cons]
    exact (RpA.reverse h.2).snoc h.1
theorem RpA.set : ∀ {vs : List V} {ds : List PyData} (i : Nat), RpA K H vs ds → Rp K H v d → RpA K H (vs.set i v) (ds.set i d)
  | [], [], _, h, _ => h
  | [], _ :: _, _, h, _ => by simp only [RpA] at h
  | _ :: _, [], _, h, _ => by simp only [RpA] at h
  | _ :: _, _ :: _, 0, h, r => by
    simp only [RpA] at h
    simp only [List.set_cons_zero, RpA]
    exact ⟨r, h.2⟩
  | _ :: _, _ :: _, i + 1, h, r => by
    simp only [RpA] at h
    simp only [List.set_cons_succ, RpA]
    exact ⟨h.1, RpA.set i h.2 r⟩
theorem RpA.nil : RpA K H [] [] := by simp only [RpA]
theorem RpA.cons (h : Rp K H v d) (t : RpA K H vs ds) : RpA K H (v :: vs) (d :: ds) := by simp only [RpA]; exact ⟨h, t⟩
theorem Rp.int {i : Int} : Rp K H (.int i) (.int i) := by simp only [Rp]
theorem Rp.bool {b : Bool} : Rp K H (.bl b) (.bool b) := by simp only [Rp]
theorem Rp.str {x : Str} : Rp K H (.str x) (.str x) := by simp only [Rp]
theorem Rp.non : Rp K H .non .none := by simp only [Rp]
theorem Rp.tup {a : Addr} {xs : List V} (h : SqT K H a xs) (r : RpA K H xs ds) : Rp K H (.ref a) (.tuple ds) := by simp only [Rp]; exact ⟨a, xs, rfl, h, r⟩
theorem Rp.int_iff {i : Int} : Rp K H v (.int i) ↔ v = .int i := by simp only [Rp]
theorem Rp.bool_iff {b : Bool} : Rp K H v (.bool b) ↔ v = .bl b := by simp only [Rp]
theorem Rp.str_iff {x : Str} : Rp K H v (.str x) ↔ v = .str x := by simp only [Rp]
theorem Rp.non_iff : Rp K H v .none ↔ v = .non := by simp only [Rp]
theorem Rp.tup_iff : Rp K H v (.tuple ds) ↔ ∃ a xs, v = .ref a ∧ SqT K H a xs ∧ RpA K H xs ds := by simp only [Rp]
/-- lists of whole numbers, texts -/
theorem RpA.ints_iff : ∀ {vs : List V} {ns : List Int}, RpA K H vs (ns.map .int) ↔ vs = ns.map V.int
  | [], [] => by simp [RpA]
  | [], _ :: _ => by simp [RpA]
  | _ :: _, [] => by simp [RpA]
  | v :: vs, n :: ns => by simp only [List.map_cons, RpA, Rp, RpA.ints_iff (vs := vs) (ns := ns), List.cons.injEq]
theorem RpA.strs_iff : ∀ {vs : List V} {ns : List Str}, RpA K H vs (ns.map .str) ↔ vs = ns.map V.str
  | [], [] => by simp [RpA]
  | [], _ :: _ => by simp [RpA]
  | _ :: _, [] => by simp [RpA]
  | v :: vs, n :: ns => by simp only [List.map_cons, RpA, Rp, RpA.strs_iff (vs := vs) (ns := ns), List.cons.injEq]
theorem RpA.bools_iff : ∀ {vs : List V} {ns : List Bool}, RpA K H vs (ns.map .bool) ↔ vs = ns.map V.bl
  | [], [] => by simp [RpA]
  | [], _ :: _ => by simp [RpA]
  | _ :: _, [] => by simp [RpA]
  | v :: vs, n :: ns => by simp only [List.map_cons, RpA, Rp, RpA.bools_iff (vs := vs) (ns := ns), List.cons.injEq]
end
mutual
theorem Rp.dp {K : PySem.W.Frag} {H : Hp} : ∀ (d : PyData) {v : V}, Rp K H v d → Dp K H v d
  | .none, v, h => by simp only [Rp] at h; subst h; exact .non
  | .bool b, v, h => by simp only [Rp] at h; subst h; exact .bl b
  | .int i, v, h => by simp only [Rp] at h; subst h; exact .int i
  | .str x, v, h => by simp only [Rp] at h; subst h; exact .str x
  | .tuple ds, v, h => by
    simp only [Rp] at h
    obtain ⟨a, xs, e, hs, ha⟩ := h
    subst e
    exact .tup hs (RpA.dp ds ha)
  | .list _, v, h => by simp only [Rp] at h
  | .dict _, v, h => by simp only [Rp] at h
theorem RpA.dp {K : PySem.W.Frag} {H : Hp} : ∀ (ds : List PyData) {vs : List V}, RpA K H vs ds → DpAll K H vs ds
  | [], [], _ => .nil
  | [], _ :: _, h => by simp only [RpA] at h
  | _ :: _, [], h => by simp only [RpA] at h
  | d :: ds, v :: vs, h => by
    simp only [RpA] at h
    exact .cons (Rp.dp d h.1) (RpA.dp ds h.2)
end

/-! ### receivers -/
structure Rc where
  room : Int
  sel : List Str
  once : Bool
  ord : Bool
  tld : Bool
def rcF (rm : Int) (b c : V) (once ord tld : Bool) : List (Str × V) :=
  [("own_room", .int rm), ("own_selectors", b), ("own_promises", c), ("is_once", .bl once), ("remembers_order", .bl ord), ("remembers_told", .bl tld)]
def IsR (K : PySem.W.Frag) (C : Addr) (H : Hp) (v : V) (r : Rc) : Prop := ∃ a dx b c, v = .ref a ∧ H a = some (.ins C dx (rcF r.room (.ref b) c r.once r.ord r.tld)) ∧ SqT K H b (r.sel.map V.str)
theorem IsR.same {K : PySem.W.Frag} {C : Addr} {H H' : Hp} {v : V} {r : Rc} (s : Same H H') (h : IsR K C H v r) : IsR K C H' v r := by
  obtain ⟨a, dx, b, c, e, h1, h2⟩ := h
  exact ⟨a, dx, b, c, e, s _ _ h1, Same.tle s _ _ h2⟩

/-! ### dicts: keys by value -/
mutual
def nk : PyData → NestedKey
  | .none => .none
  | .bool b => .num (if b then 1 else 0)
  | .int i => .num i
  | .str x => .text x
  | .tuple ds => .tup (nks ds)
  | .list _ => .none
  | .dict _ => .none
def nks : List PyData → List NestedKey
  | [] => []
  | d :: ds => nk d :: nks ds
end
def dctO (P : Program) (w : World) (a : Addr) (xs : List (NestedKey × Addr × Value)) : HO :=
  .ext fun h => ∃ o es ep, h.get? a = some o ∧ o.ExactDict ∧ o.data = .dict es ep ∧ es.toList = xs.map (entryOfKey (nestedKind P w)) ∧ (xs.map (·.1)).Nodup
/-- entry by entry -/
def EntOk (K : PySem.W.Frag) (H : Hp) : List (NestedKey × Addr × Value) → List (NestedKey × PyData) → Prop
  | [], [] => True
  | x :: xs, k :: ks => (x.1 = k.1 ∧ (∃ d, nk d = x.1 ∧ (nk d).depth ≤ 8 ∧ Rp K H (.ref x.2.1) d) ∧ ∃ v, RelV v x.2.2 ∧ Rp K H v k.2) ∧ EntOk K H xs ks
  | _, _ => False
theorem EntOk.mono {K : PySem.W.Frag} {H H' : Hp} (le : TLe K H H') : ∀ {xs : List (NestedKey × Addr × Value)} {ks : List (NestedKey × PyData)}, EntOk K H xs ks → EntOk K H' xs ks
  | [], [], h => h
  | [], _ :: _, h => h.elim
  | _ :: _, [], h => h.elim
  | x :: xs, k :: ks, ⟨⟨e, ⟨d, e1, e2, r⟩, v, rv, r2⟩, t⟩ => ⟨⟨e, ⟨d, e1, e2, Rp.mono le _ r⟩, v, rv, Rp.mono le _ r2⟩, EntOk.mono le t⟩

/-! ### slots, frames -/
inductive Sl where
  | dat (d : PyData)
  | rcv (r : Rc)
  /-- a list that is read -/
  | rl (ds : List PyData)
  /-- a list of the frame's own: it may be written -/
  | own (ds : List PyData)
  /-- a dict of the frame's own -/
  | dct (kvs : List (NestedKey × PyData))
  /-- a dict that is read -/
  | dr (P : Program) (w : World) (kvs : List (NestedKey × PyData))
  /-- the script -/
  | kl (ds : List PyData)
  /-- a purse: a list of three whole numbers at this address -/
  | prs (a : Addr)
def Sl.mut : Sl → Bool
  | .own _ => true
  | .dct _ => true
  | .prs _ => true
  | _ => false
def Sl.lst : Sl → Bool
  | .rl _ => true
  | .own _ => true
  | .dct _ => true
  | .dr _ _ _ => true
  | .prs _ => true
  | _ => false
abbrev Rho := List (Option Sl)

/-- a list that is known to its object, or stands in the written part -/
def SqF (K : PySem.W.Frag) (H : Hp) (a : Addr) (xs : List V) : Prop := (∃ o, H a = some (.frz o (.lst xs))) ∨
    ∃ (o : Obj) (its : Array Value) (n : Nat), K.lookup a = some o ∧ o.cls = .type "list" ∧ o.dict = none ∧ o.data = .seq its n ∧ its.size ≤ sizeLine ∧ Vals xs its.toList
theorem SqF.sq {K : PySem.W.Frag} {H : Hp} {a : Addr} {xs : List V} (h : SqF K H a xs) : SqL K H a xs := h.elim (fun ⟨o, q⟩ => .inl (.inr ⟨o, q⟩)) .inr
theorem SqF.keep {K : PySem.W.Frag} {H H' : Hp} {a : Addr} {xs : List V} (h : SqF K H a xs) (k : ∀ o u, H a = some (.frz o u) → H' a = some (.frz o u)) : SqF K H' a xs := h.elim (fun ⟨o, q⟩ => .inl ⟨o, k o _ q⟩) .inr
/-- a list of three whole numbers -/
def three (H : Hp) (a : Addr) : Prop := ∃ x y z, H a = some (.lst [.int x, .int y, .int z])
section
variable (P : Program) (w : World) (K : PySem.W.Frag) (C : Addr) (H₀ : Hp) (M : List Addr) (H : Hp)
def SlOk (v : V) : Sl → Prop
  | .kl ds => ∃ a vs, v = .ref a ∧ SqF K H a vs ∧ RpA K H vs ds
  | .prs a => v = .ref a ∧ (H₀ a = none ∨ a ∈ M) ∧ three H a
  | .dat d => Rp K H v d
  | .rcv r => IsR K C H v r
  | .rl ds => ∃ a vs, v = .ref a ∧ Rd H a (.lst vs) ∧ RpA K H vs ds
  | .own ds => ∃ a vs, v = .ref a ∧ (H₀ a = none ∨ a ∈ M) ∧ H a = some (.lst vs) ∧ RpA K H vs ds
  | .dct kvs => ∃ a xs, v = .ref a ∧ (H₀ a = none ∨ a ∈ M) ∧ (a == sysModules) = false ∧ H a = some (dctO P w a xs) ∧ EntOk K H xs kvs
  | .dr P' w' kvs => ∃ a xs, v = .ref a ∧ (a == sysModules) = false ∧ H a = some (dctO P' w' a xs) ∧ EntOk K H xs kvs
structure Fr (ρ : Rho) (σ : St) : Prop where
  base : ∀ b o, H₀ b = some o → b ∉ M → H b = some o
  len : σ.length = ρ.length
  slot : ∀ (i : Nat) (sl : Sl), ρ[i]? = some (some sl) → ∃ v, σ[i]? = some (some v) ∧ SlOk P w K C H₀ M H v sl
  apart : ∀ (i j : Nat) (s t : Sl) (v : V), i ≠ j → ρ[i]? = some (some s) → ρ[j]? = some (some t) → s.mut = true → t.lst = true → σ[i]? = some (some v) → σ[j]? = some (some v) → False
end
section
variable {P : Program} {w : World} {K : PySem.W.Frag} {C : Addr} {H₀ : Hp} {M : List Addr} {H H' : Hp} {ρ : Rho} {σ : St} {v : V} {sl : Sl} {i : Nat}
theorem SlOk.same (s : Same H H') (h : SlOk P w K C H₀ M H v sl) : SlOk P w K C H₀ M H' v sl := by
  cases sl with
  | dat d => exact Rp.mono (Same.tle s) d h
  | rcv r => exact IsR.same s h
  | rl ds =>
    obtain ⟨a, vs, e, h1, h2⟩ := h
    exact ⟨a, vs, e, Same.rd s h1, RpA.mono (Same.tle s) ds h2⟩
  | own ds =>
    obtain ⟨a, vs, e, n, h1, h2⟩ := h
    exact ⟨a, vs, e, n, s _ _ h1, RpA.mono (Same.tle s) ds h2⟩
  | dct kvs =>
    obtain ⟨a, xs, e, n, m, h1, h2⟩ := h
    exact ⟨a, xs, e, n, m, s _ _ h1, EntOk.mono (Same.tle s) h2⟩
  | dr P' w' kvs =>
    obtain ⟨a, xs, e, m, h1, h2⟩ := h
    exact ⟨a, xs, e, m, s _ _ h1, EntOk.mono (Same.tle s) h2⟩
  | prs a =>
    obtain ⟨e, n, x, y, z, h1⟩ := h
    exact ⟨e, n, x, y, z, s _ _ h1⟩
  | kl ds =>
    obtain ⟨a, vs, e, h1, h2⟩ := h
    exact ⟨a, vs, e, h1.keep fun o u q => s _ _ q, RpA.mono (Same.tle s) ds h2⟩
theorem Fr.same (F : Fr P w K C H₀ M H ρ σ) (s : Same H H') : Fr P w K C H₀ M H' ρ σ :=
  ⟨fun b o e n => s _ _ (F.base b o e n), F.len, fun i sl e => let ⟨v, e1, e2⟩ := F.slot i sl e; ⟨v, e1, e2.same s⟩, F.apart⟩
theorem Fr.dat (F : Fr P w K C H₀ M H ρ σ) {d : PyData} (h : ρ[i]? = some (some (.dat d))) : ∃ v, σ[i]? = some (some v) ∧ Rp K H v d := F.slot i _ h
theorem Fr.rcv (F : Fr P w K C H₀ M H ρ σ) {r : Rc} (h : ρ[i]? = some (some (.rcv r))) : ∃ v, σ[i]? = some (some v) ∧ IsR K C H v r := F.slot i _ h
/-- a list in a slot is to be read -/
theorem Fr.lst (F : Fr P w K C H₀ M H ρ σ) {ds : List PyData} (h : ρ[i]? = some (some (.rl ds)) ∨ ρ[i]? = some (some (.own ds))) : ∃ a vs, σ[i]? = some (some (.ref a)) ∧ Rd H a (.lst vs) ∧ RpA K H vs ds := by
  rcases h with h | h
  · obtain ⟨v, e, a, vs, rfl, h1, h2⟩ := F.slot i _ h
    exact ⟨a, vs, e, h1, h2⟩
  · obtain ⟨v, e, a, vs, rfl, n, h1, h2⟩ := F.slot i _ h
    exact ⟨a, vs, e, Rd.of h1, h2⟩
/-- a slot is set to something that is no list -/
theorem Fr.set (F : Fr P w K C H₀ M H ρ σ) (hi : i < ρ.length) (h : SlOk P w K C H₀ M H v sl) (hl : sl.lst = false) : Fr P w K C H₀ M H (ρ.set i (some sl)) (σ.set i (some v)) := by
  have hm : sl.mut = false := by cases sl <;> first | rfl | simp [Sl.lst] at hl
  refine ⟨F.base, by rw [List.length_set, List.length_set]; exact F.len, fun j s e => ?_, fun j k s t u hjk e1 e2 e3 e4 e5 e6 => ?_⟩
  · by_cases hj : j = i
    · subst hj
      rw [List.getElem?_set_self hi] at e
      cases e
      exact ⟨v, List.getElem?_set_self (by rw [F.len]; exact hi), h⟩
    · rw [List.getElem?_set_ne (Ne.symm hj)] at e ⊢
      exact F.slot j s e
  · by_cases hj : j = i
    · subst hj
      rw [List.getElem?_set_self hi] at e1
      cases e1
      rw [hm] at e3
      cases e3
    · by_cases hk : k = i
      · subst hk
        rw [List.getElem?_set_self hi] at e2
        cases e2
        rw [hl] at e4
        cases e4
      · rw [List.getElem?_set_ne (Ne.symm hj)] at e1 e5
        rw [List.getElem?_set_ne (Ne.symm hk)] at e2 e6
        exact F.apart j k s t u hjk e1 e2 e3 e4 e5 e6
/-- a slot is set to a list or a dict that stands in no other slot -/
theorem Fr.setL (F : Fr P w K C H₀ M H ρ σ) (hi : i < ρ.length) (h : SlOk P w K C H₀ M H v sl) (hv : ∀ (j : Nat) (t : Sl), j ≠ i → ρ[j]? = some (some t) → t.lst = true → (sl.mut = true ∨ t.mut = true) → σ[j]? ≠ some (some v)) : Fr P w K C H₀ M H (ρ.set i (some sl)) (σ.set i (some v)) := by
  refine ⟨F.base, by rw [List.length_set, List.length_set]; exact F.len, fun j s e => ?_, fun j k s t u hjk e1 e2 e3 e4 e5 e6 => ?_⟩
  · by_cases hj : j = i
    · subst hj
      rw [List.getElem?_set_self hi] at e
      cases e
      exact ⟨v, List.getElem?_set_self (by rw [F.len]; exact hi), h⟩
    · rw [List.getElem?_set_ne (Ne.symm hj)] at e ⊢
      exact F.slot j s e
  · by_cases hj : j = i
    · subst hj
      rw [List.getElem?_set_self hi] at e1
      rw [List.getElem?_set_self (by rw [F.len]; exact hi)] at e5
      cases e1
      cases e5
      rw [List.getElem?_set_ne hjk] at e2 e6
      exact hv k t (Ne.symm hjk) e2 e4 (.inl e3) e6
    · by_cases hk : k = i
      · subst hk
        rw [List.getElem?_set_self hi] at e2
        rw [List.getElem?_set_self (by rw [F.len]; exact hi)] at e6
        cases e2
        cases e6
        rw [List.getElem?_set_ne (Ne.symm hj)] at e1 e5
        have hsl : s.lst = true := by cases s <;> first | rfl | simp [Sl.mut] at e3
        exact hv j s hj e1 hsl (.inr e3) e5
      · rw [List.getElem?_set_ne (Ne.symm hj)] at e1 e5
        rw [List.getElem?_set_ne (Ne.symm hk)] at e2 e6
        exact F.apart j k s t u hjk e1 e2 e3 e4 e5 e6
/-- what is new is in no slot -/
theorem Fr.fresh (F : Fr P w K C H₀ M H ρ σ) {a : Addr} (hn : H a = none) {j : Nat} {t : Sl} (e : ρ[j]? = some (some t)) (hl : t.lst = true) : σ[j]? ≠ some (some (.ref a)) := fun q => by
  obtain ⟨v, e1, h⟩ := F.slot j t e
  rw [q] at e1
  cases e1
  cases t with
  | own ds =>
    obtain ⟨b, vs, e2, n, h1, h2⟩ := h
    cases e2
    rw [hn] at h1; cases h1
  | dct kvs =>
    obtain ⟨b, vs, e2, n, m, h1, h2⟩ := h
    cases e2
    rw [hn] at h1; cases h1
  | dr P' w' kvs =>
    obtain ⟨b, vs, e2, m, h1, h2⟩ := h
    cases e2
    rw [hn] at h1; cases h1
  | prs b =>
    obtain ⟨e2, n, x, y, z, h1⟩ := h
    cases e2
    rw [hn] at h1; cases h1
  | rl ds =>
    obtain ⟨b, vs, e2, h1, h2⟩ := h
    cases e2
    exact h1.some hn
  | _ => simp [Sl.lst] at hl
/-- a slot is forgotten -/
theorem Fr.forget (F : Fr P w K C H₀ M H ρ σ) {ρ' : Rho} (hl : ρ'.length = ρ.length) (h : ∀ (i : Nat) s, ρ'[i]? = some (some s) → ρ[i]? = some (some s)) : Fr P w K C H₀ M H ρ' σ :=
  ⟨F.base, F.len.trans hl.symm, fun i s e => F.slot i s (h i s e), fun i j s t v hij e1 e2 e3 e4 e5 e6 => F.apart i j s t v hij (h i s e1) (h j t e2) e3 e4 e5 e6⟩
end
end FB
end

section
set_option Elab.async false
set_option linter.all false
set_option maxRecDepth 100000
set_option maxHeartbeats 4000000
/-! Expressions over data. -/
namespace FB
open PySem L2

/-! ### readings weakened -/
theorem _root_.L2.PE.weak {X : Cx} {e : Expr} {t t' : TE} (h : PE X e t) (k : ∀ σ H Q, t' σ H Q → t σ H Q) : PE X e t' := ⟨fun pins s σ H Q I q => h.run pins s σ H Q I (k σ H Q q)⟩
theorem _root_.L2.PT.weak {X : Cx} {e : Expr} {t t' : TT} (h : PT X e t) (k : ∀ σ H Q, t' σ H Q → t σ H Q) : PT X e t' := ⟨fun pins s σ H Q I q => h.run pins s σ H Q I (k σ H Q q)⟩
theorem _root_.L2.PW.weak {X : Cx} {e : Expr} {t t' : TT} (h : PW X e t) (k : ∀ σ H Q, t' σ H Q → t σ H Q) : PW X e t' := ⟨fun wh pins s σ H Q I q => h.run wh pins s σ H Q I (k σ H Q q)⟩
theorem _root_.L2.PA.weak {X : Cx} {e : List Expr} {t t' : TA} (h : PA X e t) (k : ∀ σ H Q, t' σ H Q → t σ H Q) : PA X e t' := ⟨fun pos pins s σ H Q I q => h.run pos pins s σ H Q I (k σ H Q q)⟩
theorem _root_.L2.PS.weak {X : Cx} {e : Stmt} {t t' : TS} (h : PS X e t) (k : ∀ D σ H, t' D σ H → t D σ H) : PS X e t' := ⟨fun pins s σ H D I q => h.run pins s σ H D I (k D σ H q)⟩
theorem _root_.L2.PSs.weak {X : Cx} {e : List Stmt} {t t' : TS} (h : PSs X e t) (k : ∀ D σ H, t' D σ H → t D σ H) : PSs X e t' := ⟨fun pins s σ H D I q => h.run pins s σ H D I (k D σ H q)⟩
theorem _root_.L2.PG.weak {X : Cx} {e : Expr} {t t' : TG} (h : PG X e t) (k : ∀ v σ H Q, t' v σ H Q → t v σ H Q) : PG X e t' := ⟨fun pins s σ H v u Q I r q => h.run pins s σ H v u Q I r (k v σ H Q q)⟩
theorem _root_.L2.PI.weak {X : Cx} {tg e : Expr} {t t' : TI} (h : PI X tg e t) (k : ∀ σ H R, t' σ H R → t σ H R) : PI X tg e t' := ⟨fun pins s σ H R I q => h.run pins s σ H R I (k σ H R q)⟩

/-! ### what an expression gives -/
def tV (X : Cx) (C : Addr) (ρ : Rho) (R : Hp → V → Prop) : TE := fun σ H Q => ∃ H₀ M, Fr X.prog X.w X.K C H₀ M H ρ σ ∧ ∀ v H', Same H H' → R H' v → Q v H'
/-- a new list -/
def tN (X : Cx) (C : Addr) (ρ : Rho) (ds : List PyData) : TE := fun σ H Q => ∃ H₀ M, Fr X.prog X.w X.K C H₀ M H ρ σ ∧ ∀ a vs H', Same H H' → H a = none → H' a = some (.lst vs) → RpA X.K H' vs ds → Q (.ref a) H'
def RD (X : Cx) (d : PyData) : Hp → V → Prop := fun H v => Rp X.K H v d
def RR (X : Cx) (C : Addr) (r : Rc) : Hp → V → Prop := fun H v => IsR X.K C H v r
def RL (X : Cx) (ds : List PyData) : Hp → V → Prop := fun H v => ∃ a vs, v = .ref a ∧ Rd H a (.lst vs) ∧ RpA X.K H vs ds
abbrev PD (X : Cx) (C : Addr) (ρ : Rho) (e : Expr) (d : PyData) : Prop := PE X e (tV X C ρ (RD X d))
abbrev PR (X : Cx) (C : Addr) (ρ : Rho) (e : Expr) (r : Rc) : Prop := PE X e (tV X C ρ (RR X C r))
abbrev PL (X : Cx) (C : Addr) (ρ : Rho) (e : Expr) (ds : List PyData) : Prop := PE X e (tV X C ρ (RL X ds))
abbrev PN (X : Cx) (C : Addr) (ρ : Rho) (e : Expr) (ds : List PyData) : Prop := PE X e (tN X C ρ ds)
def tQ (X : Cx) (C : Addr) (ρ : Rho) (b : Bool) : TT := fun σ H Q => ∃ H₀ M, Fr X.prog X.w X.K C H₀ M H ρ σ ∧ ∀ H', Same H H' → Q b H'
abbrev PQ (X : Cx) (C : Addr) (ρ : Rho) (e : Expr) (b : Bool) : Prop := PT X e (tQ X C ρ b)
abbrev PQw (X : Cx) (C : Addr) (ρ : Rho) (e : Expr) (b : Bool) : Prop := PW X e (tQ X C ρ b)
/-- it stays -/
abbrev Stay (R : Hp → V → Prop) : Prop := ∀ H H' v, Same H H' → R H v → R H' v
theorem RD.stay {X : Cx} {d : PyData} : Stay (RD X d) := fun H H' v s h => Rp.mono (Same.tle s) d h
theorem RR.stay {X : Cx} {C : Addr} {r : Rc} : Stay (RR X C r) := fun H H' v s h => IsR.same s h
theorem RL.stay {X : Cx} {ds : List PyData} : Stay (RL X ds) := fun H H' v s ⟨a, vs, e, h1, h2⟩ => ⟨a, vs, e, Same.rd s h1, RpA.mono (Same.tle s) ds h2⟩
section
variable {X : Cx} {C : Addr} {ρ : Rho} {e a b c : Expr} {d d' : PyData} {ds es : List PyData} {r : Rc} {pos p p1 p2 p3 : Pos} {x : Str} {i j k : Int} {R R1 R2' : Hp → V → Prop} {cb k1 k2 : Bool} {rest : List Expr}
theorem pv_imp (h : PE X e (tV X C ρ R1)) (k : ∀ H v, R1 H v → R H v) : PE X e (tV X C ρ R) := h.weak fun σ H Q ⟨H₀, M, F, q⟩ => ⟨H₀, M, F, fun v H' s r => q v H' s (k H' v r)⟩
theorem pl_new (h : PN X C ρ e ds) : PL X C ρ e ds := h.weak fun σ H Q ⟨H₀, M, F, q⟩ => ⟨H₀, M, F, fun a vs H' s _ h1 h2 => q (.ref a) H' s ⟨a, vs, rfl, Rd.of h1, h2⟩⟩

/-! ### names, constants -/
theorem pd_var (i : Nat) {d : PyData} (h : ρ[i]? = some (some (.dat d)) := by rfl) (hN : X.N[i]? = some x := by rfl) (hv : Vis X.env.scope x := by first | exact Or.inl rfl | exact Or.inr (Or.inl rfl) | exact Or.inr (Or.inr rfl)) (hd : (x == ("__debug__" : Str)) = false := by decide)
    (hcd : (x == ("__classdict__" : Str)) = false := by decide) : PD X C ρ (.Name x pos) d := (pe_var hN hv hd hcd).weak fun σ H Q ⟨H₀, M, F, q⟩ => by
  obtain ⟨v, e, r⟩ := F.dat h
  exact ⟨v, e, q v H (Same.refl H) r⟩
theorem pr_var (i : Nat) {r : Rc} (h : ρ[i]? = some (some (.rcv r)) := by rfl) (hN : X.N[i]? = some x := by rfl) (hv : Vis X.env.scope x := by first | exact Or.inl rfl | exact Or.inr (Or.inl rfl) | exact Or.inr (Or.inr rfl)) (hd : (x == ("__debug__" : Str)) = false := by decide)
    (hcd : (x == ("__classdict__" : Str)) = false := by decide) : PR X C ρ (.Name x pos) r := (pe_var hN hv hd hcd).weak fun σ H Q ⟨H₀, M, F, q⟩ => by
  obtain ⟨v, e, r⟩ := F.rcv h
  exact ⟨v, e, q v H (Same.refl H) r⟩
theorem pl_var (i : Nat) {ds : List PyData} (h : ρ[i]? = some (some (.rl ds)) ∨ ρ[i]? = some (some (.own ds)) := by first | exact Or.inl rfl | exact Or.inr rfl) (hN : X.N[i]? = some x := by rfl) (hv : Vis X.env.scope x := by first | exact Or.inl rfl | exact Or.inr (Or.inl rfl) | exact Or.inr (Or.inr rfl)) (hd : (x == ("__debug__" : Str)) = false := by decide)
    (hcd : (x == ("__classdict__" : Str)) = false := by decide) : PL X C ρ (.Name x pos) ds := (pe_var hN hv hd hcd).weak fun σ H Q ⟨H₀, M, F, q⟩ => by
  obtain ⟨a, vs, e, r1, r2⟩ := F.lst h
  exact ⟨_, e, q _ H (Same.refl H) ⟨a, vs, rfl, r1, r2⟩⟩
theorem pd_const {t : TE} {v : V} (h : PE X e t) (ht : ∀ σ H Q, Q v H → t σ H Q) (r : ∀ H, Rp X.K H v d) : PD X C ρ e d := h.weak fun σ H Q ⟨H₀, M, F, q⟩ => ht σ H Q (q v H (Same.refl H) (r H))
theorem pd_int {j : Nat} : PD X C ρ (.Constant (.int i) j pos) (.int i) := pd_const pe_int (v := .int i) (fun _ _ _ h => h) fun _ => Rp.int
theorem pd_bool {j : Nat} : PD X C ρ (.Constant (.bool cb) j pos) (.bool cb) := pd_const pe_bl (v := .bl cb) (fun _ _ _ h => h) fun _ => Rp.bool
theorem pd_none {j : Nat} : PD X C ρ (.Constant .none j pos) .none := pd_const pe_non (v := .non) (fun _ _ _ h => h) fun _ => Rp.non
theorem pd_str {j : Nat} : PD X C ρ (.Constant (.str x) j pos) (.str x) := pd_const pe_str (v := .str x) (fun _ _ _ h => h) fun _ => Rp.str
/-- a module's whole number -/
theorem pd_globI {t : Tok} (hm : X.mg x = some (.int i t)) (hg : Gl X x := by rfl) (hd : (x == ("__debug__" : Str)) = false := by decide) : PD X C ρ (.Name x pos) (.int i) := pd_const (pe_glob (v := .int i) hg hm ⟨_, rfl⟩ hd) (v := .int i) (fun _ _ _ h => h) fun _ => Rp.int

/-! ### two places -/
theorem pv_op {op : Operator} {r : L2.R2} (ho : OpR X (binaryOp op) r) (ha : PE X a (tV X C ρ R1)) (hb : PE X b (tV X C ρ R2')) (st : Stay R1) (k : ∀ x y H Q, R1 H x → R2' H y → (∀ v H', Same H H' → R H' v → Q v H') → r x y H Q) :
    PE X (.BinOp a op b pos) (tV X C ρ R) := (pe_op ho ha hb).weak fun σ H Q ⟨H₀, M, F, q⟩ =>
  ⟨H₀, M, F, fun x H1 s1 r1 => ⟨H₀, M, F.same s1, fun y H2 s2 r2 => k x y H2 Q (st _ _ _ s2 r1) r2 fun v H' s3 r3 => q v H' ((s1.trans s2).trans s3) r3⟩⟩
theorem pd_opI {op : Operator} {D : Int → Int → Prop} {g : Int → Int → Int} (ho : OpR X (binaryOp op) (rI D fun i j => .int (g i j))) (ha : PD X C ρ a (.int i)) (hb : PD X C ρ b (.int j)) (hc : D i j) : PD X C ρ (.BinOp a op b pos) (.int (g i j)) :=
  pv_op ho ha hb RD.stay fun x y H Q h1 h2 q => ⟨i, j, Rp.int_iff.mp h1, Rp.int_iff.mp h2, hc, q _ H (Same.refl H) Rp.int⟩
theorem pd_opI0 {op : Operator} {g : Int → Int → Int} (ho : OpR X (binaryOp op) (rI0 fun i j => .int (g i j))) (ha : PD X C ρ a (.int i)) (hb : PD X C ρ b (.int j)) : PD X C ρ (.BinOp a op b pos) (.int (g i j)) :=
  pv_op ho ha hb RD.stay fun x y H Q h1 h2 q => ⟨i, j, Rp.int_iff.mp h1, Rp.int_iff.mp h2, q _ H (Same.refl H) Rp.int⟩
theorem pd_add (ha : PD X C ρ a (.int i)) (hb : PD X C ρ b (.int j)) : PD X C ρ (.BinOp a .Add b pos) (.int (i + j)) := pd_opI0 op_add ha hb
theorem pd_sub (ha : PD X C ρ a (.int i)) (hb : PD X C ρ b (.int j)) : PD X C ρ (.BinOp a .Sub b pos) (.int (i - j)) := pd_opI0 op_sub ha hb
theorem pd_mul (ha : PD X C ρ a (.int i)) (hb : PD X C ρ b (.int j)) (h : CMul i j) : PD X C ρ (.BinOp a .Mult b pos) (.int (i * j)) := pd_opI op_mul ha hb h
theorem pd_mod (ha : PD X C ρ a (.int i)) (hb : PD X C ρ b (.int j)) (h : 0 < j) : PD X C ρ (.BinOp a .Mod b pos) (.int (i % j)) := pd_opI op_mod ha hb h
theorem pd_fdiv (ha : PD X C ρ a (.int i)) (hb : PD X C ρ b (.int j)) (h : CDiv i j) : PD X C ρ (.BinOp a .FloorDiv b pos) (.int (i / j)) := pd_opI op_fdiv ha hb h
theorem pd_pow (ha : PD X C ρ a (.int i)) (hb : PD X C ρ b (.int j)) (h : CPow i j) : PD X C ρ (.BinOp a .Pow b pos) (.int (i ^ j.toNat)) := pd_opI op_pow ha hb h
theorem pd_neg (ha : PD X C ρ a (.int i)) : PD X C ρ (.UnaryOp .USub a pos) (.int (-i)) := (pe_un un_neg ha).weak fun σ H Q ⟨H₀, M, F, q⟩ =>
  ⟨H₀, M, F, fun x H1 s1 r1 => ⟨i, Rp.int_iff.mp r1, q _ H1 s1 Rp.int⟩⟩
/-- t + u -/
theorem pd_cat (ha : PD X C ρ a (.tuple ds)) (hb : PD X C ρ b (.tuple es)) (hz : ds.length + es.length ≤ sizeLine) : PD X C ρ (.BinOp a .Add b pos) (.tuple (ds ++ es)) :=
  pv_op op_catA ha hb RD.stay fun x y H Q h1 h2 q => by
    obtain ⟨p, xs, rfl, hx, rx⟩ := Rp.tup_iff.mp h1
    obtain ⟨p', ys, rfl, hy, ry⟩ := Rp.tup_iff.mp h2
    have l1 := rx.length
    have l2 := ry.length
    refine ⟨p, p', xs, ys, rfl, rfl, hx, hy, by omega, fun e => ?_, fun _ e => ?_, fun _ _ n hn => ?_⟩
    · subst e
      have : ds = [] := List.length_eq_zero_iff.mp l1.symm
      subst this
      exact q _ H (Same.refl H) (Rp.tup hy ry)
    · subst e
      have : es = [] := List.length_eq_zero_iff.mp l2.symm
      subst this
      rw [List.append_nil] at q
      exact q _ H (Same.refl H) (Rp.tup hx rx)
    · have s : Same H (upd H n (.tup (xs ++ ys))) := fun b o e => by rw [upd_ne (ne_of_none e hn)]; exact e
      exact q _ _ s (Rp.tup (SqT.of upd_same) (RpA.mono (Same.tle s) _ (rx.append ry)))

/-! ### comparisons -/
theorem pv_cmp {op : CmpOp} {r : L2.R2} (ho : OpR X (compareOp op) r) (ha : PE X a (tV X C ρ R1)) (hb : PE X b (tV X C ρ R2')) (st : Stay R1) (hm : behindInMarks op b = false) (k : ∀ x y H Q, R1 H x → R2' H y → Q (.bl cb) H → r x y H Q) :
    PD X C ρ (.Compare a [op] [b] pos) (.bool cb) := (pe_cmpR ho ha hb hm).weak fun σ H Q ⟨H₀, M, F, q⟩ =>
  ⟨H₀, M, F, fun x H1 s1 r1 => ⟨H₀, M, F.same s1, fun y H2 s2 r2 => k x y H2 Q (st _ _ _ s2 r1) r2 (q _ _ (s1.trans s2) Rp.bool)⟩⟩
theorem pq_cmp {op : CmpOp} {r : L2.R2} (ho : OpR X (compareOp op) r) (ha : PE X a (tV X C ρ R1)) (hb : PE X b (tV X C ρ R2')) (st : Stay R1) (hm : behindInMarks op b = false) (k : ∀ x y H Q, R1 H x → R2' H y → Q (.bl cb) H → r x y H Q) :
    PQ X C ρ (.Compare a [op] [b] pos) cb := (pt_cmpR ho ha hb hm).weak fun σ H Q ⟨H₀, M, F, q⟩ =>
  ⟨H₀, M, F, fun x H1 s1 r1 => ⟨H₀, M, F.same s1, fun y H2 s2 r2 => k x y H2 _ (st _ _ _ s2 r1) r2 ⟨cb, rfl, q _ (s1.trans s2)⟩⟩⟩
section
variable {op op' : CmpOp} {g g' : Int → Int → Bool}
theorem pd_cmpI (ho : OpR X (compareOp op) (rI0 fun i j => .bl (g i j))) (hm : behindInMarks op b = false) (ha : PD X C ρ a (.int i)) (hb : PD X C ρ b (.int j)) : PD X C ρ (.Compare a [op] [b] pos) (.bool (g i j)) :=
  pv_cmp ho ha hb RD.stay hm fun x y H Q h1 h2 q => ⟨i, j, Rp.int_iff.mp h1, Rp.int_iff.mp h2, q⟩
theorem pq_cmpI (ho : OpR X (compareOp op) (rI0 fun i j => .bl (g i j))) (hm : behindInMarks op b = false) (ha : PD X C ρ a (.int i)) (hb : PD X C ρ b (.int j)) : PQ X C ρ (.Compare a [op] [b] pos) (g i j) :=
  pq_cmp ho ha hb RD.stay hm fun x y H Q h1 h2 q => ⟨i, j, Rp.int_iff.mp h1, Rp.int_iff.mp h2, q⟩
/-- a < b <= c of whole numbers, as a test -/
theorem pq_chain (ho : OpR X (compareOp op) (rI0 fun i j => .bl (g i j))) (ho' : OpR X (compareOp op') (rI0 fun i j => .bl (g' i j))) (ha : PD X C ρ a (.int i)) (hb : PD X C ρ b (.int j)) (hc : PD X C ρ c (.int k)) (hm : lastMarks [op, op'] [b, c] = false := by with_unfolding_all rfl) :
    PQ X C ρ (.Compare a [op, op'] [b, c] pos) (g i j && g' j k) := (pt_chain ho ho' ha hb hc hm).weak fun σ H Q ⟨H₀, M, F, q⟩ => by
  refine ⟨H₀, M, F, fun x H1 s1 r1 => ⟨H₀, M, F.same s1, fun y H2 s2 r2 => ⟨i, j, Rp.int_iff.mp r1, Rp.int_iff.mp r2, g i j, rfl, ?_⟩⟩⟩
  cases hg : g i j with
  | true =>
    rw [hg] at q
    exact iteT ⟨H₀, M, (F.same s1).same s2, fun z H3 s3 r3 => ⟨j, k, Rp.int_iff.mp r2, Rp.int_iff.mp r3, g' j k, rfl, q _ ((s1.trans s2).trans s3)⟩⟩
  | false =>
    rw [hg] at q
    exact iteF ⟨false, rfl, q _ (s1.trans s2)⟩
end
theorem pd_lt (ha : PD X C ρ a (.int i)) (hb : PD X C ρ b (.int j)) : PD X C ρ (.Compare a [.Lt] [b] pos) (.bool (decide (i < j))) := pd_cmpI op_lt (nomark _) ha hb
theorem pd_le (ha : PD X C ρ a (.int i)) (hb : PD X C ρ b (.int j)) : PD X C ρ (.Compare a [.LtE] [b] pos) (.bool (decide (i ≤ j))) := pd_cmpI op_le (nomark _) ha hb
theorem pd_gt (ha : PD X C ρ a (.int i)) (hb : PD X C ρ b (.int j)) : PD X C ρ (.Compare a [.Gt] [b] pos) (.bool (decide (j < i))) := pd_cmpI op_gt (nomark _) ha hb
theorem pd_ge (ha : PD X C ρ a (.int i)) (hb : PD X C ρ b (.int j)) : PD X C ρ (.Compare a [.GtE] [b] pos) (.bool (decide (j ≤ i))) := pd_cmpI op_ge (nomark _) ha hb
theorem pq_lt (ha : PD X C ρ a (.int i)) (hb : PD X C ρ b (.int j)) : PQ X C ρ (.Compare a [.Lt] [b] pos) (decide (i < j)) := pq_cmpI op_lt (nomark _) ha hb
theorem pq_le (ha : PD X C ρ a (.int i)) (hb : PD X C ρ b (.int j)) : PQ X C ρ (.Compare a [.LtE] [b] pos) (decide (i ≤ j)) := pq_cmpI op_le (nomark _) ha hb
theorem pq_gt (ha : PD X C ρ a (.int i)) (hb : PD X C ρ b (.int j)) : PQ X C ρ (.Compare a [.Gt] [b] pos) (decide (j < i)) := pq_cmpI op_gt (nomark _) ha hb
theorem pq_ge (ha : PD X C ρ a (.int i)) (hb : PD X C ρ b (.int j)) : PQ X C ρ (.Compare a [.GtE] [b] pos) (decide (j ≤ i)) := pq_cmpI op_ge (nomark _) ha hb
/-- == and != of any data -/
abbrev Shp (d : PyData) : Prop := SeqAt.shaped d = true
theorem pd_eq (hu : X.A.units + 64 < cLine) (ha : PD X C ρ a d) (hb : PD X C ρ b d') (s1 : Shp d) (s2 : Shp d') : PD X C ρ (.Compare a [.Eq] [b] pos) (.bool (PyData.eqv d d')) :=
  pv_cmp (op_eqD hu) ha hb RD.stay (nomark _) fun x y H Q h1 h2 q => ⟨d, d', Rp.dp d h1, Rp.dp d' h2, s1, s2, q⟩
theorem pd_ne (hu : X.A.units + 64 < cLine) (ha : PD X C ρ a d) (hb : PD X C ρ b d') (s1 : Shp d) (s2 : Shp d') : PD X C ρ (.Compare a [.NotEq] [b] pos) (.bool (!PyData.eqv d d')) :=
  pv_cmp (op_neD hu) ha hb RD.stay (nomark _) fun x y H Q h1 h2 q => ⟨d, d', Rp.dp d h1, Rp.dp d' h2, s1, s2, q⟩
theorem pq_eq (hu : X.A.units + 64 < cLine) (ha : PD X C ρ a d) (hb : PD X C ρ b d') (s1 : Shp d) (s2 : Shp d') : PQ X C ρ (.Compare a [.Eq] [b] pos) (PyData.eqv d d') :=
  pq_cmp (op_eqD hu) ha hb RD.stay (nomark _) fun x y H Q h1 h2 q => ⟨d, d', Rp.dp d h1, Rp.dp d' h2, s1, s2, q⟩
theorem pq_ne (hu : X.A.units + 64 < cLine) (ha : PD X C ρ a d) (hb : PD X C ρ b d') (s1 : Shp d) (s2 : Shp d') : PQ X C ρ (.Compare a [.NotEq] [b] pos) (!PyData.eqv d d') :=
  pq_cmp (op_neD hu) ha hb RD.stay (nomark _) fun x y H Q h1 h2 q => ⟨d, d', Rp.dp d h1, Rp.dp d' h2, s1, s2, q⟩
/-- == and != of lists -/
theorem RL.dp {H : Hp} {v : V} (h : RL X ds H v) : Dp X.K H v (.list ds) := by
  obtain ⟨a, vs, rfl, h1, h2⟩ := h
  exact .lst (.inl h1) (RpA.dp ds h2)
theorem pd_eqL (hu : X.A.units + 64 < cLine) (ha : PL X C ρ a ds) (hb : PL X C ρ b es) (s1 : Shp (.list ds)) (s2 : Shp (.list es)) : PD X C ρ (.Compare a [.Eq] [b] pos) (.bool (PyData.eqvAll ds es)) :=
  pv_cmp (op_eqD hu) ha hb RL.stay (nomark _) fun x y H Q h1 h2 q => ⟨.list ds, .list es, RL.dp h1, RL.dp h2, s1, s2, by simpa only [PyData.eqv] using q⟩
theorem pq_eqL (hu : X.A.units + 64 < cLine) (ha : PL X C ρ a ds) (hb : PL X C ρ b es) (s1 : Shp (.list ds)) (s2 : Shp (.list es)) : PQ X C ρ (.Compare a [.Eq] [b] pos) (PyData.eqvAll ds es) :=
  pq_cmp (op_eqD hu) ha hb RL.stay (nomark _) fun x y H Q h1 h2 q => ⟨.list ds, .list es, RL.dp h1, RL.dp h2, s1, s2, by simpa only [PyData.eqv] using q⟩
theorem pd_neL (hu : X.A.units + 64 < cLine) (ha : PL X C ρ a ds) (hb : PL X C ρ b es) (s1 : Shp (.list ds)) (s2 : Shp (.list es)) : PD X C ρ (.Compare a [.NotEq] [b] pos) (.bool (!PyData.eqvAll ds es)) :=
  pv_cmp (op_neD hu) ha hb RL.stay (nomark _) fun x y H Q h1 h2 q => ⟨.list ds, .list es, RL.dp h1, RL.dp h2, s1, s2, by simpa only [PyData.eqv] using q⟩
theorem pq_neL (hu : X.A.units + 64 < cLine) (ha : PL X C ρ a ds) (hb : PL X C ρ b es) (s1 : Shp (.list ds)) (s2 : Shp (.list es)) : PQ X C ρ (.Compare a [.NotEq] [b] pos) (!PyData.eqvAll ds es) :=
  pq_cmp (op_neD hu) ha hb RL.stay (nomark _) fun x y H Q h1 h2 q => ⟨.list ds, .list es, RL.dp h1, RL.dp h2, s1, s2, by simpa only [PyData.eqv] using q⟩
/-- is None -/
def isNo : PyData → Bool
  | .none => true
  | _ => false
theorem isNo_of {H : Hp} {v : V} (h : Rp X.K H v d) : decide (v = V.non) = isNo d := by
  cases d with
  | none => rw [Rp.non_iff.mp h]; rfl
  | bool b => rw [Rp.bool_iff.mp h]; rfl
  | int b => rw [Rp.int_iff.mp h]; rfl
  | str b => rw [Rp.str_iff.mp h]; rfl
  | tuple b =>
    obtain ⟨p, xs, rfl, _⟩ := Rp.tup_iff.mp h
    rfl
  | list b => simp only [Rp] at h
  | dict b => simp only [Rp] at h
theorem pd_isN (ha : PD X C ρ a d) {j : Nat} : PD X C ρ (.Compare a [.Is] [.Constant .none j p] pos) (.bool (isNo d)) := (pe_cmpR op_isN ha pe_non (nomark _)).weak fun σ H Q ⟨H₀, M, F, q⟩ =>
  ⟨H₀, M, F, fun x H1 s1 r1 => ⟨rfl, by rw [isNo_of r1]; exact q _ _ s1 Rp.bool⟩⟩
theorem pq_isN (ha : PD X C ρ a d) {j : Nat} : PQ X C ρ (.Compare a [.Is] [.Constant .none j p] pos) (isNo d) := (pt_cmpR op_isN ha pe_non (nomark _)).weak fun σ H Q ⟨H₀, M, F, q⟩ =>
  ⟨H₀, M, F, fun x H1 s1 r1 => ⟨rfl, _, rfl, by rw [isNo_of r1]; exact q _ s1⟩⟩
theorem pd_notN (ha : PD X C ρ a d) {j : Nat} : PD X C ρ (.Compare a [.IsNot] [.Constant .none j p] pos) (.bool (!isNo d)) := (pe_cmpR op_notN ha pe_non (nomark _)).weak fun σ H Q ⟨H₀, M, F, q⟩ =>
  ⟨H₀, M, F, fun x H1 s1 r1 => ⟨rfl, by rw [isNo_of r1]; exact q _ _ s1 Rp.bool⟩⟩
theorem pq_notN (ha : PD X C ρ a d) {j : Nat} : PQ X C ρ (.Compare a [.IsNot] [.Constant .none j p] pos) (!isNo d) := (pt_cmpR op_notN ha pe_non (nomark _)).weak fun σ H Q ⟨H₀, M, F, q⟩ =>
  ⟨H₀, M, F, fun x H1 s1 r1 => ⟨rfl, _, rfl, by rw [isNo_of r1]; exact q _ s1⟩⟩
/-- is not True (of truth values) -/
theorem pq_notB (ha : PD X C ρ a (.bool k1)) (hb : PD X C ρ b (.bool k2)) : PQ X C ρ (.Compare a [.IsNot] [b] pos) (!decide (k1 = k2)) :=
  pq_cmp op_notBl ha hb RD.stay (nomark _) fun x y H Q h1 h2 q => ⟨k1, k2, Rp.bool_iff.mp h1, Rp.bool_iff.mp h2, q⟩
/-- in, not in: a list or a tuple of flat things -/
def flat : PyData → Bool
  | .none => true
  | .bool _ => true
  | .int _ => true
  | .str _ => true
  | _ => false
def eqF : PyData → PyData → Bool
  | .none, .none => true
  | .bool a, .bool b => a == b
  | .bool a, .int j => (if a then 1 else 0) == j
  | .int i, .bool b => i == (if b then 1 else 0)
  | .int i, .int j => i == j
  | .str x, .str y => x == y
  | _, _ => false
def inF (d : PyData) (ds : List PyData) : Bool := ds.any fun e => eqF e d
theorem inF_ints (i : Int) (ns : List Int) : inF (.int i) (ns.map .int) = ns.contains i := by
  induction ns with
  | nil => rfl
  | cons n ns ih =>
    have e : inF (.int i) (.int n :: ns.map .int) = ((n == i) || inF (.int i) (ns.map .int)) := rfl
    rw [List.map_cons, e, ih, List.contains_cons, Bool.beq_comm]
theorem inF_strs (x : Str) (ns : List Str) : inF (.str x) (ns.map .str) = ns.contains x := by
  induction ns with
  | nil => rfl
  | cons n ns ih =>
    have e : inF (.str x) (.str n :: ns.map .str) = ((n == x) || inF (.str x) (ns.map .str)) := rfl
    rw [List.map_cons, e, ih, List.contains_cons, Bool.beq_comm]
end
end FB
end

section
set_option Elab.async false
set_option linter.all false
set_option maxRecDepth 100000
set_option maxHeartbeats 4000000
/-! Rules that the layer lacks: t[::-1] of a tuple; sorted of a tuple or a list of data. -/
namespace FB
open PySem PyProof.Rows HT

theorem fm_congr {α β : Type} {f g : α → Option β} : ∀ (l : List α), (∀ a ∈ l, f a = g a) → l.filterMap f = l.filterMap g
  | [], _ => rfl
  | a :: l, h => by
    rw [List.filterMap_cons, List.filterMap_cons, h a List.mem_cons_self, fm_congr l fun b hb => h b (List.mem_cons_of_mem _ hb)]
section
variable {prog : Program} {w : World} {A : Around} {E : Value → Shared → Prop} {s : Shared}
theorem rev_pick (xs : Array Value) : ((List.range xs.size).filterMap fun (m : Nat) => xs[(((xs.size : Int) - 1) + (m : Int) * (-1)).toNat]?).toArray = xs.toList.reverse.toArray := by
  congr 1
  rw [← PySem.W.krv_all xs, ← List.filterMap_reverse, ← PySem.W.krv_range, List.filterMap_map]
  exact fm_congr _ fun m hm => by
    have hm' := List.mem_range.mp hm
    have e1 : (((xs.size : Int) - 1) + (m : Int) * (-1)).toNat = xs.size - 1 - m := by omega
    rw [e1]
    rfl
theorem sliceApplied_rev {sl : Addr} {vs : Value} {n : Nat} {t : Tok} {Q : Int × Int × Nat → Shared → Prop} (hs : s.heap.IsSliceOf sl .none .none (.int (-1) t))
    (h : Q ((n : Int) - 1, -1, n) s) : wpAny (model prog w) A (Builtin.Slice.sliceApplied (.ref sl) (pure (n : Int))) Q E s := by
  obtain ⟨os, hos, hcs, hds⟩ := id hs
  unfold Builtin.Slice.sliceApplied Builtin.Slice.sliceFields
  refine wpAny_bind (wpAny_bind (wpAny_field hos hds (x := .none) rfl (wpAny_bind (wpAny_field hos hds (x := .none) rfl (wpAny_bind (wpAny_field hos hds (x := .int (-1) t) rfl (wpAny_pure ?_)))))))
  refine wpAny_bind (slicePart_int ?_)
  show wpAny _ _ (if ((-1 : Int) == 0) = true then _ else _) _ _ s
  rw [if_neg (by decide)]
  refine wpAny_bind (slicePart_none (wpAny_bind (slicePart_none (wpAny_bind (wpAny_pure ?_)))))
  show wpAny _ _ (match Builtin.Slice.sliceAdjust none none (-1) (n : Int) with | (lo, hi) => pure (lo, (-1 : Int), Builtin.Slice.slicePlaces lo hi (-1))) _ _ s
  have e : Builtin.Slice.sliceAdjust none none (-1) (n : Int) = ((n : Int) - 1, -1) := by
    unfold Builtin.Slice.sliceAdjust
    have h1 : ((-1 : Int) < 0) := by decide
    simp only [h1, if_true]
  rw [e]
  have e2 : Builtin.Slice.slicePlaces ((n : Int) - 1) (-1) (-1) = n := by
    unfold Builtin.Slice.slicePlaces
    have h1 : ¬ ((-1 : Int) > 0) := by decide
    simp only [h1, if_false]
    rw [show (- -1 : Int) = 1 by decide, Int.ediv_one]
    split <;> omega
  show wpAny _ _ (pure ((n : Int) - 1, (-1 : Int), Builtin.Slice.slicePlaces ((n : Int) - 1) (-1) (-1))) _ _ s
  rw [e2]
  exact wpAny_pure h
theorem getItem_tuple_rev {t sl : Addr} {items : Array Value} {tk : Tok} {Q : Value → Shared → Prop} (ht : IsTup s.heap t items) (hs : s.heap.IsSliceOf sl .none .none (.int (-1) tk))
    (h : Q (.ref s.heap.objs.size) { s with heap := s.heap.push { cls := .type "tuple", data := .seq items.toList.reverse.toArray } })
    (hsz : items.size ≤ sizeLine) : wpAny (model prog w) A (getItem (.ref t) (.ref sl)) Q E s := by
  have htake : sizeOk (.seq items.toList.reverse.toArray) := by
    show items.toList.reverse.toArray.size ≤ sizeLine
    rw [List.size_toArray, List.length_reverse, Array.length_toList]
    exact hsz
  obtain ⟨os, hos, hcs, hds⟩ := id hs
  have hTs : s.TypeIs (.ref sl) "slice" := ⟨os, hos, hcs⟩
  unfold getItem
  try with_reducible refine wpAny_holding ?_
  first | refine wpAny_bind (wpAny_pure ?_) | skip
  refine wpAny_bind (wpAny_sequenceKey ht.typeIs (by decide) ?_)
  refine wpAny_bind (wpAny_callSpecial?_slot (name := Str.ofString "__getitem__") ht.typeIs PyProof.Rows.slot_tuple_getitem
    (wpAny_call_entry PyProof.Rows.slot_tuple_getitem ht.typeIs entry_tuple_getitem ?_ (args_tuple_getitem _ _)))
  show wpAny _ _ (Builtin.Tuple.tupleItemsOf (.ref t) >>= _) _ _ s
  refine wpAny_bind (tupleItemsOf_ ht ?_)
  refine wpAny_bind (wpAny_typeOf hTs ?_)
  rw [if_pos (by decide)]
  refine wpAny_bind (sliceApplied_rev (vs := .none) hs ?_)
  have hno : ¬ ((((items.size : Int) - 1) == 0 && (-1 : Int) == 1 && items.size == items.size) = true) := by
    intro q
    rw [Bool.and_eq_true, Bool.and_eq_true] at q
    exact absurd q.1.2 (by decide)
  show wpAny _ _ (if (((items.size : Int) - 1) == 0 && (-1 : Int) == 1 && items.size == items.size) = true then _ else _) _ _ s
  rw [if_neg hno, rev_pick]
  first
    | exact wpAny_bind (m := Builtin.Tuple.tupleExact _) (wpAny_newObj_type (wpAny_pure ⟨_, rfl, wpAny_pure h⟩) htake)
    | exact wpAny_bind (m := Builtin.Tuple.tupleExact _) (wpAny_newObj_type (wpAny_bind (wpAny_pure (wpAny_pure ⟨_, rfl, wpAny_pure h⟩))) htake)
    | exact wpAny_bind (wpAny_bind (m := Builtin.Tuple.tupleExact _) (wpAny_newObj_type (wpAny_pure (wpAny_pure ⟨_, rfl, wpAny_pure h⟩)) htake))
    | exact wpAny_bind (wpAny_bind (m := Builtin.Tuple.tupleExact _) (wpAny_newObj_type (wpAny_pure ⟨_, rfl, wpAny_pure h⟩) htake))

/-! ### sorted of a tuple -/
theorem collect_tup {l : Addr} {vs : List Value} {Q : List Value → Shared → Prop} (hl : IsTup s.heap l vs.toArray)
    (h : Q vs { s with heap := (s.heap.push (seqObj "list" #[] 0)).update s.heap.objs.size (Obj.mapSeq (· ++ vs.toArray)) }) (hsz : vs.length ≤ sizeLine) :
    wpAny (model prog w) A (collect (.ref l)) Q E s := by
  obtain ⟨o, ho, hc, n, hd⟩ := id hl
  unfold collect
  refine wpAny_bind (wpAny_runValue (codeAny_builtin entry_proto_collect' ?_))
  show wpAny _ _ (do again (.builtin "list.__iadd__" ⟨[← newList [], .ref l], []⟩)) _ _ s
  refine wpAny_bind (wpAny_newList (wpAny_pure ⟨Code.quiet_builtin _ (by decide +kernel), codeAny_builtin entry_list_iadd' ?_⟩))
  show wpAny _ _ (Builtin.List.listExtendWith (.ref s.heap.objs.size) (.ref l) (.ref s.heap.objs.size)) _ _ { s with heap := s.heap.push (seqObj "list" #[] 0) }
  unfold Builtin.List.listExtendWith
  have ho' : (s.heap.push (seqObj "list" #[] 0)).get? l = some o := Heap.get?_push_of_some _ ho
  refine wpAny_bind (wpAny_typeOf (T := "tuple") ⟨o, ho', hc⟩ ?_)
  have ht : (Value.type "tuple" == Value.type "tuple") = true := by rfl
  rw [if_pos (by rw [ht]; simp)]
  refine wpAny_bind (listItems_at ho' hd ?_)
  refine wpAny_bind (listItems_at (xs := #[]) (n := 0) (Heap.get?_push_size _ rfl) rfl ?_)
  rw [if_neg (by simp)]
  refine wpAny_bind (listUpdate_at (xs := #[]) (n := 0) (Heap.get?_push_size _ rfl) rfl ?_ (Nat.zero_le _) (by show (#[] ++ vs.toArray).size ≤ sizeLine + 1; simp only [Array.size_append, List.size_toArray, List.length_nil]; omega))
  refine wpAny_pure ?_
  show wpAny (model prog w) A (do
      let o ← load s.heap.objs.size
      match o.data with
      | .seq xs _ => pure xs.toList
      | _ => unsupported "internal:collect") Q E { s with heap := (s.heap.push (seqObj "list" #[] 0)).update s.heap.objs.size (Obj.mapSeq (· ++ vs.toArray)) }
  refine wpAny_bind (wpAny_load (get?_update_seq (Heap.get?_push_size _ rfl) _) ?_)
  show wpAny _ _ (pure ((#[] : Array Value) ++ vs.toArray).toList) Q E _
  rw [show ((#[] : Array Value) ++ vs.toArray).toList = vs by simp]
  exact wpAny_pure h
open PySem.W in
theorem sorted_of_sortT {l : Addr} {vs : List Value} {kw : List (Str × Value)} {Q : Value → Shared → Prop} (hl : IsTup s.heap l vs.toArray) (hL : vs.length ≤ sizeLine) (ha1 : argsOk "sorted" ⟨[.ref l], kw⟩) (ha2 : ∀ x, argsOk "list.sort" ⟨[.ref x], kw⟩)
    (body : ∀ E' : Value → Shared → Prop, wpAny (model prog w) A.in1.in1 (Builtin.«list.sort» ⟨[.ref (s.heap.objs.size + 1)], kw⟩) (fun f s' => f = .done (.ret .none) ∧ Q (.ref (s.heap.objs.size + 1)) s') E' { s with heap := copyHeap s.heap vs }) :
    wpAny (model prog w) A (call (.builtin "sorted") [.ref l] kw) Q E s := by
  refine call_function_entry_kw kind_sorted plain_sorted entry_sorted ha1 ?_
  unfold Builtin.«sorted»
  refine wpAny_bind (m := checkCount "sorted" 1 1 _) (wpAny_pure ?_)
  refine wpAny_bind (collect_tup hl ?_ hL)
  refine wpAny_bind (wpAny_newList ?_ hL)
  have hsz : ((s.heap.push (seqObj "list" #[] 0)).update s.heap.objs.size (Obj.mapSeq (· ++ vs.toArray))).objs.size = s.heap.objs.size + 1 := by
    rw [Heap.size_update, size_push']
  show wpAny _ _ _ _ _ { s with heap := copyHeap s.heap vs }
  rw [hsz]
  refine wpAny_bind (wpAny_holding (wpAny_call_entry_kw slot_list_sort ⟨_, copyHeap_at s.heap vs, rfl⟩ entry_list_sort ?body (ha2 _)))
  case body =>
    show wpAny (model prog w) A.in1.in1 (Builtin.«list.sort» ⟨[.ref (s.heap.objs.size + 1)], kw⟩) _ _ _
    refine wpAny_mono (body _) (fun f s' hf => ?_) fun _ _ e => e
    obtain ⟨rfl, hq⟩ := hf
    exact ⟨_, rfl, wpAny_pure ⟨_, rfl, hq⟩⟩
open PySem.W in
theorem sorted_valsT {κ : PyProof.Rows.KeyKind} {l : Addr} {vs : List Value} {Q : Value → Shared → Prop} (hl : IsTup s.heap l vs.toArray) (S : SortsAt prog w A.in1.in1 { s with heap := sortingHeap (copyHeap s.heap vs) (s.heap.objs.size + 1) vs } κ vs) (hL : vs.length ≤ sizeLine)
    (h : Q (.ref (s.heap.objs.size + 1)) { s with heap := sortedAll s.heap vs (sortVals κ false vs vs).toArray }) : wpAny (model prog w) A (call (.builtin "sorted") [.ref l]) Q E s :=
  sorted_of_sortT hl hL (args_sorted1 _) (fun _ => args_list_sort _) fun _ => list_sort_vals (s := { s with heap := copyHeap s.heap vs }) (copyHeap_at s.heap vs) S hL ⟨rfl, h⟩
open PySem.W in
theorem sorted_dataT {β : Type} {enc : β → PyData} {vs : List Value} {bs : List β} {R : Value → β → Prop} {l : Addr} {Q : Value → Shared → Prop} (hl : IsTup s.heap l vs.toArray) (e : EachIs R vs bs) (er : EachIs (fun v b => ∃ as, Reads s.heap v (enc b) as) vs bs) (hal : AllAlike (bs.map enc)) (hk : Sortable (bs.map enc)) (hL : bs.length ≤ sizeLine)
    (hu : ∀ b, b ∈ bs → A.units + 2 + (enc b).depth < cLine) (h : ∀ out, out.length = bs.length → EachIs R out (bs.mergeSort (dataLe false enc)) → Q (.ref (s.heap.objs.size + 1)) { s with heap := sortedAll s.heap vs (List.toArray out) }) :
    wpAny (model prog w) A (call (.builtin "sorted") [.ref l]) Q E s := by
  have er' : EachIs (fun v b => ∃ as, Reads (sortingHeap (copyHeap s.heap vs) (s.heap.objs.size + 1) vs) v (enc b) as) vs bs := er.mono fun _ _ ⟨as, r⟩ => ⟨as, PyProof.Rows.Reads.keeps (fun _ _ => sorting_copy_old) r⟩
  exact sorted_valsT hl (SortsAt.data (s := { s with heap := sortingHeap (copyHeap s.heap vs) (s.heap.objs.size + 1) vs }) (each_map (R := fun v d => ∃ as, Reads (sortingHeap (copyHeap s.heap vs) (s.heap.objs.size + 1) vs) v d as) enc er') hal hk (bound_map hu)) (by rw [e.length]; exact hL)
    (h _ (by rw [sortVals_length false rfl]; exact e.length) (sortVals_data false e er' hal))
end
end FB
end

section
set_option Elab.async false
set_option linter.all false
set_option maxRecDepth 100000
set_option maxHeartbeats 4000000
/-! Expressions over data, further. -/
namespace FB
open PySem L2
section
variable {X : Cx} {C : Addr} {ρ : Rho} {e a b c : Expr} {d d' : PyData} {ds es : List PyData} {r : Rc} {pos p p1 p2 p3 : Pos} {x : Str} {i j k : Int} {R R1 R2' : Hp → V → Prop} {cb k1 k2 : Bool} {rest : List Expr}

/-! ### in -/
theorem flat_of {H : Hp} {v : V} (h : Rp X.K H v d) (f : flat d = true) : flatV v = true := by
  cases d with
  | none => rw [Rp.non_iff.mp h]; rfl
  | bool b => rw [Rp.bool_iff.mp h]; rfl
  | int b => rw [Rp.int_iff.mp h]; rfl
  | str b => rw [Rp.str_iff.mp h]; rfl
  | _ => simp [flat] at f
theorem eqF_of {H : Hp} {v u : V} (h : Rp X.K H v d) (h' : Rp X.K H u d') (f : flat d = true) (f' : flat d' = true) : eqV v u = eqF d d' := by
  cases d with
  | none => rw [Rp.non_iff.mp h]; cases d' with
    | none => rw [Rp.non_iff.mp h']; rfl
    | bool b => rw [Rp.bool_iff.mp h']; rfl
    | int b => rw [Rp.int_iff.mp h']; rfl
    | str b => rw [Rp.str_iff.mp h']; rfl
    | _ => simp [flat] at f'
  | bool b => rw [Rp.bool_iff.mp h]; cases d' with
    | none => rw [Rp.non_iff.mp h']; rfl
    | bool b => rw [Rp.bool_iff.mp h']; rfl
    | int b => rw [Rp.int_iff.mp h']; rfl
    | str b => rw [Rp.str_iff.mp h']; rfl
    | _ => simp [flat] at f'
  | int b => rw [Rp.int_iff.mp h]; cases d' with
    | none => rw [Rp.non_iff.mp h']; rfl
    | bool b => rw [Rp.bool_iff.mp h']; rfl
    | int b => rw [Rp.int_iff.mp h']; rfl
    | str b => rw [Rp.str_iff.mp h']; rfl
    | _ => simp [flat] at f'
  | str b => rw [Rp.str_iff.mp h]; cases d' with
    | none => rw [Rp.non_iff.mp h']; rfl
    | bool b => rw [Rp.bool_iff.mp h']; rfl
    | int b => rw [Rp.int_iff.mp h']; rfl
    | str b => rw [Rp.str_iff.mp h']; rfl
    | _ => simp [flat] at f'
  | _ => simp [flat] at f
theorem inF_of {H : Hp} {v : V} (h : Rp X.K H v d) (f : flat d = true) : ∀ {vs : List V} {ds : List PyData}, RpA X.K H vs ds → ds.all flat = true → vs.all flatV = true ∧ inV v vs = inF d ds
  | [], [], _, _ => ⟨rfl, rfl⟩
  | [], _ :: _, h, _ => by simp only [RpA] at h
  | _ :: _, [], h, _ => by simp only [RpA] at h
  | v' :: vs, d' :: ds, t, g => by
    simp only [RpA] at t
    simp only [List.all_cons, Bool.and_eq_true] at g
    obtain ⟨q1, q2⟩ := inF_of h f t.2 g.2
    refine ⟨?_, ?_⟩
    · simp only [List.all_cons, Bool.and_eq_true]; exact ⟨flat_of t.1 g.1, q1⟩
    · show (eqV v' v || inV v vs) = (eqF d' d || inF d ds)
      rw [q2, eqF_of t.1 h g.1 f]
/-- a list or a tuple -/
def RS (X : Cx) (ds : List PyData) : Hp → V → Prop := fun H v => ∃ a vs, v = .ref a ∧ (SqL X.K H a vs ∨ SqT X.K H a vs) ∧ RpA X.K H vs ds
theorem RS.stay : Stay (RS X ds) := fun H H' v s ⟨a, vs, e, h, r⟩ => ⟨a, vs, e, h.elim (fun q => .inl (s.seq q)) (fun q => .inr (Same.tle s _ _ q)), RpA.mono (Same.tle s) ds r⟩
theorem ps_list (h : PL X C ρ e ds) : PE X e (tV X C ρ (RS X ds)) := pv_imp h fun H v ⟨a, vs, e, h, r⟩ => ⟨a, vs, e, .inl (.inl h), r⟩
theorem ps_tuple (h : PD X C ρ e (.tuple ds)) : PE X e (tV X C ρ (RS X ds)) := pv_imp h fun H v h => by
  obtain ⟨a, xs, e, h, r⟩ := Rp.tup_iff.mp h
  exact ⟨a, xs, e, .inr h, r⟩
theorem pq_in (ha : PD X C ρ a d) (hb : PE X b (tV X C ρ (RS X ds))) (f : flat d = true) (g : ds.all flat = true) (hm : behindInMarks .In b = false := by rfl) : PQ X C ρ (.Compare a [.In] [b] pos) (inF d ds) :=
  pq_cmp op_in_seq ha hb RD.stay hm fun x y H Q h1 h2 q => by
    obtain ⟨p, vs, rfl, hs, r⟩ := h2
    obtain ⟨q1, q2⟩ := inF_of h1 f r g
    exact ⟨p, vs, rfl, hs, flat_of h1 f, q1, by show Q (.bl (inV x vs)) H; rw [q2]; exact q⟩
theorem pd_in (ha : PD X C ρ a d) (hb : PE X b (tV X C ρ (RS X ds))) (f : flat d = true) (g : ds.all flat = true) (hm : behindInMarks .In b = false := by rfl) : PD X C ρ (.Compare a [.In] [b] pos) (.bool (inF d ds)) :=
  pv_cmp op_in_seq ha hb RD.stay hm fun x y H Q h1 h2 q => by
    obtain ⟨p, vs, rfl, hs, r⟩ := h2
    obtain ⟨q1, q2⟩ := inF_of h1 f r g
    exact ⟨p, vs, rfl, hs, flat_of h1 f, q1, by show Q (.bl (inV x vs)) H; rw [q2]; exact q⟩
theorem pq_notIn (ha : PD X C ρ a d) (hb : PE X b (tV X C ρ (RS X ds))) (f : flat d = true) (g : ds.all flat = true) (hm : behindInMarks .NotIn b = false := by rfl) : PQ X C ρ (.Compare a [.NotIn] [b] pos) (!inF d ds) :=
  pq_cmp op_notIn_seq ha hb RD.stay hm fun x y H Q h1 h2 q => by
    obtain ⟨p, vs, rfl, hs, r⟩ := h2
    obtain ⟨q1, q2⟩ := inF_of h1 f r g
    exact ⟨p, vs, rfl, hs, flat_of h1 f, q1, by show Q (.bl (!inV x vs)) H; rw [q2]; exact q⟩

/-! ### displays -/
def tA (X : Cx) (C : Addr) (ρ : Rho) (ds : List PyData) : TA := fun σ H Q => ∃ H₀ M, Fr X.prog X.w X.K C H₀ M H ρ σ ∧ ∀ vs H', Same H H' → RpA X.K H' vs ds → Q vs H'
abbrev PDs (X : Cx) (C : Addr) (ρ : Rho) (es : List Expr) (ds : List PyData) : Prop := PA X es (tA X C ρ ds)
theorem pds_nil : PDs X C ρ [] [] := pa_nil.weak fun σ H Q ⟨H₀, M, F, q⟩ => q [] H (Same.refl H) RpA.nil
theorem pds_cons (h : PD X C ρ e d) (t : PDs X C ρ rest ds) (hs : starEach (e :: rest) X.env = (false, eval e X.env) :: starEach rest X.env := by rfl) : PDs X C ρ (e :: rest) (d :: ds) := (pa_cons h t hs).weak fun σ H Q ⟨H₀, M, F, q⟩ =>
  ⟨H₀, M, F, fun v H1 s1 r1 => ⟨H₀, M, F.same s1, fun vs H2 s2 r2 => q (v :: vs) H2 (s1.trans s2) (RpA.cons (Rp.mono (Same.tle s2) _ r1) r2)⟩⟩
theorem pds_star (h : PE X e (tV X C ρ (RS X es))) (t : PDs X C ρ rest ds) (hs : starEach (.Starred e p :: rest) X.env = (true, eval e X.env) :: starEach rest X.env := by rfl) : PDs X C ρ (.Starred e p :: rest) (es ++ ds) := (StX.pa_star h t hs).weak fun σ H Q ⟨H₀, M, F, q⟩ =>
  ⟨H₀, M, F, fun v H1 s1 ⟨a, vs, e, hs, r1⟩ => ⟨a, vs, e, hs.symm, H₀, M, F.same s1, fun ws H2 s2 r2 => q (vs ++ ws) H2 (s1.trans s2) ((RpA.mono (Same.tle s2) _ r1).append r2)⟩⟩
theorem same_new {H : Hp} {a : Addr} {o : HO} (hn : H a = none) : Same H (upd H a o) := fun b u e => by rw [upd_ne (ne_of_none e hn)]; exact e
theorem pd_tup {k : Nat} {es : List Expr} (h : PDs X C ρ es ds) (hz : ds.length ≤ sizeLine := by exact Nat.le_of_ble_eq_true rfl) : PD X C ρ (.Tuple es k pos) (.tuple ds) := (pe_tup h).weak fun σ H Q ⟨H₀, M, F, q⟩ =>
  ⟨H₀, M, F, fun vs H1 s1 r1 => ⟨by rw [r1.length]; exact hz, fun n hn => q _ _ (s1.trans (same_new hn)) (Rp.tup (SqT.of upd_same) (RpA.mono (Same.tle (same_new hn)) _ r1))⟩⟩
theorem pn_lst {es : List Expr} (h : PDs X C ρ es ds) (hz : ds.length ≤ sizeLine := by exact Nat.le_of_ble_eq_true rfl) : PN X C ρ (.List es pos) ds := (pe_lst h).weak fun σ H Q ⟨H₀, M, F, q⟩ =>
  ⟨H₀, M, F, fun vs H1 s1 r1 => ⟨by rw [r1.length]; exact hz, fun n hn => q n vs _ (s1.trans (same_new hn)) (s1.free hn) upd_same (RpA.mono (Same.tle (same_new hn)) _ r1)⟩⟩

/-! ### subscripts -/
theorem atI_rel {H : Hp} {vs : List V} {n : Int} {y : PyData} (r : RpA X.K H vs ds) (h : atI ds n = some y) : ∃ v, atI vs n = some v ∧ Rp X.K H v y := by
  unfold atI at h ⊢
  rw [r.length]
  cases q : ixN ds.length n with
  | none => rw [q] at h; cases h
  | some m =>
    rw [q] at h
    exact r.get' h
theorem pd_ixT (ha : PD X C ρ a (.tuple ds)) (hb : PD X C ρ b (.int i)) (h : atI ds i = some d := by rfl) (hs : PlainIx b := by exact fun _ _ => rfl) : PD X C ρ (.Subscript a b pos) d := (pe_ix ix_tup ha hb hs).weak fun σ H Q ⟨H₀, M, F, q⟩ =>
  ⟨H₀, M, F, fun x H1 s1 r1 => ⟨H₀, M, F.same s1, fun y H2 s2 r2 => by
    obtain ⟨p, xs, rfl, hx, rx⟩ := Rp.tup_iff.mp (RD.stay _ _ _ s2 r1)
    obtain ⟨v, hv, rv⟩ := atI_rel rx h
    exact ⟨p, xs, i, v, rfl, Rp.int_iff.mp r2, hx, hv, q v H2 (s1.trans s2) rv⟩⟩⟩
theorem pd_ixL (ha : PL X C ρ a ds) (hb : PD X C ρ b (.int i)) (h : atI ds i = some d := by rfl) (hs : PlainIx b := by exact fun _ _ => rfl) : PD X C ρ (.Subscript a b pos) d := (pe_ix ix_list ha hb hs).weak fun σ H Q ⟨H₀, M, F, q⟩ =>
  ⟨H₀, M, F, fun x H1 s1 r1 => ⟨H₀, M, F.same s1, fun y H2 s2 r2 => by
    obtain ⟨p, xs, rfl, hx, rx⟩ := RL.stay _ _ _ s2 r1
    obtain ⟨v, hv, rv⟩ := atI_rel rx h
    exact ⟨p, xs, i, v, rfl, Rp.int_iff.mp r2, .inl hx, hv, q v H2 (s1.trans s2) rv⟩⟩⟩

/-! ### slices -/
def tO (X : Cx) (C : Addr) (ρ : Rho) (o : Option Int) : TO := fun σ H Q => ∃ H₀ M, Fr X.prog X.w X.K C H₀ M H ρ σ ∧ ∀ H', Same H H' → Q o H'
abbrev POd (X : Cx) (C : Addr) (ρ : Rho) (e : Option Expr) (o : Option Int) : Prop := PO X e (tO X C ρ o)
theorem _root_.L2.PO.weak {e : Option Expr} {t t' : TO} (h : PO X e t) (k : ∀ σ H Q, t' σ H Q → t σ H Q) : PO X e t' := ⟨fun pins s σ H Q I q => h.run pins s σ H Q I (k σ H Q q)⟩
theorem pod_none : POd X C ρ none none := po_none.weak fun σ H Q ⟨H₀, M, F, q⟩ => q H (Same.refl H)
theorem pod_some (h : PD X C ρ e (.int i)) : POd X C ρ (some e) (some i) := (po_some h).weak fun σ H Q ⟨H₀, M, F, q⟩ => ⟨H₀, M, F, fun v H1 s1 r1 => ⟨i, Rp.int_iff.mp r1, q H1 s1⟩⟩
def cutL {α : Type} (xs : List α) (lo hi : Option Int) : List α := (xs.drop (HT.sIx xs.length 0 lo)).take (HT.sIx xs.length xs.length hi - HT.sIx xs.length 0 lo)
theorem cut_rel {H : Hp} {vs : List V} {lo hi : Option Int} (r : RpA X.K H vs ds) : RpA X.K H (cutV vs lo hi) (cutL ds lo hi) := by
  unfold cutV cutL
  rw [r.length]
  exact (r.drop _).take _
theorem cutL_whole {α : Type} {xs : List α} {lo hi : Option Int} (h1 : HT.sIx xs.length 0 lo = 0) (h2 : HT.sIx xs.length xs.length hi = xs.length) : cutL xs lo hi = xs := by
  unfold cutL
  rw [h1, h2, List.drop_zero, Nat.sub_zero, List.take_length]
variable {lo hi : Option Expr} {ol oh : Option Int}
theorem pd_sliceT (ha : PD X C ρ a (.tuple ds)) (hl : POd X C ρ lo ol) (hh : POd X C ρ hi oh) : PD X C ρ (.Subscript a (.Slice lo hi none p2) pos) (.tuple (cutL ds ol oh)) := (pe_slice sl_tupA ha hl hh).weak fun σ H Q ⟨H₀, M, F, q⟩ =>
  ⟨H₀, M, F, fun x H1 s1 r1 => ⟨H₀, M, F.same s1, fun H2 s2 => ⟨H₀, M, (F.same s1).same s2, fun H3 s3 => by
    obtain ⟨p, xs, rfl, hx, rx⟩ := Rp.tup_iff.mp (RD.stay _ _ _ (s2.trans s3) r1)
    refine ⟨p, xs, rfl, hx, fun w => ?_, fun _ n hn => ?_⟩
    · rw [rx.length] at w
      rw [cutL_whole w.1 w.2] at q
      exact q _ H3 ((s1.trans s2).trans s3) (Rp.tup hx rx)
    · exact q _ _ (((s1.trans s2).trans s3).trans (same_new hn)) (Rp.tup (SqT.of upd_same) (RpA.mono (Same.tle (same_new hn)) _ (cut_rel rx)))⟩⟩⟩
theorem pn_sliceL (ha : PL X C ρ a ds) (hl : POd X C ρ lo ol) (hh : POd X C ρ hi oh) : PN X C ρ (.Subscript a (.Slice lo hi none p2) pos) (cutL ds ol oh) := (pe_slice sl_list ha hl hh).weak fun σ H Q ⟨H₀, M, F, q⟩ =>
  ⟨H₀, M, F, fun x H1 s1 r1 => ⟨H₀, M, F.same s1, fun H2 s2 => ⟨H₀, M, (F.same s1).same s2, fun H3 s3 => by
    obtain ⟨p, xs, rfl, hx, rx⟩ := RL.stay _ _ _ (s2.trans s3) r1
    refine ⟨p, xs, rfl, .inl hx, fun n hn => ?_⟩
    exact q n _ _ (((s1.trans s2).trans s3).trans (same_new hn)) (((s1.trans s2).trans s3).free hn) upd_same (RpA.mono (Same.tle (same_new hn)) _ (cut_rel rx))⟩⟩⟩
theorem pn_revL {k : Nat} (ha : PL X C ρ a ds) : PN X C ρ (.Subscript a (.Slice none none (some (.UnaryOp .USub (.Constant (.int 1) k p1) p2)) p3) pos) ds.reverse := (pe_revL ha).weak fun σ H Q ⟨H₀, M, F, q⟩ =>
  ⟨H₀, M, F, fun x H1 s1 ⟨p, xs, e, hx, rx⟩ => ⟨p, xs, e, .inl hx, fun n hn => q n _ _ (s1.trans (same_new hn)) (s1.free hn) upd_same (RpA.mono (Same.tle (same_new hn)) _ rx.reverse)⟩⟩
/-- t[::-1] -/
def tRevT (K : PySem.W.Frag) (te : TE) : TE := fun σ H Q => te σ H fun x H1 => ∃ a xs, x = .ref a ∧ SqT K H1 a xs ∧ ∀ p, H1 p = none → Q (.ref p) (upd H1 p (.tup xs.reverse))
open PyProof.Rows in
theorem pe_revT {te : TE} {k : Nat} (he : PE X e te) : PE X (.Subscript e (.Slice none none (some (.UnaryOp .USub (.Constant (.int 1) k p1) p2)) p3) pos) (tRevT X.K te) := by
  refine ⟨fun pins s σ H Q I h => ?_⟩
  refine Subscript_ (thn (he.run pins s σ H _ I h) fun v s1 ⟨x, H1, I1, r1, q1⟩ => ?_)
  obtain ⟨a, xs, ex, hx, q⟩ := q1
  subst ex
  cases r1
  have hst : PO X (some (.UnaryOp .USub (.Constant (.int 1) k p1) p2)) (tPart (tUn (rU fun i => .int (-i)) (tC (.int 1)))) := po_some (pe_un un_neg pe_int)
  refine wpAny_Slice (thn (po_none.run pins s1 σ H1 (fun o H2 => o = none ∧ H2 = H1) I1 ⟨rfl, rfl⟩) fun vl s2 ⟨l, H2, I2, pl, el, e2⟩ => ?_)
  subst el e2
  refine thn (po_none.run pins s2 σ H2 (fun o H3 => o = none ∧ H3 = H2) I2 ⟨rfl, rfl⟩) fun vu s3 ⟨u, H3, I3, pu, eu, e3⟩ => ?_
  subst eu e3
  refine thn (hst.run pins s3 σ H3 (fun o H4 => o = some (-1) ∧ H4 = H3) I3 ⟨1, rfl, -1, rfl, rfl, rfl⟩) fun vs s4 ⟨o, H4, I4, ps, eo, e4⟩ => ?_
  subst eo e4
  have I5 : Inv X pins σ H4 { s4 with heap := s4.heap.push { cls := .type "slice", data := .fields #[vl, vu, vs] } } := I4.kept (t' := s4.toks) fun b ob q => Heap.get?_push_of_some _ q
  obtain ⟨its, r, ht, hz⟩ := I5.tuple hx
  have hlen := r.length
  cases pl
  cases pu
  cases ps with
  | int _ tk =>
    show wpAny (model X.prog X.w) X.A (subscriptTail e (.Slice none none (some (.UnaryOp .USub (.Constant (.int 1) k p1) p2)) p3) (.ref a) (.ref s4.heap.objs.size)) (EP X pins σ Q) X.xe { s4 with heap := s4.heap.push { cls := .type "slice", data := .fields #[.none, .none, .int (-1) tk] } }
    refine tail_any (ops := [.ref a, .ref s4.heap.objs.size]) ht.typeIs (PyProof.Rows.slot_tuple_getitem.lookup) ?_ (by with_unfolding_all rfl)
    refine getItem_tuple_rev ht (Heap.IsSliceOf.new _ .none .none (.int (-1) tk)) ?_ (by rw [List.size_toArray]; omega)
    refine ⟨.ref _, _, I5.laid (t' := s4.toks) (o := .tup xs.reverse) (fun b ob q => Heap.get?_push_of_some _ q) (Nat.le_refl _) ?_, rfl, q _ (I5.hok.fresh (Nat.le_refl _))⟩
    exact ⟨by rw [List.length_reverse]; exact hz, _, r.reverse, ⟨_, Heap.get?_push_size _ rfl, rfl, _, rfl⟩⟩
theorem pd_revT {k : Nat} (ha : PD X C ρ a (.tuple ds)) : PD X C ρ (.Subscript a (.Slice none none (some (.UnaryOp .USub (.Constant (.int 1) k p1) p2)) p3) pos) (.tuple ds.reverse) := (pe_revT ha).weak fun σ H Q ⟨H₀, M, F, q⟩ =>
  ⟨H₀, M, F, fun x H1 s1 r1 => by
    obtain ⟨p, xs, rfl, hx, rx⟩ := Rp.tup_iff.mp r1
    exact ⟨p, xs, rfl, hx, fun n hn => q _ _ (s1.trans (same_new hn)) (Rp.tup (SqT.of upd_same) (RpA.mono (Same.tle (same_new hn)) _ rx.reverse))⟩⟩
end
end FB
end

section
set_option Elab.async false
set_option linter.all false
set_option maxRecDepth 100000
set_option maxHeartbeats 4000000
/-! Tests, conditional expressions, calls. -/
namespace FB
open PySem L2

/-! ### arguments, results of a call -/
inductive Ar where
  | dat (d : PyData)
  | rcv (r : Rc)
  | lst (ds : List PyData)
  | dct (P : Program) (w : World) (kvs : List (NestedKey × PyData))
  | kl (ds : List PyData)
inductive Rt where
  | dat (d : PyData)
  | datP (a : Addr) (d : PyData)
  | rcv (r : Rc)
  | lst (ds : List PyData)
section
variable (K : PySem.W.Frag) (C : Addr) (H H' : Hp)
def ArOk (v : V) : Ar → Prop
  | .kl ds => ∃ a vs, v = .ref a ∧ SqF K H a vs ∧ RpA K H vs ds
  | .dat d => Rp K H v d
  | .rcv r => IsR K C H v r
  | .lst ds => ∃ a vs, v = .ref a ∧ Rd H a (.lst vs) ∧ RpA K H vs ds
  | .dct P w kvs => ∃ a xs, v = .ref a ∧ (a == sysModules) = false ∧ H a = some (dctO P w a xs) ∧ EntOk K H xs kvs
def ArsOk : List V → List Ar → Prop
  | [], [] => True
  | v :: vs, a :: as => ArOk K C H v a ∧ ArsOk vs as
  | [], _ :: _ => False
  | _ :: _, [] => False
def RtOk (v : V) : Rt → Prop
  | .datP a d => Rp K H' v d ∧ three H' a
  | .dat d => Rp K H' v d
  | .rcv r => IsR K C H' v r
  | .lst ds => ∃ a vs, v = .ref a ∧ H a = none ∧ H' a = some (.lst vs) ∧ RpA K H' vs ds
end
theorem ArOk.same {K : PySem.W.Frag} {C : Addr} {H H' : Hp} (s : Same H H') {v : V} {a : Ar} (h : ArOk K C H v a) : ArOk K C H' v a := by
  cases a with
  | dat d => exact Rp.mono (Same.tle s) d h
  | rcv r => exact IsR.same s h
  | lst ds =>
    obtain ⟨a, vs, e, h1, h2⟩ := h
    exact ⟨a, vs, e, Same.rd s h1, RpA.mono (Same.tle s) ds h2⟩
  | dct P w kvs =>
    obtain ⟨a, xs, e, m, h1, h2⟩ := h
    exact ⟨a, xs, e, m, s _ _ h1, EntOk.mono (Same.tle s) h2⟩
  | kl ds =>
    obtain ⟨a, vs, e, h1, h2⟩ := h
    exact ⟨a, vs, e, h1.keep fun o u q => s _ _ q, RpA.mono (Same.tle s) ds h2⟩
theorem ar_int {K : PySem.W.Frag} {C : Addr} {H : Hp} {v : V} {i : Int} (h : ArOk K C H v (.dat (.int i))) : v = .int i := by
  have h' : Rp K H v (.int i) := h
  exact Rp.int_iff.mp h'
theorem ArsOk.length {K : PySem.W.Frag} {C : Addr} {H : Hp} : ∀ {vs : List V} {as : List Ar}, ArsOk K C H vs as → vs.length = as.length
  | [], [], _ => rfl
  | [], _ :: _, h => h.elim
  | _ :: _, [], h => h.elim
  | _ :: _, _ :: _, h => by rw [List.length_cons, List.length_cons, ArsOk.length h.2]
def spD (K : PySem.W.Frag) (C : Addr) (Pre : List Ar → Rt → Prop) : Sp := fun vs H Q _ => ∃ as r, ArsOk K C H vs as ∧ Pre as r ∧ ∀ v H', Same H H' → RtOk K C H H' v r → Q v H'
/-- a def of the module, with its promise -/
def Df (P : Program) (w : World) (K : PySem.W.Frag) (mg : Str → Option Value) (base : Heap) (C : Addr) (x : Str) (k : Nat) (Pre : List Ar → Rt → Prop) : Prop :=
  ∃ f fd ps, mg x = some (.ref f) ∧ PySem.W.keepIn K (.ref f) = true ∧ Binds K fd ps [] ∧ FnOk P w K mg base CX0 k f fd ps (spD K C Pre)
/-- a method of the class -/
def Dm (P : Program) (w : World) (K : PySem.W.Frag) (mg : Str → Option Value) (base : Heap) (C : Addr) (m : Str) (k : Nat) (Pre : List Ar → Rt → Prop) : Prop :=
  ∃ f fd ps, Meth K C m f ∧ (∀ rm b c o q t, (rcF rm b c o q t).lookup m = none) ∧ Binds K fd ps [] ∧ FnOk P w K mg base CX0 k f fd ps (spD K C Pre)
/-- a property of the class that hands back an attribute -/
def Dp' (P : Program) (w : World) (K : PySem.W.Frag) (mg : Str → Option Value) (base : Heap) (C : Addr) (x fld : Str) (k : Nat) : Prop :=
  ∃ p g fd ps, PropOf K C x p g ∧ Binds K fd ps [] ∧ FnOk P w K mg base CX0 k g fd ps (getSp C fld)

theorem _root_.L2.PE.never {X : Cx} {e : Expr} : PE X e (fun _ _ _ => False) := ⟨fun _ _ _ _ _ _ h => h.elim⟩
theorem _root_.L2.PT.never {X : Cx} {e : Expr} : PT X e (fun _ _ _ => False) := ⟨fun _ _ _ _ _ _ h => h.elim⟩
theorem _root_.L2.PW.never {X : Cx} {e : Expr} : PW X e (fun _ _ _ => False) := ⟨fun _ _ _ _ _ _ _ h => h.elim⟩
section
variable {X : Cx} {C : Addr} {ρ : Rho} {e a b c : Expr} {d d' : PyData} {ds es : List PyData} {r : Rc} {pos p p1 p2 p3 : Pos} {x : Str} {i j k : Int} {R R1 R2' : Hp → V → Prop} {cb k1 k2 : Bool} {rest : List Expr}

/-! ### and, or, not -/
theorem pd_one {op : BoolOp} (h : PD X C ρ a d) : PD X C ρ (.BoolOp op [a] pos) d := pe_one h
theorem pd_and (ha : PD X C ρ a (.bool k1)) (hb : k1 = true → PD X C ρ (.BoolOp .And (b :: rest) pos) (.bool k2)) : PD X C ρ (.BoolOp .And (a :: b :: rest) pos) (.bool (k1 && k2)) := by
  cases k1 with
  | true => exact (pe_and ha (hb rfl)).weak fun σ H Q ⟨H₀, M, F, q⟩ => ⟨H₀, M, F, fun v H1 s1 r1 => ⟨true, Rp.bool_iff.mp r1, iteT ⟨H₀, M, F.same s1, fun u H2 s2 r2 => q u H2 (s1.trans s2) r2⟩⟩⟩
  | false => exact (pe_and ha PE.never).weak fun σ H Q ⟨H₀, M, F, q⟩ => ⟨H₀, M, F, fun v H1 s1 r1 => ⟨false, Rp.bool_iff.mp r1, iteF (q _ H1 s1 Rp.bool)⟩⟩
theorem pd_or (ha : PD X C ρ a (.bool k1)) (hb : k1 = false → PD X C ρ (.BoolOp .Or (b :: rest) pos) (.bool k2)) : PD X C ρ (.BoolOp .Or (a :: b :: rest) pos) (.bool (k1 || k2)) := by
  cases k1 with
  | true => exact (pe_or ha PE.never).weak fun σ H Q ⟨H₀, M, F, q⟩ => ⟨H₀, M, F, fun v H1 s1 r1 => ⟨true, Rp.bool_iff.mp r1, iteT (q _ H1 s1 Rp.bool)⟩⟩
  | false => exact (pe_or ha (hb rfl)).weak fun σ H Q ⟨H₀, M, F, q⟩ => ⟨H₀, M, F, fun v H1 s1 r1 => ⟨false, Rp.bool_iff.mp r1, iteF ⟨H₀, M, F.same s1, fun u H2 s2 r2 => q u H2 (s1.trans s2) r2⟩⟩⟩
theorem pd_not (ha : PD X C ρ a (.bool k1)) : PD X C ρ (.UnaryOp .Not a pos) (.bool (!k1)) := (pe_not ha).weak fun σ H Q ⟨H₀, M, F, q⟩ => ⟨H₀, M, F, fun v H1 s1 r1 => ⟨k1, Rp.bool_iff.mp r1, q _ H1 s1 Rp.bool⟩⟩
theorem pw_and1' (h : PQ X C ρ a k1) : PQw X C ρ (.BoolOp .And [a] pos) k1 := pw_and1 h
theorem pw_or1' (h : PQ X C ρ a k1) : PQw X C ρ (.BoolOp .Or [a] pos) k1 := pw_or1 h
theorem pw_and' (ha : PQ X C ρ a k1) (hb : k1 = true → PQw X C ρ (.BoolOp .And (b :: rest) pos) k2) : PQw X C ρ (.BoolOp .And (a :: b :: rest) pos) (k1 && k2) := by
  cases k1 with
  | true => exact (pw_and ha (hb rfl)).weak fun σ H Q ⟨H₀, M, F, q⟩ => ⟨H₀, M, F, fun H1 s1 => iteT ⟨H₀, M, F.same s1, fun H2 s2 => q H2 (s1.trans s2)⟩⟩
  | false => exact (pw_and ha PW.never).weak fun σ H Q ⟨H₀, M, F, q⟩ => ⟨H₀, M, F, fun H1 s1 => iteF (q H1 s1)⟩
theorem pw_or' (ha : PQ X C ρ a k1) (hb : k1 = false → PQw X C ρ (.BoolOp .Or (b :: rest) pos) k2) : PQw X C ρ (.BoolOp .Or (a :: b :: rest) pos) (k1 || k2) := by
  cases k1 with
  | true => exact (pw_or ha PW.never).weak fun σ H Q ⟨H₀, M, F, q⟩ => ⟨H₀, M, F, fun H1 s1 => iteT (q H1 s1)⟩
  | false => exact (pw_or ha (hb rfl)).weak fun σ H Q ⟨H₀, M, F, q⟩ => ⟨H₀, M, F, fun H1 s1 => iteF ⟨H₀, M, F.same s1, fun H2 s2 => q H2 (s1.trans s2)⟩⟩
theorem pq_w (h : PQw X C ρ a k1) : PQ X C ρ a k1 := h.pt
theorem pq_not (h : PQ X C ρ a k1) : PQ X C ρ (.UnaryOp .Not a pos) (!k1) := (pt_not h).weak fun σ H Q ⟨H₀, M, F, q⟩ => ⟨H₀, M, F, fun H1 s1 => q H1 s1⟩
/-- a truth value as a test -/
theorem pq_val (h : PD X C ρ e (.bool k1)) (he : ∀ whole, isTrue e X.env whole = (do let v ← whole; standAt e.pos; holding [v] (truthy v)) := by intro _; rfl) : PQ X C ρ e k1 := (pt_val h he).weak fun σ H Q ⟨H₀, M, F, q⟩ =>
  ⟨H₀, M, F, fun v H1 s1 r1 => ⟨k1, Rp.bool_iff.mp r1, q H1 s1⟩⟩
/-- a list as a test -/
theorem pq_list (h : PL X C ρ e ds) (he : ∀ whole, isTrue e X.env whole = (do let v ← whole; standAt e.pos; holding [v] (truthy v)) := by intro _; rfl) : PQ X C ρ e (!ds.isEmpty) := (pt_truth h he).weak fun σ H Q ⟨H₀, M, F, q⟩ =>
  ⟨H₀, M, F, fun v H1 s1 ⟨p, vs, e, hs, r1⟩ => ⟨!ds.isEmpty, by
    subst e
    have hl := r1.length
    refine .inl ⟨vs, .inl hs, ?_⟩
    cases vs <;> cases ds <;> first | rfl | simp at hl, q H1 s1⟩⟩
/-- a if t else b -/
theorem pv_if (hc : PQ X C ρ c k1) (ha : k1 = true → PE X a (tV X C ρ R)) (hb : k1 = false → PE X b (tV X C ρ R)) : PE X (.IfExp c a b pos) (tV X C ρ R) := by
  cases k1 with
  | true => exact (pe_ifExp hc (ha rfl) PE.never).weak fun σ H Q ⟨H₀, M, F, q⟩ => ⟨H₀, M, F, fun H1 s1 => iteT ⟨H₀, M, F.same s1, fun u H2 s2 r2 => q u H2 (s1.trans s2) r2⟩⟩
  | false => exact (pe_ifExp hc PE.never (hb rfl)).weak fun σ H Q ⟨H₀, M, F, q⟩ => ⟨H₀, M, F, fun H1 s1 => iteF ⟨H₀, M, F.same s1, fun u H2 s2 r2 => q u H2 (s1.trans s2) r2⟩⟩
theorem pn_if (hc : PQ X C ρ c k1) (ha : k1 = true → PN X C ρ a ds) (hb : k1 = false → PN X C ρ b ds) : PN X C ρ (.IfExp c a b pos) ds := by
  cases k1 with
  | true => exact (pe_ifExp hc (ha rfl) PE.never).weak fun σ H Q ⟨H₀, M, F, q⟩ => ⟨H₀, M, F, fun H1 s1 => iteT ⟨H₀, M, F.same s1, fun u vs H2 s2 n2 h2 r2 => q u vs H2 (s1.trans s2) (s1.free n2) h2 r2⟩⟩
  | false => exact (pe_ifExp hc PE.never (hb rfl)).weak fun σ H Q ⟨H₀, M, F, q⟩ => ⟨H₀, M, F, fun H1 s1 => iteF ⟨H₀, M, F.same s1, fun u vs H2 s2 n2 h2 r2 => q u vs H2 (s1.trans s2) (s1.free n2) h2 r2⟩⟩

/-! ### argument lists -/
def tG (X : Cx) (C : Addr) (ρ : Rho) (as : List Ar) : TA := fun σ H Q => ∃ H₀ M, Fr X.prog X.w X.K C H₀ M H ρ σ ∧ ∀ vs H', Same H H' → ArsOk X.K C H' vs as → Q vs H'
abbrev PGs' (X : Cx) (C : Addr) (ρ : Rho) (es : List Expr) (as : List Ar) : Prop := PA X es (tG X C ρ as)
variable {as : List Ar} {ar : Ar}
theorem ga_nil : PGs' X C ρ [] [] := pa_nil.weak fun σ H Q ⟨H₀, M, F, q⟩ => q [] H (Same.refl H) True.intro
theorem ga_cons (h : PE X e (tV X C ρ fun H v => ArOk X.K C H v ar)) (t : PGs' X C ρ rest as) (hs : starEach (e :: rest) X.env = (false, eval e X.env) :: starEach rest X.env := by rfl) : PGs' X C ρ (e :: rest) (ar :: as) := (pa_cons h t hs).weak fun σ H Q ⟨H₀, M, F, q⟩ =>
  ⟨H₀, M, F, fun v H1 s1 r1 => ⟨H₀, M, F.same s1, fun vs H2 s2 r2 => q (v :: vs) H2 (s1.trans s2) ⟨r1.same s2, r2⟩⟩⟩
theorem ga_d (h : PD X C ρ e d) (t : PGs' X C ρ rest as) (hs : starEach (e :: rest) X.env = (false, eval e X.env) :: starEach rest X.env := by rfl) : PGs' X C ρ (e :: rest) (.dat d :: as) := ga_cons (ar := .dat d) h t hs
theorem ga_r (h : PR X C ρ e r) (t : PGs' X C ρ rest as) (hs : starEach (e :: rest) X.env = (false, eval e X.env) :: starEach rest X.env := by rfl) : PGs' X C ρ (e :: rest) (.rcv r :: as) := ga_cons (ar := .rcv r) h t hs
theorem ga_l (h : PL X C ρ e ds) (t : PGs' X C ρ rest as) (hs : starEach (e :: rest) X.env = (false, eval e X.env) :: starEach rest X.env := by rfl) : PGs' X C ρ (e :: rest) (.lst ds :: as) := ga_cons (ar := .lst ds) h t hs

/-! ### calls of built-ins -/
variable {id T : String} {es' : List Expr} {rB : List V → Hp → VK → Prop}
theorem pv_callB (hc : CallR X (.builtin id) rB) (hm : X.mg x = none) (hv : bootBuiltins x = some (.builtin id)) (ha : PGs' X C ρ (e :: es') as) (k : ∀ vs H Q, ArsOk X.K C H vs as → (∀ v H', Same H H' → R H' v → Q v H') → rB vs H Q)
    (hg : Gl X x := by rfl) (hn : x ≠ "__name__" := by decide) (hdb : (x == ("__debug__" : Str)) = false := by decide)
    (he : starEach (e :: es') X.env = (false, eval e X.env) :: starEach es' X.env := by rfl) (hpl : (backTo pos (starEach es' X.env)).any (·.1) = false := by rfl) : PE X (.Call (.Name x p) (e :: es') [] pos) (tV X C ρ R) :=
  (pe_callB hc hg hm hv ha hn hdb he hpl).weak fun σ H Q ⟨H₀, M, F, q⟩ => ⟨H₀, M, F, fun vs H1 s1 r1 => k vs H1 Q r1 fun v H2 s2 r2 => q v H2 (s1.trans s2) r2⟩
theorem pn_callB (hc : CallR X (.builtin id) rB) (hm : X.mg x = none) (hv : bootBuiltins x = some (.builtin id)) (ha : PGs' X C ρ (e :: es') as) (k : ∀ vs H Q, ArsOk X.K C H vs as → (∀ a vs H', Same H H' → H a = none → H' a = some (.lst vs) → RpA X.K H' vs ds → Q (.ref a) H') → rB vs H Q)
    (hg : Gl X x := by rfl) (hn : x ≠ "__name__" := by decide) (hdb : (x == ("__debug__" : Str)) = false := by decide)
    (he : starEach (e :: es') X.env = (false, eval e X.env) :: starEach es' X.env := by rfl) (hpl : (backTo pos (starEach es' X.env)).any (·.1) = false := by rfl) : PN X C ρ (.Call (.Name x p) (e :: es') [] pos) ds :=
  (pe_callB hc hg hm hv ha hn hdb he hpl).weak fun σ H Q ⟨H₀, M, F, q⟩ => ⟨H₀, M, F, fun vs H1 s1 r1 => k vs H1 Q r1 fun a vs H2 s2 n2 h2 r2 => q a vs H2 (s1.trans s2) (s1.free n2) h2 r2⟩
theorem pv_callTy (hc : CallR X (.type T) rB) (hm : X.mg x = none) (hv : bootBuiltins x = some (.type T)) (ha : PGs' X C ρ (e :: es') as) (k : ∀ vs H Q, ArsOk X.K C H vs as → (∀ v H', Same H H' → R H' v → Q v H') → rB vs H Q)
    (hg : Gl X x := by rfl) (hn : x ≠ "__name__" := by decide) (hdb : (x == ("__debug__" : Str)) = false := by decide)
    (he : starEach (e :: es') X.env = (false, eval e X.env) :: starEach es' X.env := by rfl) (hpl : (backTo pos (starEach es' X.env)).any (·.1) = false := by rfl) : PE X (.Call (.Name x p) (e :: es') [] pos) (tV X C ρ R) :=
  (pe_callTy hc hg hm hv ha hn hdb he hpl).weak fun σ H Q ⟨H₀, M, F, q⟩ => ⟨H₀, M, F, fun vs H1 s1 r1 => k vs H1 Q r1 fun v H2 s2 r2 => q v H2 (s1.trans s2) r2⟩
/-- one argument -/
theorem args1 {H : Hp} {vs : List V} (h : ArsOk X.K C H vs [ar]) : ∃ v, vs = [v] ∧ ArOk X.K C H v ar := by
  cases vs with
  | nil => exact h.elim
  | cons v t => cases t with
    | nil => exact ⟨v, rfl, h.1⟩
    | cons u t => exact h.2.elim
theorem args2 {H : Hp} {vs : List V} {ar' : Ar} (h : ArsOk X.K C H vs [ar, ar']) : ∃ v u, vs = [v, u] ∧ ArOk X.K C H v ar ∧ ArOk X.K C H u ar' := by
  cases vs with
  | nil => exact h.elim
  | cons v t =>
    obtain ⟨u, e, h2⟩ := args1 (X := X) h.2
    exact ⟨v, u, by rw [e], h.1, h2⟩
theorem pd_len (hm : X.mg "len" = none) (he : PE X e (tV X C ρ (RS X ds))) (hg : Gl X "len" := by rfl) (hs : starEach [e] X.env = (false, eval e X.env) :: starEach [] X.env := by rfl) : PD X C ρ (.Call (.Name "len" p) [e] [] pos) (.int ds.length) :=
  (pe_callB call_len_seq hg hm boot_len (pa_cons he pa_nil hs) (by decide) (by decide) hs rfl).weak fun σ H Q ⟨H₀, M, F, q⟩ => ⟨H₀, M, F, fun v H1 s1 ⟨p, vs, e, hx, r1⟩ => ⟨p, vs, by rw [e], hx, by rw [r1.length]; exact q _ H1 s1 Rp.int⟩⟩
theorem pd_min2 (hcm : X.calm = true) (hm : X.mg "min" = none) (ha : PD X C ρ a (.int i)) (hb : PD X C ρ b (.int j)) (hg : Gl X "min" := by rfl) (hs : starEach [a, b] X.env = (false, eval a X.env) :: starEach [b] X.env := by rfl) (hs2 : starEach [b] X.env = (false, eval b X.env) :: starEach [] X.env := by rfl) (hpl : (backTo pos (starEach [b] X.env)).any (·.1) = false := by rfl) : PD X C ρ (.Call (.Name "min" p) [a, b] [] pos) (.int (if j < i then j else i)) :=
  pv_callB (call_min2 hcm) hm (by decide +kernel) (ga_d ha (ga_d hb ga_nil hs2) hs) (fun vs H Q h q => by
    obtain ⟨v, u, rfl, h1, h2⟩ := args2 h
    exact ⟨i, j, by rw [ar_int h1, ar_int h2], q _ H (Same.refl H) Rp.int⟩) hg (by decide) (by decide) hs hpl
theorem pd_max2 (hcm : X.calm = true) (hm : X.mg "max" = none) (ha : PD X C ρ a (.int i)) (hb : PD X C ρ b (.int j)) (hg : Gl X "max" := by rfl) (hs : starEach [a, b] X.env = (false, eval a X.env) :: starEach [b] X.env := by rfl) (hs2 : starEach [b] X.env = (false, eval b X.env) :: starEach [] X.env := by rfl) (hpl : (backTo pos (starEach [b] X.env)).any (·.1) = false := by rfl) : PD X C ρ (.Call (.Name "max" p) [a, b] [] pos) (.int (if j > i then j else i)) :=
  pv_callB (call_max2 hcm) hm (by decide +kernel) (ga_d ha (ga_d hb ga_nil hs2) hs) (fun vs H Q h q => by
    obtain ⟨v, u, rfl, h1, h2⟩ := args2 h
    exact ⟨i, j, by rw [ar_int h1, ar_int h2], q _ H (Same.refl H) Rp.int⟩) hg (by decide) (by decide) hs hpl
theorem pd_abs (hm : X.mg "abs" = none) (ha : PD X C ρ a (.int i)) (hg : Gl X "abs" := by rfl) (hs : starEach [a] X.env = (false, eval a X.env) :: starEach [] X.env := by rfl) : PD X C ρ (.Call (.Name "abs" p) [a] [] pos) (.int (if i < 0 then -i else i)) :=
  pv_callB call_abs hm (by decide +kernel) (ga_d ha ga_nil hs) (fun vs H Q h q => by
    obtain ⟨v, rfl, h1⟩ := args1 h
    exact ⟨i, by rw [ar_int h1], q _ H (Same.refl H) Rp.int⟩) hg (by decide) (by decide) hs rfl
theorem pd_toInt (hm : X.mg "int" = none) (ha : PD X C ρ a (.int i)) (hg : Gl X "int" := by rfl) (hs : starEach [a] X.env = (false, eval a X.env) :: starEach [] X.env := by rfl) : PD X C ρ (.Call (.Name "int" p) [a] [] pos) (.int i) :=
  pv_callTy call_int1 hm (by decide +kernel) (ga_d ha ga_nil hs) (fun vs H Q h q => by
    obtain ⟨v, rfl, h1⟩ := args1 h
    exact .inl ⟨i, by rw [ar_int h1], q _ H (Same.refl H) Rp.int⟩) hg (by decide) (by decide) hs rfl
theorem pd_toTup (hm : X.mg "tuple" = none) (ha : PL X C ρ a ds) (hg : Gl X "tuple" := by rfl) (hs : starEach [a] X.env = (false, eval a X.env) :: starEach [] X.env := by rfl) : PD X C ρ (.Call (.Name "tuple" p) [a] [] pos) (.tuple ds) :=
  pv_callTy call_tuple_of hm (by decide +kernel) (ga_l ha ga_nil hs) (fun vs H Q h q => by
    obtain ⟨v, rfl, p, us, rfl, h1, h2⟩ := args1 h
    exact ⟨p, us, rfl, .inl ⟨.inl h1, fun n hn => q _ _ (same_new hn) (Rp.tup (SqT.of upd_same) (RpA.mono (Same.tle (same_new hn)) _ h2))⟩⟩) hg (by decide) (by decide) hs rfl
theorem pd_all {bs : List Bool} (hcm : X.calm = true) (hm : X.mg "all" = none) (ha : PL X C ρ a (bs.map .bool)) (hg : Gl X "all" := by rfl) (hs : starEach [a] X.env = (false, eval a X.env) :: starEach [] X.env := by rfl) : PD X C ρ (.Call (.Name "all" p) [a] [] pos) (.bool (bs.all (· == true))) :=
  pv_callB (cr_all hcm) hm (by decide +kernel) (ga_l ha ga_nil hs) (fun vs H Q h q => by
    obtain ⟨v, rfl, p, us, rfl, h1, h2⟩ := args1 h
    have e := RpA.bools_iff.mp h2
    subst e
    have e2 : bs.all id = bs.all (· == true) := by congr 1; funext b; cases b <;> rfl
    exact ⟨p, bs, rfl, .inl h1, by rw [e2]; exact q _ H (Same.refl H) Rp.bool⟩) hg (by decide) (by decide) hs rfl
theorem pd_maxL {ns : List Int} {m : Int} (hcm : X.calm = true) (hm : X.mg "max" = none) (ha : PL X C ρ a (ns.map .int)) (h0 : m ∈ ns) (h1 : ∀ n ∈ ns, n ≤ m) (hg : Gl X "max" := by rfl) (hs : starEach [a] X.env = (false, eval a X.env) :: starEach [] X.env := by rfl) : PD X C ρ (.Call (.Name "max" p) [a] [] pos) (.int m) :=
  pv_callB (cr_max hcm) hm (by decide +kernel) (ga_l ha ga_nil hs) (fun vs H Q h q => by
    obtain ⟨v, rfl, p, us, rfl, g1, g2⟩ := args1 h
    have e := RpA.ints_iff.mp g2
    subst e
    refine ⟨p, ns, rfl, .inl g1, List.length_pos_of_mem h0, fun m' hm' hle => ?_⟩
    have : m' = m := Int.le_antisymm (h1 m' hm') (hle m h0)
    subst this
    exact q _ H (Same.refl H) Rp.int) hg (by decide) (by decide) hs rfl

/-! ### calls of the text's own defs -/
variable {k : Nat} {Pre : List Ar → Rt → Prop}
theorem tcall (F : FnOk X.prog X.w X.K X.mg X.base CX0 k f fd ps (spD X.K C Pre)) (hr : Room k X.A) (hg : Gl X x) (hm : X.mg x = some (.ref f)) (hk : PySem.W.keepIn X.K (.ref f) = true) (hb : Binds X.K fd ps [])
    (ha : PGs' X C ρ (e :: es') as) (hdb : (x == ("__debug__" : Str)) = false := by decide) (he : starEach (e :: es') X.env = (false, eval e X.env) :: starEach es' X.env := by rfl) (hpl : (backTo pos (starEach es' X.env)).any (·.1) = false := by rfl) {rt : Rt} (hp : Pre as rt) :
    PE X (.Call (.Name x p) (e :: es') [] pos) (fun σ H Q => ∃ H₀ M, Fr X.prog X.w X.K C H₀ M H ρ σ ∧ ∀ v H1 H', Same H H1 → Same H1 H' → RtOk X.K C H1 H' v rt → Q v H') :=
  (pe_call F hr hg hm hk hb .nil pass0 ha hdb he hpl).weak fun σ H Q ⟨H₀, M, F, q⟩ => ⟨H₀, M, F, fun vs H1 s1 r1 => by
    show spD X.K C Pre (vs ++ []) H1 Q E0
    rw [List.append_nil]
    exact ⟨as, rt, r1, hp, fun v H2 s2 r2 => q v H1 H2 s1 s2 r2⟩⟩
theorem pd_call (G : Df X.prog X.w X.K X.mg X.base C x k Pre) (hr : Room k X.A) (ha : PGs' X C ρ (e :: es') as) (hp : Pre as (.dat d)) (hg : Gl X x := by rfl) (hdb : (x == ("__debug__" : Str)) = false := by decide)
    (he : starEach (e :: es') X.env = (false, eval e X.env) :: starEach es' X.env := by rfl) (hpl : (backTo pos (starEach es' X.env)).any (·.1) = false := by rfl) : PD X C ρ (.Call (.Name x p) (e :: es') [] pos) d := by
  obtain ⟨f, fd, ps, hm, hk, hb, F⟩ := G
  exact (tcall F hr hg hm hk hb ha hdb he hpl hp).weak fun σ H Q ⟨H₀, M, F, q⟩ => ⟨H₀, M, F, fun v H1 H2 s1 s2 r2 => q v H2 (s1.trans s2) r2⟩
theorem pr_call (G : Df X.prog X.w X.K X.mg X.base C x k Pre) (hr : Room k X.A) (ha : PGs' X C ρ (e :: es') as) (hp : Pre as (.rcv r)) (hg : Gl X x := by rfl) (hdb : (x == ("__debug__" : Str)) = false := by decide)
    (he : starEach (e :: es') X.env = (false, eval e X.env) :: starEach es' X.env := by rfl) (hpl : (backTo pos (starEach es' X.env)).any (·.1) = false := by rfl) : PR X C ρ (.Call (.Name x p) (e :: es') [] pos) r := by
  obtain ⟨f, fd, ps, hm, hk, hb, F⟩ := G
  exact (tcall F hr hg hm hk hb ha hdb he hpl hp).weak fun σ H Q ⟨H₀, M, F, q⟩ => ⟨H₀, M, F, fun v H1 H2 s1 s2 r2 => q v H2 (s1.trans s2) r2⟩
theorem pn_call (G : Df X.prog X.w X.K X.mg X.base C x k Pre) (hr : Room k X.A) (ha : PGs' X C ρ (e :: es') as) (hp : Pre as (.lst ds)) (hg : Gl X x := by rfl) (hdb : (x == ("__debug__" : Str)) = false := by decide)
    (he : starEach (e :: es') X.env = (false, eval e X.env) :: starEach es' X.env := by rfl) (hpl : (backTo pos (starEach es' X.env)).any (·.1) = false := by rfl) : PN X C ρ (.Call (.Name x p) (e :: es') [] pos) ds := by
  obtain ⟨f, fd, ps, hm, hk, hb, F⟩ := G
  exact (tcall F hr hg hm hk hb ha hdb he hpl hp).weak fun σ H Q ⟨H₀, M, F, q⟩ => ⟨H₀, M, F, fun v H1 H2 s1 s2 r2 => by
    obtain ⟨a, vs, rfl, n2, h2, r3⟩ := r2
    exact q a vs H2 (s1.trans s2) (s1.free n2) h2 r3⟩
/-- o.m(e, ..) of a receiver -/
theorem pd_meth {o : Expr} {m : Str} {apos : Pos} {pl : Sem Bool} (G : Dm X.prog X.w X.K X.mg X.base C m k Pre) (hr : Room k X.A) (c : Cls X.K C) (ho : PR X C ρ o r) (ha : PGs' X C ρ (e :: es') as) (hp : Pre (.rcv r :: as) (.dat d))
    (hst : starEach (e :: es') X.env = (false, eval e X.env) :: starEach es' X.env := by rfl) (hpl : (backTo pos (starEach es' X.env)).any (·.1) = false := by rfl)
    (ht : eval (.Call (.Attribute o m apos) (e :: es') [] pos) X.env = (do
      let ov ← eval o X.env
      standAt apos.atName
      let (f, first) ← holding [ov] (getMethod ov m pl)
      callWith pos f first (backTo pos (starEach (e :: es') X.env)) (backToKw pos (keywordEach [] X.env))) := by rfl) : PD X C ρ (.Call (.Attribute o m apos) (e :: es') [] pos) d := by
  obtain ⟨f, fd, ps, hm, hk, hb, F⟩ := G
  exact (pe_meth ho c hm F hr hb .nil pass0 ha hst hpl ht).weak fun σ H Q ⟨H₀, M, Fr, q⟩ => ⟨H₀, M, Fr, fun v H1 s1 ⟨a, dx, b, c', e, h1, h2⟩ => ⟨a, dx, _, e, h1, hk _ _ _ _ _ _, H₀, M, Fr.same s1, fun vs H2 s2 r2 => by
    show spD X.K C Pre (v :: (vs ++ [])) H2 Q E0
    rw [List.append_nil]
    exact ⟨.rcv r :: as, .dat d, ⟨IsR.same s2 ⟨a, dx, b, c', e, h1, h2⟩, r2⟩, hp, fun v H3 s3 r3 => q v H3 ((s1.trans s2).trans s3) r3⟩⟩⟩
/-- o.f, an attribute of a receiver -/
theorem pv_fld {f : Str} (c : Cls X.K C) (n : NoAttr X.K C f) (ho : PR X C ρ e r) (hl : ∀ H b c, SqT X.K H b (r.sel.map V.str) → ∃ v, (rcF r.room (.ref b) c r.once r.ord r.tld).lookup f = some v ∧ R H v) (hb : attributeBase e f X.env (eval e X.env) = eval e X.env := by rfl) :
    PE X (.Attribute e f pos) (tV X C ρ R) := (pe_fld ho hb).weak fun σ H Q ⟨H₀, M, F, q⟩ => ⟨H₀, M, F, fun v H1 s1 ⟨a, dx, b, c', e, h1, h2⟩ => by
  obtain ⟨u, hu, ru⟩ := hl H1 b c' h2
  exact ⟨a, C, dx, _, u, e, h1, c, n, hu, q u H1 s1 ru⟩⟩
/-- o.f, a property of a receiver -/
theorem pv_prop {f fld : Str} (G : Dp' X.prog X.w X.K X.mg X.base C f fld k) (hr : Room (k + 1) X.A) (c : Cls X.K C) (ho : PR X C ρ e r) (hl : ∀ H b c, SqT X.K H b (r.sel.map V.str) → ∃ v, (rcF r.room (.ref b) c r.once r.ord r.tld).lookup fld = some v ∧ R H v) (hb : attributeBase e f X.env (eval e X.env) = eval e X.env := by rfl) :
    PE X (.Attribute e f pos) (tV X C ρ R) := by
  obtain ⟨pp, g, fd, ps, hp, hbs, F⟩ := G
  exact (pe_prop ho c hp F hr hbs .nil pass0 hb).weak fun σ H Q ⟨H₀, M, F, q⟩ => ⟨H₀, M, F, fun v H1 s1 ⟨a, dx, b, c', e, h1, h2⟩ => by
    obtain ⟨u, hu, ru⟩ := hl H1 b c' h2
    exact ⟨a, dx, _, e, h1, a, dx, _, u, rfl, h1, hu, q u H1 s1 ru⟩⟩
end
end FB
end

section
set_option Elab.async false
set_option linter.all false
set_option maxRecDepth 100000
set_option maxHeartbeats 4000000
/-! Statements over data. -/
namespace FB
open PySem L2

/-! ### binding of names -/
def setAll : St → List Nat → List V → St
  | σ, i :: is, v :: vs => setAll (σ.set i (some v)) is vs
  | σ, _, _ => σ
def bindR : Rho → List Nat → List PyData → Rho
  | ρ, i :: is, d :: ds => bindR (ρ.set i (some (.dat d))) is ds
  | ρ, _, _ => ρ
theorem bindR_length : ∀ (ρ : Rho) (is : List Nat) (ds : List PyData), (bindR ρ is ds).length = ρ.length
  | ρ, i :: is, d :: ds => by rw [bindR, bindR_length, List.length_set]
  | ρ, [], _ => rfl
  | ρ, _ :: _, [] => rfl
section
variable {P : Program} {w : World} {K : PySem.W.Frag} {C : Addr} {H₀ H₁ : Hp} {M : List Addr} {H H' : Hp} {ρ ρ' : Rho} {σ σ' : St} {v : V} {sl : Sl} {i : Nat} {a : Addr}
theorem Fr.bind : ∀ {is : List Nat} {vs : List V} {ds : List PyData} {ρ : Rho} {σ : St}, Fr P w K C H₀ M H ρ σ → RpA K H vs ds → (∀ i ∈ is, i < ρ.length) → Fr P w K C H₀ M H (bindR ρ is ds) (setAll σ is vs)
  | [], [], [], _, _, F, _, _ => F
  | [], _ :: _, _ :: _, _, _, F, _, _ => F
  | _ :: _, [], [], _, _, F, _, _ => F
  | _, [], _ :: _, _, _, _, r, _ => by simp only [RpA] at r
  | _, _ :: _, [], _, _, _, r, _ => by simp only [RpA] at r
  | i :: is, v :: vs, d :: ds, ρ, σ, F, r, h => by
    simp only [RpA] at r
    rw [bindR, setAll]
    exact (F.set (sl := .dat d) (h i List.mem_cons_self) r.1 rfl).bind r.2 fun j hj => by rw [List.length_set]; exact h j (List.mem_cons_of_mem _ hj)
/-- a target takes a datum -/
def GBd (K : PySem.W.Frag) (g : TG) (is : List Nat) (d : PyData) (ds : List PyData) : Prop := ∀ (v : V) (σ : St) (H : Hp) (Q : St → Hp → Prop), Rp K H v d → (∀ vs, RpA K H vs ds → Q (setAll σ is vs) H) → g v σ H Q
theorem gb_name {i : Nat} {d : PyData} : GBd K (gName i) [i] d [d] := fun v σ H Q r q => q [v] (by simp only [RpA]; exact ⟨r, trivial⟩)
def gNs : List Nat → TGs
  | [] => gNil
  | i :: is => gCons (gName i) (gNs is)
theorem gNs_ok : ∀ {is : List Nat} {vs : List V} {σ : St} {H : Hp} {Q : St → Hp → Prop}, vs.length = is.length → Q (setAll σ is vs) H → gNs is vs σ H Q
  | [], [], _, _, _, _, q => ⟨rfl, q⟩
  | i :: is, v :: vs, _, _, _, l, q => ⟨v, vs, rfl, gNs_ok (by simpa using l) q⟩
  | [], _ :: _, _, _, _, l, _ => by simp at l
  | _ :: _, [], _, _, _, l, _ => by simp at l
theorem gb_tup {is : List Nat} {ds : List PyData} {n : Nat} (hn : ds.length = n := by rfl) (hi : is.length = n := by rfl) : GBd K (gTup K n (gNs is)) is (.tuple ds) ds := fun v σ H Q r q => by
  obtain ⟨a, xs, rfl, hs, ra⟩ := Rp.tup_iff.mp r
  have hl := ra.length
  exact ⟨a, xs, rfl, hs, by omega, gNs_ok (by omega) (q xs ra)⟩

/-! ### the frame's own lists -/
def ownE : Option Sl × Option V → Option Addr
  | (some sl, some (.ref a)) => if sl.mut then some a else none
  | _ => none
def ownL (ρ : Rho) (σ : St) : List Addr := (ρ.zip σ).filterMap ownE
theorem mem_ownL : a ∈ ownL ρ σ ↔ ∃ (i : Nat) (sl : Sl), ρ[i]? = some (some sl) ∧ sl.mut = true ∧ σ[i]? = some (some (V.ref a)) := by
  unfold ownL
  rw [List.mem_filterMap]
  constructor
  · rintro ⟨⟨o, u⟩, hm, he⟩
    obtain ⟨i, hi⟩ := List.mem_iff_getElem?.mp hm
    rw [List.getElem?_zip_eq_some] at hi
    cases o with
    | none => simp [ownE] at he
    | some sl =>
      cases u with
      | none => simp [ownE] at he
      | some v =>
        cases v with
        | ref b =>
          simp only [ownE] at he
          split at he
          · rename_i hm'
            cases he
            exact ⟨i, sl, hi.1, hm', hi.2⟩
          · cases he
        | _ => simp [ownE] at he
  · rintro ⟨i, sl, h1, h2, h3⟩
    refine ⟨(some sl, some (.ref a)), List.mem_of_getElem? (i := i) (List.getElem?_zip_eq_some.mpr ⟨h1, h3⟩), ?_⟩
    simp [ownE, h2]
theorem Fr.own (F : Fr P w K C H₀ M H ρ σ) (h : a ∈ ownL ρ σ) : (H₀ a = none ∨ a ∈ M) ∧ ((∃ vs, H a = some (.lst vs)) ∨ ∃ xs, H a = some (dctO P w a xs)) := by
  obtain ⟨i, sl, h1, h2, h3⟩ := mem_ownL.mp h
  obtain ⟨v, e, ok⟩ := F.slot i sl h1
  rw [h3] at e
  cases e
  cases sl with
  | own ds =>
    obtain ⟨b, vs, e, n, h4, _⟩ := ok
    cases e
    exact ⟨n, .inl ⟨vs, h4⟩⟩
  | dct kvs =>
    obtain ⟨b, xs, e, n, _, h4, _⟩ := ok
    cases e
    exact ⟨n, .inr ⟨xs, h4⟩⟩
  | prs b =>
    obtain ⟨e, n, x, y, z, h4⟩ := ok
    cases e
    exact ⟨n, .inl ⟨_, h4⟩⟩
  | _ => simp [Sl.mut] at h2
/-- all but M stays -/
abbrev Keep (M : List Addr) (H H' : Hp) : Prop := ∀ b o, H b = some o → b ∉ M → H' b = some o
theorem Fr.keepT (F : Fr P w K C H₀ M H ρ σ) (k : Keep (ownL ρ σ) H H') : TLe K H H' := fun b xs h => by
  rcases h with (h | ⟨o, h⟩) | h
  · exact .inl (.inl (k b _ h fun z => by
      rcases (F.own z).2 with ⟨vs, q⟩ | ⟨vs, q⟩
      · rw [h] at q; cases q
      · rw [h] at q; unfold dctO at q; cases q))
  · exact .inl (.inr ⟨o, k b _ h fun z => by
      rcases (F.own z).2 with ⟨vs, q⟩ | ⟨vs, q⟩
      · rw [h] at q; cases q
      · rw [h] at q; unfold dctO at q; cases q⟩)
  · exact .inr h
theorem Fr.rebase (F : Fr P w K C H₀ M H ρ σ) : Fr P w K C H (ownL ρ σ) H ρ σ := by
  refine ⟨fun b o e _ => e, F.len, fun i sl e => ?_, F.apart⟩
  obtain ⟨v, e1, ok⟩ := F.slot i sl e
  refine ⟨v, e1, ?_⟩
  cases sl with
  | own ds =>
    obtain ⟨b, vs, rfl, n, h4, h5⟩ := ok
    exact ⟨b, vs, rfl, .inr (mem_ownL.mpr ⟨i, _, e, rfl, e1⟩), h4, h5⟩
  | dct kvs =>
    obtain ⟨b, xs, rfl, n, m, h4, h5⟩ := ok
    exact ⟨b, xs, rfl, .inr (mem_ownL.mpr ⟨i, _, e, rfl, e1⟩), m, h4, h5⟩
  | prs b =>
    obtain ⟨rfl, n, h4⟩ := ok
    exact ⟨rfl, .inr (mem_ownL.mpr ⟨i, _, e, rfl, e1⟩), h4⟩
  | _ => exact ok
theorem Fr.back (F : Fr P w K C H₀ M H₁ ρ σ) (h : H₁ a = none ∨ a ∈ ownL ρ σ) : H₀ a = none ∨ a ∈ M := by
  rcases h with h | h
  · cases q : H₀ a with
    | none => exact .inl rfl
    | some o =>
      by_cases z : a ∈ M
      · exact .inr z
      · have := F.base a o q z
        rw [h] at this; cases this
  · exact (F.own h).1
theorem Fr.baseLift (F : Fr P w K C H₀ M H₁ ρ σ) (k : Keep (ownL ρ σ) H₁ H') : Keep M H₀ H' := fun b o e z => k b o (F.base b o e z) fun q => by
  rcases (F.own q).1 with n | n
  · rw [e] at n; cases n
  · exact z n
theorem Fr.lift (F : Fr P w K C H₀ M H₁ ρ σ) (G : Fr P w K C H₁ (ownL ρ σ) H' ρ' σ') : Fr P w K C H₀ M H' ρ' σ' := by
  refine ⟨F.baseLift G.base, G.len, fun i sl e => ?_, G.apart⟩
  obtain ⟨v, e1, ok⟩ := G.slot i sl e
  refine ⟨v, e1, ?_⟩
  cases sl with
  | own ds =>
    obtain ⟨b, vs, rfl, n, h4, h5⟩ := ok
    exact ⟨b, vs, rfl, F.back n, h4, h5⟩
  | dct kvs =>
    obtain ⟨b, xs, rfl, n, m, h4, h5⟩ := ok
    exact ⟨b, xs, rfl, F.back n, m, h4, h5⟩
  | prs b =>
    obtain ⟨rfl, n, h4⟩ := ok
    exact ⟨rfl, F.back n, h4⟩
  | _ => exact ok
theorem Fr.newA (F : Fr P w K C H₀ M H ρ σ) (hn : H a = none) : H₀ a = none ∨ a ∈ M := by
  cases q : H₀ a with
  | none => exact .inl rfl
  | some o =>
    by_cases z : a ∈ M
    · exact .inr z
    · have := F.base a o q z
      rw [hn] at this; cases this
/-- an own list is written -/
theorem Fr.write {ds ds' : List PyData} {us : List V} (F : Fr P w K C H₀ M H ρ σ) (h : ρ[i]? = some (some (.own ds))) (hs : σ[i]? = some (some (.ref a))) (r : RpA K H us ds') : Fr P w K C H₀ M (upd H a (.lst us)) (ρ.set i (some (.own ds'))) σ := by
  obtain ⟨v, e, b, vs, e2, n, hb, _⟩ := F.slot i _ h
  rw [hs] at e
  cases e
  cases e2
  have le : TLe K H (upd H a (.lst us)) := upd_tle (fun xs q => by rw [hb] at q; cases q) fun o u q => by rw [hb] at q; cases q
  have hi : i < ρ.length := (List.getElem?_eq_some_iff.mp h).1
  refine ⟨fun c o e z => ?_, by rw [List.length_set]; exact F.len, fun j s e => ?_, fun j k s t u hjk e1 e2 e3 e4 e5 e6 => ?_⟩
  · have : c ≠ a := fun q => by
      subst q
      rcases n with n | n
      · rw [e] at n; cases n
      · exact z n
    rw [upd_ne this]
    exact F.base c o e z
  · by_cases hj : j = i
    · subst hj
      rw [List.getElem?_set_self hi] at e
      cases e
      exact ⟨_, hs, a, us, rfl, n, upd_same, RpA.mono le _ r⟩
    · rw [List.getElem?_set_ne (Ne.symm hj)] at e
      obtain ⟨u, e1, ok⟩ := F.slot j s e
      refine ⟨u, e1, ?_⟩
      have ne : s.lst = true → u ≠ .ref a := fun hl q => F.apart i j _ s u (Ne.symm hj) h e rfl hl (by rw [q]; exact hs) e1
      cases s with
      | dat d => exact Rp.mono le d ok
      | rcv r =>
        obtain ⟨c, dx, x, y, e2, h1, h2⟩ := ok
        refine ⟨c, dx, x, y, e2, ?_, le _ _ h2⟩
        rw [upd_ne (ne_of h1 hb (by intro z; cases z))]
        exact h1
      | rl ds =>
        obtain ⟨c, vs, rfl, h1, h2⟩ := ok
        have : c ≠ a := fun q => ne rfl (by rw [q])
        exact ⟨c, vs, rfl, by unfold Rd; rw [upd_ne this]; exact h1, RpA.mono le _ h2⟩
      | own ds =>
        obtain ⟨c, vs, rfl, n', h1, h2⟩ := ok
        have : c ≠ a := fun q => ne rfl (by rw [q])
        exact ⟨c, vs, rfl, n', by rw [upd_ne this]; exact h1, RpA.mono le _ h2⟩
      | dct kvs =>
        obtain ⟨c, xs, rfl, n', m, h1, h2⟩ := ok
        have : c ≠ a := fun q => ne rfl (by rw [q])
        exact ⟨c, xs, rfl, n', m, by rw [upd_ne this]; exact h1, EntOk.mono le h2⟩
      | dr P' w' kvs =>
        obtain ⟨c, xs, rfl, m, h1, h2⟩ := ok
        have : c ≠ a := fun q => ne rfl (by rw [q])
        exact ⟨c, xs, rfl, m, by rw [upd_ne this]; exact h1, EntOk.mono le h2⟩
      | prs c =>
        obtain ⟨rfl, n', x, y, z, h1⟩ := ok
        have : c ≠ a := fun q => ne rfl (by rw [q])
        exact ⟨rfl, n', x, y, z, by rw [upd_ne this]; exact h1⟩
      | kl ds =>
        obtain ⟨c, vs, e2, h1, h2⟩ := ok
        exact ⟨c, vs, e2, h1.keep fun o u q => by rw [upd_ne (ne_of q hb (by intro z; cases z))]; exact q, RpA.mono le _ h2⟩
  · by_cases hj : j = i
    · subst hj
      rw [List.getElem?_set_ne hjk] at e2
      exact F.apart j k _ t u hjk h e2 rfl e4 e5 e6
    · rw [List.getElem?_set_ne (Ne.symm hj)] at e1
      by_cases hk : k = i
      · subst hk
        exact F.apart j k s _ u hjk e1 h e3 rfl e5 e6
      · rw [List.getElem?_set_ne (Ne.symm hk)] at e2
        exact F.apart j k s t u hjk e1 e2 e3 e4 e5 e6
/-- an own list is only read from now on -/
theorem Fr.lock {ds : List PyData} (F : Fr P w K C H₀ M H ρ σ) (h : ρ[i]? = some (some (.own ds))) : Fr P w K C H₀ M H (ρ.set i (some (.rl ds))) σ := by
  obtain ⟨v, e, b, vs, e2, n, hb, rb⟩ := F.slot i _ h
  have hi : i < ρ.length := (List.getElem?_eq_some_iff.mp h).1
  refine ⟨F.base, by rw [List.length_set]; exact F.len, fun j s e' => ?_, fun j k s t u hjk e1 e2 e3 e4 e5 e6 => ?_⟩
  · by_cases hj : j = i
    · subst hj
      rw [List.getElem?_set_self hi] at e'
      cases e'
      exact ⟨v, e, b, vs, e2, Rd.of hb, rb⟩
    · rw [List.getElem?_set_ne (Ne.symm hj)] at e'
      exact F.slot j s e'
  · by_cases hj : j = i
    · subst hj
      rw [List.getElem?_set_self hi] at e1
      cases e1
      simp [Sl.mut] at e3
    · rw [List.getElem?_set_ne (Ne.symm hj)] at e1
      by_cases hk : k = i
      · subst hk
        exact F.apart j k s _ u hjk e1 h e3 rfl e5 e6
      · rw [List.getElem?_set_ne (Ne.symm hk)] at e2
        exact F.apart j k s t u hjk e1 e2 e3 e4 e5 e6
end

/-! ### what a statement does -/
inductive Fl where
  | nx (ρ : Rho)
  | bk (ρ : Rho)
  | ct (ρ : Rho)
  | rt (r : Rt)
def RtM (K : PySem.W.Frag) (C : Addr) (H₀ : Hp) (M : List Addr) (H' : Hp) (v : V) : Rt → Prop
  | .datP a d => Rp K H' v d ∧ three H' a
  | .dat d => Rp K H' v d
  | .rcv r => IsR K C H' v r
  | .lst ds => ∃ a vs, v = .ref a ∧ (H₀ a = none ∨ a ∈ M) ∧ H' a = some (.lst vs) ∧ RpA K H' vs ds
def tSt (X : Cx) (C : Addr) (ρ : Rho) (Post : Fl → Prop) : TS := fun D σ H => ∃ H₀ M, Fr X.prog X.w X.K C H₀ M H ρ σ ∧
  (∀ ρ' σ' H', Post (.nx ρ') → Fr X.prog X.w X.K C H₀ M H' ρ' σ' → D.nx σ' H') ∧
  (∀ ρ' σ' H', Post (.bk ρ') → Fr X.prog X.w X.K C H₀ M H' ρ' σ' → D.bk σ' H') ∧
  (∀ ρ' σ' H', Post (.ct ρ') → Fr X.prog X.w X.K C H₀ M H' ρ' σ' → D.ct σ' H') ∧
  (∀ r v H', Post (.rt r) → Keep M H₀ H' → RtM X.K C H₀ M H' v r → D.rt v H')
abbrev HS (X : Cx) (C : Addr) (ρ : Rho) (st : Stmt) (Post : Fl → Prop) : Prop := PS X st (tSt X C ρ Post)
abbrev HSs (X : Cx) (C : Addr) (ρ : Rho) (st : List Stmt) (Post : Fl → Prop) : Prop := PSs X st (tSt X C ρ Post)
def thenP (Q : Rho → Prop) (Post : Fl → Prop) : Fl → Prop
  | .nx ρ => Q ρ
  | f => Post f
theorem _root_.L2.PSs.any {X : Cx} {st : List Stmt} : PSs X st (fun D σ H => ∃ t, PSs X st t ∧ t D σ H) := ⟨fun pins s σ H D I ⟨t, h, q⟩ => h.run pins s σ H D I q⟩
theorem _root_.L2.PE.any {X : Cx} {e : Expr} : PE X e (fun σ H Q => ∃ t, PE X e t ∧ t σ H Q) := ⟨fun pins s σ H Q I ⟨t, h, q⟩ => h.run pins s σ H Q I q⟩
theorem _root_.L2.PT.any {X : Cx} {e : Expr} : PT X e (fun σ H Q => ∃ t, PT X e t ∧ t σ H Q) := ⟨fun pins s σ H Q I ⟨t, h, q⟩ => h.run pins s σ H Q I q⟩
section
variable {X : Cx} {C : Addr} {ρ ρ' : Rho} {e a b c : Expr} {d d' : PyData} {ds es : List PyData} {r : Rc} {pos p p1 p2 p3 : Pos} {x y : Str} {i j k : Nat} {n : Int} {R R1 R2' : Hp → V → Prop} {cb k1 k2 : Bool} {st : Stmt} {rest body els : List Stmt} {Post : Fl → Prop}
theorem hss_nil (h : Post (.nx ρ)) : HSs X C ρ [] Post := pss_nil.weak fun D σ H ⟨H₀, M, F, n, _⟩ => n ρ σ H h F
theorem hss_cons (h : HS X C ρ st (thenP (fun ρ' => HSs X C ρ' rest Post) Post)) : HSs X C ρ (st :: rest) Post := (pss_cons h PSs.any).weak fun D σ H ⟨H₀, M, F, n, b, c, r⟩ =>
  ⟨H₀, M, F, fun ρ' σ' H' hp F' => ⟨_, hp, H₀, M, F', n, b, c, r⟩, b, c, r⟩
theorem hs_of (h : PS X st (tSt X C ρ Post)) : HS X C ρ st Post := h
theorem hs_imp {Q : Fl → Prop} (h : HS X C ρ st Q) (k : ∀ f, Q f → Post f) : HS X C ρ st Post := h.weak fun D σ H ⟨H₀, M, F, n, b, c, r⟩ =>
  ⟨H₀, M, F, fun ρ' σ' H' hp => n ρ' σ' H' (k _ hp), fun ρ' σ' H' hp => b ρ' σ' H' (k _ hp), fun ρ' σ' H' hp => c ρ' σ' H' (k _ hp), fun r' v H' hp => r r' v H' (k _ hp)⟩
theorem hss_imp {Q : Fl → Prop} (h : HSs X C ρ rest Q) (k : ∀ f, Q f → Post f) : HSs X C ρ rest Post := h.weak fun D σ H ⟨H₀, M, F, n, b, c, r⟩ =>
  ⟨H₀, M, F, fun ρ' σ' H' hp => n ρ' σ' H' (k _ hp), fun ρ' σ' H' hp => b ρ' σ' H' (k _ hp), fun ρ' σ' H' hp => c ρ' σ' H' (k _ hp), fun r' v H' hp => r r' v H' (k _ hp)⟩
/-- fewer slots known -/
theorem hss_forget (h : HSs X C ρ' rest Post) (hl : ρ'.length = ρ.length) (hs : ∀ (i : Nat) s, ρ'[i]? = some (some s) → ρ[i]? = some (some s)) : HSs X C ρ rest Post := h.weak fun D σ H ⟨H₀, M, F, q⟩ => ⟨H₀, M, F.forget hl hs, q⟩
theorem hss_lock (i : Nat) (h : HSs X C (ρ.set i (some (.rl ds))) rest Post) (hi : ρ[i]? = some (some (.own ds)) := by rfl) : HSs X C ρ rest Post := h.weak fun D σ H ⟨H₀, M, F, q⟩ => ⟨H₀, M, F.lock hi, q⟩
theorem hs_never {t : TS} : PS X st (fun _ _ _ => False) := ⟨fun _ _ _ _ _ _ h => h.elim⟩
theorem hss_never' : PSs X rest (fun _ _ _ => False) := ⟨fun _ _ _ _ _ _ h => h.elim⟩
theorem hs_if (hc : PQ X C ρ c k1) (ha : k1 = true → HSs X C ρ body Post) (hb : k1 = false → HSs X C ρ els Post) : HS X C ρ (.If c body els pos) Post := by
  cases k1 with
  | true => exact (ps_if hc (ha rfl) hss_never').weak fun D σ H ⟨H₀, M, F, q⟩ => ⟨H₀, M, F, fun H1 s1 => iteT ⟨H₀, M, F.same s1, q⟩⟩
  | false => exact (ps_if hc hss_never' (hb rfl)).weak fun D σ H ⟨H₀, M, F, q⟩ => ⟨H₀, M, F, fun H1 s1 => iteF ⟨H₀, M, F.same s1, q⟩⟩
theorem hs_ret (h : PD X C ρ e d) (hp : Post (.rt (.dat d))) : HS X C ρ (.Return (some e) pos) Post := (ps_ret h).weak fun D σ H ⟨H₀, M, F, _, _, _, r⟩ => ⟨H₀, M, F, fun v H' s hv => r (.dat d) v H' hp (F.same s).base hv⟩
theorem hs_retR {rc : Rc} (h : PR X C ρ e rc) (hp : Post (.rt (.rcv rc))) : HS X C ρ (.Return (some e) pos) Post := (ps_ret h).weak fun D σ H ⟨H₀, M, F, _, _, _, r⟩ => ⟨H₀, M, F, fun v H' s hv => r (.rcv rc) v H' hp (F.same s).base hv⟩
theorem hs_retN (h : PN X C ρ e ds) (hp : Post (.rt (.lst ds))) : HS X C ρ (.Return (some e) pos) Post := (ps_ret h).weak fun D σ H ⟨H₀, M, F, _, _, _, r⟩ => ⟨H₀, M, F, fun a vs H' s hn h1 h2 => r (.lst ds) _ H' hp (F.same s).base ⟨a, vs, rfl, F.newA hn, h1, h2⟩⟩
/-- return of an own list -/
theorem hs_retL (i : Nat) {ds : List PyData} (hp : Post (.rt (.lst ds))) (h : ρ[i]? = some (some (.own ds)) := by rfl) (hN : X.N[i]? = some x := by rfl) (hv : Vis X.env.scope x := by first | exact Or.inl rfl | exact Or.inr (Or.inl rfl) | exact Or.inr (Or.inr rfl)) (hd : (x == ("__debug__" : Str)) = false := by decide)
    (hcd : (x == ("__classdict__" : Str)) = false := by decide) : HS X C ρ (.Return (some (.Name x p)) pos) Post := (ps_ret (pe_var hN hv hd hcd)).weak fun D σ H ⟨H₀, M, F, _, _, _, r⟩ => by
  obtain ⟨v, e, a, vs, rfl, n, h1, h2⟩ := F.slot i _ h
  exact ⟨_, e, r (.lst ds) _ H hp F.base ⟨a, vs, rfl, n, h1, h2⟩⟩
theorem hs_retNone (hp : Post (.rt (.dat .none))) : HS X C ρ (.Return none pos) Post := ps_retN.weak fun D σ H ⟨H₀, M, F, _, _, _, r⟩ => r (.dat .none) _ H hp F.base (Rp.non (K := X.K) (H := H))
theorem hs_pass (hp : Post (.nx ρ)) : HS X C ρ (.Pass pos) Post := ps_pass.weak fun D σ H ⟨H₀, M, F, n, _⟩ => n ρ σ H hp F
theorem hs_continue (hp : Post (.ct ρ)) : HS X C ρ (.Continue pos) Post := ps_continue.weak fun D σ H ⟨H₀, M, F, _, _, c, _⟩ => c ρ σ H hp F
/-- x = e -/
theorem hs_set (i : Nat) (nd : X.N.Nodup) (h : PD X C ρ e d) (hp : Post (.nx (ρ.set i (some (.dat d))))) (hlt : i < ρ.length := by exact Nat.le_of_ble_eq_true rfl) (hi : X.N[i]? = some x := by rfl) (hx : Loc X.env.scope x := by first | exact Or.inl rfl | exact Or.inr rfl) (hs : swapsWith e (some (.Name x p)) pos.line X.env = pure false := by rfl)
    (hf : X.fn x = true ∨ X.env.scope.names.lookup x = some .local := by first | exact .inl rfl | exact .inr rfl) : HS X C ρ (.Assign [.Name x p] e pos) Post := (ps_set nd hi hx h hs hf).weak fun D σ H ⟨H₀, M, F, n, _⟩ =>
  ⟨H₀, M, F, fun v H' s hv => n _ _ H' hp ((F.same s).set hlt hv rfl)⟩
theorem hs_setR (i : Nat) {rc : Rc} (nd : X.N.Nodup) (h : PR X C ρ e rc) (hp : Post (.nx (ρ.set i (some (.rcv rc))))) (hlt : i < ρ.length := by exact Nat.le_of_ble_eq_true rfl) (hi : X.N[i]? = some x := by rfl) (hx : Loc X.env.scope x := by first | exact Or.inl rfl | exact Or.inr rfl) (hs : swapsWith e (some (.Name x p)) pos.line X.env = pure false := by rfl)
    (hf : X.fn x = true ∨ X.env.scope.names.lookup x = some .local := by first | exact .inl rfl | exact .inr rfl) : HS X C ρ (.Assign [.Name x p] e pos) Post := (ps_set nd hi hx h hs hf).weak fun D σ H ⟨H₀, M, F, n, _⟩ =>
  ⟨H₀, M, F, fun v H' s hv => n _ _ H' hp ((F.same s).set hlt hv rfl)⟩
theorem Fr.newL {H₀ H H' : Hp} {M : List Addr} {σ : St} {a : Addr} {vs : List V} (F : Fr X.prog X.w X.K C H₀ M H ρ σ) (s : Same H H') (hn : H a = none) (h1 : H' a = some (.lst vs)) (h2 : RpA X.K H' vs ds) (hlt : i < ρ.length) : Fr X.prog X.w X.K C H₀ M H' (ρ.set i (some (.own ds))) (σ.set i (some (.ref a))) :=
  (F.same s).setL (sl := .own ds) hlt ⟨a, vs, rfl, F.newA hn, h1, h2⟩ fun j t hj e1 hl _ => F.fresh hn e1 hl
theorem hs_setN (i : Nat) (nd : X.N.Nodup) (h : PN X C ρ e ds) (hp : Post (.nx (ρ.set i (some (.own ds))))) (hlt : i < ρ.length := by exact Nat.le_of_ble_eq_true rfl) (hi : X.N[i]? = some x := by rfl) (hx : Loc X.env.scope x := by first | exact Or.inl rfl | exact Or.inr rfl) (hs : swapsWith e (some (.Name x p)) pos.line X.env = pure false := by rfl)
    (hf : X.fn x = true ∨ X.env.scope.names.lookup x = some .local := by first | exact .inl rfl | exact .inr rfl) : HS X C ρ (.Assign [.Name x p] e pos) Post := (ps_set nd hi hx h hs hf).weak fun D σ H ⟨H₀, M, F, n, _⟩ =>
  ⟨H₀, M, F, fun a vs H' s hn h1 h2 => n _ _ H' hp (F.newL s hn h1 h2 hlt)⟩
/-- x = y, y an own list that is given away -/
theorem hs_move (i j : Nat) (nd : X.N.Nodup) (h : ρ[j]? = some (some (.own ds))) (hij : i ≠ j) (hp : Post (.nx ((ρ.set j none).set i (some (.own ds))))) (hlt : i < ρ.length := by exact Nat.le_of_ble_eq_true rfl) (hi : X.N[i]? = some x := by rfl) (hx : Loc X.env.scope x := by first | exact Or.inl rfl | exact Or.inr rfl) (hj : X.N[j]? = some y := by rfl) (hv : Vis X.env.scope y := by first | exact Or.inl rfl | exact Or.inr (Or.inl rfl) | exact Or.inr (Or.inr rfl)) (hd : (y == ("__debug__" : Str)) = false := by decide)
    (hcd : (y == ("__classdict__" : Str)) = false := by decide) (hs : swapsWith (.Name y p1) (some (.Name x p)) pos.line X.env = pure false := by rfl)
    (hf : X.fn x = true ∨ X.env.scope.names.lookup x = some .local := by first | exact .inl rfl | exact .inr rfl) : HS X C ρ (.Assign [.Name x p] (.Name y p1) pos) Post := (ps_set nd hi hx (pe_var hj hv hd hcd) hs hf).weak fun D σ H ⟨H₀, M, F, n, _⟩ => by
  obtain ⟨v, e, a, vs, rfl, nn, h1, h2⟩ := F.slot j _ h
  refine ⟨_, e, n _ _ H hp ?_⟩
  have hjl : j < ρ.length := (List.getElem?_eq_some_iff.mp h).1
  have G : Fr X.prog X.w X.K C H₀ M H (ρ.set j none) σ := F.forget (by rw [List.length_set]) fun m s q => by
    by_cases hm : m = j
    · subst hm
      rw [List.getElem?_set_self hjl] at q
      cases q
    · rw [List.getElem?_set_ne (Ne.symm hm)] at q
      exact q
  refine G.setL (sl := .own ds) (by rw [List.length_set]; exact hlt) ⟨a, vs, rfl, nn, h1, h2⟩ fun m t hm q hl _ z => ?_
  by_cases hmj : m = j
  · subst hmj
    rw [List.getElem?_set_self hjl] at q
    cases q
  · rw [List.getElem?_set_ne (Ne.symm hmj)] at q
    exact F.apart j m _ t _ (Ne.symm hmj) h q rfl hl e z

/-! ### several at once -/
/-- what a new thing is -/
def NwOk (P : Program) (w : World) (K : PySem.W.Frag) (C : Addr) (H H' : Hp) (v : V) : Sl → Prop
  | .dat d => Rp K H' v d
  | .rcv r => IsR K C H' v r
  | .own ds => ∃ a vs, v = .ref a ∧ H a = none ∧ H' a = some (.lst vs) ∧ RpA K H' vs ds
  | .dct kvs => ∃ a xs, v = .ref a ∧ H a = none ∧ (a == sysModules) = false ∧ H' a = some (dctO P w a xs) ∧ EntOk K H' xs kvs
  | _ => False
theorem NwOk.same {P : Program} {w : World} {K : PySem.W.Frag} {C : Addr} {H H1 H2 : Hp} {v : V} {sl : Sl} (h : NwOk P w K C H H1 v sl) (s : Same H1 H2) : NwOk P w K C H H2 v sl := by
  cases sl with
  | dat d => exact Rp.mono (Same.tle s) d h
  | rcv r => exact IsR.same s h
  | own ds =>
    obtain ⟨a, vs, e, n, h1, h2⟩ := h
    exact ⟨a, vs, e, n, s _ _ h1, RpA.mono (Same.tle s) _ h2⟩
  | dct kvs =>
    obtain ⟨a, xs, e, n, m, h1, h2⟩ := h
    exact ⟨a, xs, e, n, m, s _ _ h1, EntOk.mono (Same.tle s) h2⟩
  | _ => exact h
theorem NwOk.old {P : Program} {w : World} {K : PySem.W.Frag} {C : Addr} {H H1 H2 : Hp} {v : V} {sl : Sl} (h : NwOk P w K C H1 H2 v sl) (s : Same H H1) : NwOk P w K C H H2 v sl := by
  cases sl with
  | own ds =>
    obtain ⟨a, vs, e, n, h1, h2⟩ := h
    exact ⟨a, vs, e, s.free n, h1, h2⟩
  | dct kvs =>
    obtain ⟨a, xs, e, n, m, h1, h2⟩ := h
    exact ⟨a, xs, e, s.free n, m, h1, h2⟩
  | _ => exact h
def tW (X : Cx) (C : Addr) (ρ : Rho) (sl : Sl) : TE := fun σ H Q => ∃ H₀ M, Fr X.prog X.w X.K C H₀ M H ρ σ ∧ ∀ v H', Same H H' → NwOk X.prog X.w X.K C H H' v sl → Q v H'
abbrev PWn (X : Cx) (C : Addr) (ρ : Rho) (e : Expr) (sl : Sl) : Prop := PE X e (tW X C ρ sl)
theorem nw_d (h : PD X C ρ e d) : PWn X C ρ e (.dat d) := h.weak fun σ H Q ⟨H₀, M, F, q⟩ => ⟨H₀, M, F, fun v H' s r => q v H' s r⟩
theorem nw_r {rc : Rc} (h : PR X C ρ e rc) : PWn X C ρ e (.rcv rc) := h.weak fun σ H Q ⟨H₀, M, F, q⟩ => ⟨H₀, M, F, fun v H' s r => q v H' s r⟩
theorem nw_n (h : PN X C ρ e ds) : PWn X C ρ e (.own ds) := h.weak fun σ H Q ⟨H₀, M, F, q⟩ => ⟨H₀, M, F, fun a vs H' s n h1 h2 => q _ H' s ⟨a, vs, rfl, n, h1, h2⟩⟩
theorem Fr.nw {H₀ H H' : Hp} {M : List Addr} {σ : St} {v : V} {sl : Sl} (F : Fr X.prog X.w X.K C H₀ M H ρ σ) (s : Same H H') (h : NwOk X.prog X.w X.K C H H' v sl) (hlt : i < ρ.length) : Fr X.prog X.w X.K C H₀ M H' (ρ.set i (some sl)) (σ.set i (some v)) := by
  cases sl with
  | dat d => exact (F.same s).set hlt h rfl
  | rcv r => exact (F.same s).set hlt h rfl
  | own ds =>
    obtain ⟨a, vs, rfl, n, h1, h2⟩ := h
    exact F.newL s n h1 h2 hlt
  | dct kvs =>
    obtain ⟨a, xs, rfl, n, m, h1, h2⟩ := h
    exact (F.same s).setL (sl := .dct kvs) hlt ⟨a, xs, rfl, F.newA n, m, h1, h2⟩ fun j t hj e1 hl _ => F.fresh n e1 hl
  | _ => exact h.elim
/-- a, b = e, f -/
theorem hs_par {px py pt : Pos} {kt k2 : Nat} {pt2 : Pos} (i j : Nat) {s1 s2 : Sl} (nd : X.N.Nodup) (hij : i ≠ j) (ha : PWn X C ρ a s1) (hb : PWn X C ρ b s2) (hp : Post (.nx ((ρ.set i (some s1)).set j (some s2)))) (hli : i < ρ.length := by exact Nat.le_of_ble_eq_true rfl) (hlj : j < ρ.length := by exact Nat.le_of_ble_eq_true rfl) (hc : X.calm = true := by rfl) (hi : X.N[i]? = some x := by rfl) (hj : X.N[j]? = some y := by rfl)
    (hx : X.env.scope.names.lookup x = some .local := by rfl) (hy : X.env.scope.names.lookup y = some .local := by rfl) (hsa : starEach [a, b] X.env = (false, eval a X.env) :: starEach [b] X.env := by rfl) (hsb : starEach [b] X.env = (false, eval b X.env) :: starEach [] X.env := by rfl)
    (hw : swappedStores [.Tuple [.Name x px, .Name y py] kt pt] (.Tuple [a, b] k2 pt2) X.env = pure (some [x, y]) := by rfl) (hs : swapsWithSole [.Tuple [.Name x px, .Name y py] kt pt] (.Tuple [a, b] k2 pt2) pos.line X.env = pure false := by rfl) :
    HS X C ρ (.Assign [.Tuple [.Name x px, .Name y py] kt pt] (.Tuple [a, b] k2 pt2) pos) Post := (ps_par hc nd hi hj hij hx hy (pa_cons ha (pa_cons hb pa_nil hsb) hsa) hw hs).weak fun D σ H ⟨H₀, M, F, n, _⟩ =>
  ⟨H₀, M, F, fun v H1 q1 r1 => ⟨H₀, M, F.same q1, fun u H2 q2 r2 => ⟨v, u, rfl, n _ _ H2 hp ((F.nw q1 r1 hli).nw q2 r2 (by rw [List.length_set]; exact hlj))⟩⟩⟩
/-- a, b, c = e, f, g -/
theorem hs_par3 {z : Str} {px py pz pt : Pos} {kt k2 : Nat} {pt2 : Pos} (i j l : Nat) {s1 s2 s3 : Sl} (nd : X.N.Nodup) (hij : i ≠ j) (hil : i ≠ l) (hjl : j ≠ l) (ha : PWn X C ρ a s1) (hb : PWn X C ρ b s2) (hcc : PWn X C ρ c s3) (hp : Post (.nx (((ρ.set i (some s1)).set j (some s2)).set l (some s3)))) (hli : i < ρ.length := by exact Nat.le_of_ble_eq_true rfl) (hlj : j < ρ.length := by exact Nat.le_of_ble_eq_true rfl) (hll : l < ρ.length := by exact Nat.le_of_ble_eq_true rfl) (hc : X.calm = true := by rfl) (hi : X.N[i]? = some x := by rfl) (hj : X.N[j]? = some y := by rfl) (hl : X.N[l]? = some z := by rfl)
    (hx : X.env.scope.names.lookup x = some .local := by rfl) (hy : X.env.scope.names.lookup y = some .local := by rfl) (hz : X.env.scope.names.lookup z = some .local := by rfl) (hsa : starEach [a, b, c] X.env = (false, eval a X.env) :: starEach [b, c] X.env := by rfl) (hsb : starEach [b, c] X.env = (false, eval b X.env) :: starEach [c] X.env := by rfl) (hsc : starEach [c] X.env = (false, eval c X.env) :: starEach [] X.env := by rfl)
    (hw : swappedStores [.Tuple [.Name x px, .Name y py, .Name z pz] kt pt] (.Tuple [a, b, c] k2 pt2) X.env = pure (some [x, y, z]) := by rfl) (hs : swapsWithSole [.Tuple [.Name x px, .Name y py, .Name z pz] kt pt] (.Tuple [a, b, c] k2 pt2) pos.line X.env = pure false := by rfl) :
    HS X C ρ (.Assign [.Tuple [.Name x px, .Name y py, .Name z pz] kt pt] (.Tuple [a, b, c] k2 pt2) pos) Post := (ps_par3 hc nd hi hj hl hij hil hjl hx hy hz (pa_cons ha (pa_cons hb (pa_cons hcc pa_nil hsc) hsb) hsa) hw hs).weak fun D σ H ⟨H₀, M, F, n, _⟩ =>
  ⟨H₀, M, F, fun v H1 q1 r1 => ⟨H₀, M, F.same q1, fun u H2 q2 r2 => ⟨H₀, M, (F.same q1).same q2, fun t H3 q3 r3 => ⟨v, u, t, rfl, n _ _ H3 hp (((F.nw q1 r1 hli).nw q2 r2 (by rw [List.length_set]; exact hlj)).nw q3 r3 (by rw [List.length_set, List.length_set]; exact hll))⟩⟩⟩⟩
/-- a, b = e: a datum that is a tuple of so many -/
theorem hs_unp {tg : Expr} {g : TG} {is : List Nat} (h : PD X C ρ e d) (hg : PG X tg g) (hb : GBd X.K g is d ds) (hlt : ∀ i ∈ is, i < ρ.length) (hp : Post (.nx (bindR ρ is ds))) (hs : swapsWithSole [tg] e pos.line X.env = pure false := by rfl) (hw : swappedStores [tg] e X.env = pure none := by rfl)
    (h1 : (assignEach [tg] X.env).map (·.2) = [assign tg X.env] := by rfl) : HS X C ρ (.Assign [tg] e pos) Post := (ps_asg h hg hs hw h1).weak fun D σ H ⟨H₀, M, F, n, _⟩ =>
  ⟨H₀, M, F, fun v H' s hv => hb v σ H' _ hv fun vs hvs => n _ _ H' hp ((F.same s).bind hvs hlt)⟩
/-- x += e, whole numbers -/
theorem hs_addI (i : Nat) {m : Int} (nd : X.N.Nodup) (h : ρ[i]? = some (some (.dat (.int m)))) (he : PD X C ρ e (.int n)) (hp : Post (.nx (ρ.set i (some (.dat (.int (m + n))))))) (hi : X.N[i]? = some x := by rfl) (hx : Loc X.env.scope x := by first | exact Or.inl rfl | exact Or.inr rfl)
    (hf : X.fn x = true ∨ X.env.scope.names.lookup x = some .local := by first | exact .inl rfl | exact .inr rfl) : HS X C ρ (.AugAssign (.Name x p) .Add e pos) Post := (ps_aug nd hi hx he ip_add hf).weak fun D σ H ⟨H₀, M, F, nn, _⟩ => by
  obtain ⟨v, e1, r1⟩ := F.dat h
  exact ⟨v, e1, H₀, M, F, fun u H' s hu => ⟨m, n, Rp.int_iff.mp r1, Rp.int_iff.mp hu, nn _ _ H' hp ((F.same s).set (sl := .dat (.int (m + n))) (List.getElem?_eq_some_iff.mp h).1 (Rp.int (K := X.K) (H := H')) rfl)⟩⟩
/-- x += e, lists -/
theorem hs_addL (i : Nat) (nd : X.N.Nodup) (h : ρ[i]? = some (some (.own ds))) (he : PN X C ρ e es) (hz : ds.length + es.length ≤ sizeLine) (hp : Post (.nx (ρ.set i (some (.own (ds ++ es)))))) (hi : X.N[i]? = some x := by rfl) (hx : Loc X.env.scope x := by first | exact Or.inl rfl | exact Or.inr rfl)
    (hf : X.fn x = true ∨ X.env.scope.names.lookup x = some .local := by first | exact .inl rfl | exact .inr rfl) : HS X C ρ (.AugAssign (.Name x p) .Add e pos) Post := (ps_aug nd hi hx he iop_ext hf).weak fun D σ H ⟨H₀, M, F, nn, _⟩ => by
  obtain ⟨v, e1, a, vs, rfl, n1, h1, h2⟩ := F.slot i _ h
  refine ⟨_, e1, H₀, M, F, fun b us H' s hn h3 h4 => ⟨a, b, vs, us, rfl, rfl, s _ _ h1, h3, by rw [h2.length, h4.length]; exact hz, ?_⟩⟩
  have hi' : i < σ.length := by rw [F.len]; exact (List.getElem?_eq_some_iff.mp h).1
  have e2 : σ.set i (some (.ref a)) = σ := by
    apply List.ext_getElem?
    intro m
    by_cases hm : i = m
    · subst hm
      rw [List.getElem?_set_self hi', e1]
    · rw [List.getElem?_set_ne hm]
  show D.nx (σ.set i (some (.ref a))) _
  rw [e2]
  exact nn _ _ _ hp ((F.same s).write h e1 ((RpA.mono (Same.tle s) _ h2).append h4))
/-- x.append(e); hb: pe_bm .. mt_append (pv i) (pa_cons he pa_nil) -/
theorem hs_app (i : Nat) (h : ρ[i]? = some (some (.own ds))) (hb : PE X e (tBM X.K "list" rAppend (tVar i) (tCons (tV X C ρ (RD X d)) tNil))) (hz : ds.length < sizeLine) (hp : Post (.nx (ρ.set i (some (.own (ds ++ [d])))))) 
    (hsw : swapsWith e none pos.line X.env = pure false := by rfl) : HS X C ρ (.Expr e pos) Post :=
  (ps_expr hb hsw).weak fun D σ H ⟨H₀, M, F, nn, _⟩ => by
  obtain ⟨v, e1, a, vs, rfl, n1, h1, h2⟩ := F.slot i _ h
  exact ⟨_, e1, .inl ⟨rfl, _, SqL.of h1⟩, H₀, M, F, fun u H' s hu => ⟨a, vs, u, rfl, rfl, s _ _ h1, by rw [h2.length]; exact hz, nn _ _ _ hp ((F.same s).write h e1 ((RpA.mono (Same.tle s) _ h2).snoc hu))⟩⟩
/-- x[b] = e -/
theorem hs_setI (i : Nat) {m : Nat} {ps : Pos} (h : ρ[i]? = some (some (.own ds))) (he : PD X C ρ e d) (hb : PD X C ρ b (.int n)) (hm : ixN ds.length n = some m) (hp : Post (.nx (ρ.set i (some (.own (ds.set m d)))))) (hN : X.N[i]? = some x := by rfl) (hv : Vis X.env.scope x := by first | exact Or.inl rfl | exact Or.inr (Or.inl rfl) | exact Or.inr (Or.inr rfl)) (hd : (x == ("__debug__" : Str)) = false := by decide) (hcd : (x == ("__classdict__" : Str)) = false := by decide)
    (ha : ∀ v, assign (.Subscript (.Name x p1) b ps) X.env v = (do
      let ov ← holding [v] (eval (.Name x p1) X.env)
      let iv ← holding [v, ov] (eval b X.env)
      standAt ps
      holding [v, ov, iv] (setItem ov iv v)
      release [v, ov, iv] []) := by intro _; rfl)
    (hs : swapsWithSole [.Subscript (.Name x p1) b ps] e pos.line X.env = pure false := by rfl) (hw : swappedStores [.Subscript (.Name x p1) b ps] e X.env = pure none := by rfl)
    (h1 : (assignEach [.Subscript (.Name x p1) b ps] X.env).map (·.2) = [assign (.Subscript (.Name x p1) b ps) X.env] := by rfl) : HS X C ρ (.Assign [.Subscript (.Name x p1) b ps] e pos) Post :=
  (ps_asg he (pg_sub (pe_var hN hv hd hcd) hb set_list ha) hs hw h1).weak fun D σ H ⟨H₀, M, F, nn, _⟩ =>
  ⟨H₀, M, F, fun u H1 s1 hu => by
    obtain ⟨v, e1, a, vs, rfl, n1, h2, h3⟩ := (F.same s1).slot i _ h
    refine ⟨_, e1, H₀, M, F.same s1, fun z H2 s2 hz => ⟨a, vs, n, m, rfl, Rp.int_iff.mp hz, s2 _ _ h2, by rw [h3.length]; exact hm, ?_⟩⟩
    exact nn _ _ _ hp (((F.same s1).same s2).write h e1 ((RpA.mono (Same.tle s2) _ h3).set m (Rp.mono (Same.tle s2) _ hu)))⟩
end
end FB
end

section
set_option Elab.async false
set_option linter.all false
set_option maxRecDepth 100000
set_option maxHeartbeats 4000000
/-! Loops, comprehensions, defs. -/
namespace FB
open PySem L2

/-! ### what is walked -/
structure Seq (K : PySem.W.Frag) (M : List Addr) (H : Hp) (J : It) (ds : List PyData) : Prop where
  go : ∀ H2 i, Keep M H H2 → TLe K H H2 → i < ds.length → J.go i H2
  yld : ∀ H2 i v H', i < ds.length → Keep M H H2 → TLe K H H2 → J.yld i H2 v H' → Same H2 H' ∧ ∃ d, ds[i]? = some d ∧ Rp K H' v d
  stop : ∀ H2, Keep M H H2 → TLe K H H2 → J.stop ds.length H2
section
variable {K : PySem.W.Frag} {M : List Addr} {H : Hp} {a : Addr} {vs : List V} {ds : List PyData}
theorem Keep.rd {H2 : Hp} {u : HO} (k : Keep M H H2) (h : Rd H a u) (ha : a ∉ M) : Rd H2 a u := h.elim (fun q => .inl (k _ _ q ha)) fun ⟨o, q⟩ => .inr ⟨o, k _ _ q ha⟩
theorem seq_list (h : Rd H a (.lst vs)) (ha : a ∉ M) (r : RpA K H vs ds) : Seq K M H (Itl K a) ds where
  go := fun H2 i k t hi => by
    have hi' : i < vs.length := by rw [r.length]; exact hi
    exact ⟨vs, vs[i], .inl (Keep.rd k h ha), List.getElem?_eq_getElem hi'⟩
  yld := fun H2 i v H' hi k t ⟨e, y⟩ => by
    subst e
    have hv := y vs (.inl (Keep.rd k h ha))
    obtain ⟨d, e, rd⟩ := r.get hv
    exact ⟨Same.refl _, d, e, Rp.mono t _ rd⟩
  stop := fun H2 k t => ⟨vs, .inl (Keep.rd k h ha), by rw [r.length]; exact Nat.le_refl _⟩
theorem seq_tup (h : SqT K H a vs) (r : RpA K H vs ds) : Seq K M H (Itt K a) ds where
  go := fun H2 i k t hi => by
    have hi' : i < vs.length := by rw [r.length]; exact hi
    exact ⟨vs, vs[i], t _ _ h, List.getElem?_eq_getElem hi'⟩
  yld := fun H2 i v H' hi k t ⟨e, y⟩ => by
    subst e
    have hv := y vs (t _ _ h)
    obtain ⟨d, e, rd⟩ := r.get hv
    exact ⟨Same.refl _, d, e, Rp.mono t _ rd⟩
  stop := fun H2 k t => ⟨vs, t _ _ h, by rw [r.length]; exact Nat.le_refl _⟩
/-- lo, lo + 1, .. -/
def rangeI (lo : Int) (n : Nat) : List Int := (List.range n).map fun (i : Nat) => lo + (i : Int)
theorem seq_range {lo : Int} {n : Nat} : Seq K M H (Itr lo n) ((rangeI lo n).map .int) where
  go := fun H2 i k t hi => by
    show i < n
    simpa [rangeI] using hi
  yld := fun H2 i v H' hi k t ⟨e, y⟩ => by
    subst e y
    have hi' : i < n := by simpa [rangeI] using hi
    refine ⟨Same.refl _, .int (lo + i), ?_, Rp.int⟩
    rw [List.getElem?_map, rangeI, List.getElem?_map, List.getElem?_range hi']
    rfl
  stop := fun H2 k t => by show n ≤ _; simp [rangeI]
end

/-- a walk of data -/
def tJ (X : Cx) (C : Addr) (ρ : Rho) (ds : List PyData) : TI := fun σ H R => ∃ H₀ M, Fr X.prog X.w X.K C H₀ M H ρ σ ∧ ∀ J H', Same H H' → (∀ M' : List Addr, (∀ b ∈ M', b ∈ ownL ρ σ) → Seq X.K M' H' J ds) → R J H'
abbrev PIs (X : Cx) (C : Addr) (ρ : Rho) (tg e : Expr) (ds : List PyData) : Prop := PI X tg e (tJ X C ρ ds)
def loopP (R : Rho → Prop) (Post : Fl → Prop) : Fl → Prop
  | .nx ρ => R ρ
  | .ct ρ => R ρ
  | .bk ρ => Post (.nx ρ)
  | .rt r => Post (.rt r)
section
variable {X : Cx} {C : Addr} {ρ ρ' : Rho} {e a b c tg iter elt : Expr} {d d' : PyData} {ds es : List PyData} {pos p p1 p2 p3 : Pos} {x y : Str} {i j k : Nat} {n m : Int} {st : Stmt} {rest body els : List Stmt} {Post : Fl → Prop} {g : TG} {is : List Nat} {β : Type} {xs : List β} {enc : β → PyData}
theorem pis_new (h : PN X C ρ e ds) : PIs X C ρ tg e ds := (pi_list h).weak fun σ H R ⟨H₀, M, F, q⟩ => ⟨H₀, M, F, fun l vs H' s hn h1 h2 => ⟨l, rfl, ⟨vs, SqL.of h1⟩, q _ H' s fun M' hM => seq_list (Rd.of h1) (fun z => by
  obtain ⟨i, sl, e1, e2, e3⟩ := mem_ownL.mp (hM l z)
  exact F.fresh hn e1 (by cases sl <;> first | rfl | simp [Sl.mut] at e2) e3) h2⟩⟩
theorem pis_var (i : Nat) (h : ρ[i]? = some (some (.rl ds))) (hN : X.N[i]? = some x := by rfl) (hv : Vis X.env.scope x := by first | exact Or.inl rfl | exact Or.inr (Or.inl rfl) | exact Or.inr (Or.inr rfl)) (hd : (x == ("__debug__" : Str)) = false := by decide)
    (hcd : (x == ("__classdict__" : Str)) = false := by decide) : PIs X C ρ tg (.Name x p) ds := (pi_list (pe_var hN hv hd hcd)).weak fun σ H R ⟨H₀, M, F, q⟩ => by
  obtain ⟨v, e, l, vs, rfl, h1, h2⟩ := F.slot i _ h
  exact ⟨_, e, l, rfl, ⟨vs, .inl h1⟩, q _ H (Same.refl H) fun M' hM => seq_list h1 (fun z => by
    obtain ⟨j, sl, e1, e2, e3⟩ := mem_ownL.mp (hM l z)
    by_cases hj : j = i
    · subst hj
      rw [h] at e1
      cases e1
      simp [Sl.mut] at e2
    · exact F.apart j i sl _ _ hj e1 h e2 rfl e3 e) h2⟩
theorem pis_tup (h : PD X C ρ e (.tuple ds)) : PIs X C ρ tg e ds := (pi_tup h).weak fun σ H R ⟨H₀, M, F, q⟩ => ⟨H₀, M, F, fun v H' s hv => by
  obtain ⟨l, vs, rfl, h1, h2⟩ := Rp.tup_iff.mp hv
  exact ⟨l, rfl, ⟨vs, h1⟩, q _ H' s fun M' hM => seq_tup h1 h2⟩⟩
theorem pis_range1 (hm : X.mg "range" = none) (h : PD X C ρ e (.int n)) (h1 : -(2 ^ 62) ≤ n) (h2 : n < 2 ^ 62) (hg : Gl X "range" := by rfl) (hs : starEach [e] X.env = (false, eval e X.env) :: starEach [] X.env := by rfl) (hs' : starEach [e] X.env = [(false, eval e X.env)] := by rfl) : PIs X C ρ tg (.Call (.Name "range" p) [e] [] pos) ((rangeI 0 n.toNat).map .int) := (pi_range1 hg hm (pa_cons h pa_nil hs) hs').weak fun σ H R ⟨H₀, M, F, q⟩ => ⟨H₀, M, F, fun v H' s hv =>
  ⟨n, by rw [Rp.int_iff.mp hv], h1, h2, q _ H' s fun M' hM => seq_range⟩⟩
theorem pis_range2 (hm : X.mg "range" = none) (h : PD X C ρ a (.int m)) (h' : PD X C ρ b (.int n)) (h1 : -(2 ^ 62) ≤ m ∧ m < 2 ^ 62 ∧ -(2 ^ 62) ≤ n ∧ n < 2 ^ 62) (hg : Gl X "range" := by rfl) (hsa : starEach [a, b] X.env = (false, eval a X.env) :: starEach [b] X.env := by rfl) (hsb : starEach [b] X.env = (false, eval b X.env) :: starEach [] X.env := by rfl)
    (hs : starEach [a, b] X.env = [(false, eval a X.env), (false, eval b X.env)] := by rfl) (hs2 : starEach [b] X.env = [(false, eval b X.env)] := by rfl) : PIs X C ρ tg (.Call (.Name "range" p) [a, b] [] pos) ((rangeI m (n - m).toNat).map .int) := (pi_range2 hg hm (pa_cons h (pa_cons h' pa_nil hsb) hsa) hs hs2).weak fun σ H R ⟨H₀, M, F, q⟩ => ⟨H₀, M, F, fun v H1 s1 hv => ⟨H₀, M, F.same s1, fun u H2 s2 hu =>
  ⟨m, n, by rw [Rp.int_iff.mp hv, Rp.int_iff.mp hu], h1, q _ H2 (s1.trans s2) fun M' hM => seq_range⟩⟩⟩

/-- for .. in .. -/
theorem hs_for (hi : PIs X C ρ tg iter (xs.map enc)) (hg : PG X tg g) (R : Nat → Rho → Prop) (h0 : R 0 ρ)
    (hs : ∀ i z ρ', xs[i]? = some z → R i ρ' → ∃ ds', GBd X.K g is (enc z) ds' ∧ (∀ j ∈ is, j < ρ'.length) ∧ HSs X C (bindR ρ' is ds') body (loopP (R (i + 1)) Post)) (hd : ∀ ρ', R xs.length ρ' → Post (.nx ρ'))
    (hc : X.calm = true := by rfl) (hp : PassesOwn (model X.prog X.w) X.A X.env X.xe := by exact PassesOwn.never) (hf : ∀ x, foldedSetIterable iter X.env x = pure x := by intro _; rfl) : HS X C ρ (.For tg iter body [] pos) Post :=
  (ps_for hp hc hi hg PSs.any hf).weak fun D σ H ⟨H₀, M, F, nx, _, _, rt⟩ => by
  refine ⟨H₀, M, F, fun J H1 s1 sq => ?_⟩
  have F1 := F.same s1
  have sq := sq (ownL ρ σ) fun _ h => h
  refine ⟨fun i m σ' H' => m = xs.length - i ∧ i ≤ xs.length ∧ ∃ ρ', R i ρ' ∧ Fr X.prog X.w X.K C H1 (ownL ρ σ) H' ρ' σ', ⟨_, rfl, Nat.zero_le _, ρ, h0, F1.rebase⟩, ?_⟩
  rintro i m σ' H' ⟨rfl, hi', ρ', r, G⟩
  have t : TLe X.K H1 H' := F1.keepT G.base
  by_cases hlt : i < xs.length
  · have hlt' : i < (xs.map enc).length := by rw [List.length_map]; exact hlt
    refine .inr ⟨sq.go H' i G.base t hlt', fun σ2 H2 => ∃ ρ2, R (i + 1) ρ2 ∧ Fr X.prog X.w X.K C H1 (ownL ρ σ) H2 ρ2 σ2, fun σ2 H2 ⟨ρ2, r2, G2⟩ => ⟨xs.length - (i + 1), by omega, rfl, hlt, ρ2, r2, G2⟩, fun v H2 y => ?_⟩
    obtain ⟨s2, d, e1, rd⟩ := sq.yld H' i v H2 hlt' G.base t y
    rw [List.getElem?_map] at e1
    obtain ⟨z, ez, rfl⟩ := Option.map_eq_some_iff.mp e1
    obtain ⟨ds', gb, hlt2, hb⟩ := hs i z ρ' ez r
    refine gb v σ' H2 _ rd fun vs hvs => ⟨_, hb, H1, ownL ρ σ, (G.same s2).bind hvs hlt2, fun ρ2 σ2 H3 hp' G2 => ⟨ρ2, hp', G2⟩, fun ρ2 σ2 H3 hp' G2 => nx ρ2 σ2 H3 hp' (F1.lift G2), fun ρ2 σ2 H3 hp' G2 => ⟨ρ2, hp', G2⟩, fun r' u H3 hp' k hr => rt r' u H3 hp' (F1.baseLift k) ?_⟩
    cases r' with
    | datP a d => exact hr
    | dat d => exact hr
    | rcv rc => exact hr
    | lst ds =>
      obtain ⟨l, us, e, n', h1, h2⟩ := hr
      exact ⟨l, us, e, F1.back n', h1, h2⟩
  · have e : i = xs.length := by omega
    subst e
    refine .inl ⟨?_, nx ρ' σ' H' (hd ρ' r) (F1.lift G)⟩
    have := sq.stop H' G.base t
    rwa [List.length_map] at this
/-- while -/
theorem hs_while (R : Nat → Rho → Prop) (h0 : ∃ m, R m ρ) (hs : ∀ m ρ', R m ρ' → ∃ k, PQ X C ρ' c k ∧ (k = true → HSs X C ρ' body (loopP (fun ρ2 => ∃ m', m' < m ∧ R m' ρ2) Post)) ∧ (k = false → Post (.nx ρ')))
    (hp : PassesOwn (model X.prog X.w) X.A X.env X.xe := by exact PassesOwn.never) : HS X C ρ (.While c body [] pos) Post :=
  (ps_while hp PT.any PSs.any).weak fun D σ H ⟨H₀, M, F, nx, _, _, rt⟩ => by
  obtain ⟨m0, r0⟩ := h0
  refine ⟨fun m σ' H' => ∃ ρ', R m ρ' ∧ Fr X.prog X.w X.K C H₀ M H' ρ' σ', ⟨m0, ρ, r0, F⟩, ?_⟩
  rintro m σ' H' ⟨ρ', r, G⟩
  obtain ⟨k, hq, ht, hf⟩ := hs m ρ' r
  refine ⟨_, hq, H₀, M, G, fun H1 s1 => ?_⟩
  cases k with
  | true => exact iteT ⟨fun σ2 H2 => ∃ m', m' < m ∧ ∃ ρ2, R m' ρ2 ∧ Fr X.prog X.w X.K C H₀ M H2 ρ2 σ2, fun σ2 H2 ⟨m', hm, q⟩ => ⟨m', hm, q⟩, _, ht rfl, H₀, M, G.same s1, fun ρ2 σ2 H3 ⟨m', hm, r2⟩ G2 => ⟨m', hm, ρ2, r2, G2⟩, fun ρ2 σ2 H3 hp' G2 => nx ρ2 σ2 H3 hp' G2, fun ρ2 σ2 H3 ⟨m', hm, r2⟩ G2 => ⟨m', hm, ρ2, r2, G2⟩, rt⟩
  | false => exact iteF (nx ρ' σ' H1 (hf rfl) (G.same s1))

/-! ### comprehensions -/
def wipeR (ρ : Rho) : List Nat → Rho
  | [] => ρ
  | v :: vs => (wipeR ρ vs).set v none
theorem wipeR_length : ∀ {vs : List Nat}, (wipeR ρ vs).length = ρ.length
  | [] => rfl
  | v :: vs => by unfold wipeR; rw [List.length_set, wipeR_length]
theorem wipeR_some {i : Nat} {s : Sl} : ∀ {vs : List Nat}, (wipeR ρ vs)[i]? = some (some s) → ρ[i]? = some (some s) ∧ i ∉ vs
  | [], h => ⟨h, by simp⟩
  | v :: vs, h => by
    unfold wipeR at h
    by_cases hi : v = i
    · subst hi
      by_cases hv : v < (wipeR ρ vs).length
      · rw [List.getElem?_set_self hv] at h; cases h
      · rw [List.getElem?_eq_none (by simpa using hv)] at h; cases h
    · rw [List.getElem?_set_ne hi] at h
      obtain ⟨h1, h2⟩ := wipeR_some h
      exact ⟨h1, by simp only [List.mem_cons, not_or]; exact ⟨fun e => hi e.symm, h2⟩⟩
theorem wipe_keep {σ : St} {i : Nat} : ∀ {vs : List Nat}, i ∉ vs → (wipe σ vs)[i]? = σ[i]?
  | [], _ => rfl
  | v :: vs, h => by
    unfold wipe
    simp only [List.mem_cons, not_or] at h
    rw [List.getElem?_set_ne (Ne.symm h.1), wipe_keep h.2]
theorem Fr.wipe {P : Program} {w : World} {K : PySem.W.Frag} {H₀ H : Hp} {M : List Addr} {σ : St} (F : Fr P w K C H₀ M H ρ σ) (vs : List Nat) : Fr P w K C H₀ M H (wipeR ρ vs) (L2.wipe σ vs) := by
  refine ⟨F.base, by rw [wipe_length, wipeR_length]; exact F.len, fun i s e => ?_, fun i j s t v hij e1 e2 e3 e4 e5 e6 => ?_⟩
  · obtain ⟨h1, h2⟩ := wipeR_some e
    rw [wipe_keep h2]
    exact F.slot i s h1
  · obtain ⟨h1, h2⟩ := wipeR_some e1
    obtain ⟨h3, h4⟩ := wipeR_some e2
    rw [wipe_keep h2] at e5
    rw [wipe_keep h4] at e6
    exact F.apart i j s t v hij h1 h3 e3 e4 e5 e6
theorem wipe_set {σ : St} {v : Option V} {i : Nat} : ∀ {vs : List Nat}, i ∈ vs → L2.wipe (σ.set i v) vs = L2.wipe σ vs
  | [], h => by simp at h
  | w :: vs, h => by
    unfold L2.wipe
    by_cases hm : i ∈ vs
    · rw [wipe_set hm]
    · have e : i = w := by
        rcases List.mem_cons.mp h with e | e
        · exact e
        · exact absurd e hm
      subst e
      apply List.ext_getElem?
      intro j
      by_cases hj : i = j
      · subst hj
        by_cases hl : i < σ.length
        · rw [List.getElem?_set_self (by rw [wipe_length, List.length_set]; exact hl), List.getElem?_set_self (by rw [wipe_length]; exact hl)]
        · rw [List.getElem?_eq_none (by rw [List.length_set, wipe_length, List.length_set]; omega), List.getElem?_eq_none (by rw [List.length_set, wipe_length]; omega)]
      · rw [List.getElem?_set_ne hj, List.getElem?_set_ne hj]
        by_cases hjm : j ∈ vs
        · have key : ∀ (σ : St), (L2.wipe σ vs)[j]? = if j < σ.length then some none else none := by
            intro σ
            have : ∀ (us : List Nat), j ∈ us → (L2.wipe σ us)[j]? = if j < σ.length then some none else none := by
              intro us
              induction us with
              | nil => intro h; simp at h
              | cons u us ih =>
                intro h
                unfold L2.wipe
                by_cases hu : u = j
                · subst hu
                  by_cases hl : u < σ.length
                  · rw [List.getElem?_set_self (by rw [wipe_length]; exact hl), if_pos hl]
                  · rw [List.getElem?_eq_none (by rw [List.length_set, wipe_length]; omega), if_neg hl]
                · rw [List.getElem?_set_ne hu]
                  refine ih ?_
                  rcases List.mem_cons.mp h with e | e
                  · exact absurd e.symm hu
                  · exact e
            exact this vs hjm
          rw [key, key, List.length_set]
        · rw [wipe_keep hjm, wipe_keep hjm, List.getElem?_set_ne hj]
theorem wipe_setAll {us : List Nat} : ∀ {is : List Nat} {vs : List V} {σ : St}, (∀ i ∈ is, i ∈ us) → L2.wipe (setAll σ is vs) us = L2.wipe σ us
  | [], _, _, _ => by unfold setAll; rfl
  | _ :: _, [], _, _ => by unfold setAll; rfl
  | i :: is, v :: vs, σ, h => by
    rw [setAll, wipe_setAll fun j hj => h j (List.mem_cons_of_mem _ hj), wipe_set (h i List.mem_cons_self)]
theorem wipe_wipe {us : List Nat} {σ : St} : L2.wipe (L2.wipe σ us) us = L2.wipe σ us := by
  have : ∀ vs : List Nat, (∀ v ∈ vs, v ∈ us) → L2.wipe (L2.wipe σ vs) us = L2.wipe σ us := by
    intro vs
    induction vs with
    | nil => intro _; rfl
    | cons v vs ih =>
      intro h
      rw [show L2.wipe σ (v :: vs) = (L2.wipe σ vs).set v none from rfl, wipe_set (h v List.mem_cons_self)]
      exact ih fun w hw => h w (List.mem_cons_of_mem _ hw)
  exact this us fun _ h => h
variable {ifs : List Expr} {scope : Scope} {own : List (Str × Nat)} {f : β → PyData} {q : β → Bool}
/-- what an element is -/
structure LcEl (X : Cx) (C : Addr) (ρ : Rho) (scope : Scope) (own : List (Str × Nat)) (g : TG) (is : List Nat) (d : PyData) (ifs : List Expr) (elt : Expr) (k : Bool) (r : PyData) : Prop where
  ok : ∃ ds', GBd X.K g is d ds' ∧ (∀ (s : Shared) (H : Hp) (D : Addr) (cl : List (Str × Addr)) (fp : List Addr), PTs (X.blk s H scope (compEnvC scope cl D X.env) fp) ifs (tQ X C (bindR (wipeR ρ (own.map (·.2))) is ds') k)) ∧
    (k = true → ∀ (s : Shared) (H : Hp) (D : Addr) (cl : List (Str × Addr)) (fp : List Addr), PE (X.blk s H scope (compEnvC scope cl D X.env) fp) elt (tV X C (bindR (wipeR ρ (own.map (·.2))) is ds') (RD X r)))
theorem pts_yes (X : Cx) (C : Addr) (ρ : Rho) {Y : Cx} : PTs Y [] (tQ X C ρ true) := ⟨fun pins s σ H Q I ⟨H₀, M, F, q⟩ => pts_nil.run pins s σ H Q I (q H (Same.refl H))⟩
theorem tlc_of (hi : xs.length ≤ sizeLine) (hsub : ∀ j ∈ is, j ∈ own.map (·.2) ∧ j < ρ.length) (h : ∀ z ∈ xs, LcEl X C ρ scope own g is (enc z) ifs elt (q z) (f z)) :
    ∀ σ H Q, tN X C ρ ((xs.filter q).map f) σ H Q → tLc (tJ X C ρ (xs.map enc)) g (fun σ H Q => ∃ z ∈ xs, ∃ ds', GBd X.K g is (enc z) ds' ∧ (∀ (s : Shared) (H : Hp) (D : Addr) (cl : List (Str × Addr)) (fp : List Addr), PTs (X.blk s H scope (compEnvC scope cl D X.env) fp) ifs (tQ X C (bindR (wipeR ρ (own.map (·.2))) is ds') (q z))) ∧ tQ X C (bindR (wipeR ρ (own.map (·.2))) is ds') (q z) σ H Q)
      (fun σ H Q => ∃ z ∈ xs, ∃ ds', (∀ (s : Shared) (H : Hp) (D : Addr) (cl : List (Str × Addr)) (fp : List Addr), PE (X.blk s H scope (compEnvC scope cl D X.env) fp) elt (tV X C (bindR (wipeR ρ (own.map (·.2))) is ds') (RD X (f z)))) ∧ tV X C (bindR (wipeR ρ (own.map (·.2))) is ds') (RD X (f z)) σ H Q) (own.map (·.2)) σ H Q := by
  rintro σ H Q ⟨H₀, M, F, qq⟩
  refine ⟨H₀, M, F, fun J H1 s1 sq D hD => ?_⟩
  have F1 := F.same s1
  have sq := sq [] fun _ h => nomatch h
  let out : Nat → List PyData := fun i => ((xs.take i).filter q).map f
  have hout : ∀ i, (out i).length ≤ i := fun i => by
    show (((xs.take i).filter q).map f).length ≤ i
    rw [List.length_map]
    exact Nat.le_trans (List.length_filter_le _ _) (by rw [List.length_take]; omega)
  refine ⟨fun i m H' => m = xs.length - i ∧ i ≤ xs.length ∧ Same H1 (fun b => if b = D then none else H' b) ∧ ∃ acc, H' D = some (.lst acc) ∧ RpA X.K H' acc (out i), ⟨_, rfl, Nat.zero_le _, fun b o e => ?_, [], upd_same, by show RpA _ _ [] (((xs.take 0).filter q).map f); rw [List.take_zero]; exact RpA.nil⟩, ?_⟩
  · have hb : b ≠ D := ne_of_none e hD
    show (if b = D then none else upd H1 D (.lst []) b) = some o
    rw [if_neg hb, upd_ne hb]
    exact e
  rintro i m H' ⟨rfl, hi', k, acc, hacc, racc⟩
  have k' : Same H1 H' := fun b o e => by
    have := k b o e
    by_cases hb : b = D
    · subst hb; rw [hD] at e; cases e
    · simpa [hb] using this
  have kk : Keep [] H1 H' := fun b o e _ => k' b o e
  have t : TLe X.K H1 H' := Same.tle k'
  by_cases hlt : i < xs.length
  · have hlt' : i < (xs.map enc).length := by rw [List.length_map]; exact hlt
    refine .inr ⟨sq.go H' i kk t hlt', fun H2 => Same H1 (fun b => if b = D then none else H2 b) ∧ ∃ acc, H2 D = some (.lst acc) ∧ RpA X.K H2 acc (out (i + 1)), fun H2 ⟨k2, a2⟩ => ⟨xs.length - (i + 1), by omega, rfl, hlt, k2, a2⟩, fun v H2 y => ?_⟩
    obtain ⟨s2, d, e1, rd⟩ := sq.yld H' i v H2 hlt' kk t y
    rw [List.getElem?_map] at e1
    obtain ⟨z, ez, rfl⟩ := Option.map_eq_some_iff.mp e1
    have hz : z ∈ xs := List.mem_of_getElem? ez
    have hone : out (i + 1) = out i ++ (if q z = true then [f z] else []) := by
      show ((xs.take (i + 1)).filter q).map f = ((xs.take i).filter q).map f ++ _
      rw [List.take_add_one, ez]
      simp only [Option.toList_some, List.filter_append, List.map_append]
      congr 1
      by_cases hq : q z = true
      · simp [List.filter_cons, hq]
      · simp [List.filter_cons, hq]
    obtain ⟨ds', gb, ht, he⟩ := (h z hz).ok
    refine gb v _ H2 _ rd fun vs hvs => ⟨by rw [wipe_setAll fun j hj => (hsub j hj).1, wipe_wipe], ?_⟩
    have F2 : Fr X.prog X.w X.K C (fun _ => none) [] H2 (bindR (wipeR ρ (own.map (·.2))) is ds') (setAll (L2.wipe σ (own.map (·.2))) is vs) := by
      have G : Fr X.prog X.w X.K C H₀ M H2 ρ σ := (F1.same k').same s2
      have G2 := (G.wipe (own.map (·.2))).bind hvs fun j hj => by rw [wipeR_length]; exact (hsub j hj).2
      refine ⟨(fun b o e _ => nomatch e), G2.len, fun j s e => ?_, G2.apart⟩
      obtain ⟨u, e1, ok⟩ := G2.slot j s e
      refine ⟨u, e1, ?_⟩
      cases s with
      | own ds =>
        obtain ⟨l, us, e2, n', h1, h2⟩ := ok
        exact ⟨l, us, e2, .inl rfl, h1, h2⟩
      | dct kvs =>
        obtain ⟨l, us, e2, n', m', h1, h2⟩ := ok
        exact ⟨l, us, e2, .inl rfl, m', h1, h2⟩
      | prs l =>
        obtain ⟨e2, n', h1⟩ := ok
        exact ⟨e2, .inl rfl, h1⟩
      | _ => exact ok
    refine ⟨z, hz, ds', gb, ht, _, _, F2, fun H3 s3 => ?_⟩
    have stays : ∀ {H4 : Hp}, Same H3 H4 → Same H1 (fun b => if b = D then none else H4 b) ∧ H4 D = some (.lst acc) ∧ RpA X.K H4 acc (out i) := fun {H4} s4 => by
      have s24 : Same H' H4 := (s2.trans s3).trans s4
      refine ⟨fun b o e => ?_, s24 _ _ hacc, RpA.mono (Same.tle s24) _ racc⟩
      have hb : b ≠ D := ne_of_none e hD
      show (if b = D then none else H4 b) = some o
      rw [if_neg hb]
      exact s24 _ _ (k' b o e)
    by_cases hq : q z = true
    · dsimp only
      rw [if_pos hq]
      refine ⟨z, hz, ds', he hq, _, _, F2.same s3, fun u H4 s4 ru => ?_⟩
      obtain ⟨k4, a4, r4⟩ := stays s4
      refine ⟨acc, a4, ?_, fun b o e => ?_, acc ++ [u], upd_same, ?_⟩
      · rw [r4.length]
        exact Nat.lt_of_le_of_lt (hout i) (Nat.lt_of_lt_of_le hlt hi)
      · have hb : b ≠ D := ne_of_none e hD
        have := k4 b o e
        show (if b = D then none else upd H4 D (.lst (acc ++ [u])) b) = some o
        rw [if_neg hb, upd_ne hb]
        simpa [hb] using this
      · have le : TLe X.K H4 (upd H4 D (.lst (acc ++ [u]))) := upd_tle (fun xs e => by rw [a4] at e; cases e) fun o w e => by rw [a4] at e; cases e
        rw [hone, if_pos hq]
        exact (RpA.mono le _ r4).snoc (Rp.mono le _ ru)
    · dsimp only
      rw [if_neg hq]
      obtain ⟨k4, a4, r4⟩ := stays (Same.refl H3)
      refine ⟨k4, acc, a4, ?_⟩
      rw [hone, if_neg hq, List.append_nil]
      exact r4
  · have e : i = xs.length := by omega
    subst e
    refine .inl ⟨?_, ?_⟩
    · have := sq.stop H' kk t
      rwa [List.length_map] at this
    · have e2 : out xs.length = (xs.filter q).map f := by show ((xs.take xs.length).filter q).map f = _; rw [List.take_length]
      rw [e2] at racc
      exact qq D acc H' (s1.trans k') (s1.free hD) hacc racc
theorem pn_lc (hi : PIs X C ρ tg iter (xs.map enc)) (ok : BlkOk X.N X.env.scope scope own) (nd : X.N.Nodup) (hg : ∀ (s : Shared) (H : Hp) (D : Addr) (cl : List (Str × Addr)) (fp : List Addr), PG (X.blk s H scope (compEnvC scope cl D X.env) fp) tg g)
    (hsz : xs.length ≤ sizeLine) (hsub : ∀ j ∈ is, j ∈ own.map (·.2) ∧ j < ρ.length) (h : ∀ z ∈ xs, LcEl X C ρ scope own g is (enc z) ifs elt (q z) (f z)) (hc : X.calm = true := by rfl) (hf : ∀ x, foldedSetIterable iter X.env x = pure x := by intro _; rfl) :
    PN X C ρ (.ListComp elt [⟨tg, iter, ifs, 0⟩] scope pos) ((xs.filter q).map f) :=
  (pe_lc hc nd hi ok hg (fun s H D cl fp => ⟨fun pins s' σ H' Q I ⟨z, hz, ds', gb, ht, t⟩ => (ht s H D cl fp).run pins s' σ H' Q I t⟩) (fun s H D cl fp => ⟨fun pins s' σ H' Q I ⟨z, hz, ds', he, t⟩ => (he s H D cl fp).run pins s' σ H' Q I t⟩) hf).weak (tlc_of hsz hsub h)
theorem hs_setLc (i : Nat) {py spos : Pos} (hi : PIs X C ρ tg iter (xs.map enc)) (ok : BlkOk X.N X.env.scope scope own) (nd : X.N.Nodup) (hg : ∀ (s : Shared) (H : Hp) (D : Addr) (cl : List (Str × Addr)) (fp : List Addr), PG (X.blk s H scope (compEnvC scope cl D X.env) fp) tg g)
    (hsz : xs.length ≤ sizeLine) (hsub : ∀ j ∈ is, j ∈ own.map (·.2) ∧ j < ρ.length) (h : ∀ z ∈ xs, LcEl X C ρ scope own g is (enc z) ifs elt (q z) (f z)) (hp : Post (.nx (ρ.set i (some (.own ((xs.filter q).map f)))))) (hlt : i < ρ.length := by exact Nat.le_of_ble_eq_true rfl) (hy : X.N[i]? = some y := by rfl) (hyl : X.env.scope.names.lookup y = some .local := by rfl)
    (hsw : swapsWith (.ListComp elt [⟨tg, iter, ifs, 0⟩] scope pos) (some (.Name y py)) spos.line X.env = pure true := by exact sw_true rfl rfl rfl (by decide +kernel)) (hc : X.calm = true := by rfl) (hf : ∀ x, foldedSetIterable iter X.env x = pure x := by intro _; rfl) :
    HS X C ρ (.Assign [.Name y py] (.ListComp elt [⟨tg, iter, ifs, 0⟩] scope pos) spos) Post :=
  (ps_setLc hc nd hy hyl hsw hi ok hg (fun s H D cl fp => ⟨fun pins s' σ H' Q I ⟨z, hz, ds', gb, ht, t⟩ => (ht s H D cl fp).run pins s' σ H' Q I t⟩) (fun s H D cl fp => ⟨fun pins s' σ H' Q I ⟨z, hz, ds', he, t⟩ => (he s H D cl fp).run pins s' σ H' Q I t⟩) hf).weak fun D σ H ⟨H₀, M, F, n, _⟩ =>
    tlc_of hsz hsub h σ H _ ⟨H₀, M, F, fun a vs H' s hn h1 h2 => n _ _ H' hp (F.newL s hn h1 h2 hlt)⟩
end

/-! ### a def keeps its promise -/
def Ar.sl : Ar → Sl
  | .dat d => .dat d
  | .rcv r => .rcv r
  | .lst ds => .rl ds
  | .dct P w kvs => .dr P w kvs
  | .kl ds => .kl ds
def rho0 (n : Nat) (as : List Ar) : Rho := as.map (fun a => some a.sl) ++ List.replicate (n - as.length) none
def retP (r : Rt) : Fl → Prop
  | .nx _ => r = .dat .none
  | .rt r' => r' = r
  | _ => False
section
variable {P : Program} {w : World} {K : PySem.W.Frag} {mg : Str → Option Value} {base : Heap} {C : Addr}
abbrev bX (P : Program) (w : World) (K : PySem.W.Frag) (mg : Str → Option Value) (base : Heap) (N : List Str) (qual : Str) (sc : Scope) (f : Addr) (cdv : Value) (A : Around) (outer : List Env) (s : Shared) (H : Hp) (E : XK) : Cx := (cxOf CX0 P w K mg base N qual sc f cdv A outer s H E).nox
theorem start_get {N : List Str} {vs : List V} {i : Nat} {v : V} (h : vs[i]? = some v) : (L2.start N vs)[i]? = some (some v) := by
  unfold L2.start
  have hi := (List.getElem?_eq_some_iff.mp h).1
  rw [List.getElem?_append_left (by simpa using hi), List.getElem?_map, h]
  rfl
theorem args_get : ∀ {vs : List V} {as : List Ar} {H : Hp} {i : Nat} {a : Ar}, ArsOk K C H vs as → as[i]? = some a → ∃ v, vs[i]? = some v ∧ ArOk K C H v a
  | [], [], _, _, _, _, e => by simp at e
  | [], _ :: _, _, _, _, h, _ => h.elim
  | _ :: _, [], _, _, _, h, _ => h.elim
  | v :: vs, b :: as, _, 0, a, h, e => by
    simp at e; subst e
    exact ⟨v, rfl, h.1⟩
  | v :: vs, b :: as, _, i + 1, a, h, e => by
    obtain ⟨u, e1, e2⟩ := args_get (i := i) h.2 (by simpa using e)
    exact ⟨u, by simpa using e1, e2⟩
theorem fr_start {N : List Str} {vs : List V} {as : List Ar} {H : Hp} (h : ArsOk K C H vs as) (hl : as.length ≤ N.length) : Fr P w K C H [] H (rho0 N.length as) (L2.start N vs) := by
  have hv := h.length
  have key : ∀ (i : Nat) (s : Sl), (rho0 N.length as)[i]? = some (some s) → ∃ a, as[i]? = some a ∧ s = a.sl := fun i s e => by
    unfold rho0 at e
    by_cases hi : i < as.length
    · rw [List.getElem?_append_left (by simpa using hi), List.getElem?_map] at e
      cases q : as[i]? with
      | none => rw [q] at e; cases e
      | some a => rw [q] at e; cases e; exact ⟨a, rfl, rfl⟩
    · rw [List.getElem?_append_right (by simpa using hi), List.getElem?_replicate] at e
      split at e <;> cases e
  refine ⟨fun b o e _ => e, ?_, fun i s e => ?_, fun i j s t v hij e1 e2 e3 _ _ _ => ?_⟩
  · unfold L2.start rho0
    rw [List.length_append, List.length_append, List.length_map, List.length_map, List.length_replicate, List.length_replicate, hv]
  · obtain ⟨a, ea, rfl⟩ := key i s e
    obtain ⟨v, ev, ok⟩ := args_get h ea
    refine ⟨v, start_get ev, ?_⟩
    cases a with
    | dat d => exact ok
    | rcv r => exact ok
    | lst ds => exact ok
    | dct P w kvs => exact ok
    | kl ds => exact ok
  · obtain ⟨a, ea, rfl⟩ := key i s e1
    cases a <;> simp [Ar.sl, Sl.mut] at e3
theorem okD {x qual : Str} {st : Stmt} {f : Addr} {fd : FuncData} {N ps : List Str} {k : Nat} {Pre : List Ar → Rt → Prop} (F : Fun K x qual st f fd) (S : FnScope N ps (defScope st)) (len : ∀ as r, Pre as r → as.length = ps.length)
    (hbody : ∀ (cdv : Value) (A : Around) (outer : List Env) (s : Shared) (H : Hp) (E : XK), Room k (A.deeper (PyProof.Rows.envOfC qual (defScope st) s.heap.objs.size f cdv)) → ∀ as r, Pre as r →
      HSs (bX P w K mg base N qual (defScope st) f cdv A outer s H E) C (rho0 N.length as) (defBody st) (retP r)) : FnOk P w K mg base CX0 (k + 1) f fd ps (spD K C Pre) := by
  refine F.ok S (fun vs H Q E h => ?_) (fun cdv A outer s H vs Q E hr h => ?_)
  · obtain ⟨as, r, ha, hp, _⟩ := h
    rw [ha.length]
    exact len as r hp
  · obtain ⟨as, r, ha, hp, hQ⟩ := h
    have hl : as.length ≤ N.length := by
      rw [len as r hp]
      have := congrArg List.length S.pre
      rw [List.length_take] at this
      omega
    refine ⟨_, hbody cdv A outer s H E hr as r hp, H, [], fr_start ha hl, fun ρ' σ' H' hr' F' => ?_, fun _ _ _ h => h.elim, fun _ _ _ h => h.elim, fun r' v H' hr' k hv => ?_⟩
    · have e : r = .dat .none := hr'
      subst e
      exact hQ .non H' (fun b o e => F'.base b o e (by simp)) (show Rp K H' .non .none from Rp.non)
    · have e : r' = r := hr'
      subst e
      refine hQ v H' (fun b o e => k b o e (by simp)) ?_
      cases r' with
      | datP a d => exact hv
      | dat d => exact hv
      | rcv r => exact hv
      | lst ds =>
        obtain ⟨a, vs', e, n, h1, h2⟩ := hv
        exact ⟨a, vs', e, n.resolve_right (by simp), h1, h2⟩
end
end FB
end

section
set_option linter.all false
/-! The mirror: what the program's and the law's defs compute, as plain functions. -/
namespace FM

inductive Sel where
  | new | late | low | high | untold
  deriving DecidableEq
/-- what a receiver of the program has: next, held, told -/
structure PSt where
  n : Int
  held : List Int
  told : List Int
  deriving DecidableEq
structure Rcv where
  room : Int
  sel : List Sel
  once : Bool
  ord : Bool
  tld : Bool
abbrev Blk := Int × Int
inductive Ev where
  | come (p : Int) | drop (p : Int) | round
  deriving DecidableEq
structure Pl where
  first : PSt
  second : PSt
  came : Bool
  last : Int
  deriving DecidableEq

/-! ### the program -/
def sortI (l : List Int) : List Int := l.mergeSort fun a b => decide (a ≤ b)
def leP (p q : Blk) : Bool := decide (p.1 < q.1 ∨ (p.1 = q.1 ∧ p.2 ≤ q.2))
def sortP (l : List Blk) : List Blk := l.mergeSort leP
def mergeStep (found : List Blk) (b : Blk) : List Blk :=
  match found.getLast? with
  | none => found ++ [b]
  | some l => if b.1 ≤ l.2 then found.dropLast ++ [(l.1, if b.2 > l.2 then b.2 else l.2)] else found ++ [b]
def mergedM (bs : List Blk) : List Blk := (sortP bs).foldl mergeStep []
def blocksM (held : List Int) : List Blk := mergedM (held.map fun p => (p, p + 1))
/-- while number in held: number += 1; at most so many turns -/
def upF : Nat → List Int → Int → Int
  | 0, _, n => n
  | f + 1, held, n => if n ∈ held then upF f held (n + 1) else n
def upM (held : List Int) (n : Int) : Int := upF (held.length + 1) held n
def takeM (r : Rcv) (s : PSt) (p : Int) : PSt :=
  if p = s.n then
    let m := upM s.held (s.n + 1)
    ⟨m, s.held.filter (fun e => decide (m < e)), s.told.filter (fun e => decide (m < e))⟩
  else if (s.n < p ∧ p ≤ s.n + r.room) ∧ p ∉ s.held then ⟨s.n, if r.ord then s.held ++ [p] else sortI (s.held ++ [p]), s.told⟩
  else s
def inB (p : Int) (b : Blk) : Bool := decide (b.1 ≤ p) && decide (p < b.2)
def blockWith (ps : List Int) (bs : List Blk) : Option Blk := ps.findSome? fun p => bs.find? fun b => inB p b
def wantedM (w : Sel) (s : PSt) (p : Int) (left : List Blk) : List Int :=
  match w with
  | .new => [p]
  | .late => s.held.reverse
  | .untold => (sortI s.held).filter fun e => !s.told.contains e
  | .low => left.map (·.1)
  | .high => (left.map (·.1)).reverse
def pickStep (s : PSt) (p : Int) (lp : List Blk × List Blk) (w : Sel) : List Blk × List Blk :=
  match blockWith (wantedM w s p lp.1) lp.1 with
  | none => lp
  | some b => (lp.1.filter (fun e => !decide (e = b)), lp.2 ++ [b])
def pickedM (r : Rcv) (s : PSt) (p : Int) : List Blk := (r.sel.foldl (pickStep s p) (blocksM s.held, [])).2
def replyM (r : Rcv) (s : PSt) (p : Int) : List Blk × PSt :=
  let picked := pickedM r s p
  (picked, ⟨s.n, s.held, if r.tld then (sortI s.held).filter (fun e => s.told.contains e || (blockWith [e] picked).isSome) else s.told⟩)
def withoutM (s : PSt) (p : Int) : PSt := ⟨s.n, s.held.filter (fun e => !decide (e = p)), s.told.filter (fun e => !decide (e = p))⟩
def lowM (s : PSt) (by_ : Int) : PSt := ⟨s.n - by_, s.held.map (· - by_), s.told.map (· - by_)⟩
def rangeM (n : Int) : List Int := (List.range n.toNat).map fun (i : Nat) => 0 + (i : Int)
def wideM (a b : Int) : Int := (if b > a then b else a) + 2
def eventsM (one other : Rcv) (pl : Pl) : List Ev :=
  if pl.first.n ≠ pl.second.n then [.round]
  else
    let wide := wideM one.room other.room
    let found := (rangeM wide).map Ev.come ++ ((rangeM wide).filter fun p => pl.first.held.contains p || pl.second.held.contains p).map Ev.drop
    if pl.came then found ++ [.round] else found
abbrev Ans := Option (Int × List Blk)
def answeredM (r : Rcv) (s : PSt) (e : Ev) (came : Bool) (last : Int) : Ans × PSt :=
  match e with
  | .drop p => (none, if s.held.contains p then withoutM s p else s)
  | .come p =>
    let s := takeM r s p
    if r.once then (none, s) else
      let (bs, s) := replyM r s p
      (some (s.n, bs), s)
  | .round =>
    if !r.once || !came then (none, s) else
      let (bs, s) := replyM r s last
      (some (s.n, bs), s)
def Ev.isCome : Ev → Bool
  | .come _ => true
  | _ => false
def Ev.isDrop : Ev → Bool
  | .drop _ => true
  | _ => false
def behindM (one other : Rcv) (pl : Pl) (e : Ev) : Option (Pl × Int) :=
  let (a, f) := answeredM one pl.first e pl.came pl.last
  let (b, g) := answeredM other pl.second e pl.came pl.last
  if a ≠ b then none else
    let by_ := if g.n < f.n then g.n else f.n
    let f := lowM f by_
    let g := lowM g by_
    let came := e.isCome || (pl.came && e.isDrop)
    let last := match e with | .come p => p - by_ | _ => pl.last
    let known := came && (one.once && (f.held.contains last || g.held.contains last))
    some (⟨f, g, came && one.once, if known then last else -1⟩, by_)
def realM (steps : List (Ev × Int)) : List Ev :=
  (steps.foldl (fun (acc : List Ev × Int) (s : Ev × Int) => (acc.1 ++ [match s.1 with | .come p => .come (p + acc.2) | .drop p => .drop (p + acc.2) | .round => .round], acc.2 + s.2)) ([], 0)).1
/-- ways: the places in their order, each with where it comes from -/
abbrev Ways := List (Pl × Option (Pl × Ev × Int))
def Ways.look (W : Ways) (p : Pl) : Option (Option (Pl × Ev × Int)) := (W.find? fun x => decide (x.1 = p)).map (·.2)
/-- the steps to a place, the last one first; at most so many -/
def pathF : Nat → Ways → Pl → Option (List (Ev × Int))
  | 0, _, _ => none
  | f + 1, W, p => match W.look p with
    | none => none
    | some none => some []
    | some (some (q, e, r)) => (pathF f W q).map fun l => (e, r) :: l
def pathM (W : Ways) (p : Pl) : Option (List (Ev × Int)) := (pathF (W.length + 1) W p).map List.reverse
def startM : Pl := ⟨⟨0, [], []⟩, ⟨0, [], []⟩, false, -1⟩
def sizeMax : Nat := 16000000
/-- few held pieces -/
def smB (s : PSt) : Bool := decide (s.held.length ≤ 400) && decide (s.told.length ≤ 400)
/-- the events of one place: the event that parts with the ways then, or the ways behind; none: too large -/
def scanM (one other : Rcv) (pl : Pl) : List Ev → Ways → Option (Ways × Option Ev)
  | [], W => some (W, none)
  | e :: es, W => match behindM one other pl e with
    | none => some (W, some e)
    | some (q, r) => if (W.look q).isSome then scanM one other pl es W else if W.length < sizeMax ∧ smB q.first = true ∧ smB q.second = true then scanM one other pl es (W ++ [(q, some (pl, e, r))]) else none
/-- the loop of receivers_part; none: too long or too large -/
def partF (one other : Rcv) : Nat → Nat → Ways → Option (Option (List Ev))
  | 0, _, _ => none
  | f + 1, k, W => match W[k]? with
    | none => some none
    | some (pl, _) => match scanM one other pl (eventsM one other pl) W with
      | none => none
      | some (W', some e) => (pathM W' pl).map fun l => some (realM (l ++ [(e, 0)]))
      | some (W', none) => partF one other f (k + 1) W'

/-! ### the law -/
structure LSt where
  n : Int
  held : List (Int × Bool)
  deriving DecidableEq
structure Spec where
  room : Int
  sel : List Sel
  pro : Nat
  once : Bool
/-- the blocks of some pieces, as the law finds them -/
def lblkStep (found : List Blk) (p : Int) : List Blk :=
  match found.getLast? with
  | none => found ++ [(p, p + 1)]
  | some l => if l.2 = p then found.dropLast ++ [(l.1, p + 1)] else found ++ [(p, p + 1)]
def lblocksM (ns : List Int) : List Blk := (sortI ns).foldl lblkStep []
def lup (names : List Int) (n : Int) : Int := if n ∈ names then n + 1 else n
def ltakeM (room : Int) (s : LSt) (p : Int) : LSt :=
  let names := s.held.map (·.1)
  if p = s.n then
    let m := lup names (lup names (lup names (s.n + 1)))
    ⟨m, s.held.filter fun e => decide (m < e.1)⟩
  else if (s.n < p ∧ p ≤ s.n + room) ∧ p ∉ names then ⟨s.n, s.held ++ [(p, false)]⟩
  else s
/-- the places of the held pieces of a block -/
def insideM (b : Blk) (held : List (Int × Bool)) : List Int := (rangeM held.length).filter fun k => match held[k.toNat]? with | some e => inB e.1 b | none => false
def worthM (w : Sel) (b : Blk) (held : List (Int × Bool)) (last : Int) : Option Int :=
  match w with
  | .new => if inB last b then some 0 else none
  | .late => some ((insideM b held).foldl (fun a c => if c > a then c else a) 0)
  | .untold => if (insideM b held).filter (fun k => match held[k.toNat]? with | some e => !e.2 | none => false) = [] then none else some (-b.1)
  | .low => some (-b.1)
  | .high => some b.1
def bestStep (w : Sel) (held : List (Int × Bool)) (last : Int) (bm : Option (Blk × Int)) (b : Blk) : Option (Blk × Int) :=
  match worthM w b held last with
  | none => bm
  | some x => match bm with
    | none => some (b, x)
    | some (c, y) => if x > y then some (b, x) else some (c, y)
def lpickStep (held : List (Int × Bool)) (last : Int) (lp : List Blk × List Blk) (w : Sel) : List Blk × List Blk :=
  match lp.1.foldl (bestStep w held last) none with
  | none => lp
  | some (b, _) => (lp.1.filter (fun e => !decide (e = b)), lp.2 ++ [b])
def lpickedM (sel : List Sel) (s : LSt) (last : Int) : List Blk := (sel.foldl (lpickStep s.held last) (lblocksM (s.held.map (·.1)), [])).2
def lreplyM (sel : List Sel) (s : LSt) (last : Int) : List Blk × LSt :=
  let picked := lpickedM sel s last
  (picked, ⟨s.n, s.held.map fun e => (e.1, e.2 || !((picked.filter fun b => inB e.1 b).isEmpty))⟩)
def leventM (sp : Spec) (s : LSt) (last : Option Int) (e : Ev) : LSt × Option Int × Ans :=
  let (s, last) := match e with | .come p => (ltakeM sp.room s p, some p) | _ => (s, last)
  let s := match e with | .drop p => ⟨s.n, s.held.filter fun x => !decide (x.1 = p)⟩ | _ => s
  match last with
  | none => (s, last, none)
  | some l =>
    if (match e with | .come _ => sp.once | .round => !sp.once | .drop _ => true) then (s, last, none)
    else
      let (bs, s) := lreplyM sp.sel s l
      (s, none, some (s.n, bs))
def lanswersM (sp : Spec) (es : List Ev) : List Ans :=
  (es.foldl (fun (acc : LSt × Option Int × List Ans) e => let (s, l, a) := leventM sp acc.1 acc.2.1 e; (s, l, acc.2.2 ++ [a])) (⟨0, []⟩, none, [])).2.2
def Ev.ok : Ev → Bool
  | .come p => decide (0 ≤ p)
  | .drop p => decide (0 ≤ p)
  | .round => true
def partedM (a b : Spec) (row : List Ev) : Bool :=
  if !(row.all Ev.ok) || row.isEmpty then false
  else
    let x := lanswersM a row
    let y := lanswersM b row
    decide (x.dropLast = y.dropLast) && !decide (x.getLast? = y.getLast?)
/-- a place of the law's own search -/
structure LPl where
  s1 : LSt
  l1 : Option Int
  s2 : LSt
  l2 : Option Int
  deriving DecidableEq
def llow (s : LSt) (by_ : Int) : LSt := ⟨s.n - by_, s.held.map fun e => (e.1 - by_, e.2)⟩
def llast (l : Option Int) (by_ : Int) (names : List Int) : Option Int := l.map fun x => if x ∈ names then x - by_ else -1
def lplaceM (x y : LSt × Option Int × Ans) : LPl :=
  let by_ := if y.1.n < x.1.n then y.1.n else x.1.n
  let names := x.1.held.map (·.1) ++ y.1.held.map (·.1)
  ⟨llow x.1 by_, llast x.2.1 by_ names, llow y.1 by_, llast y.2.1 by_ names⟩
def ltriesM (h : LPl) (wide : Int) : List Ev :=
  let names := h.s1.held.map (·.1) ++ h.s2.held.map (·.1)
  (rangeM wide).map Ev.come ++ ((rangeM wide).filter fun p => names.contains p).map Ev.drop ++ [.round]
def lstepM (a b : Spec) (h : LPl) (e : Ev) : Option LPl :=
  let x := leventM a h.s1 h.l1 e
  let y := leventM b h.s2 h.l2 e
  if x.2.2 ≠ y.2.2 then none else some (lplaceM x y)
def smL (s : LSt) : Bool := decide (s.held.length ≤ 400)
/-- the events of one place: none: too large; some none: one of them parts -/
def lscanM (a b : Spec) (h : LPl) : List Ev → List LPl → List LPl → Option (Option (List LPl × List LPl))
  | [], seen, later => some (some (seen, later))
  | e :: es, seen, later => match lstepM a b h e with
    | none => some none
    | some q => if q ∈ seen then lscanM a b h es seen later else if seen.length < sizeMax ∧ smL q.s1 = true ∧ smL q.s2 = true then lscanM a b h es (seen ++ [q]) (later ++ [q]) else none
def llayerM (a b : Spec) (wide : Int) : List LPl → List LPl → List LPl → Option (Option (List LPl × List LPl))
  | [], seen, later => some (some (seen, later))
  | h :: hs, seen, later => match lscanM a b h (ltriesM h wide) seen later with
    | none => none
    | some none => some none
    | some (some (seen', later')) => llayerM a b wide hs seen' later'
/-- the layers from this length on, so many -/
def lleastF (a b : Spec) (wide : Int) : Nat → Nat → List LPl → List LPl → Option Nat
  | 0, _, _, _ => some 0
  | f + 1, len, seen, fresh => match llayerM a b wide fresh seen [] with
    | none => none
    | some none => some len
    | some (some (seen', later)) => lleastF a b wide f (len + 1) seen' later
def lbegin : LPl := ⟨⟨0, []⟩, none, ⟨0, []⟩, none⟩
def lleastM (a b : Spec) : Option Nat := lleastF a b (wideM a.room b.room) 399 1 [lbegin] [lbegin]
/-- the program's receiver of a spec -/
def Spec.rcv (s : Spec) : Rcv := ⟨s.room, s.sel, s.once, s.sel.contains .late, s.sel.contains .untold || decide (3 ≤ s.pro)⟩
end FM
end

section
set_option Elab.async false
set_option linter.all false
set_option maxRecDepth 100000
set_option maxHeartbeats 4000000
/-! The text by its places; the codes of data. -/
namespace FB
open PySem L2
def top (i : Nat) : Stmt := PySem.Challenge.pw_fewblocks_k71_whole_receivers_alike_or_p.main.body.getD i (.Pass ⟨0, 0, 0, 0⟩)
abbrev s_is_integer : Stmt := top 10
theorem sc_is_integer : FnScope ["value"]
    ["value"] (defScope s_is_integer) := ⟨rfl, rfl, rfl, by decide +kernel, rfl, by decide +kernel, by decide +kernel⟩
abbrev s_is_number : Stmt := top 11
theorem sc_is_number : FnScope ["value"]
    ["value"] (defScope s_is_number) := ⟨rfl, rfl, rfl, by decide +kernel, rfl, by decide +kernel, by decide +kernel⟩
abbrev s_blocks_of : Stmt := top 14
theorem sc_blocks_of : FnScope ["pieces", "piece"]
    ["pieces"] (defScope s_blocks_of) := ⟨rfl, rfl, rfl, by decide +kernel, rfl, by decide +kernel, by decide +kernel⟩
abbrev s_merged : Stmt := top 15
theorem sc_merged : FnScope ["blocks", "found", "first", "end"]
    ["blocks"] (defScope s_merged) := ⟨rfl, rfl, rfl, by decide +kernel, rfl, by decide +kernel, by decide +kernel⟩
abbrev s_R_init : Stmt := inClass (top 21) 0
theorem sc_R_init : FnScope ["self", "room", "selectors", "promises", "once"]
    ["self", "room", "selectors", "promises", "once"] (defScope s_R_init) := ⟨rfl, rfl, rfl, by decide +kernel, rfl, by decide +kernel, by decide +kernel⟩
abbrev s_R_room : Stmt := inClass (top 21) 2
theorem sc_R_room : FnScope ["self"]
    ["self"] (defScope s_R_room) := ⟨rfl, rfl, rfl, by decide +kernel, rfl, by decide +kernel, by decide +kernel⟩
abbrev s_R_once : Stmt := inClass (top 21) 5
theorem sc_R_once : FnScope ["self"]
    ["self"] (defScope s_R_once) := ⟨rfl, rfl, rfl, by decide +kernel, rfl, by decide +kernel, by decide +kernel⟩
abbrev s_R_take : Stmt := inClass (top 21) 7
theorem sc_R_take : FnScope ["self", "state", "piece", "number", "held", "told", "each"]
    ["self", "state", "piece"] (defScope s_R_take) := ⟨rfl, rfl, rfl, by decide +kernel, rfl, by decide +kernel, by decide +kernel⟩
abbrev s_R_reply : Stmt := inClass (top 21) 8
theorem sc_R_reply : FnScope ["self", "state", "piece", "number", "held", "told", "left", "picked", "word", "block", "each"]
    ["self", "state", "piece"] (defScope s_R_reply) := ⟨rfl, rfl, rfl, by decide +kernel, rfl, by decide +kernel, by decide +kernel⟩
abbrev s_R_without : Stmt := inClass (top 21) 10
theorem sc_R_without : FnScope ["self", "state", "piece", "number", "held", "told", "others", "each"]
    ["self", "state", "piece"] (defScope s_R_without) := ⟨rfl, rfl, rfl, by decide +kernel, rfl, by decide +kernel, by decide +kernel⟩
abbrev s_wanted : Stmt := top 22
theorem sc_wanted : FnScope ["word", "state", "piece", "left", "number", "held", "told", "each", "firsts", "first", "end"]
    ["word", "state", "piece", "left"] (defScope s_wanted) := ⟨rfl, rfl, rfl, by decide +kernel, rfl, by decide +kernel, by decide +kernel⟩
abbrev s_block_with : Stmt := top 23
theorem sc_block_with : FnScope ["pieces", "blocks", "piece", "first", "end"]
    ["pieces", "blocks"] (defScope s_block_with) := ⟨rfl, rfl, rfl, by decide +kernel, rfl, by decide +kernel, by decide +kernel⟩
abbrev s_check_selectors : Stmt := top 24
theorem sc_check_selectors : FnScope ["value", "k", "word"]
    ["value"] (defScope s_check_selectors) := ⟨rfl, rfl, rfl, by decide +kernel, rfl, by decide +kernel, by decide +kernel⟩
abbrev s_check_promises : Stmt := top 25
theorem sc_check_promises : FnScope ["value", "k", "word"]
    ["value"] (defScope s_check_promises) := ⟨rfl, rfl, rfl, by decide +kernel, rfl, by decide +kernel, by decide +kernel⟩
abbrev s_check_receiver : Stmt := top 29
theorem sc_check_receiver : FnScope ["value"]
    ["value"] (defScope s_check_receiver) := ⟨rfl, rfl, rfl, by decide +kernel, rfl, by decide +kernel, by decide +kernel⟩
abbrev s_lowered_holding : Stmt := top 32
theorem sc_lowered_holding : FnScope ["state", "by", "piece"]
    ["state", "by"] (defScope s_lowered_holding) := ⟨rfl, rfl, rfl, by decide +kernel, rfl, by decide +kernel, by decide +kernel⟩
abbrev s_steps_to : Stmt := top 33
theorem sc_steps_to : FnScope ["ways", "place", "found", "deed", "rise"]
    ["ways", "place"] (defScope s_steps_to) := ⟨rfl, rfl, rfl, by decide +kernel, rfl, by decide +kernel, by decide +kernel⟩
abbrev s_events_in : Stmt := top 34
theorem sc_events_in : FnScope ["one", "other", "place", "wide", "found", "piece"]
    ["one", "other", "place"] (defScope s_events_in) := ⟨rfl, rfl, rfl, by decide +kernel, rfl, by decide +kernel, by decide +kernel⟩
abbrev s_answered : Stmt := top 35
theorem sc_answered : FnScope ["receiver", "state", "event", "came", "last", "blocks"]
    ["receiver", "state", "event", "came", "last"] (defScope s_answered) := ⟨rfl, rfl, rfl, by decide +kernel, rfl, by decide +kernel, by decide +kernel⟩
abbrev s_place_behind : Stmt := top 36
theorem sc_place_behind : FnScope ["one", "other", "place", "event", "first", "second", "came", "last", "answer", "rival", "by", "known"]
    ["one", "other", "place", "event"] (defScope s_place_behind) := ⟨rfl, rfl, rfl, by decide +kernel, rfl, by decide +kernel, by decide +kernel⟩
abbrev s_real_events : Stmt := top 37
theorem sc_real_events : FnScope ["steps", "found", "base", "event", "rise"]
    ["steps"] (defScope s_real_events) := ⟨rfl, rfl, rfl, by decide +kernel, rfl, by decide +kernel, by decide +kernel⟩
abbrev s_receivers_part : Stmt := top 38
theorem sc_receivers_part : FnScope ["one", "other", "start", "ways", "waiting", "at", "place", "event", "found", "behind", "rise"]
    ["one", "other"] (defScope s_receivers_part) := ⟨rfl, rfl, rfl, by decide +kernel, rfl, by decide +kernel, by decide +kernel⟩
abbrev s_L_number : Stmt := top 40
theorem sc_L_number : FnScope ["_law_script", "_law_k", "_law_mixed", "_law_cell"]
    ["_law_script", "_law_k"] (defScope s_L_number) := ⟨rfl, rfl, rfl, by decide +kernel, rfl, by decide +kernel, by decide +kernel⟩
abbrev s_L_purse : Stmt := top 41
theorem sc_L_purse : FnScope ["_law_cell", "_law_digits"]
    ["_law_cell"] (defScope s_L_purse) := ⟨rfl, rfl, rfl, by decide +kernel, rfl, by decide +kernel, by decide +kernel⟩
abbrev s_L_pick : Stmt := top 42
theorem sc_L_pick : FnScope ["_law_purse_here", "_law_many", "_law_mixed", "_law_more", "_law_digit"]
    ["_law_purse_here", "_law_many"] (defScope s_L_pick) := ⟨rfl, rfl, rfl, by decide +kernel, rfl, by decide +kernel, by decide +kernel⟩
abbrev s_L_blocks : Stmt := top 43
theorem sc_L_blocks : FnScope ["_law_names", "_law_found", "_law_piece"]
    ["_law_names"] (defScope s_L_blocks) := ⟨rfl, rfl, rfl, by decide +kernel, rfl, by decide +kernel, by decide +kernel⟩
abbrev s_L_take : Stmt := top 44
theorem sc_L_take : FnScope ["_law_room", "_law_state", "_law_piece", "_law_missing", "_law_held", "_law_names", "_law_pair", "_law_up", "_law_turn"]
    ["_law_room", "_law_state", "_law_piece"] (defScope s_L_take) := ⟨rfl, rfl, rfl, by decide +kernel, rfl, by decide +kernel, by decide +kernel⟩
abbrev s_L_worth : Stmt := top 45
theorem sc_L_worth : FnScope ["_law_word", "_law_block", "_law_held", "_law_last", "_law_inside", "_law_k"]
    ["_law_word", "_law_block", "_law_held", "_law_last"] (defScope s_L_worth) := ⟨rfl, rfl, rfl, by decide +kernel, rfl, by decide +kernel, by decide +kernel⟩
abbrev s_L_reply : Stmt := top 46
theorem sc_L_reply : FnScope ["_law_words_here", "_law_state", "_law_last", "_law_left", "_law_picked", "_law_pair", "_law_word", "_law_best", "_law_most", "_law_block", "_law_worth_here", "_law_held", "_law_piece", "_law_told", "_law_inside"]
    ["_law_words_here", "_law_state", "_law_last"] (defScope s_L_reply) := ⟨rfl, rfl, rfl, by decide +kernel, rfl, by decide +kernel, by decide +kernel⟩
abbrev s_L_event : Stmt := top 47
theorem sc_L_event : FnScope ["_law_spec_here", "_law_state", "_law_last", "_law_event_here", "_law_pair", "_law_picked"]
    ["_law_spec_here", "_law_state", "_law_last", "_law_event_here"] (defScope s_L_event) := ⟨rfl, rfl, rfl, by decide +kernel, rfl, by decide +kernel, by decide +kernel⟩
abbrev s_L_answers : Stmt := top 48
theorem sc_L_answers : FnScope ["_law_spec_here", "_law_events", "_law_state", "_law_last", "_law_found", "_law_event_here", "_law_told"]
    ["_law_spec_here", "_law_events"] (defScope s_L_answers) := ⟨rfl, rfl, rfl, by decide +kernel, rfl, by decide +kernel, by decide +kernel⟩
abbrev s_L_are_events : Stmt := top 49
theorem sc_L_are_events : FnScope ["_law_row", "_law_event_here"]
    ["_law_row"] (defScope s_L_are_events) := ⟨rfl, rfl, rfl, by decide +kernel, rfl, by decide +kernel, by decide +kernel⟩
abbrev s_L_parted : Stmt := top 50
theorem sc_L_parted : FnScope ["_law_this", "_law_that", "_law_row", "_law_first", "_law_second"]
    ["_law_this", "_law_that", "_law_row"] (defScope s_L_parted) := ⟨rfl, rfl, rfl, by decide +kernel, rfl, by decide +kernel, by decide +kernel⟩
abbrev s_L_words : Stmt := top 51
theorem sc_L_words : FnScope ["_law_purse_here", "_law_many", "_law_menu", "_law_turn"]
    ["_law_purse_here", "_law_many"] (defScope s_L_words) := ⟨rfl, rfl, rfl, by decide +kernel, rfl, by decide +kernel, by decide +kernel⟩
abbrev s_L_promises : Stmt := top 52
theorem sc_L_promises : FnScope ["_law_purse_here"]
    ["_law_purse_here"] (defScope s_L_promises) := ⟨rfl, rfl, rfl, by decide +kernel, rfl, by decide +kernel, by decide +kernel⟩
abbrev s_L_spec : Stmt := top 53
theorem sc_L_spec : FnScope ["_law_purse_here", "_law_wide", "_law_once", "_law_room", "_law_many"]
    ["_law_purse_here", "_law_wide"] (defScope s_L_spec) := ⟨rfl, rfl, rfl, by decide +kernel, rfl, by decide +kernel, by decide +kernel⟩
abbrev s_L_near : Stmt := top 54
theorem sc_L_near : FnScope ["_law_purse_here", "_law_spec_here", "_law_wide", "_law_room", "_law_words_here", "_law_promises_here", "_law_once", "_law_way", "_law_at", "_law_some"]
    ["_law_purse_here", "_law_spec_here", "_law_wide"] (defScope s_L_near) := ⟨rfl, rfl, rfl, by decide +kernel, rfl, by decide +kernel, by decide +kernel⟩
abbrev s_L_made : Stmt := top 55
theorem sc_L_made : FnScope ["_law_spec_here"]
    ["_law_spec_here"] (defScope s_L_made) := ⟨rfl, rfl, rfl, by decide +kernel, rfl, by decide +kernel, by decide +kernel⟩
abbrev s_L_place : Stmt := top 56
theorem sc_L_place : FnScope ["_law_first", "_law_second", "_law_by", "_law_names", "_law_pair", "_law_found", "_law_state", "_law_last", "_law_told", "_law_piece", "_law_flag"]
    ["_law_first", "_law_second"] (defScope s_L_place) := ⟨rfl, rfl, rfl, by decide +kernel, rfl, by decide +kernel, by decide +kernel⟩
abbrev s_L_tries : Stmt := top 57
theorem sc_L_tries : FnScope ["_law_here", "_law_wide", "_law_names", "_law_pair", "_law_found", "_law_piece"]
    ["_law_here", "_law_wide"] (defScope s_L_tries) := ⟨rfl, rfl, rfl, by decide +kernel, rfl, by decide +kernel, by decide +kernel⟩
abbrev s_L_least : Stmt := top 58
theorem sc_L_least : FnScope ["_law_this", "_law_that", "_law_begin", "_law_seen", "_law_fresh", "_law_wide", "_law_length", "_law_later", "_law_here", "_law_event_here", "_law_first", "_law_second", "_law_there"]
    ["_law_this", "_law_that"] (defScope s_L_least) := ⟨rfl, rfl, rfl, by decide +kernel, rfl, by decide +kernel, by decide +kernel⟩
abbrev s_L_pair_right : Stmt := top 59
theorem sc_L_pair_right : FnScope ["_law_this", "_law_that", "_law_row", "_law_many"]
    ["_law_this", "_law_that"] (defScope s_L_pair_right) := ⟨rfl, rfl, rfl, by decide +kernel, rfl, by decide +kernel, by decide +kernel⟩
abbrev s_L_right : Stmt := top 60
theorem sc_L_right : FnScope ["_law_purse_here", "_law_turn", "_law_this", "_law_that"]
    ["_law_purse_here"] (defScope s_L_right) := ⟨rfl, rfl, rfl, by decide +kernel, rfl, by decide +kernel, by decide +kernel⟩
abbrev s_law : Stmt := top 61
theorem sc_law : FnScope ["_law_script", "_law_purse_here", "_law_some", "_law_more", "_law_k"]
    ["_law_script"] (defScope s_law) := ⟨rfl, rfl, rfl, by decide +kernel, rfl, by decide +kernel, by decide +kernel⟩
/-! ### codes -/
def selS : FM.Sel → Str
  | .new => "new"
  | .late => "late"
  | .low => "low"
  | .high => "high"
  | .untold => "untold"
def bD (b : FM.Blk) : PyData := .tuple [.int b.1, .int b.2]
def bsD (bs : List FM.Blk) : PyData := .tuple (bs.map bD)
def stD (s : FM.PSt) : PyData := .tuple [.int s.n, .tuple (s.held.map .int), .tuple (s.told.map .int)]
def evD : FM.Ev → PyData
  | .come p => .tuple [.str "come", .int p]
  | .drop p => .tuple [.str "drop", .int p]
  | .round => .tuple [.str "round"]
def ansD : FM.Ans → PyData
  | none => .none
  | some a => .tuple [.int a.1, bsD a.2]
def plD (p : FM.Pl) : PyData := .tuple [stD p.first, stD p.second, .bool p.came, .int p.last]
def wayD : Option (FM.Pl × FM.Ev × Int) → PyData
  | none => .none
  | some q => .tuple [plD q.1, evD q.2.1, .int q.2.2]
def stepD (s : FM.Ev × Int) : PyData := .tuple [evD s.1, .int s.2]
def rcD (r : FM.Rcv) : Rc := ⟨r.room, r.sel.map selS, r.once, r.ord, r.tld⟩
def pairD (e : Int × Bool) : PyData := .tuple [.int e.1, .bool e.2]
def lsD (s : FM.LSt) : PyData := .tuple [.int s.n, .tuple (s.held.map pairD)]
def lastD : Option Int → PyData
  | none => .none
  | some i => .int i
def proD : Nat → PyData
  | 0 => .tuple []
  | 1 => .tuple [.str "all"]
  | 2 => .tuple [.str "first"]
  | 3 => .tuple [.str "first", .str "told"]
  | 4 => .tuple [.str "told", .str "first"]
  | _ => .tuple [.str "told"]
def selD (s : FM.Sel) : PyData := .str (selS s)
def spD' (s : FM.Spec) : PyData := .tuple [.int s.room, .tuple (s.sel.map selD), proD s.pro, .bool s.once]
def lplD (p : FM.LPl) : PyData := .tuple [lsD p.s1, lastD p.l1, lsD p.s2, lastD p.l2]
end FB
end

section
set_option Elab.async false
set_option linter.all false
set_option maxRecDepth 100000
set_option maxHeartbeats 4000000
/-! isinstance, sorted, == of plain things. -/
namespace FB
open PySem L2
section
variable {X : Cx} {C : Addr} {ρ : Rho} {e a b c : Expr} {d d' : PyData} {ds es : List PyData} {r : Rc} {pos p p1 p2 p3 : Pos} {x : Str} {i j k : Int} {cb k1 k2 : Bool}
/-! ### == of plain things -/
theorem scal_int (ha : PD X C ρ a (.int i)) (hb : PD X C ρ b (.int j)) : PQ X C ρ (.Compare a [.Eq] [b] pos) (decide (i = j)) :=
  pq_cmp op_eq ha hb RD.stay (nomark _) fun x y H Q h1 h2 q => by
    rw [Rp.int_iff.mp h1, Rp.int_iff.mp h2]
    exact ⟨rfl, by simpa using q⟩
theorem pq_eqI (ha : PD X C ρ a (.int i)) (hb : PD X C ρ b (.int j)) : PQ X C ρ (.Compare a [.Eq] [b] pos) (decide (i = j)) := scal_int ha hb
theorem pq_neI (ha : PD X C ρ a (.int i)) (hb : PD X C ρ b (.int j)) : PQ X C ρ (.Compare a [.NotEq] [b] pos) (!decide (i = j)) :=
  pq_cmp op_ne ha hb RD.stay (nomark _) fun x y H Q h1 h2 q => by
    rw [Rp.int_iff.mp h1, Rp.int_iff.mp h2]
    exact ⟨rfl, by simpa using q⟩
theorem pd_eqI (ha : PD X C ρ a (.int i)) (hb : PD X C ρ b (.int j)) : PD X C ρ (.Compare a [.Eq] [b] pos) (.bool (decide (i = j))) :=
  pv_cmp op_eq ha hb RD.stay (nomark _) fun x y H Q h1 h2 q => by
    rw [Rp.int_iff.mp h1, Rp.int_iff.mp h2]
    exact ⟨rfl, by simpa using q⟩
theorem pq_eqS {y : Str} (ha : PD X C ρ a (.str x)) (hb : PD X C ρ b (.str y)) : PQ X C ρ (.Compare a [.Eq] [b] pos) (decide (x = y)) :=
  pq_cmp op_eq ha hb RD.stay (nomark _) fun u v H Q h1 h2 q => by
    rw [Rp.str_iff.mp h1, Rp.str_iff.mp h2]
    exact ⟨rfl, by simpa using q⟩
theorem pd_eqS {y : Str} (ha : PD X C ρ a (.str x)) (hb : PD X C ρ b (.str y)) : PD X C ρ (.Compare a [.Eq] [b] pos) (.bool (decide (x = y))) :=
  pv_cmp op_eq ha hb RD.stay (nomark _) fun u v H Q h1 h2 q => by
    rw [Rp.str_iff.mp h1, Rp.str_iff.mp h2]
    exact ⟨rfl, by simpa using q⟩
theorem pq_neS {y : Str} (ha : PD X C ρ a (.str x)) (hb : PD X C ρ b (.str y)) : PQ X C ρ (.Compare a [.NotEq] [b] pos) (!decide (x = y)) :=
  pq_cmp op_ne ha hb RD.stay (nomark _) fun u v H Q h1 h2 q => by
    rw [Rp.str_iff.mp h1, Rp.str_iff.mp h2]
    exact ⟨rfl, by simpa using q⟩
theorem pq_eqB (ha : PD X C ρ a (.bool k1)) (hb : PD X C ρ b (.bool k2)) : PQ X C ρ (.Compare a [.Eq] [b] pos) (decide (k1 = k2)) :=
  pq_cmp op_eq ha hb RD.stay (nomark _) fun u v H Q h1 h2 q => by
    rw [Rp.bool_iff.mp h1, Rp.bool_iff.mp h2]
    exact ⟨rfl, by simpa using q⟩
theorem pd_eqB (ha : PD X C ρ a (.bool k1)) (hb : PD X C ρ b (.bool k2)) : PD X C ρ (.Compare a [.Eq] [b] pos) (.bool (decide (k1 = k2))) :=
  pv_cmp op_eq ha hb RD.stay (nomark _) fun u v H Q h1 h2 q => by
    rw [Rp.bool_iff.mp h1, Rp.bool_iff.mp h2]
    exact ⟨rfl, by simpa using q⟩

/-! ### isinstance -/
def kindD : PyData → String
  | .none => "NoneType"
  | .bool _ => "bool"
  | .int _ => "int"
  | .str _ => "str"
  | .tuple _ => "tuple"
  | .list _ => "list"
  | .dict _ => "dict"
theorem tyX_of {H : Hp} {v : V} (h : Rp X.K H v d) : TyX X.K H v (.type (kindD d)) := by
  cases d with
  | none => rw [Rp.non_iff.mp h]; exact .base .non
  | bool b => rw [Rp.bool_iff.mp h]; exact .base (.bl b)
  | int b => rw [Rp.int_iff.mp h]; exact .base (.int b)
  | str b => rw [Rp.str_iff.mp h]; exact .base (.str b)
  | tuple b =>
    obtain ⟨q, xs, rfl, hs, _⟩ := Rp.tup_iff.mp h
    rcases hs with (hs | ⟨o, hs⟩) | ⟨o, its, n, h1, h2, _⟩
    · exact .base (.tup hs)
    · exact .fTuple hs
    · exact .kTuple h1 h2
  | list b => simp only [Rp] at h
  | dict b => simp only [Rp] at h
theorem pd_isi {T : String} (hm : X.mg "isinstance" = none) (he : PD X C ρ e d) (hc : PE X c (tC (.ty T))) (hk : kitB (kindD d) T = some cb) (hg : Gl X "isinstance" := by rfl) (hs : starEach [e, c] X.env = (false, eval e X.env) :: starEach [c] X.env := by rfl) (hs2 : starEach [c] X.env = (false, eval c X.env) :: starEach [] X.env := by rfl)
    (hpl : (backTo pos (starEach [c] X.env)).any (·.1) = false := by rfl) : PD X C ρ (.Call (.Name "isinstance" p) [e, c] [] pos) (.bool cb) :=
  (pe_callB call_isi hg hm (by decide +kernel) (pa_cons he (pa_cons hc pa_nil hs2) hs) (by decide) (by decide) hs hpl).weak fun σ H Q ⟨H₀, M, F, q⟩ => ⟨H₀, M, F, fun v H1 s1 r1 =>
    ⟨v, .ty T, .type (kindD d), .type T, cb, rfl, .ty T, tyX_of r1, kit_ty hk, q _ H1 s1 Rp.bool⟩⟩
theorem pe_ty {T : String} (hm : X.mg x = none) (hv : bootBuiltins x = some (.type T)) (hg : Gl X x := by rfl) (hn : x ≠ "__name__" := by decide) (hd : (x == ("__debug__" : Str)) = false := by decide) : PE X (.Name x p) (tC (.ty T)) := pe_bltn hg hm hv rfl hn hd

/-! ### sorted -/
open PySem.W in
def rSortD {β : Type} (X : Cx) (enc : β → PyData) : List V → Hp → VK → Prop := fun xs H Q => ∃ (q : Addr) (vs : List V) (bs : List β), xs = [.ref q] ∧ (SqL X.K H q vs ∨ SqT X.K H q vs) ∧ RpA X.K H vs (bs.map enc) ∧ AllAlike (bs.map enc) ∧ Sortable (bs.map enc) ∧ (∀ b, b ∈ bs → X.A.units + 2 + (enc b).depth < cLine) ∧
  ∀ (q' : Addr) (vs' : List V), H q' = none → RpA X.K H vs' ((bs.mergeSort (dataLe false enc)).map enc) → Q (.ref q') (upd H q' (.lst vs'))
open PySem.W in
theorem each_rp {β : Type} {K : Frag} {H : Hp} {enc : β → PyData} : ∀ {vs : List V} {us : List Value} {bs : List β}, Vals vs us → RpA K H vs (bs.map enc) → EachIs (fun u b => ∃ v, RelV v u ∧ Rp K H v (enc b)) us bs
  | [], _, [], r, _ => by cases r; exact .nil
  | [], _, _ :: _, _, h => by simp only [List.map_cons, RpA] at h
  | _ :: _, _, [], _, h => by simp only [List.map_nil, RpA] at h
  | v :: vs, _, b :: bs, r, h => by
    simp only [List.map_cons, RpA] at h
    cases r with
    | cons r1 r2 => exact .cons ⟨v, r1, h.1⟩ (each_rp r2 h.2)
open PySem.W in
theorem rp_each {β : Type} {K : Frag} {H : Hp} {enc : β → PyData} : ∀ {us : List Value} {bs : List β}, EachIs (fun u b => ∃ v, RelV v u ∧ Rp K H v (enc b)) us bs → ∃ vs, Vals vs us ∧ RpA K H vs (bs.map enc)
  | _, _, .nil => ⟨[], .nil, RpA.nil⟩
  | _, _, .cons ⟨v, r1, h1⟩ t => by
    obtain ⟨vs, r2, h2⟩ := rp_each t
    exact ⟨v :: vs, .cons r1 r2, RpA.cons h1 h2⟩
open PySem.W in
theorem cr_sortD {β : Type} {enc : β → PyData} : CallR X (.builtin "sorted") (rSortD X enc) := by
  intro pins s σ H xs us Q I r h
  obtain ⟨q, vs, bs, rfl, hs, ra, hal, hk, hu, hq⟩ := h
  obtain ⟨u, rfl, rx⟩ := vals1 r
  cases rx
  have len : vs.length = bs.length := by have := ra.length; rwa [List.length_map] at this
  have fin : ∀ its : List Value, Vals vs its → vs.length ≤ sizeLine → ∀ out : List Value, out.length = bs.length → EachIs (fun u b => ∃ v, RelV v u ∧ Rp X.K H v (enc b)) out (bs.mergeSort (dataLe false enc)) →
      EP X pins σ Q (.ref (s.heap.objs.size + 1)) { s with heap := PyProof.Rows.sortedAll s.heap its (List.toArray out) } := fun its rv hz out ho he => by
    obtain ⟨vs', rv', ra'⟩ := rp_each he
    obtain ⟨ep, he'⟩ := PyProof.Rows.sortedAll_at s.heap its out.toArray
    have hl := rv'.length
    exact ⟨.ref _, upd H (s.heap.objs.size + 1) (.lst vs'), I.laid (t' := s.toks) (fun _ _ => PyProof.Rows.sortedAll_old) (Nat.le_succ _) ⟨by omega, out, ep, rv', he'⟩, rfl, hq _ vs' (I.hok.fresh (Nat.le_succ _)) ra'⟩
  have rd : ∀ its : List Value, Vals vs its → EachIs (fun v b => ∃ as, Reads s.heap v (enc b) as) its bs := fun its rv => (each_rp rv ra).mono fun u b ⟨v, r1, h1⟩ => Dp.reads I (enc b) v u (Rp.dp _ h1) r1
  rcases hs with hs | hs
  · obtain ⟨its, rv, pl, hz⟩ := I.list hs
    exact sorted_data pl.isList (each_rp rv ra) (rd its rv) hal hk (by omega) hu (fin its rv hz)
  · obtain ⟨its, rv, pl, hz⟩ := I.tuple hs
    exact sorted_dataT pl (each_rp rv ra) (rd its rv) hal hk (by omega) hu (fin its rv hz)
open PySem.W in
theorem pn_sorted {β : Type} {bs : List β} {enc : β → PyData} (hm : X.mg "sorted" = none) (he : PE X e (tV X C ρ (RS X (bs.map enc)))) (hal : AllAlike (bs.map enc)) (hk : Sortable (bs.map enc)) (hu : ∀ b, b ∈ bs → X.A.units + 2 + (enc b).depth < cLine) (hg : Gl X "sorted" := by rfl) (hs : starEach [e] X.env = (false, eval e X.env) :: starEach [] X.env := by rfl) :
    PN X C ρ (.Call (.Name "sorted" p) [e] [] pos) ((bs.mergeSort (dataLe false enc)).map enc) :=
  (pe_callB cr_sortD hg hm (by decide +kernel) (pa_cons he pa_nil hs) (by decide) (by decide) hs rfl).weak fun σ H Q ⟨H₀, M, F, q⟩ => ⟨H₀, M, F, fun v H1 s1 ⟨l, vs, ev, hx, r1⟩ =>
    ⟨l, vs, bs, by rw [ev], hx, r1, hal, hk, hu, fun n vs' hn r2 => q n vs' _ (s1.trans (same_new hn)) (s1.free hn) upd_same (RpA.mono (Same.tle (same_new hn)) _ r2)⟩⟩
open PySem.W in
theorem pn_sortI {ns : List Int} (hm : X.mg "sorted" = none) (he : PE X e (tV X C ρ (RS X (ns.map .int)))) (hu : X.A.units + 64 < cLine) (hg : Gl X "sorted" := by rfl) (hs : starEach [e] X.env = (false, eval e X.env) :: starEach [] X.env := by rfl) :
    PN X C ρ (.Call (.Name "sorted" p) [e] [] pos) ((FM.sortI ns).map .int) := by
  have h := pn_sorted (p := p) (pos := pos) (enc := fun i : Int => PyData.int i) hm he (AllAlike.of fun b b' => by simp [alike]) (Sortable.others fun b => ⟨(fun z => nomatch z), (fun xs z => nomatch z)⟩) (fun b _ => by simp only [PyData.depth]; omega) hg hs
  rw [dataLe_int (fun i : Int => i)] at h
  exact h
open PySem.W in
theorem pn_sortP {ns : List FM.Blk} (hm : X.mg "sorted" = none) (he : PE X e (tV X C ρ (RS X (ns.map bD)))) (hu : X.A.units + 64 < cLine) (hg : Gl X "sorted" := by rfl) (hs : starEach [e] X.env = (false, eval e X.env) :: starEach [] X.env := by rfl) :
    PN X C ρ (.Call (.Name "sorted" p) [e] [] pos) ((FM.sortP ns).map bD) := by
  have h := pn_sorted (p := p) (pos := pos) (enc := bD) hm he (AllAlike.of fun b b' => by simp [bD, alike, alikeAll]) (Sortable.tuples fun b => ⟨_, _, rfl⟩) (fun b _ => by simp only [bD, PyData.depth, PyData.depthAll]; omega) hg hs
  have e1 : dataLe false bD = FM.leP := dataLe_ii (fun b : FM.Blk => b.1) (fun b => b.2)
  rw [e1] at h
  exact h
end
end FB
end

section
set_option Elab.async false
set_option linter.all false
set_option maxRecDepth 100000
set_option maxHeartbeats 4000000
/-! What the walks ask of the top. -/
namespace FB
open PySem L2
structure Tx (K : PySem.W.Frag) (mg : Str → Option Value) (C : Addr) : Prop where
  isinstance_ : mg "isinstance" = none
  int_ : mg "int" = none
  bool_ : mg "bool" = none
  tuple_ : mg "tuple" = none
  sorted_ : mg "sorted" = none
  max_ : mg "max" = none
  min_ : mg "min" = none
  len_ : mg "len" = none
  range_ : mg "range" = none
  enumerate_ : mg "enumerate" = none
  abs_ : mg "abs" = none
  all_ : mg "all" = none
  divmod_ : mg "divmod" = none
  cls : Cls K C
  nRoom : NoAttr K C "own_room"
  nSel : NoAttr K C "own_selectors"
  nPro : NoAttr K C "own_promises"
  nOnce : NoAttr K C "is_once"
  nOrd : NoAttr K C "remembers_order"
  nTld : NoAttr K C "remembers_told"
  idle : ∃ t, mg "IDLE" = some (.int (-1) t)
  mostRoom : ∃ t, mg "MOST_ROOM" = some (.int 3 t)
  mostSel : ∃ t, mg "MOST_SELECTORS" = some (.int 3 t)
  rcv : mg "Receiver" = some (.ref C)
  iC : PySem.W.findIn K (.ref C) "__class__" = some (some (.builtin "object.__class__"))
  iG : PySem.W.specialIn K (.builtin "object.__class__") "__get__" = some (some (.builtin "getset_descriptor.__get__"))
  iT : PySem.W.takesIn K (.builtin "object.__class__") = some true
  iM : PySem.W.mroIn K C (.type "object") = some true
  sels : ∃ (a : Addr) (o : Obj) (its : Array Value) (n : Nat), mg "SELECTORS" = some (.ref a) ∧ K.lookup a = some o ∧ o.cls = .type "tuple" ∧ o.data = .seq its n ∧ its.size ≤ sizeLine ∧ Vals [.str "new", .str "late", .str "low", .str "high", .str "untold"] its.toList
def FnAt (K : PySem.W.Frag) (mg : Str → Option Value) (x : Str) (st : Stmt) : Prop := ∃ f fd, mg x = some (.ref f) ∧ Fun K x x st f fd
section
variable {P : Program} {w : World} {K : PySem.W.Frag} {mg : Str → Option Value} {base : Heap} {C : Addr}
theorem df_of {x : Str} {st : Stmt} {N ps : List Str} {k : Nat} {Pre : List Ar → Rt → Prop} (A : FnAt K mg x st) (S : FnScope N ps (defScope st)) (len : ∀ as r, Pre as r → as.length = ps.length)
    (hb : ∀ (kV doc pm : Value) (an : Option Addr) (cdv ct : Value) (us : List Value), us.length = ps.length → bindArgs (PySem.W.fnOf x x (defArgs st) (defBody st) (defScope st) .none kV doc pm an cdv ct) ⟨us, []⟩ = pure (ps.zip us))
    (hbody : ∀ (f : Addr) (cdv : Value) (A : Around) (outer : List Env) (s : Shared) (H : Hp) (E : XK), Room k (A.deeper (PyProof.Rows.envOfC x (defScope st) s.heap.objs.size f cdv)) → ∀ as r, Pre as r →
      HSs (bX P w K mg base N x (defScope st) f cdv A outer s H E) C (rho0 N.length as) (defBody st) (retP r)) : Df P w K mg base C x (k + 1) Pre := by
  obtain ⟨f, fd, hm, F⟩ := A
  exact ⟨f, fd, ps, hm, F.kp, F.binds hb, okD F S len (hbody f)⟩
end
def preTrue : List Ar → Rt → Prop := fun as r => ∃ i : Int, as = [.dat (.int i)] ∧ r = .dat (.bool true)
def preNum : List Ar → Rt → Prop := fun as r => ∃ i : Int, as = [.dat (.int i)] ∧ r = .dat (.bool (decide (0 ≤ i)))
section
variable {P : Program} {w : World} {K : PySem.W.Frag} {mg : Str → Option Value} {base : Heap} {C : Addr}
theorem df_is_integer (A : FnAt K mg "is_integer" s_is_integer) (T : Tx K mg C) : Df P w K mg base C "is_integer" 1 preTrue := by
  refine df_of A sc_is_integer (fun as r h => ?_) (fun _ _ _ _ _ _ us hl => match us, hl with | [_], _ => rfl) (fun f cdv A outer s H E hr as r h => ?_)
  · obtain ⟨i, rfl, _⟩ := h; rfl
  · obtain ⟨i, rfl, rfl⟩ := h
    refine hss_cons (hs_ret (d := .bool true) ?_ rfl)
    exact pd_and (k1 := true) (k2 := true) (pd_isi T.isinstance_ (pd_var 0) (pe_ty (T := "int") T.int_ (by decide +kernel)) (by show kitB "int" "int" = some true; decide +kernel)) fun _ => pd_one (pd_not (k1 := false) (pd_isi T.isinstance_ (pd_var 0) (pe_ty (T := "bool") T.bool_ (by decide +kernel)) (by show kitB "int" "bool" = some false; decide +kernel)))
theorem df_is_number (A : FnAt K mg "is_number" s_is_number) (T : Tx K mg C) (G : Df P w K mg base C "is_integer" 1 preTrue) : Df P w K mg base C "is_number" 2 preNum := by
  refine df_of A sc_is_number (fun as r h => ?_) (fun _ _ _ _ _ _ us hl => match us, hl with | [_], _ => rfl) (fun f cdv A outer s H E hr as r h => ?_)
  · obtain ⟨i, rfl, _⟩ := h; rfl
  · obtain ⟨i, rfl, rfl⟩ := h
    refine hss_cons (hs_ret (d := .bool (decide (0 ≤ i))) ?_ rfl)
    exact pd_and (k1 := true) (pd_call G hr (ga_d (pd_var 0) ga_nil) ⟨i, rfl, rfl⟩) fun _ => pd_one (pd_ge (pd_var 0) pd_int)
end
end FB
namespace FB
open PySem L2
section
variable {X : Cx} {C : Addr} {ρ : Rho} {tg iter elt : Expr} {pos : Pos} {g : TG} {is : List Nat} {β : Type} {xs : List β} {enc : β → PyData} {scope : Scope} {own : List (Str × Nat)} {f : β → PyData} {ifs : List Expr} {q : β → Bool}
theorem filter_tt {β : Type} (xs : List β) : xs.filter (fun _ => true) = xs := by simp
/-- [elt for .. in ..], no test -/
theorem pn_map (hi : PIs X C ρ tg iter (xs.map enc)) (ok : BlkOk X.N X.env.scope scope own) (nd : X.N.Nodup) (hg : ∀ (s : Shared) (H : Hp) (D : Addr) (cl : List (Str × Addr)) (fp : List Addr), PG (X.blk s H scope (compEnvC scope cl D X.env) fp) tg g)
    (hsz : xs.length ≤ sizeLine) (hsub : ∀ j ∈ is, j ∈ own.map (·.2) ∧ j < ρ.length) (h : ∀ z ∈ xs, ∃ ds', GBd X.K g is (enc z) ds' ∧ ∀ (s : Shared) (H : Hp) (D : Addr) (cl : List (Str × Addr)) (fp : List Addr), PE (X.blk s H scope (compEnvC scope cl D X.env) fp) elt (tV X C (bindR (wipeR ρ (own.map (·.2))) is ds') (RD X (f z)))) (hc : X.calm = true := by rfl) (hf : ∀ x, foldedSetIterable iter X.env x = pure x := by intro _; rfl) :
    PN X C ρ (.ListComp elt [⟨tg, iter, [], 0⟩] scope pos) (xs.map f) := by
  have := pn_lc (X := X) (q := fun _ => true) (f := f) (ifs := []) (pos := pos) (elt := elt) hi ok nd hg hsz hsub (fun z hz => by
    obtain ⟨ds', gb, he⟩ := h z hz
    exact ⟨⟨ds', gb, fun _ _ _ _ _ => pts_yes X C _, fun _ => he⟩⟩) hc hf
  rwa [filter_tt] at this
/-- [elt for .. in .. if ..] -/
theorem pn_flt {c : Expr} (hi : PIs X C ρ tg iter (xs.map enc)) (ok : BlkOk X.N X.env.scope scope own) (nd : X.N.Nodup) (hg : ∀ (s : Shared) (H : Hp) (D : Addr) (cl : List (Str × Addr)) (fp : List Addr), PG (X.blk s H scope (compEnvC scope cl D X.env) fp) tg g)
    (hsz : xs.length ≤ sizeLine) (hsub : ∀ j ∈ is, j ∈ own.map (·.2) ∧ j < ρ.length) (h : ∀ z ∈ xs, ∃ ds', GBd X.K g is (enc z) ds' ∧ (∀ (s : Shared) (H : Hp) (D : Addr) (cl : List (Str × Addr)) (fp : List Addr), PT (X.blk s H scope (compEnvC scope cl D X.env) fp) c (tQ X C (bindR (wipeR ρ (own.map (·.2))) is ds') (q z))) ∧
      (q z = true → ∀ (s : Shared) (H : Hp) (D : Addr) (cl : List (Str × Addr)) (fp : List Addr), PE (X.blk s H scope (compEnvC scope cl D X.env) fp) elt (tV X C (bindR (wipeR ρ (own.map (·.2))) is ds') (RD X (f z))))) (hc : X.calm = true := by rfl) (hf : ∀ x, foldedSetIterable iter X.env x = pure x := by intro _; rfl) :
    PN X C ρ (.ListComp elt [⟨tg, iter, [c], 0⟩] scope pos) ((xs.filter q).map f) :=
  pn_lc (X := X) (q := q) (f := f) (ifs := [c]) (pos := pos) (elt := elt) hi ok nd hg hsz hsub (fun z hz => by
    obtain ⟨ds', gb, ht, he⟩ := h z hz
    exact ⟨⟨ds', gb, fun s H D cl fp => pts_one (ht s H D cl fp), he⟩⟩) hc hf
/-- .. given to a local name on one line -/
theorem hs_map {y : Str} {py spos : Pos} {Post : Fl → Prop} (i : Nat) (hi : PIs X C ρ tg iter (xs.map enc)) (ok : BlkOk X.N X.env.scope scope own) (nd : X.N.Nodup) (hg : ∀ (s : Shared) (H : Hp) (D : Addr) (cl : List (Str × Addr)) (fp : List Addr), PG (X.blk s H scope (compEnvC scope cl D X.env) fp) tg g)
    (hsz : xs.length ≤ sizeLine) (hsub : ∀ j ∈ is, j ∈ own.map (·.2) ∧ j < ρ.length) (h : ∀ z ∈ xs, ∃ ds', GBd X.K g is (enc z) ds' ∧ ∀ (s : Shared) (H : Hp) (D : Addr) (cl : List (Str × Addr)) (fp : List Addr), PE (X.blk s H scope (compEnvC scope cl D X.env) fp) elt (tV X C (bindR (wipeR ρ (own.map (·.2))) is ds') (RD X (f z))))
    (hp : Post (.nx (ρ.set i (some (.own (xs.map f)))))) (hlt : i < ρ.length := by exact Nat.le_of_ble_eq_true rfl) (hy : X.N[i]? = some y := by rfl) (hyl : X.env.scope.names.lookup y = some .local := by rfl)
    (hsw : swapsWith (.ListComp elt [⟨tg, iter, [], 0⟩] scope pos) (some (.Name y py)) spos.line X.env = pure true := by exact sw_true rfl rfl rfl (by decide +kernel)) (hc : X.calm = true := by rfl) (hf : ∀ x, foldedSetIterable iter X.env x = pure x := by intro _; rfl) :
    HS X C ρ (.Assign [.Name y py] (.ListComp elt [⟨tg, iter, [], 0⟩] scope pos) spos) Post := by
  refine hs_setLc (X := X) (q := fun _ => true) (f := f) (ifs := []) (pos := pos) (elt := elt) i hi ok nd hg hsz hsub (fun z hz => ?_) ?_ hlt hy hyl hsw hc hf
  · obtain ⟨ds', gb, he⟩ := h z hz
    exact ⟨⟨ds', gb, fun _ _ _ _ _ => pts_yes X C _, fun _ => he⟩⟩
  · rwa [filter_tt]
theorem hs_flt {y : Str} {py spos : Pos} {c : Expr} {Post : Fl → Prop} (i : Nat) (hi : PIs X C ρ tg iter (xs.map enc)) (ok : BlkOk X.N X.env.scope scope own) (nd : X.N.Nodup) (hg : ∀ (s : Shared) (H : Hp) (D : Addr) (cl : List (Str × Addr)) (fp : List Addr), PG (X.blk s H scope (compEnvC scope cl D X.env) fp) tg g)
    (hsz : xs.length ≤ sizeLine) (hsub : ∀ j ∈ is, j ∈ own.map (·.2) ∧ j < ρ.length) (h : ∀ z ∈ xs, ∃ ds', GBd X.K g is (enc z) ds' ∧ (∀ (s : Shared) (H : Hp) (D : Addr) (cl : List (Str × Addr)) (fp : List Addr), PT (X.blk s H scope (compEnvC scope cl D X.env) fp) c (tQ X C (bindR (wipeR ρ (own.map (·.2))) is ds') (q z))) ∧
      (q z = true → ∀ (s : Shared) (H : Hp) (D : Addr) (cl : List (Str × Addr)) (fp : List Addr), PE (X.blk s H scope (compEnvC scope cl D X.env) fp) elt (tV X C (bindR (wipeR ρ (own.map (·.2))) is ds') (RD X (f z)))))
    (hp : Post (.nx (ρ.set i (some (.own ((xs.filter q).map f)))))) (hlt : i < ρ.length := by exact Nat.le_of_ble_eq_true rfl) (hy : X.N[i]? = some y := by rfl) (hyl : X.env.scope.names.lookup y = some .local := by rfl)
    (hsw : swapsWith (.ListComp elt [⟨tg, iter, [c], 0⟩] scope pos) (some (.Name y py)) spos.line X.env = pure true := by exact sw_true rfl rfl rfl (by decide +kernel)) (hc : X.calm = true := by rfl) (hf : ∀ x, foldedSetIterable iter X.env x = pure x := by intro _; rfl) :
    HS X C ρ (.Assign [.Name y py] (.ListComp elt [⟨tg, iter, [c], 0⟩] scope pos) spos) Post :=
  hs_setLc (X := X) (q := q) (f := f) (ifs := [c]) (pos := pos) (elt := elt) i hi ok nd hg hsz hsub (fun z hz => by
    obtain ⟨ds', gb, ht, he⟩ := h z hz
    exact ⟨⟨ds', gb, fun s H D cl fp => pts_one (ht s H D cl fp), he⟩⟩) hp hlt hy hyl hsw hc hf
end
end FB
end

section
set_option Elab.async false
set_option linter.all false
set_option maxRecDepth 100000
set_option maxHeartbeats 4000000
/-! Dicts whose keys are nested tuples. -/
namespace FB
open PySem L2
mutual
theorem rp_nested {X : Cx} {pins : List (Addr × Obj)} {σ : St} {H : Hp} {s : Shared} (I : Inv X pins σ H s) : ∀ (d : PyData) {v : V} {u : Value}, Rp X.K H v d → RelV v u → NestedIs s.heap (nk d) u
  | .none, v, u, h, r => by simp only [Rp] at h; subst h; cases r; simp only [nk]; exact .none
  | .bool b, v, u, h, r => by simp only [Rp] at h; subst h; cases r; simp only [nk]; exact .bool rfl
  | .int i, v, u, h, r => by simp only [Rp] at h; subst h; obtain ⟨t, rfl⟩ := r; simp only [nk]; exact .int i t
  | .str x, v, u, h, r => by simp only [Rp] at h; subst h; obtain ⟨t, rfl⟩ := r; simp only [nk]; exact .text x t
  | .tuple ds, v, u, h, r => by
    simp only [Rp] at h
    obtain ⟨a, xs, rfl, hs, ha⟩ := h
    cases r
    obtain ⟨its, vs, ht, hz⟩ := I.tuple hs
    obtain ⟨o, e, hc, n, hd⟩ := ht
    simp only [nk]
    exact .tup e hc hd (by simpa using rps_nested I ds ha vs)
  | .list _, v, u, h, r => by simp only [Rp] at h
  | .dict _, v, u, h, r => by simp only [Rp] at h
theorem rps_nested {X : Cx} {pins : List (Addr × Obj)} {σ : St} {H : Hp} {s : Shared} (I : Inv X pins σ H s) : ∀ (ds : List PyData) {vs : List V} {us : List Value}, RpA X.K H vs ds → Vals vs us → NestedAll s.heap (nks ds) us
  | [], [], _, _, r => by cases r; simp only [nks]; exact .nil
  | [], _ :: _, _, h, _ => by simp only [RpA] at h
  | _ :: _, [], _, h, _ => by simp only [RpA] at h
  | d :: ds, v :: vs, _, h, r => by
    simp only [RpA] at h
    cases r with
    | cons r1 r2 => simp only [nks]; exact .cons (rp_nested I d h.1 r1) (rps_nested I ds h.2 r2)
end
def lookD (kvs : List (NestedKey × PyData)) (k : NestedKey) : Option PyData := (kvs.find? fun x => decide (x.1 = k)).map (·.2)
section
variable {X : Cx} {pins : List (Addr × Obj)} {σ : St} {H : Hp} {s : Shared} {p a : Addr} {xs : List (NestedKey × Addr × Value)} {kvs : List (NestedKey × PyData)} {d e : PyData}
theorem ent_is (I : Inv X pins σ H s) : ∀ {xs : List (NestedKey × Addr × Value)} {kvs : List (NestedKey × PyData)}, EntOk X.K H xs kvs → ∀ x ∈ xs, (nestedKind X.prog X.w).is s.heap x.1 x.2.1
  | [], [], _, _, hx => by cases hx
  | [], _ :: _, h, _, _ => h.elim
  | _ :: _, [], h, _, _ => h.elim
  | y :: ys, k :: ks, ⟨⟨_, ⟨d, e1, e2, r⟩, _⟩, t⟩, x, hx => by
    rcases List.mem_cons.mp hx with rfl | hx
    · exact ⟨by rw [← e1]; exact rp_nested I d r rfl, by rw [← e1]; exact e2⟩
    · exact ent_is I t x hx
theorem dict_of (I : Inv X pins σ H s) (h : H p = some (dctO X.prog X.w p xs)) (e : EntOk X.K H xs kvs) : s.heap.DictOfH (nestedKind X.prog X.w) p xs := by
  obtain ⟨⟨o, es, ep, h1, h2, h3, h4, h5⟩, _⟩ := I.hok p _ h
  exact ⟨o, es, ep, h1, h2, h3, h4, ent_is I e, h5⟩
theorem look_some {K : PySem.W.Frag} {k : NestedKey} : ∀ {xs : List (NestedKey × Addr × Value)} {kvs : List (NestedKey × PyData)} {d : PyData}, EntOk K H xs kvs → lookD kvs k = some d → ∃ q v, atKey xs k = some q ∧ RelV v q.2 ∧ Rp K H v d
  | [], [], _, _, h => by simp [lookD] at h
  | [], _ :: _, _, h, _ => h.elim
  | _ :: _, [], _, h, _ => h.elim
  | y :: ys, z :: ks, d, ⟨⟨e1, _, v, rv, r⟩, t⟩, h => by
    by_cases hk : z.1 = k
    · have hy : y.1 = k := e1.trans hk
      have e2 : d = z.2 := by simpa [lookD, List.find?_cons, hk] using h.symm
      subst e2
      exact ⟨y.2, v, by simp [atKey, List.find?_cons, hy], rv, r⟩
    · have hy : ¬ y.1 = k := fun q => hk (e1.symm.trans q)
      obtain ⟨q, u, e3, r1, r2⟩ := look_some t (d := d) (k := k) (by simpa [lookD, List.find?_cons, hk] using h)
      exact ⟨q, u, by simpa [atKey, List.find?_cons, hy] using e3, r1, r2⟩
theorem look_is {K : PySem.W.Frag} {k : NestedKey} : ∀ {xs : List (NestedKey × Addr × Value)} {kvs : List (NestedKey × PyData)}, EntOk K H xs kvs → (atKey xs k).isSome = (lookD kvs k).isSome
  | [], [], _ => rfl
  | [], _ :: _, h => h.elim
  | _ :: _, [], h => h.elim
  | y :: ys, z :: ks, ⟨⟨e1, _, v, rv, r⟩, t⟩ => by
    have ih := look_is t (k := k)
    by_cases hk : z.1 = k
    · have hy : y.1 = k := e1.trans hk
      simp [atKey, lookD, List.find?_cons, hk, hy]
    · have hy : ¬ y.1 = k := fun q => hk (e1.symm.trans q)
      simpa [atKey, lookD, List.find?_cons, hk, hy] using ih
theorem ent_snoc {K : PySem.W.Frag} {k : NestedKey} {u : Value} {v : V} (hd : nk d = k) (h8 : (nk d).depth ≤ 8) (ra : Rp K H (.ref a) d) (rv : RelV v u) (re : Rp K H v e) : ∀ {xs : List (NestedKey × Addr × Value)} {kvs : List (NestedKey × PyData)}, EntOk K H xs kvs → EntOk K H (xs ++ [(k, a, u)]) (kvs ++ [(k, e)])
  | [], [], _ => ⟨⟨rfl, ⟨d, hd, h8, ra⟩, v, rv, re⟩, True.intro⟩
  | [], _ :: _, h => h.elim
  | _ :: _, [], h => h.elim
  | y :: ys, z :: ks, ⟨h, t⟩ => ⟨h, ent_snoc hd h8 ra rv re t⟩
theorem ent_len {K : PySem.W.Frag} : ∀ {xs : List (NestedKey × Addr × Value)} {kvs : List (NestedKey × PyData)}, EntOk K H xs kvs → xs.length = kvs.length
  | [], [], _ => rfl
  | [], _ :: _, h => h.elim
  | _ :: _, [], h => h.elim
  | y :: ys, z :: ks, ⟨h, t⟩ => by rw [List.length_cons, List.length_cons, ent_len t]
/-- a datum is a dict, to be read -/
def RDc (X : Cx) (kvs : List (NestedKey × PyData)) : Hp → V → Prop := fun H v => ∃ a xs, v = .ref a ∧ (a == sysModules) = false ∧ H a = some (dctO X.prog X.w a xs) ∧ EntOk X.K H xs kvs
theorem RDc.stay : Stay (RDc X kvs) := fun H H' v s ⟨a, xs, e, m, h, r⟩ => ⟨a, xs, e, m, s _ _ h, EntOk.mono (Same.tle s) r⟩
/-- keys: tuples -/
def keyOk (d : PyData) : Prop := (nk d).depth ≤ 8 ∧ ∃ ds, d = .tuple ds
def rInD (X : Cx) (neg : Bool) : L2.R2 := fun x y H Q => ∃ d kvs, RDc X kvs H y ∧ Rp X.K H x d ∧ keyOk d ∧ Q (.bl (if neg then !(lookD kvs (nk d)).isSome else (lookD kvs (nk d)).isSome)) H
theorem op_inD (hu : X.A.units + 64 < cLine) : OpR X (compareOp .In) (rInD X false) := by
  intro pins s σ H x y v u Q I rx ry h
  obtain ⟨d, kvs, ⟨p, xs, rfl, hm, hp, he⟩, hx, ⟨h8, ds, rfl⟩, q⟩ := h
  obtain ⟨a, ws, rfl, hs, hr⟩ := Rp.tup_iff.mp hx
  have hn := rp_nested I (.tuple ds) hx rx
  cases rx
  cases ry
  have dk := dict_of I hp he
  exact in_keyed (knd := nestedKind X.prog X.w) (by show X.A.in1.units + 8 < cLine; rw [PySem.Around.in1_units]; omega) ⟨hn, h8⟩ hm ⟨xs, dk, rfl⟩ ⟨.bl _, H, I.kept (t' := s.toks + _) fun _ _ q => q, rfl, by
    have := look_is (k := nk (.tuple ds)) he
    rw [valueAt_pairsH, Option.isSome_map, this]; exact q⟩
theorem op_notInD (hu : X.A.units + 64 < cLine) : OpR X (compareOp .NotIn) (rInD X true) := by
  intro pins s σ H x y v u Q I rx ry h
  obtain ⟨d, kvs, ⟨p, xs, rfl, hm, hp, he⟩, hx, ⟨h8, ds, rfl⟩, q⟩ := h
  obtain ⟨a, ws, rfl, hs, hr⟩ := Rp.tup_iff.mp hx
  have hn := rp_nested I (.tuple ds) hx rx
  cases rx
  cases ry
  have dk := dict_of I hp he
  exact notIn_keyed (knd := nestedKind X.prog X.w) (by show X.A.in1.units + 8 < cLine; rw [PySem.Around.in1_units]; omega) ⟨hn, h8⟩ hm ⟨xs, dk, rfl⟩ ⟨.bl _, H, I.kept (t' := s.toks + _) fun _ _ q => q, rfl, by
    have := look_is (k := nk (.tuple ds)) he
    rw [valueAt_pairsH, Option.isSome_map, this]; exact q⟩
/-- d[k] -/
def rIxD (X : Cx) : L2.R2 := fun x y H Q => ∃ d kvs e, RDc X kvs H x ∧ Rp X.K H y d ∧ keyOk d ∧ lookD kvs (nk d) = some e ∧ ∀ v, Rp X.K H v e → Q v H
theorem ix_dictN (hu : X.A.units + 64 < cLine) : IxR X (rIxD X) := by
  intro value slice pins s σ H x y v u Q I rx ry h hsub
  obtain ⟨d, kvs, e, ⟨p, xs, rfl, hm, hp, he⟩, hy, ⟨h8, ds, rfl⟩, hl, q⟩ := h
  obtain ⟨a, ws, rfl, hs, hr⟩ := Rp.tup_iff.mp hy
  have hn := rp_nested I (.tuple ds) hy ry
  cases rx
  cases ry
  have dk := dict_of I hp he
  obtain ⟨b, z, e1, r1, r2⟩ := look_some he hl
  exact PyProof.Rows.subscriptTail_builtinR (x := b.2) dk.typeIs slot_dict_getitem.lookup
    (getItem_keyed (knd := nestedKind X.prog X.w) (Q := fun r s' => r = b.2 ∧ EP X pins σ Q r s') (by show X.A.in1.units + 8 < cLine; rw [PySem.Around.in1_units]; omega) ⟨hn, h8⟩ ⟨xs, dk, rfl⟩ (by rw [valueAt_pairsH, e1]; rfl) ⟨rfl, z, H, I.kept (t' := s.toks + _) (fun _ _ q => q), r1, q z r2⟩) hsub
/-- d[k] = e, a new key -/
def rSetD (X : Cx) : V → V → V → Hp → (Hp → Prop) → Prop := fun o i v H Q => ∃ p xs d kvs, o = .ref p ∧ (p == sysModules) = false ∧ H p = some (dctO X.prog X.w p xs) ∧ EntOk X.K H xs kvs ∧ Rp X.K H i d ∧ keyOk d ∧ lookD kvs (nk d) = none ∧ kvs.length ≤ sizeLine ∧
  ∀ a u, i = .ref a → RelV v u → Q (upd H p (dctO X.prog X.w p (xs ++ [(nk d, a, u)])))
theorem dctO_ok {P : Program} {w : World} {H : Hp} {h : Heap} (dk : h.DictOfH (nestedKind P w) p xs) : ObjOk P w H h p (dctO P w p xs) := by
  obtain ⟨o, es, ep, h1, h2, h3, h4, _, h5⟩ := dk
  refine ⟨⟨o, es, ep, h1, h2, h3, h4, h5⟩, ⟨o, h1⟩, ?_⟩
  rintro g1 g2 ⟨o, es, ep, h1, h2, h3, h4, h5⟩ k
  exact ⟨o, es, ep, k o h1, h2, h3, h4, h5⟩
theorem set_dictN (hu : X.A.units + 64 < cLine) : PSet X (rSetD X) := by
  intro pins s σ H o i v ov iv u Q I ro ri rv h
  obtain ⟨p, xs, d, kvs, rfl, hm, hp, he, hi, ⟨h8, ds, rfl⟩, hl, hz, q⟩ := h
  obtain ⟨a, ws, rfl, hs, hr⟩ := Rp.tup_iff.mp hi
  have hn := rp_nested I (.tuple ds) hi ri
  cases ro
  cases ri
  have dk := dict_of I hp he
  have e0 : atKey xs (nk (.tuple ds)) = none := by
    have := look_is (k := nk (.tuple ds)) he
    rw [hl] at this
    simpa using this
  refine wpAny_setItem_heap (knd := nestedKind X.prog X.w) (by show X.A.in1.units + 8 < cLine; rw [PySem.Around.in1_units]; omega) ⟨hn, h8⟩ dk (fun h' hd' hs' => ?_) (by rw [ent_len he]; exact hz)
  rw [storedH_new e0] at hd'
  have hq : ∃ q, h'.get? p = some q := let ⟨o, _, _, e, _⟩ := hd'; ⟨o, e⟩
  exact ⟨_, d_write I (by rw [hp]; exact True.intro) hs' hq (dctO_ok hd'), q a u rfl rv⟩
end
end FB
end

section
set_option Elab.async false
set_option linter.all false
set_option maxRecDepth 100000
set_option maxHeartbeats 4000000
/-! Dicts in frames. -/
namespace FB
open PySem L2
section
variable {P : Program} {w : World} {K : PySem.W.Frag} {C : Addr} {H₀ H₁ : Hp} {M : List Addr} {H H' : Hp} {ρ ρ' : Rho} {σ σ' : St} {v : V} {sl : Sl} {i : Nat} {a : Addr}
/-- an own dict is written -/
theorem Fr.writeD {ks ks' : List (NestedKey × PyData)} {xs' : List (NestedKey × Addr × Value)} (F : Fr P w K C H₀ M H ρ σ) (h : ρ[i]? = some (some (.dct ks))) (hs : σ[i]? = some (some (.ref a))) (r : ∀ H', TLe K H H' → EntOk K H' xs' ks') : Fr P w K C H₀ M (upd H a (dctO P w a xs')) (ρ.set i (some (.dct ks'))) σ := by
  obtain ⟨v, e, b, xs, e2, n, hm, hb, _⟩ := F.slot i _ h
  rw [hs] at e
  cases e
  cases e2
  have le : TLe K H (upd H a (dctO P w a xs')) := upd_tle (fun xs q => by rw [hb] at q; unfold dctO at q; cases q) fun o u q => by rw [hb] at q; unfold dctO at q; cases q
  have hi : i < ρ.length := (List.getElem?_eq_some_iff.mp h).1
  refine ⟨fun c o e z => ?_, by rw [List.length_set]; exact F.len, fun j s e => ?_, fun j k s t u hjk e1 e2 e3 e4 e5 e6 => ?_⟩
  · have : c ≠ a := fun q => by
      subst q
      rcases n with n | n
      · rw [e] at n; cases n
      · exact z n
    rw [upd_ne this]
    exact F.base c o e z
  · by_cases hj : j = i
    · subst hj
      rw [List.getElem?_set_self hi] at e
      cases e
      exact ⟨_, hs, a, xs', rfl, n, hm, upd_same, r _ le⟩
    · rw [List.getElem?_set_ne (Ne.symm hj)] at e
      obtain ⟨u, e1, ok⟩ := F.slot j s e
      refine ⟨u, e1, ?_⟩
      have ne : s.lst = true → u ≠ .ref a := fun hl q => F.apart i j _ s u (Ne.symm hj) h e rfl hl (by rw [q]; exact hs) e1
      cases s with
      | dat d => exact Rp.mono le d ok
      | rcv r =>
        obtain ⟨c, dx, x, y, e2, h1, h2⟩ := ok
        refine ⟨c, dx, x, y, e2, ?_, le _ _ h2⟩
        rw [upd_ne (ne_of h1 hb (by intro z; unfold dctO at z; cases z))]
        exact h1
      | rl ds =>
        obtain ⟨c, vs, rfl, h1, h2⟩ := ok
        have : c ≠ a := fun q => ne rfl (by rw [q])
        exact ⟨c, vs, rfl, by unfold Rd; rw [upd_ne this]; exact h1, RpA.mono le _ h2⟩
      | own ds =>
        obtain ⟨c, vs, rfl, n', h1, h2⟩ := ok
        have : c ≠ a := fun q => ne rfl (by rw [q])
        exact ⟨c, vs, rfl, n', by rw [upd_ne this]; exact h1, RpA.mono le _ h2⟩
      | dct kvs =>
        obtain ⟨c, xs, rfl, n', m, h1, h2⟩ := ok
        have : c ≠ a := fun q => ne rfl (by rw [q])
        exact ⟨c, xs, rfl, n', m, by rw [upd_ne this]; exact h1, EntOk.mono le h2⟩
      | dr P' w' kvs =>
        obtain ⟨c, xs, rfl, m, h1, h2⟩ := ok
        have : c ≠ a := fun q => ne rfl (by rw [q])
        exact ⟨c, xs, rfl, m, by rw [upd_ne this]; exact h1, EntOk.mono le h2⟩
      | prs c =>
        obtain ⟨rfl, n', x, y, z, h1⟩ := ok
        have : c ≠ a := fun q => ne rfl (by rw [q])
        exact ⟨rfl, n', x, y, z, by rw [upd_ne this]; exact h1⟩
      | kl ds =>
        obtain ⟨c, vs, e2, h1, h2⟩ := ok
        exact ⟨c, vs, e2, h1.keep fun o u q => by rw [upd_ne (ne_of q hb (by intro z; unfold dctO at z; cases z))]; exact q, RpA.mono le _ h2⟩
  · by_cases hj : j = i
    · subst hj
      rw [List.getElem?_set_ne hjk] at e2
      exact F.apart j k _ t u hjk h e2 rfl e4 e5 e6
    · rw [List.getElem?_set_ne (Ne.symm hj)] at e1
      by_cases hk : k = i
      · subst hk
        exact F.apart j k s _ u hjk e1 h e3 rfl e5 e6
      · rw [List.getElem?_set_ne (Ne.symm hk)] at e2
        exact F.apart j k s t u hjk e1 e2 e3 e4 e5 e6
end
section
variable {X : Cx} {C : Addr} {ρ : Rho} {e a b c : Expr} {d d' : PyData} {ds es : List PyData} {kvs : List (NestedKey × PyData)} {pos p p1 p2 p3 : Pos} {x : Str} {i j k : Nat} {rest : List Expr} {as : List Ar} {Post : Fl → Prop}
abbrev PDc (X : Cx) (C : Addr) (ρ : Rho) (e : Expr) (kvs : List (NestedKey × PyData)) : Prop := PE X e (tV X C ρ (RDc X kvs))
theorem pc_var (i : Nat) (h : ρ[i]? = some (some (.dct kvs)) ∨ ρ[i]? = some (some (.dr X.prog X.w kvs)) := by first | exact Or.inl rfl | exact Or.inr rfl) (hN : X.N[i]? = some x := by rfl) (hv : Vis X.env.scope x := by first | exact Or.inl rfl | exact Or.inr (Or.inl rfl) | exact Or.inr (Or.inr rfl)) (hd : (x == ("__debug__" : Str)) = false := by decide)
    (hcd : (x == ("__classdict__" : Str)) = false := by decide) : PDc X C ρ (.Name x pos) kvs := (pe_var hN hv hd hcd).weak fun σ H Q ⟨H₀, M, F, q⟩ => by
  rcases h with h | h
  · obtain ⟨v, e, a, xs, rfl, n, m, h1, h2⟩ := F.slot i _ h
    exact ⟨_, e, q _ H (Same.refl H) ⟨a, xs, rfl, m, h1, h2⟩⟩
  · obtain ⟨v, e, a, xs, rfl, m, h1, h2⟩ := F.slot i _ h
    exact ⟨_, e, q _ H (Same.refl H) ⟨a, xs, rfl, m, h1, h2⟩⟩
theorem pq_inD (hu : X.A.units + 64 < cLine) (ha : PD X C ρ a d) (hb : PDc X C ρ b kvs) (hk : keyOk d) (hm : behindInMarks .In b = false := by rfl) : PQ X C ρ (.Compare a [.In] [b] pos) (lookD kvs (nk d)).isSome :=
  pq_cmp (op_inD hu) ha hb RD.stay hm fun x y H Q h1 h2 q => ⟨d, kvs, h2, h1, hk, q⟩
theorem pq_notInD (hu : X.A.units + 64 < cLine) (ha : PD X C ρ a d) (hb : PDc X C ρ b kvs) (hk : keyOk d) (hm : behindInMarks .NotIn b = false := by rfl) : PQ X C ρ (.Compare a [.NotIn] [b] pos) (!(lookD kvs (nk d)).isSome) :=
  pq_cmp (op_notInD hu) ha hb RD.stay hm fun x y H Q h1 h2 q => ⟨d, kvs, h2, h1, hk, q⟩
theorem pd_ixD (hu : X.A.units + 64 < cLine) (ha : PDc X C ρ a kvs) (hb : PD X C ρ b d) (hk : keyOk d) (h : lookD kvs (nk d) = some d') (hs : PlainIx b := by exact fun _ _ => rfl) : PD X C ρ (.Subscript a b pos) d' := (pe_ix (ix_dictN hu) ha hb hs).weak fun σ H Q ⟨H₀, M, F, q⟩ =>
  ⟨H₀, M, F, fun x H1 s1 r1 => ⟨H₀, M, F.same s1, fun y H2 s2 r2 => ⟨d, kvs, d', RDc.stay _ _ _ s2 r1, r2, hk, h, fun v r3 => q v H2 (s1.trans s2) r3⟩⟩⟩
theorem ga_c (h : PDc X C ρ e kvs) (t : PGs' X C ρ rest as) (hs : starEach (e :: rest) X.env = (false, eval e X.env) :: starEach rest X.env := by rfl) : PGs' X C ρ (e :: rest) (.dct X.prog X.w kvs :: as) := ga_cons (ar := .dct X.prog X.w kvs) h t hs
/-- d[b] = e, a new key of an own dict -/
theorem hs_setD (i : Nat) {ps : Pos} (hu : X.A.units + 64 < cLine) (h : ρ[i]? = some (some (.dct kvs))) (he : PD X C ρ e d') (hb : PD X C ρ b d) (hk : keyOk d) (hn : lookD kvs (nk d) = none) (hz : kvs.length ≤ sizeLine) (hp : Post (.nx (ρ.set i (some (.dct (kvs ++ [(nk d, d')])))))) (hN : X.N[i]? = some x := by rfl) (hv : Vis X.env.scope x := by first | exact Or.inl rfl | exact Or.inr (Or.inl rfl) | exact Or.inr (Or.inr rfl)) (hd : (x == ("__debug__" : Str)) = false := by decide) (hcd : (x == ("__classdict__" : Str)) = false := by decide)
    (ha : ∀ v, assign (.Subscript (.Name x p1) b ps) X.env v = (do
      let ov ← holding [v] (eval (.Name x p1) X.env)
      let iv ← holding [v, ov] (eval b X.env)
      standAt ps
      holding [v, ov, iv] (setItem ov iv v)
      release [v, ov, iv] []) := by intro _; rfl)
    (hs : swapsWithSole [.Subscript (.Name x p1) b ps] e pos.line X.env = pure false := by rfl) (hw : swappedStores [.Subscript (.Name x p1) b ps] e X.env = pure none := by rfl)
    (h1 : (assignEach [.Subscript (.Name x p1) b ps] X.env).map (·.2) = [assign (.Subscript (.Name x p1) b ps) X.env] := by rfl) : HS X C ρ (.Assign [.Subscript (.Name x p1) b ps] e pos) Post :=
  (ps_asg he (pg_sub (pe_var hN hv hd hcd) hb (set_dictN hu) ha) hs hw h1).weak fun D σ H ⟨H₀, M, F, nn, _⟩ =>
  ⟨H₀, M, F, fun u H1 s1 hu => by
    obtain ⟨v, e1, a, xs, rfl, n1, m, h2, h3⟩ := (F.same s1).slot i _ h
    refine ⟨_, e1, H₀, M, F.same s1, fun z H2 s2 hz2 => ⟨a, xs, d, kvs, rfl, m, s2 _ _ h2, EntOk.mono (Same.tle s2) h3, hz2, hk, hn, hz, fun ak uk hzk huk => ?_⟩⟩
    subst hzk
    exact nn _ _ _ hp (((F.same s1).same s2).writeD h e1 fun H' le => ent_snoc rfl hk.1 (Rp.mono le _ hz2) huk (Rp.mono le _ (Rp.mono (Same.tle s2) _ hu)) (EntOk.mono le (EntOk.mono (Same.tle s2) h3)))⟩
/-- {k: v} -/
theorem dict_pairs {prog : Program} {w : World} {κ : Type} [DecidableEq κ] {knd : HeapKind prog w κ} {A : Around} {E : Value → Shared → Prop} {s : Shared} {env : Env} {keys : List (Option Expr)} {values : List Expr} {pos : Pos} {pairs : List (Sem Value × Sem Value)} {Q : Value → Shared → Prop} (hu : knd.room A)
    (hshape : (evalEachOpt keys env).zip ((evalEach values env).map fun v => do let x ← v; standAt pos; pure x) = pairs.map fun p => (some p.1, p.2)) (h0 : pairs ≠ []) (hlen : pairs.length ≤ 15)
    (h : wpAny (model prog w) A (evalPairs pairs) (fun vs s₁ => ∃ ps, CarriesH knd s₁.heap vs ps ∧ s₁.heap.DictOfH knd s.heap.objs.size [] ∧
      ∀ h' tk, h'.DictOfH knd s.heap.objs.size (storedAllH [] ps) → Heap.SameBut s.heap.objs.size s₁.heap h' → Q (.ref s.heap.objs.size) { s₁ with heap := h', toks := tk }) E
      { s with heap := s.heap.push { cls := .type "dict", data := .dict #[] } }) :
    wpAny (model prog w) A (eval (.Dict keys values pos) env) Q E s := by
  rw [arm_eval_Dict, hshape, dictDisplay_pairs pairs h0 (by omega)]
  exact wpAny_bind (wpAny_standAt (wpAny_bind (wpAny_subDictH (knd := knd) (Q := fun d s' => wpAny (model prog w) A (pure (Value.ref d)) Q E s') hu hlen
    (wpAny_mono h (fun vs s₁ h₁ => by obtain ⟨ps, hc, hm, hq⟩ := h₁; exact ⟨ps, hc, hm, fun h' tk a b => wpAny_pure (hq h' tk a b)⟩) fun _ _ e => e))))
def tDisp1 (X : Cx) (tk tv : TE) : TE := fun σ H Q => ∀ p, H p = none → tk σ (upd H p (dctO X.prog X.w p [])) fun z H1 => tv σ H1 fun u H2 => H2 p = some (dctO X.prog X.w p []) ∧ ∃ d, Rp X.K H2 z d ∧ keyOk d ∧
  ((p == sysModules) = false → ∀ b y, z = .ref b → RelV u y → Q (.ref p) (upd H2 p (dctO X.prog X.w p [(nk d, b, y)])))
theorem pe_disp1 {tk tv : TE} (hu : X.A.units + 64 < cLine) (hk : PE X a tk) (hv : PE X b tv) : PE X (.Dict [some a] [b] pos) (tDisp1 X tk tv) := by
  refine ⟨fun pins s σ H Q I q => ?_⟩
  have hn := I.hok.fresh (Nat.le_refl s.heap.objs.size)
  have hsys : (s.heap.objs.size == sysModules) = false := beq_eq_false_iff_ne.mpr (Ne.symm (Nat.ne_of_lt I.big))
  have I1 := I.laid (a := s.heap.objs.size) (o := dctO X.prog X.w s.heap.objs.size []) (h' := s.heap.push { cls := .type "dict", data := .dict #[] }) (t' := s.toks) (fun _ _ q => Heap.get?_push_of_some _ q) (Nat.le_refl _) (dctO_ok (Heap.DictOfH.new s.heap))
  refine dict_pairs (knd := nestedKind X.prog X.w) (pairs := pairTrees [some a] [b] X.env pos) (by show X.A.units + 8 < cLine; omega) (zip_pairTrees [some a] [b] X.env pos rfl rfl) (by intro z; have := pairTrees_length [some a] [b] X.env pos rfl rfl; rw [z] at this; simp at this) (by rw [pairTrees_length [some a] [b] X.env pos rfl rfl]; simp) ?_
  refine pairTrees_cons_walk (thn (hk.run pins _ σ _ _ I1 (q _ hn)) fun kv s1 ⟨z, H1, J1, rz, q1⟩ => thn (hv.run pins s1 σ H1 _ J1 q1) fun vv s2 ⟨u, H2, J2, ru, hp, d, hz, ⟨h8, ds, hds⟩, q2⟩ => pairTrees_nil_walk ?_)
  subst hds
  obtain ⟨kb, ws, hzr, hs, hr⟩ := Rp.tup_iff.mp hz
  subst hzr
  have hnk := rp_nested J2 (.tuple ds) hz rz
  cases rz
  have dk : s2.heap.DictOfH (nestedKind X.prog X.w) s.heap.objs.size [] := dict_of (kvs := []) J2 hp True.intro
  refine ⟨[(nk (.tuple ds), kb, vv)], ⟨rfl, rfl, ⟨hnk, h8⟩, True.intro⟩, dk, fun h' tk hd' hs' => ?_⟩
  have he : ∃ q, h'.get? s.heap.objs.size = some q := let ⟨o, _, _, e, _⟩ := hd'; ⟨o, e⟩
  exact ⟨.ref s.heap.objs.size, _, d_write J2 (by rw [hp]; exact True.intro) hs' he (dctO_ok hd'), rfl, q2 hsys kb vv rfl ru⟩
theorem nw_c (hu : X.A.units + 64 < cLine) (hk : PD X C ρ a d) (hv : PD X C ρ b d') (ok : keyOk d) : PWn X C ρ (.Dict [some a] [b] pos) (.dct [(nk d, d')]) := (pe_disp1 hu hk hv).weak fun σ H Q ⟨H₀, M, F, q⟩ p hp =>
  ⟨H₀, M, F.same (same_new hp), fun z H1 s1 r1 => ⟨H₀, M, (F.same (same_new hp)).same s1, fun u H2 s2 r2 => ⟨(s1.trans s2) _ _ upd_same, d, Rp.mono (Same.tle s2) _ r1, ok, fun hm bk y hz hy => by
    subst hz
    have h0 : H2 p = some (dctO X.prog X.w p []) := (s1.trans s2) _ _ upd_same
    have s3 : Same H (upd H2 p (dctO X.prog X.w p [(nk d, bk, y)])) := fun c o e => by
      rw [upd_ne (ne_of_none e hp)]
      exact ((same_new hp).trans (s1.trans s2)) c o e
    have le : TLe X.K H2 (upd H2 p (dctO X.prog X.w p [(nk d, bk, y)])) := upd_tle (fun xs q => by rw [h0] at q; unfold dctO at q; cases q) fun o u q => by rw [h0] at q; unfold dctO at q; cases q
    exact q _ _ s3 ⟨p, _, rfl, hp, hm, upd_same, ⟨⟨rfl, ⟨d, rfl, ok.1, Rp.mono le _ (Rp.mono (Same.tle s2) _ r1)⟩, u, hy, Rp.mono le _ r2⟩, True.intro⟩⟩⟩⟩⟩
end
end FB
end

section
set_option Elab.async false
set_option linter.all false
set_option maxRecDepth 100000
set_option maxHeartbeats 4000000
/-! Purses: lists of three whole numbers that a called def changes. -/
namespace FB
open PySem L2
section
variable {P : Program} {w : World} {K : PySem.W.Frag} {C : Addr} {H₀ H₁ : Hp} {M : List Addr} {H H' H2 : Hp} {ρ ρ' : Rho} {σ σ' : St} {v : V} {sl : Sl} {i : Nat} {a : Addr}
theorem Keep.trans {N : List Addr} (h : Keep N H H') (h' : Keep N H' H2) : Keep N H H2 := fun b o e z => h' b o (h b o e z) z
theorem Keep.of {N : List Addr} (s : Same H H') : Keep N H H' := fun b o e _ => s b o e
theorem keep_tle (k : Keep [a] H H') (h : three H a) : TLe K H H' := fun b xs hb => by
  obtain ⟨x, y, z, h⟩ := h
  rcases hb with (hb | ⟨o, hb⟩) | hb
  · exact .inl (.inl (k b _ hb (by simp only [List.mem_singleton]; rintro rfl; rw [h] at hb; cases hb)))
  · exact .inl (.inr ⟨o, k b _ hb (by simp only [List.mem_singleton]; rintro rfl; rw [h] at hb; cases hb)⟩)
  · exact .inr hb
/-- the purse has changed -/
theorem Fr.prs (F : Fr P w K C H₀ M H ρ σ) (h : ρ[i]? = some (some (.prs a))) (k : Keep [a] H H') (t : three H' a) : Fr P w K C H₀ M H' ρ σ := by
  obtain ⟨v, e, rfl, n, th⟩ := F.slot i _ h
  have le : TLe K H H' := keep_tle k th
  have keep : ∀ b o, H b = some o → b ≠ a → H' b = some o := fun b o q hb => k b o q (by simpa using hb)
  refine ⟨fun b o q z => ?_, F.len, fun j s q => ?_, F.apart⟩
  · have hb : b ≠ a := by
      rintro rfl
      rcases n with n | n
      · rw [q] at n; cases n
      · exact z n
    exact keep b o (F.base b o q z) hb
  · by_cases hj : j = i
    · subst hj
      rw [h] at q
      cases q
      exact ⟨_, e, rfl, n, t⟩
    · obtain ⟨u, e1, ok⟩ := F.slot j s q
      refine ⟨u, e1, ?_⟩
      have ne : s.lst = true → u ≠ .ref a := fun hl q' => F.apart i j _ s u (Ne.symm hj) h q rfl hl (by rw [q']; exact e) e1
      cases s with
      | dat d => exact Rp.mono le d ok
      | rcv r =>
        obtain ⟨c, dx, x, y, e2, h1, h2⟩ := ok
        obtain ⟨x', y', z', th'⟩ := th
        exact ⟨c, dx, x, y, e2, keep _ _ h1 (ne_of h1 th' (by intro z; cases z)), le _ _ h2⟩
      | rl ds =>
        obtain ⟨c, vs, rfl, h1, h2⟩ := ok
        have : c ≠ a := fun q => ne rfl (by rw [q])
        exact ⟨c, vs, rfl, h1.elim (fun q => .inl (keep _ _ q this)) (fun ⟨o, q⟩ => .inr ⟨o, keep _ _ q this⟩), RpA.mono le _ h2⟩
      | own ds =>
        obtain ⟨c, vs, rfl, n', h1, h2⟩ := ok
        have : c ≠ a := fun q => ne rfl (by rw [q])
        exact ⟨c, vs, rfl, n', keep _ _ h1 this, RpA.mono le _ h2⟩
      | dct kvs =>
        obtain ⟨c, xs, rfl, n', m, h1, h2⟩ := ok
        have : c ≠ a := fun q => ne rfl (by rw [q])
        exact ⟨c, xs, rfl, n', m, keep _ _ h1 this, EntOk.mono le h2⟩
      | dr P' w' kvs =>
        obtain ⟨c, xs, rfl, m, h1, h2⟩ := ok
        have : c ≠ a := fun q => ne rfl (by rw [q])
        exact ⟨c, xs, rfl, m, keep _ _ h1 this, EntOk.mono le h2⟩
      | prs c =>
        obtain ⟨rfl, n', x, y, z, h1⟩ := ok
        have : c ≠ a := fun q => ne rfl (by rw [q])
        exact ⟨rfl, n', x, y, z, keep _ _ h1 this⟩
      | kl ds =>
        obtain ⟨c, vs, e2, h1, h2⟩ := ok
        obtain ⟨x', y', z', th'⟩ := th
        exact ⟨c, vs, e2, h1.keep fun o u q => keep _ _ q (ne_of q th' (by intro z; cases z)), RpA.mono le _ h2⟩
theorem Fr.three (F : Fr P w K C H₀ M H ρ σ) (h : ρ[i]? = some (some (.prs a))) : three H a := let ⟨_, _, _, _, t⟩ := F.slot i _ h; t
end
theorem three.same {H H' : Hp} {a : Addr} (h : three H a) (s : Same H H') : three H' a := let ⟨x, y, z, q⟩ := h; ⟨x, y, z, s _ _ q⟩
/-- an expression that may change the purse at a -/
def tF (X : Cx) (C : Addr) (ρ : Rho) (a : Addr) (R : PyData → Prop) : TE := fun σ H Q => ∃ H₀ M, Fr X.prog X.w X.K C H₀ M H ρ σ ∧ ∀ v d H', Keep [a] H H' → three H' a → R d → Rp X.K H' v d → Q v H'
abbrev PF (X : Cx) (C : Addr) (ρ : Rho) (a : Addr) (e : Expr) (R : PyData → Prop) : Prop := PE X e (tF X C ρ a R)
def spP (K : PySem.W.Frag) (C : Addr) (Pre : List Ar → (PyData → Prop) → Prop) : Sp := fun vs H Q _ => ∃ a us as R, vs = .ref a :: us ∧ three H a ∧ ArsOk K C H us as ∧ Pre as R ∧ ∀ v d H', Keep [a] H H' → three H' a → R d → Rp K H' v d → Q v H'
/-- a def whose first argument is a purse -/
def DfP (P : Program) (w : World) (K : PySem.W.Frag) (mg : Str → Option Value) (base : Heap) (C : Addr) (x : Str) (k : Nat) (Pre : List Ar → (PyData → Prop) → Prop) : Prop :=
  ∃ f fd ps, mg x = some (.ref f) ∧ PySem.W.keepIn K (.ref f) = true ∧ Binds K fd ps [] ∧ FnOk P w K mg base CX0 k f fd ps (spP K C Pre)
section
variable {X : Cx} {C : Addr} {ρ : Rho} {e c b : Expr} {es' rest : List Expr} {d d' : PyData} {ds es : List PyData} {a : Addr} {i j k : Nat} {pos p p1 p2 : Pos} {x y : Str} {R R' : PyData → Prop} {as : List Ar} {Post : Fl → Prop}
theorem pf_of (i : Nat) (h : PD X C ρ e d) (hi : ρ[i]? = some (some (.prs a))) (r : R d) : PF X C ρ a e R := h.weak fun σ H Q ⟨H₀, M, F, q⟩ => ⟨H₀, M, F, fun v H' s rv => q v d H' (Keep.of s) ((F.three hi).same s) r rv⟩
theorem pf_imp (h : PF X C ρ a e R) (k : ∀ d, R d → R' d) : PF X C ρ a e R' := h.weak fun σ H Q ⟨H₀, M, F, q⟩ => ⟨H₀, M, F, fun v d H' s t r rv => q v d H' s t (k d r) rv⟩
theorem pf_call (i : Nat) {Pre : List Ar → (PyData → Prop) → Prop} (G : DfP X.prog X.w X.K X.mg X.base C x k Pre) (hr : Room k X.A) (hi : ρ[i]? = some (some (.prs a))) (ha : PGs' X C ρ es' as) (hp : Pre as R) (hN : X.N[i]? = some y := by rfl) (hv : Vis X.env.scope y := by first | exact Or.inl rfl | exact Or.inr (Or.inl rfl) | exact Or.inr (Or.inr rfl)) (hd : (y == ("__debug__" : Str)) = false := by decide)
    (hcd : (y == ("__classdict__" : Str)) = false := by decide) (hg : Gl X x := by rfl) (hdb : (x == ("__debug__" : Str)) = false := by decide)
    (he : starEach (.Name y p1 :: es') X.env = (false, eval (.Name y p1) X.env) :: starEach es' X.env := by rfl) (hpl : (backTo pos (starEach es' X.env)).any (·.1) = false := by rfl) : PF X C ρ a (.Call (.Name x p) (.Name y p1 :: es') [] pos) R := by
  obtain ⟨f, fd, ps, hm, hk, hb, F⟩ := G
  exact (pe_call F hr hg hm hk hb .nil pass0 (pa_cons (pe_var hN hv hd hcd) ha he) hdb he hpl).weak fun σ H Q ⟨H₀, M, F, q⟩ => by
    obtain ⟨v, e, rfl, n, th⟩ := F.slot i _ hi
    refine ⟨_, e, H₀, M, F, fun us H1 s1 r1 => ?_⟩
    show spP X.K C Pre ((.ref a :: us) ++ []) H1 Q E0
    rw [List.append_nil]
    exact ⟨a, us, as, R, rfl, th.same s1, r1, hp, fun v d H' kp t r rv => q v d H' (Keep.trans (Keep.of s1) kp) t r rv⟩
/-- a call with a new purse -/
theorem pd_callN {Pre : List Ar → (PyData → Prop) → Prop} {n1 n2 n3 : Int} (G : DfP X.prog X.w X.K X.mg X.base C x k Pre) (hr : Room k X.A) (hn : PN X C ρ e [.int n1, .int n2, .int n3]) (hp : Pre [] (fun d' => d' = d)) (hg : Gl X x := by rfl) (hdb : (x == ("__debug__" : Str)) = false := by decide)
    (he : starEach [e] X.env = (false, eval e X.env) :: starEach [] X.env := by rfl) (hpl : (backTo pos (starEach [] X.env)).any (·.1) = false := by rfl) : PD X C ρ (.Call (.Name x p) [e] [] pos) d := by
  obtain ⟨f, fd, ps, hm, hk, hb, F⟩ := G
  exact (pe_call F hr hg hm hk hb .nil pass0 (pa_cons hn pa_nil he) hdb he hpl).weak fun σ H Q ⟨H₀, M, F, q⟩ => ⟨H₀, M, F, fun a vs H1 s1 hna h1 h2 => by
    show spP X.K C Pre ([.ref a] ++ []) H1 Q E0
    have e1 : vs = [.int n1, .int n2, .int n3] := RpA.ints_iff (ns := [n1, n2, n3]).mp h2
    subst e1
    refine ⟨a, [], [], _, rfl, ⟨n1, n2, n3, h1⟩, True.intro, hp, fun v d' H' kp t r rv => q v H' (fun b o hb => kp b o (s1 b o hb) (by simp only [List.mem_singleton]; rintro rfl; rw [hna] at hb; cases hb)) ?_⟩
    subst r
    exact rv⟩
/-- x = e -/
theorem hs_setF (i j : Nat) (nd : X.N.Nodup) (hj : ρ[j]? = some (some (.prs a))) (h : PF X C ρ a e R) (hp : ∀ d, R d → Post (.nx (ρ.set i (some (.dat d))))) (hlt : i < ρ.length := by exact Nat.le_of_ble_eq_true rfl) (hi : X.N[i]? = some x := by rfl) (hx : Loc X.env.scope x := by first | exact Or.inl rfl | exact Or.inr rfl) (hs : swapsWith e (some (.Name x p)) pos.line X.env = pure false := by rfl)
    (hf : X.fn x = true ∨ X.env.scope.names.lookup x = some .local := by first | exact .inl rfl | exact .inr rfl) : HS X C ρ (.Assign [.Name x p] e pos) Post := (ps_set nd hi hx h hs hf).weak fun D σ H ⟨H₀, M, F, n, _⟩ =>
  ⟨H₀, M, F, fun v d H' kp t r hv => n _ _ H' (hp d r) ((F.prs hj kp t).set hlt hv rfl)⟩
/-- return e; a is the purse -/
theorem hs_retF (h : PF X C ρ a e R) (hp : ∀ d, R d → Post (.rt (.datP a d))) (hj : ∃ j : Nat, ρ[j]? = some (some (.prs a))) : HS X C ρ (.Return (some e) pos) Post := (ps_ret h).weak fun D σ H ⟨H₀, M, F, _, _, _, rt⟩ => ⟨H₀, M, F, fun v d H' kp t r hv => by
  obtain ⟨j, hj⟩ := hj
  exact rt (.datP a d) v H' (hp d r) (F.prs hj kp t).base ⟨hv, t⟩⟩
end
end FB
end

section
set_option Elab.async false
set_option linter.all false
set_option maxRecDepth 100000
set_option maxHeartbeats 4000000
/-! blocks_of, merged, block_with, wanted. -/
namespace FB
open PySem L2
theorem atI_lastD {β : Type} {l : List β} {z : β} {enc : β → PyData} (h : l.getLast? = some z) : atI (l.map enc) (-1) = some (enc z) := by
  obtain ⟨l', rfl⟩ : ∃ l', l = l' ++ [z] := by
    have := List.getLast?_eq_some_iff.mp h
    exact this
  rw [List.map_append]
  exact atI_last _ _
theorem ixN_last {n : Nat} (h : 0 < n) : ixN n (-1) = some (n - 1) := by
  unfold ixN
  rw [if_neg (by omega), if_pos (by omega)]
  congr 1
  omega
theorem set_lastD {β : Type} {l : List β} {z y : β} (h : l.getLast? = some z) : l.set (l.length - 1) y = l.dropLast ++ [y] := by
  obtain ⟨l', rfl⟩ : ∃ l', l = l' ++ [z] := List.getLast?_eq_some_iff.mp h
  rw [List.dropLast_concat, List.length_append, List.length_singleton, Nat.add_sub_cancel, List.set_append_right _ _ (Nat.le_refl _), Nat.sub_self]
  rfl
theorem sz_le {n : Nat} (h : n ≤ 16000000) : n ≤ sizeLine := by rw [sizeLine_eq]; omega
theorem sz_lt {n : Nat} (h : n ≤ 16000000) : n < sizeLine := by rw [sizeLine_eq]; omega
theorem mergeStep_len (found : List FM.Blk) (b : FM.Blk) : (FM.mergeStep found b).length ≤ found.length + 1 := by
  unfold FM.mergeStep
  split
  · simp
  · split
    · simp [List.length_dropLast] <;> omega
    · simp
theorem foldl_len {α β : Type} {f : List β → α → List β} (h : ∀ l a, (f l a).length ≤ l.length + 1) : ∀ (xs : List α) (l : List β), (xs.foldl f l).length ≤ l.length + xs.length
  | [], l => by simp
  | x :: xs, l => by
    have := foldl_len h xs (f l x)
    have := h l x
    simp only [List.foldl_cons, List.length_cons]
    omega
def preMerged : List Ar → Rt → Prop := fun as r => ∃ bs : List FM.Blk, as = [.lst (bs.map bD)] ∧ bs.length ≤ 1000 ∧ r = .dat (bsD (FM.mergedM bs))
def preBlocksOf : List Ar → Rt → Prop := fun as r => ∃ ns : List Int, as = [.dat (.tuple (ns.map .int))] ∧ ns.length ≤ 1000 ∧ r = .dat (bsD (FM.blocksM ns))
section
variable {P : Program} {w : World} {K : PySem.W.Frag} {mg : Str → Option Value} {base : Heap} {C : Addr}
theorem df_merged (A : FnAt K mg "merged" s_merged) (T : Tx K mg C) : Df P w K mg base C "merged" 1 preMerged := by
  refine df_of A sc_merged (fun as r h => ?_) (fun _ _ _ _ _ _ us hl => match us, hl with | [_], _ => rfl) (fun f cdv A outer s H E hr as r h => ?_)
  · obtain ⟨bs, rfl, _⟩ := h; rfl
  · obtain ⟨bs, rfl, hz, rfl⟩ := h
    have nd := sc_merged.nd
    refine hss_cons (hs_setN 1 nd (pn_lst pds_nil) ?_)
    have hlen : (FM.sortP bs).length = bs.length := by unfold FM.sortP; rw [List.length_mergeSort]
    refine hss_cons (hs_for (xs := FM.sortP bs) (enc := bD) (is := [2, 3]) (pis_new (pn_sortP T.sorted_ (ps_list (pl_var 0)) hr.units)) (pg_tup rfl (pgs_cons (pg_name (i := 2) nd rfl (.inl rfl)) (pgs_cons (pg_name (i := 3) nd rfl (.inl rfl)) pgs_nil)))
      (fun i ρ => ∃ u v, ρ = [some (.rl (bs.map bD)), some (.own ((((FM.sortP bs).take i).foldl FM.mergeStep []).map bD)), u, v]) ⟨none, none, rfl⟩ (fun i z ρ' hz' hR => ?_) (fun ρ' hR => ?_))
    · obtain ⟨u, v, rfl⟩ := hR
      have hi : i < bs.length := by rw [← hlen]; exact (List.getElem?_eq_some_iff.mp hz').1
      refine ⟨[.int z.1, .int z.2], gb_tup, by simp, ?_⟩
      have hfold : (((FM.sortP bs).take (i + 1)).foldl FM.mergeStep []) = FM.mergeStep (((FM.sortP bs).take i).foldl FM.mergeStep []) z := by
        rw [List.take_add_one, hz', Option.toList_some, List.foldl_append]; rfl
      rw [hfold]
      generalize hacc : ((FM.sortP bs).take i).foldl FM.mergeStep [] = acc
      have hal : acc.length ≤ i := by
        have := foldl_len mergeStep_len ((FM.sortP bs).take i) []
        rw [hacc, List.length_take] at this
        simp only [List.length_nil] at this
        omega
      show HSs _ C [some (.rl (bs.map bD)), some (.own (acc.map bD)), some (.dat (.int z.1)), some (.dat (.int z.2))] _ _
      have hne : ∀ l, acc.getLast? = some l → 0 < (acc.map bD).length := fun l hl => by
        cases acc with
        | nil => simp at hl
        | cons a t => simp
      refine hss_cons (hs_if (k1 := !(acc.map bD).isEmpty && (match acc.getLast? with | some l => decide (z.1 ≤ l.2) | none => false)) (pq_w (pw_and' (pq_list (pl_var 1)) fun h => ?_)) (fun h => ?_) fun h => ?_)
      · cases hl : acc.getLast? with
        | none =>
          have : acc = [] := List.getLast?_eq_none_iff.mp hl
          subst this
          simp at h
        | some l => exact pw_and1' (pq_le (pd_var 2) (pd_ixT (pd_ixL (d := bD l) (pl_var 1) (pd_neg pd_int) (atI_lastD hl)) pd_int))
      · cases hl : acc.getLast? with
        | none => rw [hl] at h; simp at h
        | some l =>
          refine hss_cons (hs_setI (m := (acc.map bD).length - 1) 1 rfl (pd_tup (pds_cons (pd_ixT (pd_ixL (d := bD l) (pl_var 1) (pd_neg pd_int) (atI_lastD hl)) pd_int) (pds_cons (pd_max2 rfl T.max_ (pd_ixT (pd_ixL (d := bD l) (pl_var 1) (pd_neg pd_int) (atI_lastD hl)) pd_int) (pd_var 3)) pds_nil))) (pd_neg pd_int) (ixN_last (hne l hl)) (hss_nil (hss_nil ?_)))
          refine ⟨some (.dat (.int z.1)), some (.dat (.int z.2)), ?_⟩
          rw [hl] at h
          have h2 : z.1 ≤ l.2 := by simp at h; exact h.2
          have e : FM.mergeStep acc z = acc.dropLast ++ [(l.1, if z.2 > l.2 then z.2 else l.2)] := by unfold FM.mergeStep; rw [hl]; simp only [h2, if_true]
          rw [e, List.length_map]
          have e2 : (acc.map bD).set (acc.length - 1) (.tuple [.int l.1, .int (if z.2 > l.2 then z.2 else l.2)]) = (acc.dropLast ++ [(l.1, if z.2 > l.2 then z.2 else l.2)]).map bD := by
            rw [← set_lastD hl, List.map_set]; rfl
          rw [← e2]
          rfl
      · refine hss_cons (hs_app 1 rfl (pe_bm PySem.F.plainAttrs_list PySem.F.slot_list_append PySem.F.type_list_append mt_append (pv 1) (pa_cons (pd_tup (pds_cons (pd_var 2) (pds_cons (pd_var 3) pds_nil))) pa_nil)) (sz_lt (by rw [List.length_map]; omega)) (hss_nil (hss_nil ?_)))
        refine ⟨some (.dat (.int z.1)), some (.dat (.int z.2)), ?_⟩
        have e : FM.mergeStep acc z = acc ++ [z] := by
          unfold FM.mergeStep
          cases hl : acc.getLast? with
          | none => rfl
          | some l =>
            rw [hl] at h
            have h0 := hne l hl
            have h2 : ¬ z.1 ≤ l.2 := by
              intro q
              have h3 : (acc.map bD).isEmpty = false := by cases acc <;> simp at h0 ⊢
              rw [h3] at h
              simp [q] at h
            simp only [h2, if_false]
        rw [e, List.map_append]
        rfl
    · obtain ⟨u, v, rfl⟩ := hR
      rw [List.take_length]
      exact hss_cons (hs_ret (pd_toTup T.tuple_ (pl_var 1)) rfl)
end
end FB
end

section
set_option Elab.async false
set_option linter.all false
set_option maxRecDepth 100000
set_option maxHeartbeats 4000000
/-! blocks_of, block_with, wanted. -/
namespace FB
open PySem L2
theorem findSome_at {α β : Type} {f : α → Option β} {b : β} {a : α} : ∀ {l : List α} {i : Nat}, (l.take i).findSome? f = none → l[i]? = some a → f a = some b → l.findSome? f = some b
  | [], _, _, h, _ => by simp at h
  | x :: l, 0, _, h, e => by
    simp at h; subst h
    rw [List.findSome?_cons, e]
  | x :: l, i + 1, h, h2, e => by
    rw [List.take_succ_cons, List.findSome?_cons] at h
    cases q : f x with
    | some y => rw [q] at h; cases h
    | none =>
      rw [q] at h
      rw [List.findSome?_cons, q]
      exact findSome_at (i := i) h (by simpa using h2) e
theorem find_at {α : Type} {f : α → Bool} {a : α} : ∀ {l : List α} {i : Nat}, (l.take i).find? f = none → l[i]? = some a → f a = true → l.find? f = some a
  | [], _, _, h, _ => by simp at h
  | x :: l, 0, _, h, e => by
    simp at h; subst h
    rw [List.find?_cons, e]
  | x :: l, i + 1, h, h2, e => by
    rw [List.take_succ_cons, List.find?_cons] at h
    cases q : f x with
    | true => rw [q] at h; cases h
    | false =>
      rw [q] at h
      rw [List.find?_cons, q]
      exact find_at (i := i) h (by simpa using h2) e
def obD : Option FM.Blk → PyData
  | none => .none
  | some b => bD b
def preBlockWith : List Ar → Rt → Prop := fun as r => ∃ (ps : List Int) (bs : List FM.Blk), as = [.dat (.tuple (ps.map .int)), .dat (bsD bs)] ∧ r = .dat (obD (FM.blockWith ps bs))
section
variable {P : Program} {w : World} {K : PySem.W.Frag} {mg : Str → Option Value} {base : Heap} {C : Addr}
theorem df_blocks_of (A : FnAt K mg "blocks_of" s_blocks_of) (T : Tx K mg C) (G : Df P w K mg base C "merged" 1 preMerged) : Df P w K mg base C "blocks_of" 2 preBlocksOf := by
  refine df_of A sc_blocks_of (fun as r h => ?_) (fun _ _ _ _ _ _ us hl => match us, hl with | [_], _ => rfl) (fun f cdv A outer s H E hr as r h => ?_)
  · obtain ⟨bs, rfl, _⟩ := h; rfl
  · obtain ⟨ns, rfl, hz, rfl⟩ := h
    have nd := sc_blocks_of.nd
    refine hss_cons (hs_ret (pd_call G hr (ga_l (pl_new (pn_map (xs := ns) (enc := .int) (is := [1]) (own := [("piece", 1)]) (f := fun n => bD (n, n + 1)) (pis_tup (pd_var 0)) (blkOk_by (N := ["pieces", "piece"]) (sc := defScope s_blocks_of) (by decide +kernel)) nd (fun _ _ _ _ _ => pg_name (i := 1) nd rfl (.inl rfl)) (sz_le (by omega)) (by simp [rho0])
      (fun z _ => ⟨[.int z], gb_name, fun _ _ _ _ _ => pd_tup (pds_cons (pd_var 1) (pds_cons (pd_add (pd_var 1) pd_int) pds_nil))⟩))) ga_nil) ?_) rfl)
    exact ⟨ns.map fun n => (n, n + 1), by rw [List.map_map]; rfl, by rw [List.length_map]; exact hz, rfl⟩
theorem df_block_with (A : FnAt K mg "block_with" s_block_with) (T : Tx K mg C) : Df P w K mg base C "block_with" 1 preBlockWith := by
  refine df_of A sc_block_with (fun as r h => ?_) (fun _ _ _ _ _ _ us hl => match us, hl with | [_, _], _ => rfl) (fun f cdv A outer s H E hr as r h => ?_)
  · obtain ⟨ps, bs, rfl, _⟩ := h; rfl
  · obtain ⟨ps, bs, rfl, rfl⟩ := h
    have nd := sc_block_with.nd
    refine hss_cons (hs_for (xs := ps) (enc := .int) (is := [2]) (pis_tup (pd_var 0)) (pg_name (i := 2) nd rfl (.inl rfl))
      (fun i ρ => (∃ u v z, ρ = [some (.dat (.tuple (ps.map .int))), some (.dat (bsD bs)), u, v, z]) ∧ (ps.take i).findSome? (fun p => bs.find? fun b => FM.inB p b) = none) ⟨⟨none, none, none, rfl⟩, rfl⟩ (fun i p ρ' hp hR => ?_) (fun ρ' hR => ?_))
    · obtain ⟨⟨u, v, z, rfl⟩, hno⟩ := hR
      refine ⟨[.int p], gb_name, by simp, ?_⟩
      show HSs _ C [some (.dat (.tuple (ps.map .int))), some (.dat (bsD bs)), some (.dat (.int p)), v, z] _ _
      refine hss_cons (hs_for (xs := bs) (enc := bD) (is := [3, 4]) (pis_tup (pd_var 1)) (pg_tup rfl (pgs_cons (pg_name (i := 3) nd rfl (.inl rfl)) (pgs_cons (pg_name (i := 4) nd rfl (.inl rfl)) pgs_nil)))
        (fun j ρ => (∃ v z, ρ = [some (.dat (.tuple (ps.map .int))), some (.dat (bsD bs)), some (.dat (.int p)), v, z]) ∧ (bs.take j).find? (fun b => FM.inB p b) = none) ⟨⟨v, z, rfl⟩, rfl⟩ (fun j b ρ'' hb hR' => ?_) (fun ρ'' hR' => ?_))
      · obtain ⟨⟨v, z, rfl⟩, hno'⟩ := hR'
        refine ⟨[.int b.1, .int b.2], gb_tup, by simp, ?_⟩
        show HSs _ C [some (.dat (.tuple (ps.map .int))), some (.dat (bsD bs)), some (.dat (.int p)), some (.dat (.int b.1)), some (.dat (.int b.2))] _ _
        refine hss_cons (hs_if (k1 := FM.inB p b) (pq_chain op_le op_lt (pd_var 3) (pd_var 2) (pd_var 4)) (fun h => ?_) fun h => ?_)
        · refine hss_cons (hs_ret (pd_tup (pds_cons (pd_var 3) (pds_cons (pd_var 4) pds_nil))) ?_)
          have e : FM.blockWith ps bs = some b := findSome_at hno hp (find_at hno' hb h)
          show Rt.dat _ = Rt.dat _
          rw [e]
          rfl
        · refine hss_nil (hss_nil ⟨⟨_, _, rfl⟩, ?_⟩)
          rw [List.take_add_one, hb, Option.toList_some, List.find?_append, hno']
          simp [h]
      · obtain ⟨⟨v, z, rfl⟩, hno'⟩ := hR'
        rw [List.take_length] at hno'
        refine hss_nil ⟨⟨_, _, _, rfl⟩, ?_⟩
        rw [List.take_add_one, hp, Option.toList_some, List.findSome?_append, hno]
        simp [hno']
    · obtain ⟨⟨u, v, z, rfl⟩, hno⟩ := hR
      rw [List.take_length] at hno
      refine hss_cons (hs_ret pd_none ?_)
      show Rt.dat _ = Rt.dat _
      have e : FM.blockWith ps bs = none := hno
      rw [e]
      rfl
end
end FB
end

section
set_option Elab.async false
set_option linter.all false
set_option maxRecDepth 100000
set_option maxHeartbeats 4000000
/-! wanted, lowered_holding, without. -/
namespace FB
open PySem L2
theorem sel_new (w : FM.Sel) : decide (selS w = "new") = decide (w = .new) := by cases w <;> decide +kernel
theorem sel_late (w : FM.Sel) : decide (selS w = "late") = decide (w = .late) := by cases w <;> decide +kernel
theorem sel_low (w : FM.Sel) : decide (selS w = "low") = decide (w = .low) := by cases w <;> decide +kernel
theorem sel_high (w : FM.Sel) : decide (selS w = "high") = decide (w = .high) := by cases w <;> decide +kernel
theorem sel_untold (w : FM.Sel) : decide (selS w = "untold") = decide (w = .untold) := by cases w <;> decide +kernel
def preWanted : List Ar → Rt → Prop := fun as r => ∃ (w : FM.Sel) (s : FM.PSt) (p : Int) (left : List FM.Blk), as = [.dat (selD w), .dat (stD s), .dat (.int p), .dat (bsD left)] ∧ s.held.length ≤ 1000 ∧ left.length ≤ 1000 ∧ r = .dat (.tuple ((FM.wantedM w s p left).map .int))
def preLow : List Ar → Rt → Prop := fun as r => ∃ (s : FM.PSt) (b : Int), as = [.dat (stD s), .dat (.int b)] ∧ s.held.length ≤ 1000 ∧ s.told.length ≤ 1000 ∧ r = .dat (stD (FM.lowM s b))
def preWithout : List Ar → Rt → Prop := fun as r => ∃ (rc : FM.Rcv) (s : FM.PSt) (p : Int), as = [.rcv (rcD rc), .dat (stD s), .dat (.int p)] ∧ s.held.length ≤ 1000 ∧ s.told.length ≤ 1000 ∧ r = .dat (stD (FM.withoutM s p))
theorem all_flat_ints (ns : List Int) : (ns.map PyData.int).all flat = true := by induction ns <;> simp_all [flat]
theorem all_flat_strs (ns : List Str) : (ns.map PyData.str).all flat = true := by induction ns <;> simp_all [flat]
/-- a method of the class at its place -/
def MtAt (K : PySem.W.Frag) (C : Addr) (m qual : Str) (st : Stmt) : Prop := ∃ f fd, Meth K C m f ∧ Fun K m qual st f fd
section
variable {P : Program} {w : World} {K : PySem.W.Frag} {mg : Str → Option Value} {base : Heap} {C : Addr}
theorem dm_of {m qual : Str} {st : Stmt} {N ps : List Str} {k : Nat} {Pre : List Ar → Rt → Prop} (A : MtAt K C m qual st) (S : FnScope N ps (defScope st)) (hl : ∀ rm b c o q t, (rcF rm b c o q t).lookup m = none) (len : ∀ as r, Pre as r → as.length = ps.length)
    (hb : ∀ (kV doc pm : Value) (an : Option Addr) (cdv ct : Value) (us : List Value), us.length = ps.length → bindArgs (PySem.W.fnOf m qual (defArgs st) (defBody st) (defScope st) .none kV doc pm an cdv ct) ⟨us, []⟩ = pure (ps.zip us))
    (hbody : ∀ (f : Addr) (cdv : Value) (A : Around) (outer : List Env) (s : Shared) (H : Hp) (E : XK), Room k (A.deeper (PyProof.Rows.envOfC qual (defScope st) s.heap.objs.size f cdv)) → ∀ as r, Pre as r →
      HSs (bX P w K mg base N qual (defScope st) f cdv A outer s H E) C (rho0 N.length as) (defBody st) (retP r)) : Dm P w K mg base C m (k + 1) Pre := by
  obtain ⟨f, fd, hm, F⟩ := A
  exact ⟨f, fd, ps, hm, hl, F.binds hb, okD F S len (hbody f)⟩
theorem df_wanted (A : FnAt K mg "wanted" s_wanted) (T : Tx K mg C) : Df P w K mg base C "wanted" 1 preWanted := by
  refine df_of A sc_wanted (fun as r h => ?_) (fun _ _ _ _ _ _ us hl => match us, hl with | [_, _, _, _], _ => rfl) (fun f cdv A outer s H E hr as r h => ?_)
  · obtain ⟨w, s, p, left, rfl, _⟩ := h; rfl
  · obtain ⟨w, st, p, left, rfl, hz, hz2, rfl⟩ := h
    have nd := sc_wanted.nd
    refine hss_cons (hs_unp (is := [4, 5, 6]) (ds := [.int st.n, .tuple (st.held.map .int), .tuple (st.told.map .int)]) (pd_var 1) (pg_tup rfl (pgs_cons (pg_name (i := 4) nd rfl (.inl rfl)) (pgs_cons (pg_name (i := 5) nd rfl (.inl rfl)) (pgs_cons (pg_name (i := 6) nd rfl (.inr rfl)) pgs_nil)))) gb_tup (by simp [rho0]) ?_)
    show HSs _ C [some (.dat (selD w)), some (.dat (stD st)), some (.dat (.int p)), some (.dat (bsD left)), some (.dat (.int st.n)), some (.dat (.tuple (st.held.map .int))), some (.dat (.tuple (st.told.map .int))), none, none, none, none] _ _
    refine hss_cons (hs_if (k1 := decide (selS w = "new")) (pq_eqS (pd_var 0) pd_str) (fun h => ?_) fun h1 => hss_nil ?_)
    · rw [sel_new, decide_eq_true_eq] at h
      subst h
      exact hss_cons (hs_ret (pd_tup (pds_cons (pd_var 2) pds_nil)) rfl)
    rw [sel_new, decide_eq_false_iff_not] at h1
    refine hss_cons (hs_if (k1 := decide (selS w = "late")) (pq_eqS (pd_var 0) pd_str) (fun h => ?_) fun h2 => hss_nil ?_)
    · rw [sel_late, decide_eq_true_eq] at h
      subst h
      refine hss_cons (hs_ret (pd_revT (pd_var 5)) ?_)
      show Rt.dat _ = Rt.dat _
      rw [← List.map_reverse]
      rfl
    rw [sel_late, decide_eq_false_iff_not] at h2
    refine hss_cons (hs_if (k1 := decide (selS w = "untold")) (pq_eqS (pd_var 0) pd_str) (fun h => ?_) fun h3 => hss_nil ?_)
    · rw [sel_untold, decide_eq_true_eq] at h
      subst h
      have hlen : (FM.sortI st.held).length = st.held.length := by unfold FM.sortI; rw [List.length_mergeSort]
      refine hss_cons (hs_ret (pd_toTup T.tuple_ (pl_new (pn_flt (xs := FM.sortI st.held) (enc := .int) (is := [7]) (own := [("each", 7)]) (q := fun e => !st.told.contains e) (f := .int) (pis_new (pn_sortI T.sorted_ (ps_tuple (pd_var 5)) hr.units)) (blkOk_by (N := ["word", "state", "piece", "left", "number", "held", "told", "each", "firsts", "first", "end"]) (sc := defScope s_wanted) (by decide +kernel)) nd (fun _ _ _ _ _ => pg_name (i := 7) nd rfl (.inl rfl)) (sz_le (by omega)) (by simp)
        (fun z _ => ⟨[.int z], gb_name, fun _ _ _ _ _ => ?_, fun _ _ _ _ _ _ => pd_var 7⟩)))) rfl)
      rw [← inF_ints]
      exact pq_notIn (pd_var 7) (ps_tuple (pd_var 6)) rfl (all_flat_ints _)
    rw [sel_untold, decide_eq_false_iff_not] at h3
    refine hss_cons (hs_set 8 nd (pd_toTup T.tuple_ (pl_new (pn_map (xs := left) (enc := bD) (g := gTup K 2 (gNs [9, 10])) (is := [9, 10]) (own := [("first", 9), ("end", 10)]) (f := fun b => .int b.1) (pis_tup (pd_var 3)) (blkOk_by (N := ["word", "state", "piece", "left", "number", "held", "told", "each", "firsts", "first", "end"]) (sc := defScope s_wanted) (by decide +kernel)) nd (fun _ _ _ _ _ => pg_tup rfl (pgs_cons (pg_name (i := 9) nd rfl (.inl rfl)) (pgs_cons (pg_name (i := 10) nd rfl (.inl rfl)) pgs_nil))) (sz_le (by omega)) (by simp)
      (fun z _ => ⟨[.int z.1, .int z.2], gb_tup, fun _ _ _ _ _ => pd_var 9⟩)))) ?_)
    refine hss_cons (hs_ret (d := .tuple ((FM.wantedM w st p left).map .int)) (pv_if (k1 := decide (selS w = "low")) (pq_eqS (pd_var 0) pd_str) (fun h => ?_) fun h => ?_) rfl)
    · rw [sel_low, decide_eq_true_eq] at h
      subst h
      have e : (FM.wantedM .low st p left).map PyData.int = left.map fun b => .int b.1 := by show (left.map (·.1)).map PyData.int = _; rw [List.map_map]; rfl
      rw [e]
      exact pd_var 8
    · rw [sel_low, decide_eq_false_iff_not] at h
      have hw : w = .high := by cases w <;> simp_all
      subst hw
      have e : (FM.wantedM .high st p left).map PyData.int = (left.map fun b => .int b.1).reverse := by
        show ((left.map (·.1)).reverse).map PyData.int = _
        rw [List.map_reverse, List.map_map]
        rfl
      rw [e]
      exact pd_revT (pd_var 8)
theorem df_lowered (A : FnAt K mg "lowered_holding" s_lowered_holding) (T : Tx K mg C) : Df P w K mg base C "lowered_holding" 1 preLow := by
  refine df_of A sc_lowered_holding (fun as r h => ?_) (fun _ _ _ _ _ _ us hl => match us, hl with | [_, _], _ => rfl) (fun f cdv A outer s H E hr as r h => ?_)
  · obtain ⟨s, b, rfl, _⟩ := h; rfl
  · obtain ⟨st, b, rfl, hz, hz2, rfl⟩ := h
    have nd := sc_lowered_holding.nd
    have low : ∀ (l : List Int), (l.map (· - b)).map PyData.int = l.map fun z => .int (z - b) := fun l => by rw [List.map_map]; rfl
    refine hss_cons (hs_ret (d := stD (FM.lowM st b)) ?_ rfl)
    show PD _ C _ _ (.tuple [.int (st.n - b), .tuple ((st.held.map (· - b)).map .int), .tuple ((st.told.map (· - b)).map .int)])
    rw [low, low]
    exact pd_tup (pds_cons (pd_sub (pd_ixT (ds := [.int st.n, .tuple (st.held.map .int), .tuple (st.told.map .int)]) (pd_var 0) pd_int) (pd_var 1))
      (pds_cons (pd_toTup T.tuple_ (pl_new (pn_map (xs := st.held) (enc := .int) (is := [2]) (own := [("piece", 2)]) (f := fun z => .int (z - b)) (pis_tup (pd_ixT (ds := [.int st.n, .tuple (st.held.map .int), .tuple (st.told.map .int)]) (pd_var 0) pd_int)) (blkOk_by (N := ["state", "by", "piece"]) (sc := defScope s_lowered_holding) (by decide +kernel)) nd (fun _ _ _ _ _ => pg_name (i := 2) nd rfl (.inl rfl)) (sz_le (by omega)) (by simp [rho0])
        (fun z _ => ⟨[.int z], gb_name, fun _ _ _ _ _ => pd_sub (pd_var 2) (pd_var 1)⟩))))
      (pds_cons (pd_toTup T.tuple_ (pl_new (pn_map (xs := st.told) (enc := .int) (is := [2]) (own := [("piece", 2)]) (f := fun z => .int (z - b)) (pis_tup (pd_ixT (ds := [.int st.n, .tuple (st.held.map .int), .tuple (st.told.map .int)]) (pd_var 0) pd_int)) (blkOk_by (N := ["state", "by", "piece"]) (sc := defScope s_lowered_holding) (by decide +kernel)) nd (fun _ _ _ _ _ => pg_name (i := 2) nd rfl (.inl rfl)) (sz_le (by omega)) (by simp [rho0])
        (fun z _ => ⟨[.int z], gb_name, fun _ _ _ _ _ => pd_sub (pd_var 2) (pd_var 1)⟩)))) pds_nil)))
theorem dm_without (A : MtAt K C "without" "Receiver.without" s_R_without) (T : Tx K mg C) : Dm P w K mg base C "without" 1 preWithout := by
  refine dm_of A sc_R_without (fun rm b c o q t => ?_) (fun as r h => ?_) (fun _ _ _ _ _ _ us hl => match us, hl with | [_, _, _], _ => rfl) (fun f cdv A outer s H E hr as r h => ?_)
  · rfl
  · obtain ⟨rc, s, b, rfl, _⟩ := h; rfl
  · obtain ⟨rc, st, p, rfl, hz, hz2, rfl⟩ := h
    have nd := sc_R_without.nd
    refine hss_cons (hs_unp (is := [3, 4, 5]) (ds := [.int st.n, .tuple (st.held.map .int), .tuple (st.told.map .int)]) (pd_var 1) (pg_tup rfl (pgs_cons (pg_name (i := 3) nd rfl (.inl rfl)) (pgs_cons (pg_name (i := 4) nd rfl (.inl rfl)) (pgs_cons (pg_name (i := 5) nd rfl (.inl rfl)) pgs_nil)))) gb_tup (by simp [rho0]) ?_)
    show HSs _ C [some (.rcv (rcD rc)), some (.dat (stD st)), some (.dat (.int p)), some (.dat (.int st.n)), some (.dat (.tuple (st.held.map .int))), some (.dat (.tuple (st.told.map .int))), none, none] _ _
    refine hss_cons (hs_set 6 nd (pd_toTup T.tuple_ (pl_new (pn_flt (xs := st.held) (enc := .int) (is := [7]) (own := [("each", 7)]) (q := fun e => !decide (e = p)) (f := .int) (pis_tup (pd_var 4)) (blkOk_by (N := ["self", "state", "piece", "number", "held", "told", "others", "each"]) (sc := defScope s_R_without) (by decide +kernel)) nd (fun _ _ _ _ _ => pg_name (i := 7) nd rfl (.inl rfl)) (sz_le (by omega)) (by simp)
      (fun z _ => ⟨[.int z], gb_name, fun _ _ _ _ _ => pq_neI (pd_var 7) (pd_var 2), fun _ _ _ _ _ _ => pd_var 7⟩)))) ?_)
    exact hss_cons (hs_ret (pd_tup (pds_cons (pd_var 3) (pds_cons (pd_var 6) (pds_cons (pd_toTup T.tuple_ (pl_new (pn_flt (xs := st.told) (enc := .int) (is := [7]) (own := [("each", 7)]) (q := fun e => !decide (e = p)) (f := .int) (pis_tup (pd_var 5)) (blkOk_by (N := ["self", "state", "piece", "number", "held", "told", "others", "each"]) (sc := defScope s_R_without) (by decide +kernel)) nd (fun _ _ _ _ _ => pg_name (i := 7) nd rfl (.inl rfl)) (sz_le (by omega)) (by simp)
      (fun z _ => ⟨[.int z], gb_name, fun _ _ _ _ _ => pq_neI (pd_var 7) (pd_var 2), fun _ _ _ _ _ _ => pd_var 7⟩)))) pds_nil)))) rfl)
end
end FB
end

section
set_option Elab.async false
set_option linter.all false
set_option maxRecDepth 100000
set_option maxHeartbeats 4000000
/-! take, reply. -/
namespace FB
open PySem L2
/-! ### == of codes -/
theorem eqv_int (i j : Int) : PyData.eqv (.int i) (.int j) = decide (i = j) := by simp only [PyData.eqv]; rw [Bool.beq_eq_decide_eq]
theorem eqv_bD (a b : FM.Blk) : PyData.eqv (bD a) (bD b) = decide (a = b) := by
  unfold bD
  simp only [PyData.eqv, PyData.eqvAll, Bool.and_true]
  rw [Bool.eq_iff_iff]
  simp only [Bool.and_eq_true, beq_iff_eq, decide_eq_true_eq]
  exact ⟨fun h => Prod.ext h.1 h.2, fun h => ⟨congrArg _ h, congrArg _ h⟩⟩
theorem canLay_ints : ∀ ns : List Int, PyData.canLayAll0 (ns.map .int) = true
  | [] => by simp [PyData.canLayAll0]
  | n :: ns => by simp [PyData.canLayAll0, PyData.canLay0, canLay_ints ns]
theorem depthAll_ints : ∀ ns : List Int, PyData.depthAll (ns.map .int) = 0
  | [] => by simp [PyData.depthAll]
  | n :: ns => by simp [PyData.depthAll, PyData.depth, depthAll_ints ns]
theorem shp_bD (b : FM.Blk) : Shp (bD b) := by simp [Shp, SeqAt.shaped, bD, PyData.canLay0, PyData.canLayAll0, PyData.depth, PyData.depthAll]
theorem isNo_obD (o : Option FM.Blk) : isNo (obD o) = o.isNone := by cases o <;> rfl
/-! ### lengths -/
theorem sortI_len (l : List Int) : (FM.sortI l).length = l.length := by unfold FM.sortI; rw [List.length_mergeSort]
theorem blocksM_len (l : List Int) : (FM.blocksM l).length ≤ l.length := by
  have := foldl_len mergeStep_len (FM.sortP (l.map fun p => (p, p + 1))) []
  unfold FM.blocksM FM.mergedM
  have e : (FM.sortP (l.map fun p => (p, p + 1))).length = l.length := by unfold FM.sortP; rw [List.length_mergeSort, List.length_map]
  rw [e] at this
  simpa using this
/-! ### the climbing -/
theorem up_less {held : List Int} {v : Int} (h : v ∈ held) : (held.filter fun e => decide (v + 1 ≤ e)).length < (held.filter fun e => decide (v ≤ e)).length := by
  induction held with
  | nil => simp at h
  | cons x xs ih =>
    have mono : (xs.filter fun e => decide (v + 1 ≤ e)).length ≤ (xs.filter fun e => decide (v ≤ e)).length := by
      clear ih h
      induction xs with
      | nil => simp
      | cons y ys ih =>
        simp only [List.filter_cons]
        by_cases h1 : v + 1 ≤ y
        · have h2 : v ≤ y := by omega
          simp [h1, h2]; exact ih
        · by_cases h2 : v ≤ y
          · simp [h1, h2]; omega
          · simp [h1, h2]; exact ih
    simp only [List.filter_cons]
    rcases List.mem_cons.mp h with e | e
    · subst e
      have h1 : ¬ v + 1 ≤ v := by omega
      simp [h1]; omega
    · have := ih e
      by_cases h1 : v + 1 ≤ x
      · have h2 : v ≤ x := by omega
        simp [h1, h2]; omega
      · by_cases h2 : v ≤ x
        · simp [h1, h2]; omega
        · simp [h1, h2]; omega
def preTake : List Ar → Rt → Prop := fun as r => ∃ (rc : FM.Rcv) (s : FM.PSt) (p : Int), as = [.rcv (rcD rc), .dat (stD s), .dat (.int p)] ∧ s.held.length ≤ 900 ∧ s.told.length ≤ 900 ∧ r = .dat (stD (FM.takeM rc s p))
def preReply : List Ar → Rt → Prop := fun as r => ∃ (rc : FM.Rcv) (s : FM.PSt) (p : Int), as = [.rcv (rcD rc), .dat (stD s), .dat (.int p)] ∧ s.held.length ≤ 1000 ∧ s.told.length ≤ 1000 ∧ rc.sel.length ≤ 1000 ∧ r = .dat (.tuple [bsD (FM.replyM rc s p).1, stD (FM.replyM rc s p).2])
section
variable {P : Program} {w : World} {K : PySem.W.Frag} {mg : Str → Option Value} {base : Heap} {C : Addr}
section
variable {X : Cx} {ρ : Rho} {e : Expr} {rc : FM.Rcv} {pos : Pos}
theorem pd_room (T : Tx X.K X.mg C) (ho : PR X C ρ e (rcD rc)) (hb : attributeBase e "own_room" X.env (eval e X.env) = eval e X.env := by rfl) : PD X C ρ (.Attribute e "own_room" pos) (.int rc.room) :=
  pv_fld T.cls T.nRoom ho (fun H b c _ => ⟨.int rc.room, rfl, Rp.int⟩) hb
theorem pd_ord (T : Tx X.K X.mg C) (ho : PR X C ρ e (rcD rc)) (hb : attributeBase e "remembers_order" X.env (eval e X.env) = eval e X.env := by rfl) : PD X C ρ (.Attribute e "remembers_order" pos) (.bool rc.ord) :=
  pv_fld T.cls T.nOrd ho (fun H b c _ => ⟨.bl rc.ord, rfl, Rp.bool⟩) hb
theorem pd_tld (T : Tx X.K X.mg C) (ho : PR X C ρ e (rcD rc)) (hb : attributeBase e "remembers_told" X.env (eval e X.env) = eval e X.env := by rfl) : PD X C ρ (.Attribute e "remembers_told" pos) (.bool rc.tld) :=
  pv_fld T.cls T.nTld ho (fun H b c _ => ⟨.bl rc.tld, rfl, Rp.bool⟩) hb
theorem pd_sels (T : Tx X.K X.mg C) (ho : PR X C ρ e (rcD rc)) (hb : attributeBase e "own_selectors" X.env (eval e X.env) = eval e X.env := by rfl) : PD X C ρ (.Attribute e "own_selectors" pos) (.tuple (rc.sel.map selD)) :=
  pv_fld T.cls T.nSel ho (fun H b c h => ⟨.ref b, rfl, Rp.tup h (by
    have : rc.sel.map selD = (rc.sel.map selS).map .str := by rw [List.map_map]; rfl
    rw [this]
    exact RpA.strs_iff.mpr rfl)⟩) hb
end
theorem dm_take (A : MtAt K C "take" "Receiver.take" s_R_take) (T : Tx K mg C) : Dm P w K mg base C "take" 1 preTake := by
  refine dm_of A sc_R_take (fun rm b c o q t => rfl) (fun as r h => ?_) (fun _ _ _ _ _ _ us hl => match us, hl with | [_, _, _], _ => rfl) (fun f cdv A outer s H E hr as r h => ?_)
  · obtain ⟨rc, s, b, rfl, _⟩ := h; rfl
  · obtain ⟨rc, st, p, rfl, hz, hz2, rfl⟩ := h
    have nd := sc_R_take.nd
    refine hss_cons (hs_unp (is := [3, 4, 5]) (ds := [.int st.n, .tuple (st.held.map .int), .tuple (st.told.map .int)]) (pd_var 1) (pg_tup rfl (pgs_cons (pg_name (i := 3) nd rfl (.inr rfl)) (pgs_cons (pg_name (i := 4) nd rfl (.inl rfl)) (pgs_cons (pg_name (i := 5) nd rfl (.inl rfl)) pgs_nil)))) gb_tup (by simp [rho0]) ?_)
    show HSs _ C [some (.rcv (rcD rc)), some (.dat (stD st)), some (.dat (.int p)), some (.dat (.int st.n)), some (.dat (.tuple (st.held.map .int))), some (.dat (.tuple (st.told.map .int))), none] _ _
    have fin : ∀ (s' : FM.PSt) {ρ : Rho}, ρ = [some (.rcv (rcD rc)), some (.dat (stD st)), some (.dat (.int p)), some (.dat (.int s'.n)), some (.dat (.tuple (s'.held.map .int))), some (.dat (.tuple (s'.told.map .int))), none] → FM.takeM rc st p = s' →
        HSs (bX P w K mg base ["self", "state", "piece", "number", "held", "told", "each"] "Receiver.take" (defScope s_R_take) f cdv A outer s H E) C ρ ((defBody s_R_take).drop 2) (retP (.dat (stD (FM.takeM rc st p)))) := fun s' ρ hρ he => by
      subst hρ
      rw [he]
      exact hss_cons (hs_ret (pd_tup (pds_cons (pd_var 3) (pds_cons (pd_var 4) (pds_cons (pd_var 5) pds_nil)))) rfl)
    refine hss_cons (hs_if (k1 := decide (p = st.n)) (pq_eqI (pd_var 2) (pd_var 3)) (fun h => ?_) fun h => ?_)
    · rw [decide_eq_true_eq] at h
      refine hss_cons (hs_addI 3 nd rfl pd_int ?_)
      refine hss_cons (hs_while (fun m ρ => ∃ v : Int, ρ = [some (.rcv (rcD rc)), some (.dat (stD st)), some (.dat (.int p)), some (.dat (.int v)), some (.dat (.tuple (st.held.map .int))), some (.dat (.tuple (st.told.map .int))), none] ∧ FM.upF m st.held v = FM.upM st.held (st.n + 1) ∧ (st.held.filter fun e => decide (v ≤ e)).length < m)
        ⟨st.held.length + 1, st.n + 1, rfl, rfl, Nat.lt_succ_of_le (List.length_filter_le _ _)⟩ (fun m ρ' hR => ?_))
      obtain ⟨v, rfl, hup, hm⟩ := hR
      refine ⟨inF (.int v) (st.held.map .int), pq_in (pd_var 3) (ps_tuple (pd_var 4)) rfl (all_flat_ints _), fun hk => ?_, fun hk => ?_⟩
      · rw [inF_ints, List.contains_iff_mem] at hk
        refine hss_cons (hs_addI 3 nd rfl pd_int (hss_nil ?_))
        obtain ⟨m', rfl⟩ : ∃ m', m = m' + 1 := ⟨m - 1, by omega⟩
        refine ⟨m', by omega, v + 1, rfl, ?_, ?_⟩
        · rw [← hup, FM.upF, if_pos hk]
        · have := up_less hk
          omega
      · rw [inF_ints] at hk
        have hk : v ∉ st.held := fun z => by rw [List.contains_iff_mem.mpr z] at hk; cases hk
        obtain ⟨m', rfl⟩ : ∃ m', m = m' + 1 := ⟨m - 1, by omega⟩
        have hv : v = FM.upM st.held (st.n + 1) := by rw [← hup, FM.upF, if_neg hk]
        refine hss_cons (hs_set 4 nd (pd_toTup T.tuple_ (pl_new (pn_flt (xs := st.held) (enc := .int) (is := [6]) (own := [("each", 6)]) (q := fun e => decide (v < e)) (f := .int) (pis_tup (pd_var 4)) (blkOk_by (N := ["self", "state", "piece", "number", "held", "told", "each"]) (sc := defScope s_R_take) (by decide +kernel)) nd (fun _ _ _ _ _ => pg_name (i := 6) nd rfl (.inl rfl)) (sz_le (by omega)) (by simp)
          (fun z _ => ⟨[.int z], gb_name, fun _ _ _ _ _ => pq_gt (pd_var 6) (pd_var 3), fun _ _ _ _ _ _ => pd_var 6⟩)))) ?_)
        refine hss_cons (hs_set 5 nd (pd_toTup T.tuple_ (pl_new (pn_flt (xs := st.told) (enc := .int) (is := [6]) (own := [("each", 6)]) (q := fun e => decide (v < e)) (f := .int) (pis_tup (pd_var 5)) (blkOk_by (N := ["self", "state", "piece", "number", "held", "told", "each"]) (sc := defScope s_R_take) (by decide +kernel)) nd (fun _ _ _ _ _ => pg_name (i := 6) nd rfl (.inl rfl)) (sz_le (by omega)) (by simp)
          (fun z _ => ⟨[.int z], gb_name, fun _ _ _ _ _ => pq_gt (pd_var 6) (pd_var 3), fun _ _ _ _ _ _ => pd_var 6⟩)))) (hss_nil ?_))
        refine fin ⟨v, st.held.filter (fun e => decide (v < e)), st.told.filter (fun e => decide (v < e))⟩ rfl ?_
        unfold FM.takeM
        rw [if_pos h, ← hv]
    · rw [decide_eq_false_iff_not] at h
      refine hss_cons (hs_if (k1 := (decide (st.n < p) && decide (p ≤ st.n + rc.room)) && !inF (.int p) (st.held.map .int)) (pq_w (pw_and' (pq_chain op_lt op_le (pd_var 3) (pd_var 2) (pd_add (pd_var 3) (pd_room T (pr_var 0)))) fun _ => pw_and1' (pq_notIn (pd_var 2) (ps_tuple (pd_var 4)) rfl (all_flat_ints _)))) (fun h2 => ?_) fun h2 => ?_)
      · have h3 : (st.n < p ∧ p ≤ st.n + rc.room) ∧ p ∉ st.held := by
          rw [inF_ints] at h2
          simpa [List.contains_iff_mem] using h2
        refine hss_cons (hs_set (d := .tuple ((if rc.ord then st.held ++ [p] else FM.sortI (st.held ++ [p])).map .int)) 4 nd (pv_if (k1 := rc.ord) (pq_val (pd_ord T (pr_var 0))) (fun ho => ?_) fun ho => ?_) (hss_nil (hss_nil ?_)))
        · rw [if_pos ho, List.map_append]
          exact pd_cat (pd_var 4) (pd_tup (pds_cons (pd_var 2) pds_nil)) (sz_le (by simp; omega))
        · rw [if_neg (by rw [ho]; exact Bool.false_ne_true)]
          refine pd_toTup T.tuple_ (pl_new (pn_sortI (ns := st.held ++ [p]) T.sorted_ ?_ hr.units))
          rw [List.map_append]
          exact ps_tuple (pd_cat (pd_var 4) (pd_tup (pds_cons (pd_var 2) pds_nil)) (sz_le (by simp; omega)))
        · refine fin ⟨st.n, if rc.ord then st.held ++ [p] else FM.sortI (st.held ++ [p]), st.told⟩ rfl ?_
          unfold FM.takeM
          rw [if_neg h, if_pos h3]
      · refine hss_nil (hss_nil (fin st rfl ?_))
        have h3 : ¬ ((st.n < p ∧ p ≤ st.n + rc.room) ∧ p ∉ st.held) := by
          rw [inF_ints] at h2
          intro q
          simp [List.contains_iff_mem, q.1.1, q.1.2, q.2] at h2
        unfold FM.takeM
        rw [if_neg h, if_neg h3]
end
end FB
end

section
set_option Elab.async false
set_option linter.all false
set_option maxRecDepth 100000
set_option maxHeartbeats 4000000
/-! reply, answered. -/
namespace FB
open PySem L2
theorem pickStep_len {s : FM.PSt} {p : Int} {lp : List FM.Blk × List FM.Blk} {w : FM.Sel} : (FM.pickStep s p lp w).1.length ≤ lp.1.length ∧ (FM.pickStep s p lp w).2.length ≤ lp.2.length + 1 := by
  unfold FM.pickStep
  split
  · exact ⟨Nat.le_refl _, Nat.le_succ _⟩
  · exact ⟨List.length_filter_le _ _, by simp⟩
theorem picks_len {s : FM.PSt} {p : Int} : ∀ (ws : List FM.Sel) (lp : List FM.Blk × List FM.Blk), (ws.foldl (FM.pickStep s p) lp).1.length ≤ lp.1.length ∧ (ws.foldl (FM.pickStep s p) lp).2.length ≤ lp.2.length + ws.length
  | [], lp => ⟨Nat.le_refl _, Nat.le_refl _⟩
  | w :: ws, lp => by
    have h1 := picks_len (s := s) (p := p) ws (FM.pickStep s p lp w)
    have h2 := pickStep_len (s := s) (p := p) (lp := lp) (w := w)
    simp only [List.foldl_cons, List.length_cons]
    omega
theorem pickedM_len (r : FM.Rcv) (s : FM.PSt) (p : Int) : (FM.pickedM r s p).length ≤ r.sel.length := by
  have := (picks_len (s := s) (p := p) r.sel (FM.blocksM s.held, [])).2
  simpa [FM.pickedM] using this
section
variable {P : Program} {w : World} {K : PySem.W.Frag} {mg : Str → Option Value} {base : Heap} {C : Addr}
theorem dm_reply (A : MtAt K C "reply" "Receiver.reply" s_R_reply) (T : Tx K mg C) (Gb : Df P w K mg base C "blocks_of" 2 preBlocksOf) (Gw : Df P w K mg base C "wanted" 1 preWanted) (Gx : Df P w K mg base C "block_with" 1 preBlockWith) : Dm P w K mg base C "reply" 3 preReply := by
  refine dm_of A sc_R_reply (fun rm b c o q t => rfl) (fun as r h => ?_) (fun _ _ _ _ _ _ us hl => match us, hl with | [_, _, _], _ => rfl) (fun f cdv A outer s H E hr as r h => ?_)
  · obtain ⟨rc, s, b, rfl, _⟩ := h; rfl
  · obtain ⟨rc, st, p, rfl, hz, hz2, hz3, rfl⟩ := h
    have nd := sc_R_reply.nd
    have hbl := blocksM_len st.held
    refine hss_cons (hs_unp (is := [3, 4, 5]) (ds := [.int st.n, .tuple (st.held.map .int), .tuple (st.told.map .int)]) (pd_var 1) (pg_tup rfl (pgs_cons (pg_name (i := 3) nd rfl (.inl rfl)) (pgs_cons (pg_name (i := 4) nd rfl (.inl rfl)) (pgs_cons (pg_name (i := 5) nd rfl (.inr rfl)) pgs_nil)))) gb_tup (by simp [rho0]) ?_)
    show HSs _ C [some (.rcv (rcD rc)), some (.dat (stD st)), some (.dat (.int p)), some (.dat (.int st.n)), some (.dat (.tuple (st.held.map .int))), some (.dat (.tuple (st.told.map .int))), none, none, none, none, none] _ _
    refine hss_cons (hs_unp (is := [6, 7]) (ds := [bsD (FM.blocksM st.held), .tuple []]) (pd_tup (pds_cons (pd_call Gb hr (ga_d (pd_var 4) ga_nil) ⟨st.held, rfl, hz, rfl⟩) (pds_cons (pd_tup pds_nil) pds_nil))) (pg_tup rfl (pgs_cons (pg_name (i := 6) nd rfl (.inl rfl)) (pgs_cons (pg_name (i := 7) nd rfl (.inr rfl)) pgs_nil))) gb_tup (by simp) ?_)
    show HSs _ C [some (.rcv (rcD rc)), some (.dat (stD st)), some (.dat (.int p)), some (.dat (.int st.n)), some (.dat (.tuple (st.held.map .int))), some (.dat (.tuple (st.told.map .int))), some (.dat (bsD (FM.blocksM st.held))), some (.dat (.tuple [])), none, none, none] _ _
    refine hss_cons (hs_for (xs := rc.sel) (enc := selD) (is := [8]) (pis_tup (pd_sels T (pr_var 0))) (pg_name (i := 8) nd rfl (.inl rfl))
      (fun i ρ => ∃ u v, ρ = [some (.rcv (rcD rc)), some (.dat (stD st)), some (.dat (.int p)), some (.dat (.int st.n)), some (.dat (.tuple (st.held.map .int))), some (.dat (.tuple (st.told.map .int))), some (.dat (bsD (((rc.sel.take i).foldl (FM.pickStep st p) (FM.blocksM st.held, [])).1))), some (.dat (bsD (((rc.sel.take i).foldl (FM.pickStep st p) (FM.blocksM st.held, [])).2))), u, v, none]) ⟨none, none, rfl⟩ (fun i z ρ' hz' hR => ?_) (fun ρ' hR => ?_))
    · obtain ⟨u, v, rfl⟩ := hR
      refine ⟨[selD z], gb_name, by simp, ?_⟩
      have hfold : ((rc.sel.take (i + 1)).foldl (FM.pickStep st p) (FM.blocksM st.held, [])) = FM.pickStep st p ((rc.sel.take i).foldl (FM.pickStep st p) (FM.blocksM st.held, [])) z := by
        rw [List.take_add_one, hz', Option.toList_some, List.foldl_append]; rfl
      have hpl := picks_len (s := st) (p := p) (rc.sel.take i) (FM.blocksM st.held, [])
      have htl : (rc.sel.take i).length ≤ rc.sel.length := by rw [List.length_take]; omega
      rw [hfold]
      generalize ((rc.sel.take i).foldl (FM.pickStep st p) (FM.blocksM st.held, [])) = lp at hpl ⊢
      obtain ⟨left, picked⟩ := lp
      simp only [List.length_nil] at hpl
      show HSs _ C [some (.rcv (rcD rc)), some (.dat (stD st)), some (.dat (.int p)), some (.dat (.int st.n)), some (.dat (.tuple (st.held.map .int))), some (.dat (.tuple (st.told.map .int))), some (.dat (bsD left)), some (.dat (bsD picked)), some (.dat (selD z)), v, none] _ _
      refine hss_cons (hs_set 9 nd (pd_call Gx (hr.mono (by decide)) (ga_d (pd_call Gw (hr.mono (by decide)) (ga_d (pd_var 8) (ga_d (pd_var 1) (ga_d (pd_var 2) (ga_d (pd_var 6) ga_nil)))) ⟨z, st, p, left, rfl, hz, by omega, rfl⟩) (ga_d (pd_var 6) ga_nil)) ⟨FM.wantedM z st p left, left, rfl, rfl⟩) ?_)
      have hstep : FM.pickStep st p (left, picked) z = (match FM.blockWith (FM.wantedM z st p left) left with | none => (left, picked) | some b => (left.filter (fun e => !decide (e = b)), picked ++ [b])) := rfl
      rw [hstep]
      refine hss_cons (hs_if (k1 := !(FM.blockWith (FM.wantedM z st p left) left).isNone) (by rw [← isNo_obD]; exact pq_notN (pd_var 9)) (fun h => ?_) fun h => ?_)
      · cases hb : FM.blockWith (FM.wantedM z st p left) left with
        | none => rw [hb] at h; cases h
        | some b =>
          refine hss_cons (hs_set 6 nd (pd_toTup T.tuple_ (pl_new (pn_flt (xs := left) (enc := bD) (is := [10]) (own := [("each", 10)]) (q := fun e => !decide (e = b)) (f := bD) (pis_tup (pd_var 6)) (blkOk_by (N := ["self", "state", "piece", "number", "held", "told", "left", "picked", "word", "block", "each"]) (sc := defScope s_R_reply) (by decide +kernel)) nd (fun _ _ _ _ _ => pg_name (i := 10) nd rfl (.inl rfl)) (sz_le (by omega)) (by simp)
            (fun y _ => ⟨[bD y], gb_name, fun _ _ _ _ _ => by rw [← eqv_bD]; exact pq_ne hr.units (pd_var 10) (pd_var (d := bD b) 9) (shp_bD y) (shp_bD b), fun _ _ _ _ _ _ => pd_var 10⟩)))) ?_)
          refine hss_cons (hs_set 7 nd (pd_cat (pd_var 7) (pd_tup (pds_cons (pd_var (d := bD b) 9) pds_nil)) (sz_le (by simp; omega))) (hss_nil (hss_nil ?_)))
          refine ⟨some (.dat (selD z)), some (.dat (bD b)), ?_⟩
          show _ = [_, _, _, _, _, _, _, some (Sl.dat (.tuple ((picked ++ [b]).map bD))), _, _, _]
          rw [List.map_append]
          rfl
      · cases hb : FM.blockWith (FM.wantedM z st p left) left with
        | some b => rw [hb] at h; cases h
        | none => exact hss_nil (hss_nil ⟨_, _, rfl⟩)
    · obtain ⟨u, v, rfl⟩ := hR
      rw [List.take_length]
      have hpk : (rc.sel.foldl (FM.pickStep st p) (FM.blocksM st.held, [])).2 = FM.pickedM rc st p := rfl
      rw [hpk]
      generalize (rc.sel.foldl (FM.pickStep st p) (FM.blocksM st.held, [])).1 = left
      refine hss_cons (hs_if (k1 := rc.tld) (pq_val (pd_tld T (pr_var 0))) (fun h => ?_) fun h => ?_)
      · refine hss_cons (hs_set 5 nd (pd_toTup T.tuple_ (pl_new (pn_flt (xs := FM.sortI st.held) (enc := .int) (is := [10]) (own := [("each", 10)]) (q := fun e => st.told.contains e || (FM.blockWith [e] (FM.pickedM rc st p)).isSome) (f := .int) (pis_new (pn_sortI T.sorted_ (ps_tuple (pd_var 4)) hr.units)) (blkOk_by (N := ["self", "state", "piece", "number", "held", "told", "left", "picked", "word", "block", "each"]) (sc := defScope s_R_reply) (by decide +kernel)) nd (fun _ _ _ _ _ => pg_name (i := 10) nd rfl (.inl rfl)) (sz_le (by rw [sortI_len]; omega)) (by simp)
            (fun y _ => ⟨[.int y], gb_name, fun _ _ _ _ _ => pq_w (pw_or' (by rw [← inF_ints]; exact pq_in (pd_var 10) (ps_tuple (pd_var 5)) rfl (all_flat_ints _)) fun _ => pw_or1' ?_), fun _ _ _ _ _ _ => pd_var 10⟩)))) (hss_nil ?_))
        · have e : (FM.blockWith [y] (FM.pickedM rc st p)).isSome = !isNo (obD (FM.blockWith [y] (FM.pickedM rc st p))) := by rw [isNo_obD]; cases FM.blockWith [y] (FM.pickedM rc st p) <;> rfl
          rw [e]
          exact pq_notN (pd_call Gx (hr.mono (by decide)) (ga_d (pd_tup (pds_cons (pd_var 10) pds_nil)) (ga_d (pd_var 7) ga_nil)) ⟨[y], FM.pickedM rc st p, rfl, rfl⟩)
        · refine hss_cons (hs_ret (pd_tup (pds_cons (pd_var 7) (pds_cons (pd_tup (pds_cons (pd_var 3) (pds_cons (pd_var 4) (pds_cons (pd_var 5) pds_nil)))) pds_nil))) ?_)
          show Rt.dat _ = Rt.dat _
          have e : (FM.replyM rc st p).2 = ⟨st.n, st.held, (FM.sortI st.held).filter (fun e => st.told.contains e || (FM.blockWith [e] (FM.pickedM rc st p)).isSome)⟩ := by unfold FM.replyM; rw [h]; rfl
          rw [e]
          rfl
      · refine hss_nil (hss_cons (hs_ret (pd_tup (pds_cons (pd_var 7) (pds_cons (pd_tup (pds_cons (pd_var 3) (pds_cons (pd_var 4) (pds_cons (pd_var 5) pds_nil)))) pds_nil))) ?_))
        show Rt.dat _ = Rt.dat _
        have e : (FM.replyM rc st p).2 = ⟨st.n, st.held, st.told⟩ := by unfold FM.replyM; rw [h]; rfl
        rw [e]
        rfl
end
end FB
end

section
set_option Elab.async false
set_option linter.all false
set_option maxRecDepth 100000
set_option maxHeartbeats 4000000
/-! answered, place_behind, events_in, real_events. -/
namespace FB
open PySem L2
theorem s_cd : decide (("come" : Str) = "drop") = false := by decide +kernel
theorem s_cc : decide (("come" : Str) = "come") = true := by decide +kernel
theorem s_cr : decide (("come" : Str) = "round") = false := by decide +kernel
theorem s_dd : decide (("drop" : Str) = "drop") = true := by decide +kernel
theorem s_dc : decide (("drop" : Str) = "come") = false := by decide +kernel
theorem s_dr : decide (("drop" : Str) = "round") = false := by decide +kernel
theorem s_rd : decide (("round" : Str) = "drop") = false := by decide +kernel
theorem s_rc : decide (("round" : Str) = "come") = false := by decide +kernel
theorem s_rr : decide (("round" : Str) = "round") = true := by decide +kernel
theorem takeM_len (rc : FM.Rcv) (s : FM.PSt) (p : Int) : (FM.takeM rc s p).held.length ≤ s.held.length + 1 ∧ (FM.takeM rc s p).told.length ≤ s.told.length := by
  unfold FM.takeM
  split
  · exact ⟨Nat.le_succ_of_le (List.length_filter_le _ _), List.length_filter_le _ _⟩
  · split
    · refine ⟨?_, Nat.le_refl _⟩
      show (if rc.ord = true then s.held ++ [p] else FM.sortI (s.held ++ [p])).length ≤ _
      split
      · simp
      · rw [sortI_len]; simp
    · exact ⟨Nat.le_succ _, Nat.le_refl _⟩
theorem replyM_len (rc : FM.Rcv) (s : FM.PSt) (p : Int) : (FM.replyM rc s p).2.held = s.held ∧ (FM.replyM rc s p).2.told.length ≤ s.told.length + s.held.length := by
  refine ⟨rfl, ?_⟩
  show (if rc.tld then _ else s.told).length ≤ _
  split
  · have := List.length_filter_le (fun e => s.told.contains e || (FM.blockWith [e] (FM.pickedM rc s p)).isSome) (FM.sortI s.held)
    rw [sortI_len] at this
    omega
  · omega
structure Sm (k : Nat) (s : FM.PSt) : Prop where
  held : s.held.length ≤ k
  told : s.told.length ≤ k
def preAnswered : List Ar → Rt → Prop := fun as r => ∃ (rc : FM.Rcv) (s : FM.PSt) (e : FM.Ev) (came : Bool) (last : Int), as = [.rcv (rcD rc), .dat (stD s), .dat (evD e), .dat (.bool came), .dat (.int last)] ∧ Sm 400 s ∧ rc.sel.length ≤ 1000 ∧ r = .dat (.tuple [ansD (FM.answeredM rc s e came last).1, stD (FM.answeredM rc s e came last).2])
theorem answeredM_len (rc : FM.Rcv) (s : FM.PSt) (e : FM.Ev) (came : Bool) (last : Int) {k : Nat} (h : Sm k s) : Sm (2 * k + 1) (FM.answeredM rc s e came last).2 := by
  obtain ⟨h1, h2⟩ := h
  unfold FM.answeredM
  cases e with
  | drop p =>
    show Sm _ (if s.held.contains p then FM.withoutM s p else s)
    split
    · exact ⟨Nat.le_trans (List.length_filter_le _ _) (by omega), Nat.le_trans (List.length_filter_le _ _) (by omega)⟩
    · exact ⟨by omega, by omega⟩
  | come p =>
    obtain ⟨t1, t2⟩ := takeM_len rc s p
    obtain ⟨r1, r2⟩ := replyM_len rc (FM.takeM rc s p) p
    show Sm _ (if rc.once then (none, FM.takeM rc s p) else (some ((FM.replyM rc (FM.takeM rc s p) p).2.n, (FM.replyM rc (FM.takeM rc s p) p).1), (FM.replyM rc (FM.takeM rc s p) p).2) : FM.Ans × FM.PSt).2
    split
    · exact ⟨by show (FM.takeM rc s p).held.length ≤ _; omega, by show (FM.takeM rc s p).told.length ≤ _; omega⟩
    · exact ⟨by show (FM.replyM rc (FM.takeM rc s p) p).2.held.length ≤ _; rw [r1]; omega, by show (FM.replyM rc (FM.takeM rc s p) p).2.told.length ≤ _; omega⟩
  | round =>
    obtain ⟨r1, r2⟩ := replyM_len rc s last
    show Sm _ (if !rc.once || !came then (none, s) else (some ((FM.replyM rc s last).2.n, (FM.replyM rc s last).1), (FM.replyM rc s last).2) : FM.Ans × FM.PSt).2
    split
    · exact ⟨by show s.held.length ≤ _; omega, by show s.told.length ≤ _; omega⟩
    · exact ⟨by show (FM.replyM rc s last).2.held.length ≤ _; rw [r1]; omega, by show (FM.replyM rc s last).2.told.length ≤ _; omega⟩
section
variable {P : Program} {w : World} {K : PySem.W.Frag} {mg : Str → Option Value} {base : Heap} {C : Addr}
section
variable {X : Cx} {ρ : Rho} {e : Expr} {rc : FM.Rcv} {pos : Pos}
theorem pd_once (T : Tx X.K X.mg C) (G : Dp' X.prog X.w X.K X.mg X.base C "once" "is_once" 1) (hr : Room 2 X.A) (ho : PR X C ρ e (rcD rc)) (hb : attributeBase e "once" X.env (eval e X.env) = eval e X.env := by rfl) : PD X C ρ (.Attribute e "once" pos) (.bool rc.once) :=
  pv_prop G hr T.cls ho (fun H b c _ => ⟨.bl rc.once, rfl, Rp.bool⟩) hb
theorem pd_rm (T : Tx X.K X.mg C) (G : Dp' X.prog X.w X.K X.mg X.base C "room" "own_room" 1) (hr : Room 2 X.A) (ho : PR X C ρ e (rcD rc)) (hb : attributeBase e "room" X.env (eval e X.env) = eval e X.env := by rfl) : PD X C ρ (.Attribute e "room" pos) (.int rc.room) :=
  pv_prop G hr T.cls ho (fun H b c _ => ⟨.int rc.room, rfl, Rp.int⟩) hb
end
theorem df_answered (A : FnAt K mg "answered" s_answered) (T : Tx K mg C) (Go : Dp' P w K mg base C "once" "is_once" 1) (Gw : Dm P w K mg base C "without" 1 preWithout) (Gt : Dm P w K mg base C "take" 1 preTake) (Gr : Dm P w K mg base C "reply" 3 preReply) : Df P w K mg base C "answered" 4 preAnswered := by
  refine df_of A sc_answered (fun as r h => ?_) (fun _ _ _ _ _ _ us hl => match us, hl with | [_, _, _, _, _], _ => rfl) (fun f cdv A outer s H E hr as r h => ?_)
  · obtain ⟨rc, s, e, c, l, rfl, _⟩ := h; rfl
  · obtain ⟨rc, st, e, came, last, rfl, hz, hz3, rfl⟩ := h
    obtain ⟨z1, z2⟩ := hz
    have nd := sc_answered.nd
    have st1 : ∀ {ρ : Rho} {st' : FM.PSt} , ρ[1]? = some (some (.dat (stD st'))) → True := fun _ => trivial
    cases e with
    | drop p =>
      refine hss_cons (hs_if (k1 := decide (("drop" : Str) = "drop")) (pq_eqS (pd_ixT (ds := [.str "drop", .int p]) (pd_var 2) pd_int) pd_str) (fun _ => ?_) fun h => by rw [s_dd] at h; cases h)
      refine hss_cons (hs_ret (pd_tup (pds_cons pd_none (pds_cons (d := stD (if st.held.contains p then FM.withoutM st p else st)) (pv_if (k1 := st.held.contains p) (by rw [← inF_ints]; exact pq_in (pd_ixT (ds := [.str "drop", .int p]) (pd_var 2) pd_int) (ps_tuple (pd_ixT (ds := [.int st.n, .tuple (st.held.map .int), .tuple (st.told.map .int)]) (pd_var 1) pd_int)) rfl (all_flat_ints _)) (fun h => ?_) fun h => ?_) pds_nil))) rfl)
      · rw [if_pos h]
        exact pd_meth Gw (hr.mono (by decide)) T.cls (pr_var 0) (ga_d (pd_var 1) (ga_d (pd_ixT (ds := [.str "drop", .int p]) (pd_var 2) pd_int) ga_nil)) ⟨rc, st, p, rfl, by omega, by omega, rfl⟩
      · rw [if_neg (by rw [h]; exact Bool.false_ne_true)]
        exact pd_var 1
    | come p =>
      obtain ⟨t1, t2⟩ := takeM_len rc st p
      refine hss_cons (hs_if (k1 := decide (("come" : Str) = "drop")) (pq_eqS (pd_ixT (ds := [.str "come", .int p]) (pd_var 2) pd_int) pd_str) (fun h => by rw [s_cd] at h; cases h) fun _ => hss_nil ?_)
      refine hss_cons (hs_if (k1 := decide (("come" : Str) = "come")) (pq_eqS (pd_ixT (ds := [.str "come", .int p]) (pd_var 2) pd_int) pd_str) (fun _ => ?_) fun h => by rw [s_cc] at h; cases h)
      refine hss_cons (hs_set 1 nd (pd_meth Gt (hr.mono (by decide)) T.cls (pr_var 0) (ga_d (pd_var 1) (ga_d (pd_ixT (ds := [.str "come", .int p]) (pd_var 2) pd_int) ga_nil)) ⟨rc, st, p, rfl, by omega, by omega, rfl⟩) ?_)
      refine hss_cons (hs_set 4 nd (pd_ixT (ds := [.str "come", .int p]) (pd_var 2) pd_int) (hss_nil ?_))
      have e0 : FM.answeredM rc st (.come p) came last = if rc.once then (none, FM.takeM rc st p) else (some ((FM.replyM rc (FM.takeM rc st p) p).2.n, (FM.replyM rc (FM.takeM rc st p) p).1), (FM.replyM rc (FM.takeM rc st p) p).2) := rfl
      rw [e0]
      refine hss_cons (hs_if (k1 := decide (rc.once = decide (("come" : Str) = "come")) || (decide (("come" : Str) = "round") && !came)) (pq_w (pw_or' (pq_eqB (pd_once T Go (hr.mono (by decide)) (pr_var 0)) (pd_eqS (pd_ixT (ds := [.str "come", .int p]) (pd_var 2) pd_int) pd_str)) fun _ => pw_or1' (pq_w (pw_and' (pq_eqS (pd_ixT (ds := [.str "come", .int p]) (pd_var 2) pd_int) pd_str) fun _ => pw_and1' (pq_not (pq_val (pd_var 3))))))) (fun h => ?_) fun h => hss_nil ?_)
      · have ho : rc.once = true := by rw [s_cc, s_cr] at h; simpa using h
        rw [if_pos ho]
        exact hss_cons (hs_ret (pd_tup (pds_cons pd_none (pds_cons (pd_var 1) pds_nil))) rfl)
      · have ho : ¬ rc.once = true := by rw [s_cc, s_cr] at h; simpa using h
        rw [if_neg ho]
        refine hss_cons (hs_unp (is := [5, 1]) (ds := [bsD (FM.replyM rc (FM.takeM rc st p) p).1, stD (FM.replyM rc (FM.takeM rc st p) p).2]) (pd_meth Gr (hr.mono (by decide)) T.cls (pr_var 0) (ga_d (pd_var 1) (ga_d (pd_var 4) ga_nil)) ⟨rc, FM.takeM rc st p, p, rfl, by omega, by omega, hz3, rfl⟩) (pg_tup rfl (pgs_cons (pg_name (i := 5) nd rfl (.inl rfl)) (pgs_cons (pg_name (i := 1) nd rfl (.inl rfl)) pgs_nil))) gb_tup (by simp [rho0]) ?_)
        exact hss_cons (hs_ret (pd_tup (pds_cons (pd_tup (pds_cons (pd_ixT (ds := [.int (FM.replyM rc (FM.takeM rc st p) p).2.n, .tuple ((FM.replyM rc (FM.takeM rc st p) p).2.held.map .int), .tuple ((FM.replyM rc (FM.takeM rc st p) p).2.told.map .int)]) (pd_var 1) pd_int) (pds_cons (pd_var 5) pds_nil))) (pds_cons (pd_var 1) pds_nil))) rfl)
    | round =>
      refine hss_cons (hs_if (k1 := decide (("round" : Str) = "drop")) (pq_eqS (pd_ixT (ds := [.str "round"]) (pd_var 2) pd_int) pd_str) (fun h => by rw [s_rd] at h; cases h) fun _ => hss_nil ?_)
      refine hss_cons (hs_if (k1 := decide (("round" : Str) = "come")) (pq_eqS (pd_ixT (ds := [.str "round"]) (pd_var 2) pd_int) pd_str) (fun h => by rw [s_rc] at h; cases h) fun _ => hss_nil ?_)
      have e0 : FM.answeredM rc st .round came last = if !rc.once || !came then (none, st) else (some ((FM.replyM rc st last).2.n, (FM.replyM rc st last).1), (FM.replyM rc st last).2) := rfl
      rw [e0]
      refine hss_cons (hs_if (k1 := decide (rc.once = decide (("round" : Str) = "come")) || (decide (("round" : Str) = "round") && !came)) (pq_w (pw_or' (pq_eqB (pd_once T Go (hr.mono (by decide)) (pr_var 0)) (pd_eqS (pd_ixT (ds := [.str "round"]) (pd_var 2) pd_int) pd_str)) fun _ => pw_or1' (pq_w (pw_and' (pq_eqS (pd_ixT (ds := [.str "round"]) (pd_var 2) pd_int) pd_str) fun _ => pw_and1' (pq_not (pq_val (pd_var 3))))))) (fun h => ?_) fun h => hss_nil ?_)
      · have ho : (!rc.once || !came) = true := by rw [s_rc, s_rr] at h; cases h1 : rc.once <;> cases h2 : came <;> simp_all
        rw [if_pos ho]
        exact hss_cons (hs_ret (pd_tup (pds_cons pd_none (pds_cons (pd_var 1) pds_nil))) rfl)
      · have ho : ¬ (!rc.once || !came) = true := by rw [s_rc, s_rr] at h; cases h1 : rc.once <;> cases h2 : came <;> simp_all
        rw [if_neg ho]
        refine hss_cons (hs_unp (is := [5, 1]) (ds := [bsD (FM.replyM rc st last).1, stD (FM.replyM rc st last).2]) (pd_meth Gr (hr.mono (by decide)) T.cls (pr_var 0) (ga_d (pd_var 1) (ga_d (pd_var 4) ga_nil)) ⟨rc, st, last, rfl, by omega, by omega, hz3, rfl⟩) (pg_tup rfl (pgs_cons (pg_name (i := 5) nd rfl (.inl rfl)) (pgs_cons (pg_name (i := 1) nd rfl (.inl rfl)) pgs_nil))) gb_tup (by simp [rho0]) ?_)
        exact hss_cons (hs_ret (pd_tup (pds_cons (pd_tup (pds_cons (pd_ixT (ds := [.int (FM.replyM rc st last).2.n, .tuple ((FM.replyM rc st last).2.held.map .int), .tuple ((FM.replyM rc st last).2.told.map .int)]) (pd_var 1) pd_int) (pds_cons (pd_var 5) pds_nil))) (pds_cons (pd_var 1) pds_nil))) rfl)
end
end FB
end

section
set_option Elab.async false
set_option linter.all false
set_option maxRecDepth 100000
set_option maxHeartbeats 4000000
/-! place_behind. -/
namespace FB
open PySem L2
theorem eqvAll_map {β : Type} {enc : β → PyData} [DecidableEq β] (h : ∀ a b, PyData.eqv (enc a) (enc b) = decide (a = b)) : ∀ (xs ys : List β), PyData.eqvAll (xs.map enc) (ys.map enc) = decide (xs = ys)
  | [], [] => by simp [PyData.eqvAll]
  | [], y :: ys => by simp [PyData.eqvAll]
  | x :: xs, [] => by simp [PyData.eqvAll]
  | x :: xs, y :: ys => by
    simp only [List.map_cons, PyData.eqvAll, h, eqvAll_map h xs ys, List.cons.injEq]
    rw [Bool.eq_iff_iff]; simp
theorem canLayAll_map {β : Type} {enc : β → PyData} (h : ∀ a, PyData.canLay0 (enc a) = true) : ∀ xs : List β, PyData.canLayAll0 (xs.map enc) = true
  | [] => by simp [PyData.canLayAll0]
  | x :: xs => by simp [PyData.canLayAll0, h, canLayAll_map h xs]
theorem depthAll_map {β : Type} {enc : β → PyData} {k : Nat} (h : ∀ a, PyData.depth (enc a) ≤ k) : ∀ xs : List β, PyData.depthAll (xs.map enc) ≤ k
  | [] => by simp [PyData.depthAll]
  | x :: xs => by
    have := h x
    have := depthAll_map h xs
    simp only [List.map_cons, PyData.depthAll]
    omega
theorem lay_bD (b : FM.Blk) : PyData.canLay0 (bD b) = true := by simp [bD, PyData.canLay0, PyData.canLayAll0]
theorem dep_bD (b : FM.Blk) : PyData.depth (bD b) ≤ 1 := by simp [bD, PyData.depth, PyData.depthAll]
theorem eqv_ansD (a b : FM.Ans) : PyData.eqv (ansD a) (ansD b) = decide (a = b) := by
  cases a with
  | none => cases b with
    | none => simp [ansD, PyData.eqv]
    | some b => simp [ansD, PyData.eqv]
  | some a => cases b with
    | none => simp [ansD, PyData.eqv]
    | some b =>
      simp only [ansD, bsD, PyData.eqv, PyData.eqvAll, Bool.and_true, eqvAll_map eqv_bD, Option.some.injEq, Bool.beq_eq_decide_eq]
      rw [Bool.eq_iff_iff]
      simp only [Bool.and_eq_true, decide_eq_true_eq, beq_iff_eq]
      exact ⟨fun h => Prod.ext h.1 h.2, fun h => ⟨congrArg _ h, congrArg _ h⟩⟩
theorem shp_ansD (a : FM.Ans) : Shp (ansD a) := by
  cases a with
  | none => rfl
  | some a =>
    have := depthAll_map dep_bD a.2
    have h2 : PyData.depth (ansD (some a)) ≤ 64 := by
      simp only [ansD, bsD, PyData.depth, PyData.depthAll]
      omega
    have h3 : PyData.canLay0 (ansD (some a)) = true := by simp [ansD, bsD, PyData.canLay0, PyData.canLayAll0, canLayAll_map lay_bD]
    simp only [Shp, SeqAt.shaped, h3, Bool.true_and, decide_eq_true_eq]
    exact h2
def behD : Option (FM.Pl × Int) → PyData
  | none => .none
  | some q => .tuple [plD q.1, .int q.2]
structure SmP (k : Nat) (p : FM.Pl) : Prop where
  first : Sm k p.first
  second : Sm k p.second
def preBehind : List Ar → Rt → Prop := fun as r => ∃ (a b : FM.Rcv) (p : FM.Pl) (e : FM.Ev), as = [.rcv (rcD a), .rcv (rcD b), .dat (plD p), .dat (evD e)] ∧ SmP 400 p ∧ a.sel.length ≤ 1000 ∧ b.sel.length ≤ 1000 ∧ r = .dat (behD (FM.behindM a b p e))
theorem Sm.le {j k : Nat} {s : FM.PSt} (h : Sm j s) (hjk : j ≤ k) : Sm k s := ⟨Nat.le_trans h.held hjk, Nat.le_trans h.told hjk⟩
section
variable {P : Program} {w : World} {K : PySem.W.Frag} {mg : Str → Option Value} {base : Heap} {C : Addr}
/-- the first word of an event -/
def evW : FM.Ev → Str
  | .come _ => "come"
  | .drop _ => "drop"
  | .round => "round"
def evL : FM.Ev → List PyData
  | .come p => [.str "come", .int p]
  | .drop p => [.str "drop", .int p]
  | .round => [.str "round"]
theorem evD_eq (e : FM.Ev) : evD e = .tuple (evL e) := by cases e <;> rfl
theorem evL_0 (e : FM.Ev) : atI (evL e) 0 = some (.str (evW e)) := by cases e <;> rfl
theorem evW_come (e : FM.Ev) : decide (evW e = "come") = e.isCome := by
  cases e with
  | come p => exact s_cc
  | drop p => exact s_dc
  | round => exact s_rc
theorem evW_drop (e : FM.Ev) : decide (evW e = "drop") = e.isDrop := by
  cases e with
  | come p => exact s_cd
  | drop p => exact s_dd
  | round => exact s_rd
def isRound : FM.Ev → Bool
  | .round => true
  | _ => false
theorem evW_round (e : FM.Ev) : decide (evW e = "round") = isRound e := by
  cases e with
  | come p => exact s_cr
  | drop p => exact s_dr
  | round => exact s_rr
def lastOf (e : FM.Ev) (y l : Int) : Int := match e with
  | .come p => p - y
  | _ => l
section
variable {X : Cx} {ρ : Rho} {a : Expr} {e : FM.Ev} {pos : Pos} {j : Nat} {p1 p2 : Pos}
theorem pd_ev0 (h : PD X C ρ a (evD e)) : PD X C ρ (.Subscript a (.Constant (.int 0) j p1) pos) (.str (evW e)) := by
  rw [evD_eq] at h
  exact pd_ixT (ds := evL e) h pd_int (evL_0 e)
theorem pd_evC (h : PD X C ρ a (evD e)) : PD X C ρ (.Compare (.Subscript a (.Constant (.int 0) j p1) pos) [.Eq] [.Constant (.str "come") k p3] p2) (.bool e.isCome) := by
  rw [← evW_come]; exact pd_eqS (pd_ev0 h) pd_str
theorem pd_evDr (h : PD X C ρ a (evD e)) : PD X C ρ (.Compare (.Subscript a (.Constant (.int 0) j p1) pos) [.Eq] [.Constant (.str "drop") k p3] p2) (.bool e.isDrop) := by
  rw [← evW_drop]; exact pd_eqS (pd_ev0 h) pd_str
theorem pq_evC (h : PD X C ρ a (evD e)) : PQ X C ρ (.Compare (.Subscript a (.Constant (.int 0) j p1) pos) [.Eq] [.Constant (.str "come") k p3] p2) e.isCome := by
  rw [← evW_come]; exact pq_eqS (pd_ev0 h) pd_str
theorem pq_evR (h : PD X C ρ a (evD e)) : PQ X C ρ (.Compare (.Subscript a (.Constant (.int 0) j p1) pos) [.Eq] [.Constant (.str "round") k p3] p2) (isRound e) := by
  rw [← evW_round]; exact pq_eqS (pd_ev0 h) pd_str
end
theorem df_place_behind (A : FnAt K mg "place_behind" s_place_behind) (T : Tx K mg C) (Go : Dp' P w K mg base C "once" "is_once" 1) (Ga : Df P w K mg base C "answered" 4 preAnswered) (Gl : Df P w K mg base C "lowered_holding" 1 preLow) : Df P w K mg base C "place_behind" 5 preBehind := by
  refine df_of A sc_place_behind (fun as r h => ?_) (fun _ _ _ _ _ _ us hl => match us, hl with | [_, _, _, _], _ => rfl) (fun f cdv A outer s H E hr as r h => ?_)
  · obtain ⟨a, b, p, e, rfl, _⟩ := h; rfl
  · obtain ⟨a, b, p, e, rfl, hz, ha, hb, rfl⟩ := h
    have nd := sc_place_behind.nd
    obtain ⟨z1, z2⟩ := hz
    refine hss_cons (hs_unp (is := [4, 5, 6, 7]) (ds := [stD p.first, stD p.second, .bool p.came, .int p.last]) (pd_var 2) (pg_tup rfl (pgs_cons (pg_name (i := 4) nd rfl (.inl rfl)) (pgs_cons (pg_name (i := 5) nd rfl (.inl rfl)) (pgs_cons (pg_name (i := 6) nd rfl (.inl rfl)) (pgs_cons (pg_name (i := 7) nd rfl (.inl rfl)) pgs_nil))))) gb_tup (by simp [rho0]) ?_)
    show HSs _ C [some (.rcv (rcD a)), some (.rcv (rcD b)), some (.dat (plD p)), some (.dat (evD e)), some (.dat (stD p.first)), some (.dat (stD p.second)), some (.dat (.bool p.came)), some (.dat (.int p.last)), none, none, none, none] _ _
    have y1 := answeredM_len a p.first e p.came p.last z1
    have y2 := answeredM_len b p.second e p.came p.last z2
    have hbeh : FM.behindM a b p e = if (FM.answeredM a p.first e p.came p.last).1 ≠ (FM.answeredM b p.second e p.came p.last).1 then none else
      let f := (FM.answeredM a p.first e p.came p.last).2
      let g := (FM.answeredM b p.second e p.came p.last).2
      let by_ := if g.n < f.n then g.n else f.n
      let f := FM.lowM f by_
      let g := FM.lowM g by_
      let came := e.isCome || (p.came && e.isDrop)
      let last := lastOf e by_ p.last
      let known := came && (a.once && (f.held.contains last || g.held.contains last))
      some (⟨f, g, came && a.once, if known then last else -1⟩, by_) := by cases e <;> rfl
    have hx : preAnswered [.rcv (rcD a), .dat (stD p.first), .dat (evD e), .dat (.bool p.came), .dat (.int p.last)] (.dat (.tuple [ansD (FM.answeredM a p.first e p.came p.last).1, stD (FM.answeredM a p.first e p.came p.last).2])) := ⟨a, p.first, e, p.came, p.last, rfl, z1, ha, rfl⟩
    have hy : preAnswered [.rcv (rcD b), .dat (stD p.second), .dat (evD e), .dat (.bool p.came), .dat (.int p.last)] (.dat (.tuple [ansD (FM.answeredM b p.second e p.came p.last).1, stD (FM.answeredM b p.second e p.came p.last).2])) := ⟨b, p.second, e, p.came, p.last, rfl, z2, hb, rfl⟩
    generalize FM.answeredM a p.first e p.came p.last = x at hbeh y1 hx
    generalize FM.answeredM b p.second e p.came p.last = y at hbeh y2 hy
    have e2 : ∀ {e : FM.Ev} {l : Int}, FM.Ev.isCome e = true → ∃ x, e = .come x := fun {e} {l} h => by cases e <;> first | exact ⟨_, rfl⟩ | cases h
    refine hss_cons (hs_unp (is := [8, 4]) (ds := [ansD x.1, stD x.2]) (pd_call Ga (hr.mono (by decide)) (ga_r (pr_var 0) (ga_d (pd_var 4) (ga_d (pd_var 3) (ga_d (pd_var 6) (ga_d (pd_var 7) ga_nil))))) hx) (pg_tup rfl (pgs_cons (pg_name (i := 8) nd rfl (.inl rfl)) (pgs_cons (pg_name (i := 4) nd rfl (.inl rfl)) pgs_nil))) gb_tup (by simp [rho0]) ?_)
    show HSs _ C [some (.rcv (rcD a)), some (.rcv (rcD b)), some (.dat (plD p)), some (.dat (evD e)), some (.dat (stD x.2)), some (.dat (stD p.second)), some (.dat (.bool p.came)), some (.dat (.int p.last)), some (.dat (ansD x.1)), none, none, none] _ _
    refine hss_cons (hs_unp (is := [9, 5]) (ds := [ansD y.1, stD y.2]) (pd_call Ga (hr.mono (by decide)) (ga_r (pr_var 1) (ga_d (pd_var 5) (ga_d (pd_var 3) (ga_d (pd_var 6) (ga_d (pd_var 7) ga_nil))))) hy) (pg_tup rfl (pgs_cons (pg_name (i := 9) nd rfl (.inl rfl)) (pgs_cons (pg_name (i := 5) nd rfl (.inl rfl)) pgs_nil))) gb_tup (by simp [rho0]) ?_)
    show HSs _ C [some (.rcv (rcD a)), some (.rcv (rcD b)), some (.dat (plD p)), some (.dat (evD e)), some (.dat (stD x.2)), some (.dat (stD y.2)), some (.dat (.bool p.came)), some (.dat (.int p.last)), some (.dat (ansD x.1)), some (.dat (ansD y.1)), none, none] _ _
    refine hss_cons (hs_if (pq_ne hr.units (pd_var 8) (pd_var 9) (shp_ansD _) (shp_ansD _)) (fun h => ?_) fun h => hss_nil ?_)
    · rw [eqv_ansD] at h
      have h' : x.1 ≠ y.1 := by simpa using h
      rw [if_pos h'] at hbeh
      refine hss_cons (hs_ret pd_none ?_)
      show Rt.dat _ = Rt.dat _
      rw [hbeh]; rfl
    rw [eqv_ansD] at h
    have h' : ¬ x.1 ≠ y.1 := by simpa using h
    rw [if_neg h'] at hbeh
    refine hss_cons (hs_set 10 nd (pd_min2 rfl T.min_ (pd_ixT (ds := [.int x.2.n, .tuple (x.2.held.map .int), .tuple (x.2.told.map .int)]) (pd_var 4) pd_int) (pd_ixT (ds := [.int y.2.n, .tuple (y.2.held.map .int), .tuple (y.2.told.map .int)]) (pd_var 5) pd_int)) ?_)
    dsimp only at hbeh
    generalize (if y.2.n < x.2.n then y.2.n else x.2.n) = m at hbeh ⊢
    refine hss_cons (hs_par 4 5 (s1 := .dat (stD (FM.lowM x.2 m))) (s2 := .dat (stD (FM.lowM y.2 m))) nd (by decide) (nw_d (pd_call Gl (hr.mono (by decide)) (ga_d (pd_var 4) (ga_d (pd_var 10) ga_nil)) ⟨x.2, m, rfl, by have := y1.held; omega, by have := y1.told; omega, rfl⟩)) (nw_d (pd_call Gl (hr.mono (by decide)) (ga_d (pd_var 5) (ga_d (pd_var 10) ga_nil)) ⟨y.2, m, rfl, by have := y2.held; omega, by have := y2.told; omega, rfl⟩)) ?_)
    refine hss_cons (hs_set 6 nd (pd_or (pd_evC (pd_var 3)) fun _ => pd_one (pd_and (pd_var 6) fun _ => pd_one (pd_evDr (pd_var 3)))) ?_)
    refine hss_cons (hs_set 7 (d := .int (lastOf e m p.last)) nd (pv_if (pq_evC (pd_var 3)) (fun hc => ?_) fun hc => ?_) ?_)
    · obtain ⟨z, rfl⟩ := e2 (l := 0) hc
      exact pd_sub (pd_ixT (ds := [.str "come", .int z]) (pd_var 3) pd_int) (pd_var 10)
    · have : lastOf e m p.last = p.last := by cases e <;> first | rfl | cases hc
      rw [this]; exact pd_var 7
    generalize hf : FM.lowM x.2 m = u at hbeh ⊢
    generalize hg : FM.lowM y.2 m = v at hbeh ⊢
    refine hss_cons (hs_set 11 nd (pd_and (pd_var 6) fun _ => pd_and (pd_once T Go (hr.mono (by decide)) (pr_var 0)) fun _ => pd_one (pd_or (k1 := u.held.contains (lastOf e m p.last)) (k2 := v.held.contains (lastOf e m p.last)) (by rw [← inF_ints]; exact pd_in (pd_var 7) (ps_tuple (pd_ixT (ds := [.int u.n, .tuple (u.held.map .int), .tuple (u.told.map .int)]) (pd_var 4) pd_int)) rfl (all_flat_ints _)) fun _ => by rw [← inF_ints]; exact pd_one (pd_in (pd_var 7) (ps_tuple (pd_ixT (ds := [.int v.n, .tuple (v.held.map .int), .tuple (v.told.map .int)]) (pd_var 5) pd_int)) rfl (all_flat_ints _)))) ?_)
    obtain ⟨t, ht⟩ := T.idle
    refine hss_cons (hs_ret (d := behD (FM.behindM a b p e)) ?_ rfl)
    rw [hbeh]
    refine pd_tup (pds_cons (pd_tup (pds_cons (pd_var 4) (pds_cons (pd_var 5) (pds_cons (pd_and (pd_var 6) fun _ => pd_one (pd_once T Go (hr.mono (by decide)) (pr_var 0))) (pds_cons (d := .int _) (pv_if (pq_val (pd_var 11)) (fun hk => ?_) fun hk => ?_) pds_nil))))) (pds_cons (pd_var 10) pds_nil))
    · rw [if_pos hk]; exact pd_var 7
    · rw [if_neg (by rw [hk]; exact Bool.false_ne_true)]; exact pd_globI ht
end
end FB
end

section
set_option Elab.async false
set_option linter.all false
set_option maxRecDepth 100000
set_option maxHeartbeats 4000000
/-! events_in, real_events. -/
namespace FB
open PySem L2
/-- a new list, or one of the frame's own -/
def tOw (X : Cx) (C : Addr) (ρ : Rho) (ds : List PyData) : TE := fun σ H Q => ∃ H₀ M, Fr X.prog X.w X.K C H₀ M H ρ σ ∧ ∀ a vs H', Same H H' → (H₀ a = none ∨ a ∈ M) → H' a = some (.lst vs) → RpA X.K H' vs ds → Q (.ref a) H'
abbrev PO' (X : Cx) (C : Addr) (ρ : Rho) (e : Expr) (ds : List PyData) : Prop := PE X e (tOw X C ρ ds)
section
variable {X : Cx} {C : Addr} {ρ : Rho} {e a b c : Expr} {ds : List PyData} {pos p : Pos} {x : Str} {k1 : Bool} {Post : Fl → Prop}
/-- an own variable -/
theorem po_var (i : Nat) (h : ρ[i]? = some (some (.own ds)) := by rfl) (hN : X.N[i]? = some x := by rfl) (hv : Vis X.env.scope x := by first | exact Or.inl rfl | exact Or.inr (Or.inl rfl) | exact Or.inr (Or.inr rfl)) (hd : (x == ("__debug__" : Str)) = false := by decide)
    (hcd : (x == ("__classdict__" : Str)) = false := by decide) : PO' X C ρ (.Name x p) ds := (pe_var hN hv hd hcd).weak fun σ H Q ⟨H₀, M, F, q⟩ => by
  obtain ⟨v, e, a, vs, rfl, n, h1, h2⟩ := F.slot i _ h
  exact ⟨_, e, q a vs H (Same.refl H) n h1 h2⟩
theorem po_new (h : PN X C ρ e ds) : PO' X C ρ e ds := h.weak fun σ H Q ⟨H₀, M, F, q⟩ => ⟨H₀, M, F, fun a vs H' s hn h1 h2 => q a vs H' s (F.newA hn) h1 h2⟩
theorem po_if (hc : PQ X C ρ c k1) (ha : k1 = true → PO' X C ρ a ds) (hb : k1 = false → PO' X C ρ b ds) : PO' X C ρ (.IfExp c a b pos) ds := by
  cases k1 with
  | true => exact (pe_ifExp hc (ha rfl) PE.never).weak fun σ H Q ⟨H₀, M, F, q⟩ => ⟨H₀, M, F, fun H1 s1 => iteT ⟨H₀, M, F.same s1, fun u vs H2 s2 n2 h2 r2 => q u vs H2 (s1.trans s2) n2 h2 r2⟩⟩
  | false => exact (pe_ifExp hc PE.never (hb rfl)).weak fun σ H Q ⟨H₀, M, F, q⟩ => ⟨H₀, M, F, fun H1 s1 => iteF ⟨H₀, M, F.same s1, fun u vs H2 s2 n2 h2 r2 => q u vs H2 (s1.trans s2) n2 h2 r2⟩⟩
theorem hs_retO (h : PO' X C ρ e ds) (hp : Post (.rt (.lst ds))) : HS X C ρ (.Return (some e) pos) Post := (ps_ret h).weak fun D σ H ⟨H₀, M, F, _, _, _, r⟩ => ⟨H₀, M, F, fun a vs H' s hn h1 h2 => r (.lst ds) _ H' hp (F.same s).base ⟨a, vs, rfl, hn, h1, h2⟩⟩
end
def preEvents : List Ar → Rt → Prop := fun as r => ∃ (a b : FM.Rcv) (p : FM.Pl), as = [.rcv (rcD a), .rcv (rcD b), .dat (plD p)] ∧ (0 ≤ a.room ∧ a.room ≤ 100) ∧ (0 ≤ b.room ∧ b.room ≤ 100) ∧ r = .lst ((FM.eventsM a b p).map evD)
def preReal : List Ar → Rt → Prop := fun as r => ∃ (steps : List (FM.Ev × Int)), as = [.lst (steps.map stepD)] ∧ steps.length < sizeLine ∧ r = .dat (.tuple ((FM.realM steps).map evD))
def upEv (e : FM.Ev) (b : Int) : FM.Ev := match e with
  | .come p => .come (p + b)
  | .drop p => .drop (p + b)
  | .round => .round
def realF (acc : List FM.Ev × Int) (s : FM.Ev × Int) : List FM.Ev × Int := (acc.1 ++ [upEv s.1 acc.2], acc.2 + s.2)
theorem realM_eq (steps : List (FM.Ev × Int)) : FM.realM steps = (steps.foldl realF ([], 0)).1 := rfl
theorem realF_len : ∀ (steps : List (FM.Ev × Int)) (acc : List FM.Ev × Int), (steps.foldl realF acc).1.length = acc.1.length + steps.length
  | [], acc => by simp
  | s :: ss, acc => by
    rw [List.foldl_cons, realF_len ss]
    simp [realF]; omega
section
variable {P : Program} {w : World} {K : PySem.W.Frag} {mg : Str → Option Value} {base : Heap} {C : Addr}
theorem df_events_in (A : FnAt K mg "events_in" s_events_in) (T : Tx K mg C) (Gm : Dp' P w K mg base C "room" "own_room" 1) : Df P w K mg base C "events_in" 3 preEvents := by
  refine df_of A sc_events_in (fun as r h => ?_) (fun _ _ _ _ _ _ us hl => match us, hl with | [_, _, _], _ => rfl) (fun f cdv A outer s H E hr as r h => ?_)
  · obtain ⟨a, b, p, rfl, _⟩ := h; rfl
  · obtain ⟨a, b, p, rfl, ha, hb, rfl⟩ := h
    have nd := sc_events_in.nd
    refine hss_cons (hs_if (k1 := !decide (p.first.n = p.second.n)) (pq_neI (pd_ixT (ds := [.int p.first.n, .tuple (p.first.held.map .int), .tuple (p.first.told.map .int)]) (pd_ixT (ds := [stD p.first, stD p.second, .bool p.came, .int p.last]) (pd_var 2) pd_int) pd_int) (pd_ixT (ds := [.int p.second.n, .tuple (p.second.held.map .int), .tuple (p.second.told.map .int)]) (pd_ixT (ds := [stD p.first, stD p.second, .bool p.came, .int p.last]) (pd_var 2) pd_int) pd_int)) (fun h => ?_) fun h => hss_nil ?_)
    · have h' : p.first.n ≠ p.second.n := by simpa using h
      refine hss_cons (hs_retN (pn_lst (pds_cons (pd_tup (pds_cons pd_str pds_nil)) pds_nil)) ?_)
      show Rt.lst _ = Rt.lst _
      unfold FM.eventsM
      rw [if_pos h']; rfl
    have h' : ¬ p.first.n ≠ p.second.n := by simpa using h
    have he : FM.eventsM a b p = if p.came then ((FM.rangeM (FM.wideM a.room b.room)).map FM.Ev.come ++ ((FM.rangeM (FM.wideM a.room b.room)).filter fun x => p.first.held.contains x || p.second.held.contains x).map FM.Ev.drop) ++ [.round] else ((FM.rangeM (FM.wideM a.room b.room)).map FM.Ev.come ++ ((FM.rangeM (FM.wideM a.room b.room)).filter fun x => p.first.held.contains x || p.second.held.contains x).map FM.Ev.drop) := by
      unfold FM.eventsM
      rw [if_neg h']
    have hw : 0 ≤ FM.wideM a.room b.room ∧ FM.wideM a.room b.room ≤ 102 := by unfold FM.wideM; split <;> omega
    refine hss_cons (hs_set 3 (d := .int (FM.wideM a.room b.room)) nd (pd_add (pd_max2 rfl T.max_ (pd_rm T Gm (hr.mono (by decide)) (pr_var 0)) (pd_rm T Gm (hr.mono (by decide)) (pr_var 1))) pd_int) ?_)
    generalize FM.wideM a.room b.room = wd at hw he ⊢
    show HSs _ C [some (.rcv (rcD a)), some (.rcv (rcD b)), some (.dat (plD p)), some (.dat (.int wd)), none, none] _ _
    have hl : (FM.rangeM wd).length ≤ 102 := by
      unfold FM.rangeM
      rw [List.length_map, List.length_range]
      omega
    refine hss_cons (hs_map (xs := FM.rangeM wd) (enc := .int) (is := [5]) (own := [("piece", 5)]) (f := fun z => evD (.come z)) 4 (pis_range1 T.range_ (pd_var 3) (by omega) (by omega)) (blkOk_by (N := ["one", "other", "place", "wide", "found", "piece"]) (sc := defScope s_events_in) (by decide +kernel)) nd (fun _ _ _ _ _ => pg_name (i := 5) nd rfl (.inl rfl)) (sz_le (by omega)) (by simp) (fun z _ => ⟨[.int z], gb_name, fun _ _ _ _ _ => pd_tup (pds_cons pd_str (pds_cons (pd_var 5) pds_nil))⟩) ?_)
    refine hss_cons (hs_addL 4 nd rfl (pn_flt (xs := FM.rangeM wd) (enc := .int) (is := [5]) (own := [("piece", 5)]) (q := fun x => p.first.held.contains x || p.second.held.contains x) (f := fun z => evD (.drop z)) (pis_range1 T.range_ (pd_var 3) (by omega) (by omega)) (blkOk_by (N := ["one", "other", "place", "wide", "found", "piece"]) (sc := defScope s_events_in) (by decide +kernel)) nd (fun _ _ _ _ _ => pg_name (i := 5) nd rfl (.inl rfl)) (sz_le (by omega)) (by simp)
      (fun z _ => ⟨[.int z], gb_name, fun _ _ _ _ _ => ?_, fun _ _ _ _ _ _ => pd_tup (pds_cons pd_str (pds_cons (pd_var 5) pds_nil))⟩)) ?_ ?_)
    · dsimp only
      rw [← inF_ints, ← inF_ints]
      exact pq_w (pw_or' (pq_in (pd_var 5) (ps_tuple (pd_ixT (ds := [.int p.first.n, .tuple (p.first.held.map .int), .tuple (p.first.told.map .int)]) (pd_ixT (ds := [stD p.first, stD p.second, .bool p.came, .int p.last]) (pd_var 2) pd_int) pd_int)) rfl (all_flat_ints _)) fun _ => pw_or1' (pq_in (pd_var 5) (ps_tuple (pd_ixT (ds := [.int p.second.n, .tuple (p.second.held.map .int), .tuple (p.second.told.map .int)]) (pd_ixT (ds := [stD p.first, stD p.second, .bool p.came, .int p.last]) (pd_var 2) pd_int) pd_int)) rfl (all_flat_ints _)))
    · have := List.length_filter_le (fun x => p.first.held.contains x || p.second.held.contains x) (FM.rangeM wd)
      rw [List.length_map, List.length_map]
      exact sz_le (by omega)
    · generalize hF : ((FM.rangeM wd).map FM.Ev.come ++ ((FM.rangeM wd).filter fun x => p.first.held.contains x || p.second.held.contains x).map FM.Ev.drop) = F at he
      have hF2 : ((FM.rangeM wd).map fun z => evD (.come z)) ++ (((FM.rangeM wd).filter fun x => p.first.held.contains x || p.second.held.contains x).map fun z => evD (.drop z)) = F.map evD := by
        rw [← hF, List.map_append, List.map_map, List.map_map]; rfl
      have hFl : F.length ≤ 204 := by
        have := List.length_filter_le (fun x => p.first.held.contains x || p.second.held.contains x) (FM.rangeM wd)
        rw [← hF, List.length_append, List.length_map, List.length_map]
        omega
      rw [hF2]
      show HSs _ C [some (.rcv (rcD a)), some (.rcv (rcD b)), some (.dat (plD p)), some (.dat (.int wd)), some (.own (F.map evD)), none] _ _
      refine hss_cons (hs_retO (ds := (FM.eventsM a b p).map evD) (po_if (pq_val (pd_ixT (ds := [stD p.first, stD p.second, .bool p.came, .int p.last]) (pd_var 2) pd_int)) (fun hc => ?_) fun hc => ?_) rfl)
      · rw [he, if_pos hc, List.map_append]
        exact po_new (pn_lst (pds_star (ps_list (pl_var 4)) (pds_cons (pd_tup (pds_cons pd_str pds_nil)) pds_nil)) (sz_le (by rw [List.length_append, List.length_map, List.length_map]; show F.length + 1 ≤ _; omega)))
      · rw [he, if_neg (by rw [hc]; exact Bool.false_ne_true)]
        exact po_var 4
theorem df_real_events (A : FnAt K mg "real_events" s_real_events) (T : Tx K mg C) : Df P w K mg base C "real_events" 1 preReal := by
  refine df_of A sc_real_events (fun as r h => ?_) (fun _ _ _ _ _ _ us hl => match us, hl with | [_], _ => rfl) (fun f cdv A outer s H E hr as r h => ?_)
  · obtain ⟨a, rfl, _⟩ := h; rfl
  · obtain ⟨steps, rfl, hz, rfl⟩ := h
    have nd := sc_real_events.nd
    refine hss_cons (hs_par 1 2 nd (by decide) (nw_n (pn_lst pds_nil)) (nw_d pd_int) ?_)
    refine hss_cons (hs_for (xs := steps) (enc := stepD) (is := [3, 4]) (pis_var 0 rfl) (pg_tup rfl (pgs_cons (pg_name (i := 3) nd rfl (.inl rfl)) (pgs_cons (pg_name (i := 4) nd rfl (.inl rfl)) pgs_nil)))
      (fun i ρ => ∃ u v, ρ = [some (.rl (steps.map stepD)), some (.own (((steps.take i).foldl realF ([], 0)).1.map evD)), some (.dat (.int ((steps.take i).foldl realF ([], 0)).2)), u, v]) ⟨none, none, rfl⟩ (fun i z ρ' hz' hR => ?_) (fun ρ' hR => ?_))
    · obtain ⟨u, v, rfl⟩ := hR
      have hi : i < steps.length := (List.getElem?_eq_some_iff.mp hz').1
      refine ⟨[evD z.1, .int z.2], gb_tup, by simp, ?_⟩
      have hfold : (steps.take (i + 1)).foldl realF ([], 0) = realF ((steps.take i).foldl realF ([], 0)) z := by
        rw [List.take_add_one, hz', Option.toList_some, List.foldl_append]; rfl
      rw [hfold]
      have hal := realF_len (steps.take i) ([], 0)
      rw [List.length_take] at hal
      generalize hacc : (steps.take i).foldl realF ([], 0) = acc at hal ⊢
      obtain ⟨e, rs⟩ := z
      show HSs _ C [some (.rl (steps.map stepD)), some (.own (acc.1.map evD)), some (.dat (.int acc.2)), some (.dat (evD e)), some (.dat (.int rs))] _ _
      refine hss_cons (hs_app (d := evD (upEv e acc.2)) 1 rfl (pe_bm PySem.F.plainAttrs_list PySem.F.slot_list_append PySem.F.type_list_append mt_append (pv 1) (pa_cons (pv_if (pq_evR (pd_var 3)) (fun hc => ?_) fun hc => ?_) pa_nil)) (by rw [List.length_map]; simp at hal; omega) ?_)
      · cases e with
        | round => exact pd_var 3
        | come p => cases hc
        | drop p => cases hc
      · cases e with
        | round => cases hc
        | come p => exact pd_tup (pds_cons (pd_ixT (ds := [.str "come", .int p]) (pd_var 3) pd_int) (pds_cons (pd_add (pd_ixT (ds := [.str "come", .int p]) (pd_var 3) pd_int) (pd_var 2)) pds_nil))
        | drop p => exact pd_tup (pds_cons (pd_ixT (ds := [.str "drop", .int p]) (pd_var 3) pd_int) (pds_cons (pd_add (pd_ixT (ds := [.str "drop", .int p]) (pd_var 3) pd_int) (pd_var 2)) pds_nil))
      · refine hss_cons (hs_addI 2 nd rfl (pd_var 4) (hss_nil ?_))
        refine ⟨some (.dat (evD e)), some (.dat (.int rs)), ?_⟩
        have : (realF acc (e, rs)).1.map evD = acc.1.map evD ++ [evD (upEv e acc.2)] := by
          unfold realF
          rw [List.map_append]; rfl
        rw [this]
        rfl
    · obtain ⟨u, v, rfl⟩ := hR
      rw [List.take_length]
      exact hss_cons (hs_ret (pd_toTup T.tuple_ (pl_var 1)) rfl)
end
end FB
end

section
set_option Elab.async false
set_option linter.all false
set_option maxRecDepth 100000
set_option maxHeartbeats 4000000
/-! steps_to, receivers_part. -/
namespace FB
open PySem L2
theorem nks_ints : ∀ l : List Int, nks (l.map .int) = l.map NestedKey.num
  | [] => by simp [nks]
  | i :: l => by simp [nks, nk, nks_ints l]
theorem map_num_inj {l m : List Int} (h : l.map NestedKey.num = m.map NestedKey.num) : l = m :=
  (List.map_inj_right (f := NestedKey.num) (fun _ _ e => by cases e; rfl)).mp h
theorem nk_stD (s : FM.PSt) : nk (stD s) = .tup [.num s.n, .tup (s.held.map .num), .tup (s.told.map .num)] := by simp [stD, nk, nks, nks_ints]
theorem nk_stD_inj {s t : FM.PSt} (h : nk (stD s) = nk (stD t)) : s = t := by
  rw [nk_stD, nk_stD] at h
  simp only [NestedKey.tup.injEq, List.cons.injEq, NestedKey.num.injEq, and_true] at h
  obtain ⟨h1, h2, h3⟩ := h
  have e2 := map_num_inj h2
  have e3 := map_num_inj h3
  cases s; cases t
  simp only at h1 e2 e3
  subst h1 e2 e3
  rfl
theorem nk_plD (p : FM.Pl) : nk (plD p) = .tup [nk (stD p.first), nk (stD p.second), .num (if p.came then 1 else 0), .num p.last] := by simp [plD, nk, nks]
theorem nk_plD_inj {p q : FM.Pl} (h : nk (plD p) = nk (plD q)) : p = q := by
  rw [nk_plD, nk_plD] at h
  simp only [NestedKey.tup.injEq, List.cons.injEq, NestedKey.num.injEq, and_true] at h
  obtain ⟨h1, h2, h3, h4⟩ := h
  have e1 := nk_stD_inj h1
  have e2 := nk_stD_inj h2
  cases p; cases q
  simp only at e1 e2 h3 h4
  subst e1 e2 h4
  rename_i a b
  cases a <;> cases b <;> simp_all
theorem depth_nums : ∀ l : List Int, NestedKey.depthAll (l.map NestedKey.num) = 0
  | [] => by simp [NestedKey.depthAll]
  | i :: l => by simp [NestedKey.depthAll, NestedKey.depth, depth_nums l]
theorem keyOk_plD (p : FM.Pl) : keyOk (plD p) := by
  refine ⟨?_, _, rfl⟩
  rw [nk_plD, nk_stD, nk_stD]
  simp [NestedKey.depth, NestedKey.depthAll, depth_nums]
def waysK (W : FM.Ways) : List (NestedKey × PyData) := W.map fun x => (nk (plD x.1), wayD x.2)
theorem look_ways (W : FM.Ways) (p : FM.Pl) : lookD (waysK W) (nk (plD p)) = (W.look p).map wayD := by
  unfold lookD waysK FM.Ways.look
  induction W with
  | nil => rfl
  | cons x W ih =>
    simp only [List.map_cons, List.find?_cons]
    by_cases h : x.1 = p
    · subst h; simp
    · have : ¬ nk (plD x.1) = nk (plD p) := fun e => h (nk_plD_inj e)
      simp only [h, this, decide_false]
      exact ih
theorem pathF_len {W : FM.Ways} : ∀ {f : Nat} {p : FM.Pl} {l : List (FM.Ev × Int)}, FM.pathF f W p = some l → l.length < f
  | 0, _, _, h => by simp [FM.pathF] at h
  | f + 1, p, l, h => by
    unfold FM.pathF at h
    split at h
    · cases h
    · cases h; simp
    · obtain ⟨l', h1, rfl⟩ := Option.map_eq_some_iff.mp h
      have := pathF_len h1
      simp only [List.length_cons]; omega
def preSteps (P : Program) (w : World) : List Ar → Rt → Prop := fun as r => ∃ (W : FM.Ways) (p : FM.Pl) (l : List (FM.Ev × Int)), as = [.dct P w (waysK W), .dat (plD p)] ∧ W.length ≤ FM.sizeMax ∧ FM.pathM W p = some l ∧ r = .lst (l.map stepD)
section
variable {X : Cx} {C : Addr} {ρ : Rho} {e : Expr} {d : PyData} {pos : Pos} {Post : Fl → Prop}
theorem hs_expr (h : PD X C ρ e d) (hp : Post (.nx ρ)) (hsw : swapsWith e none pos.line X.env = pure false := by rfl) : HS X C ρ (.Expr e pos) Post := (ps_expr h hsw).weak fun D σ H ⟨H₀, M, F, n, _⟩ => ⟨H₀, M, F, fun v H' s _ => n ρ σ H' hp (F.same s)⟩
end
section
variable {P : Program} {w : World} {K : PySem.W.Frag} {mg : Str → Option Value} {base : Heap} {C : Addr}
theorem df_steps_to (A : FnAt K mg "steps_to" s_steps_to) (T : Tx K mg C) : Df P w K mg base C "steps_to" 1 (preSteps P w) := by
  refine df_of A sc_steps_to (fun as r h => ?_) (fun _ _ _ _ _ _ us hl => match us, hl with | [_, _], _ => rfl) (fun f cdv A outer s H E hr as r h => ?_)
  · obtain ⟨W, p, l, rfl, _⟩ := h; rfl
  · obtain ⟨W, p, l, rfl, hz, hl, rfl⟩ := h
    have nd := sc_steps_to.nd
    obtain ⟨l0, hl0, rfl⟩ := Option.map_eq_some_iff.mp hl
    refine hss_cons (hs_setN 2 nd (pn_lst pds_nil) ?_)
    refine hss_cons (hs_while (fun m ρ => ∃ q acc u v l', ρ = [some (.dr P w (waysK W)), some (.dat (plD q)), some (.own (acc.map stepD)), u, v] ∧ FM.pathF m W q = some l' ∧ acc ++ l' = l0 ∧ acc.length + m ≤ W.length + 1)
      ⟨W.length + 1, p, [], none, none, l0, rfl, hl0, rfl, by simp⟩ (fun m ρ' hR => ?_))
    obtain ⟨q, acc, u, v, l', rfl, hp, hacc, hm⟩ := hR
    obtain ⟨m', rfl⟩ : ∃ m', m = m' + 1 := ⟨m - 1, by
      have := pathF_len hp
      omega⟩
    cases hlk : W.look q with
    | none => unfold FM.pathF at hp; rw [hlk] at hp; cases hp
    | some o =>
      have hix : lookD (waysK W) (nk (plD q)) = some (wayD o) := by rw [look_ways, hlk]; rfl
      refine ⟨!isNo (wayD o), pq_notN (pd_ixD hr.units (pc_var 0) (pd_var 1) (keyOk_plD q) hix), fun hk => ?_, fun hk => ?_⟩
      · cases o with
        | none => cases hk
        | some z =>
          unfold FM.pathF at hp
          rw [hlk] at hp
          obtain ⟨l'', h1, rfl⟩ := Option.map_eq_some_iff.mp hp
          refine hss_cons (hs_unp (is := [1, 3, 4]) (ds := [plD z.1, evD z.2.1, .int z.2.2]) (pd_ixD hr.units (pc_var 0) (pd_var 1) (keyOk_plD q) hix) (pg_tup rfl (pgs_cons (pg_name (i := 1) nd rfl (.inl rfl)) (pgs_cons (pg_name (i := 3) nd rfl (.inl rfl)) (pgs_cons (pg_name (i := 4) nd rfl (.inl rfl)) pgs_nil)))) gb_tup (by simp) ?_)
          show HSs _ C [some (.dr P w (waysK W)), some (.dat (plD z.1)), some (.own (acc.map stepD)), some (.dat (evD z.2.1)), some (.dat (.int z.2.2))] _ _
          refine hss_cons (hs_app (d := stepD (z.2.1, z.2.2)) 2 rfl (pe_bm PySem.F.plainAttrs_list PySem.F.slot_list_append PySem.F.type_list_append mt_append (pv 2) (pa_cons (pd_tup (pds_cons (pd_var 3) (pds_cons (pd_var 4) pds_nil))) pa_nil)) (sz_lt (by rw [List.length_map]; unfold FM.sizeMax at hz; omega)) (hss_nil ?_))
          refine ⟨m', by omega, z.1, acc ++ [(z.2.1, z.2.2)], some (.dat (evD z.2.1)), some (.dat (.int z.2.2)), l'', ?_, h1, by rw [← hacc, List.append_assoc]; rfl, by rw [List.length_append, List.length_singleton]; omega⟩
          rw [List.map_append]
          rfl
      · cases o with
        | some z => cases hk
        | none =>
          unfold FM.pathF at hp
          rw [hlk] at hp
          cases hp
          rw [List.append_nil] at hacc
          subst hacc
          refine hss_cons (hs_retN (pn_revL (pl_var 2)) ?_)
          show Rt.lst _ = Rt.lst _
          rw [← List.map_reverse]
end
end FB
end

section
set_option Elab.async false
set_option linter.all false
set_option maxRecDepth 100000
set_option maxHeartbeats 4000000
/-! check_receiver, receivers_part. -/
namespace FB
open PySem L2
def preCheckR : List Ar → Rt → Prop := fun as r => ∃ rc : Rc, as = [.rcv rc] ∧ r = .dat .none
section
variable {X : Cx} {C : Addr} {ρ : Rho} {e c : Expr} {rc : Rc} {pos p p1 : Pos} {x : Str}
theorem pd_isR (T : Tx X.K X.mg C) (he : PR X C ρ e rc) (hg : Gl X "isinstance" := by rfl) (hg2 : Gl X "Receiver" := by rfl) (hs : starEach [e, .Name "Receiver" p1] X.env = (false, eval e X.env) :: starEach [.Name "Receiver" p1] X.env := by rfl) (hs2 : starEach [.Name "Receiver" p1] X.env = (false, eval (.Name "Receiver" p1) X.env) :: starEach [] X.env := by rfl)
    (hpl : (backTo pos (starEach [.Name "Receiver" p1] X.env)).any (·.1) = false := by rfl) (hd : (("Receiver" : Str) == ("__debug__" : Str)) = false := by decide) : PD X C ρ (.Call (.Name "isinstance" p) [e, .Name "Receiver" p1] [] pos) (.bool true) :=
  (pe_callB call_isi hg T.isinstance_ (by decide +kernel) (pa_cons he (pa_cons (pe_glob (v := .ref C) hg2 T.rcv rfl hd) pa_nil hs2) hs) (by decide) (by decide) hs hpl).weak fun σ H Q ⟨H₀, M, F, q⟩ => ⟨H₀, M, F, fun v H1 s1 ⟨a, dx, b, c', e1, h1, h2⟩ =>
    ⟨v, .ref C, .ref C, .ref C, true, rfl, .own C, by rw [e1]; exact .base (.ins h1 T.cls T.iC T.iG T.iT T.iM), by unfold PySem.W.kitOne; rw [if_pos (by simp)], q _ H1 s1 Rp.bool⟩⟩
end
def preParts : List Ar → Rt → Prop := fun as r => ∃ (a b : FM.Rcv) (f : Nat) (res : Option (List FM.Ev)), as = [.rcv (rcD a), .rcv (rcD b)] ∧ (0 ≤ a.room ∧ a.room ≤ 100) ∧ (0 ≤ b.room ∧ b.room ≤ 100) ∧ a.sel.length ≤ 1000 ∧ b.sel.length ≤ 1000 ∧ FM.partF a b f 0 [(FM.startM, none)] = some res ∧
  r = .dat (match res with
    | none => .none
    | some row => .tuple (row.map evD))
structure GoodW (W : FM.Ways) : Prop where
  sm : ∀ x ∈ W, SmP 400 x.1
  sz : W.length ≤ FM.sizeMax
theorem smB_iff {s : FM.PSt} (h : FM.smB s = true) : Sm 400 s := by
  unfold FM.smB at h
  simp only [Bool.and_eq_true, decide_eq_true_eq] at h
  exact ⟨h.1, h.2⟩
section
variable {P : Program} {w : World} {K : PySem.W.Frag} {mg : Str → Option Value} {base : Heap} {C : Addr}
theorem df_check_receiver (A : FnAt K mg "check_receiver" s_check_receiver) (T : Tx K mg C) : Df P w K mg base C "check_receiver" 1 preCheckR := by
  refine df_of A sc_check_receiver (fun as r h => ?_) (fun _ _ _ _ _ _ us hl => match us, hl with | [_], _ => rfl) (fun f cdv A outer s H E hr as r h => ?_)
  · obtain ⟨rc, rfl, _⟩ := h; rfl
  · obtain ⟨rc, rfl, rfl⟩ := h
    exact hss_cons (hs_if (k1 := false) (pq_not (k1 := true) (pq_val (pd_isR T (pr_var 0)))) (fun h => by cases h) fun _ => hss_nil (hss_nil rfl))
theorem df_receivers_part (A : FnAt K mg "receivers_part" s_receivers_part) (T : Tx K mg C) (Gc : Df P w K mg base C "check_receiver" 1 preCheckR) (Ge : Df P w K mg base C "events_in" 3 preEvents) (Gp : Df P w K mg base C "place_behind" 5 preBehind) (Gs : Df P w K mg base C "steps_to" 1 (preSteps P w)) (Gr : Df P w K mg base C "real_events" 1 preReal) : Df P w K mg base C "receivers_part" 6 preParts := by
  refine df_of A sc_receivers_part (fun as r h => ?_) (fun _ _ _ _ _ _ us hl => match us, hl with | [_, _], _ => rfl) (fun f cdv A outer s H E hr as r h => ?_)
  · obtain ⟨a, b, _, _, rfl, _⟩ := h; rfl
  · obtain ⟨a, b, fuel, res, rfl, ha, hb, hsa, hsb, hres, rfl⟩ := h
    have nd := sc_receivers_part.nd
    obtain ⟨t, ht⟩ := T.idle
    refine hss_cons (hs_expr (pd_call Gc (hr.mono (by decide)) (ga_r (pr_var 0) ga_nil) ⟨_, rfl, rfl⟩) ?_)
    refine hss_cons (hs_expr (pd_call Gc (hr.mono (by decide)) (ga_r (pr_var 1) ga_nil) ⟨_, rfl, rfl⟩) ?_)
    refine hss_cons (hs_set (d := plD FM.startM) 2 nd (pd_tup (pds_cons (pd_tup (pds_cons pd_int (pds_cons (pd_tup pds_nil) (pds_cons (pd_tup pds_nil) pds_nil)))) (pds_cons (pd_tup (pds_cons pd_int (pds_cons (pd_tup pds_nil) (pds_cons (pd_tup pds_nil) pds_nil)))) (pds_cons pd_bool (pds_cons (pd_globI ht) pds_nil))))) ?_)
    refine hss_cons (hs_par3 3 4 5 nd (by decide) (by decide) (by decide) (nw_c hr.units (pd_var 2) pd_none (keyOk_plD _)) (nw_n (pn_lst (pds_cons (pd_var 2) pds_nil))) (nw_d pd_int) ?_)
    refine hss_cons (hs_while (fun m ρ => ∃ (k : Nat) (W : FM.Ways) (u6 u7 u8 u9 u10 : Option Sl), ρ = [some (.rcv (rcD a)), some (.rcv (rcD b)), some (.dat (plD FM.startM)), some (.dct (waysK W)), some (.own (W.map fun x => plD x.1)), some (.dat (.int k)), u6, u7, u8, u9, u10] ∧ FM.partF a b m k W = some res ∧ GoodW W)
      ⟨fuel, 0, [(FM.startM, none)], none, none, none, none, none, rfl, hres, ⟨fun x hx => by simp at hx; subst hx; exact ⟨⟨by simp [FM.startM], by simp [FM.startM]⟩, ⟨by simp [FM.startM], by simp [FM.startM]⟩⟩, by simp [FM.sizeMax]⟩⟩ (fun m ρ' hR => ?_))
    obtain ⟨k, W, u6, u7, u8, u9, u10, rfl, hp, hW⟩ := hR
    refine ⟨decide ((k : Int) < ((W.map fun x => plD x.1).length : Int)), pq_lt (pd_var 5) (pd_len T.len_ (ps_list (pl_var 4))), fun hk => ?_, fun hk => ?_⟩
    · simp only [List.length_map, decide_eq_true_eq, Int.ofNat_lt] at hk
      obtain ⟨m', rfl⟩ : ∃ m', m = m' + 1 := by
        cases m with
        | zero => simp [FM.partF] at hp
        | succ m' => exact ⟨m', rfl⟩
      unfold FM.partF at hp
      rw [List.getElem?_eq_getElem hk] at hp
      dsimp only at hp
      have hW0 := hW.sm _ (List.getElem_mem hk)
      have hat : atI (W.map fun x => plD x.1) (k : Int) = some (plD W[k].1) := by
        simp [atI, ixN, hk]
      generalize W[k].1 = pl at hp hW0 hat
      refine hss_cons (hs_set 6 nd (pd_ixL (d := plD pl) (pl_var 4) (pd_var 5) hat) ?_)
      refine hss_cons (hs_addI 5 nd rfl pd_int ?_)
      cases hsc : FM.scanM a b pl (FM.eventsM a b pl) W with
      | none => rw [hsc] at hp; cases hp
      | some o =>
        rw [hsc] at hp
        refine hss_cons (hs_for (xs := FM.eventsM a b pl) (enc := evD) (is := [7]) (pis_new (pn_call Ge (hr.mono (by decide)) (ga_r (pr_var 0) (ga_r (pr_var 1) (ga_d (pd_var 6) ga_nil))) ⟨a, b, pl, rfl, ha, hb, rfl⟩)) (pg_name (i := 7) nd rfl (.inl rfl))
          (fun i ρ => ∃ (W : FM.Ways) (u7 u8 u9 u10 : Option Sl), ρ = [some (.rcv (rcD a)), some (.rcv (rcD b)), some (.dat (plD FM.startM)), some (.dct (waysK W)), some (.own (W.map fun x => plD x.1)), some (.dat (.int (k + 1 : Nat))), some (.dat (plD pl)), u7, u8, u9, u10] ∧ FM.scanM a b pl ((FM.eventsM a b pl).drop i) W = some o ∧ GoodW W)
          ⟨W, u7, u8, u9, u10, rfl, hsc, hW⟩ (fun i e ρ' he hR => ?_) (fun ρ' hR => ?_))
        · obtain ⟨W, u7, u8, u9, u10, rfl, hsc, hW⟩ := hR
          refine ⟨[evD e], gb_name, by simp, ?_⟩
          show HSs _ C [some (.rcv (rcD a)), some (.rcv (rcD b)), some (.dat (plD FM.startM)), some (.dct (waysK W)), some (.own (W.map fun x => plD x.1)), some (.dat (.int (k + 1 : Nat))), some (.dat (plD pl)), some (.dat (evD e)), u8, u9, u10] _ _
          have hdr : (FM.eventsM a b pl).drop i = e :: (FM.eventsM a b pl).drop (i + 1) := by
            have hi := (List.getElem?_eq_some_iff.mp he).1
            rw [List.drop_eq_getElem_cons hi]
            congr 1
            exact (List.getElem?_eq_some_iff.mp he).2
          rw [hdr] at hsc
          unfold FM.scanM at hsc
          refine hss_cons (hs_set (d := behD (FM.behindM a b pl e)) 8 nd (pd_call Gp (hr.mono (by decide)) (ga_r (pr_var 0) (ga_r (pr_var 1) (ga_d (pd_var 6) (ga_d (pd_var 7) ga_nil)))) ⟨a, b, pl, e, rfl, hW0, hsa, hsb, rfl⟩) ?_)
          cases hbe : FM.behindM a b pl e with
          | none =>
            rw [hbe] at hsc
            cases hsc
            refine hss_cons (hs_if (k1 := true) (pq_isN (d := .none) (pd_var 8)) (fun _ => ?_) fun h => by cases h)
            obtain ⟨l, hl, rfl⟩ := Option.map_eq_some_iff.mp hp
            have hll : l.length ≤ FM.sizeMax := by
              obtain ⟨l0, h0, rfl⟩ := Option.map_eq_some_iff.mp hl
              have := pathF_len h0
              have := hW.sz
              rw [List.length_reverse]; omega
            refine hss_cons (hs_ret (pd_call Gr (hr.mono (by decide)) (ga_l (pl_new (pn_lst (pds_star (ps_list (pl_new (pn_call Gs (hr.mono (by decide)) (ga_c (pc_var 3) (ga_d (pd_var 6) ga_nil)) ⟨W, pl, l, rfl, hW.sz, hl, rfl⟩))) (pds_cons (pd_tup (pds_cons (pd_var 7) (pds_cons pd_int pds_nil))) pds_nil)) ?_)) ga_nil) ⟨l ++ [(e, 0)], ?_, ?_, rfl⟩) rfl)
            · rw [List.length_append, List.length_map, sizeLine_eq]
              unfold FM.sizeMax at hll
              simp only [List.length_cons, List.length_nil]
              omega
            · rw [List.map_append]; rfl
            · rw [List.length_append, sizeLine_eq]
              unfold FM.sizeMax at hll
              simp only [List.length_cons, List.length_nil]
              omega
          | some z =>
            rw [hbe] at hsc
            obtain ⟨q, rr⟩ := z
            dsimp only at hsc
            refine hss_cons (hs_if (k1 := false) (pq_isN (d := behD (some (q, rr))) (pd_var 8)) (fun h => by cases h) fun _ => hss_nil ?_)
            refine hss_cons (hs_unp (is := [9, 10]) (ds := [plD q, .int rr]) (pd_var (d := behD (some (q, rr))) 8) (pg_tup rfl (pgs_cons (pg_name (i := 9) nd rfl (.inl rfl)) (pgs_cons (pg_name (i := 10) nd rfl (.inl rfl)) pgs_nil))) gb_tup (by simp) ?_)
            show HSs _ C [some (.rcv (rcD a)), some (.rcv (rcD b)), some (.dat (plD FM.startM)), some (.dct (waysK W)), some (.own (W.map fun x => plD x.1)), some (.dat (.int (k + 1 : Nat))), some (.dat (plD pl)), some (.dat (evD e)), some (.dat (behD (some (q, rr)))), some (.dat (plD q)), some (.dat (.int rr))] _ _
            refine hss_cons (hs_if (pq_notInD hr.units (pd_var 9) (pc_var 3) (keyOk_plD q)) (fun h => ?_) fun h => ?_)
            · rw [look_ways, Option.isSome_map] at h
              have h' : (W.look q).isSome = false := by simpa using h
              rw [h'] at hsc
              rw [if_neg Bool.false_ne_true] at hsc
              split at hsc
              · rename_i hc
                obtain ⟨c1, c2, c3⟩ := hc
                have hnone : W.look q = none := by simpa using h'
                refine hss_cons (hs_setD 3 (d' := wayD (some (pl, e, rr))) hr.units rfl (pd_tup (pds_cons (pd_var 6) (pds_cons (pd_var 7) (pds_cons (pd_var 10) pds_nil)))) (pd_var 9) (keyOk_plD q) (by rw [look_ways, hnone]; rfl) (by unfold waysK; rw [List.length_map]; exact sz_le (Nat.le_of_lt c1)) ?_)
                refine hss_cons (hs_app (d := plD q) 4 rfl (pe_bm PySem.F.plainAttrs_list PySem.F.slot_list_append PySem.F.type_list_append mt_append (pv 4) (pa_cons (pd_var 9) pa_nil)) (sz_lt (by rw [List.length_map]; exact Nat.le_of_lt c1)) (hss_nil (hss_nil ?_)))
                refine ⟨W ++ [(q, some (pl, e, rr))], some (.dat (evD e)), some (.dat (behD (some (q, rr)))), some (.dat (plD q)), some (.dat (.int rr)), ?_, hsc, ⟨fun x hx => ?_, ?_⟩⟩
                · unfold waysK
                  rw [List.map_append, List.map_append]
                  rfl
                · rcases List.mem_append.mp hx with hx | hx
                  · exact hW.sm x hx
                  · simp only [List.mem_singleton] at hx
                    subst hx
                    exact ⟨smB_iff c2, smB_iff c3⟩
                · rw [List.length_append]; simp only [List.length_singleton]; exact c1
              · cases hsc
            · rw [look_ways, Option.isSome_map] at h
              have h' : (W.look q).isSome = true := by simpa using h
              rw [if_pos h'] at hsc
              exact hss_nil (hss_nil ⟨W, some (.dat (evD e)), some (.dat (behD (some (q, rr)))), some (.dat (plD q)), some (.dat (.int rr)), rfl, hsc, hW⟩)
        · obtain ⟨W', u7, u8, u9, u10, rfl, hsc', hW'⟩ := hR
          rw [List.drop_length] at hsc'
          unfold FM.scanM at hsc'
          cases hsc'
          exact hss_nil ⟨m', by omega, k + 1, W', some (.dat (plD pl)), u7, u8, u9, u10, rfl, hp, hW'⟩
    · simp only [List.length_map, decide_eq_false_iff_not, Int.ofNat_lt] at hk
      cases m with
      | zero => simp [FM.partF] at hp
      | succ m' =>
        unfold FM.partF at hp
        rw [List.getElem?_eq_none (by omega)] at hp
        cases hp
        exact hss_cons (hs_ret pd_none rfl)
end
end FB
end

section
set_option Elab.async false
set_option linter.all false
set_option maxRecDepth 100000
set_option maxHeartbeats 4000000
/-! The law's defs: _law_blocks, _law_take, _law_worth. -/
namespace FB
open PySem L2
theorem shp_mapL {β : Type} {enc : β → PyData} (h : ∀ a, PyData.canLay0 (enc a) = true) (hd : ∀ a, PyData.depth (enc a) ≤ 40) (xs : List β) : Shp (.list (xs.map enc)) := by
  have h1 := canLayAll_map h xs
  have h2 := depthAll_map hd xs
  show (PyData.canLay0 (.list (xs.map enc)) && decide (PyData.depth (.list (xs.map enc)) ≤ 64)) = true
  rw [PyData.canLay0, PyData.depth, h1, Bool.true_and, decide_eq_true_eq]
  omega
theorem shp_mapT {β : Type} {enc : β → PyData} (h : ∀ a, PyData.canLay0 (enc a) = true) (hd : ∀ a, PyData.depth (enc a) ≤ 40) (xs : List β) : Shp (.tuple (xs.map enc)) := by
  have h1 := canLayAll_map h xs
  have h2 := depthAll_map hd xs
  show (PyData.canLay0 (.tuple (xs.map enc)) && decide (PyData.depth (.tuple (xs.map enc)) ≤ 64)) = true
  rw [PyData.canLay0, PyData.depth, h1, Bool.true_and, decide_eq_true_eq]
  omega
theorem shp_nilL : Shp (.list []) := rfl
theorem eqvAll_nil : ∀ xs : List PyData, PyData.eqvAll xs [] = xs.isEmpty
  | [] => by simp [PyData.eqvAll]
  | x :: xs => by simp [PyData.eqvAll]
def preLBlocks : List Ar → Rt → Prop := fun as r => ∃ ns : List Int, as = [.lst (ns.map .int)] ∧ ns.length ≤ 1000 ∧ r = .lst ((FM.lblocksM ns).map bD)
def preLTake : List Ar → Rt → Prop := fun as r => ∃ (room : Int) (s : FM.LSt) (p : Int), as = [.dat (.int room), .dat (lsD s), .dat (.int p)] ∧ s.held.length ≤ 900 ∧ r = .dat (lsD (FM.ltakeM room s p))
def oiD : Option Int → PyData
  | none => .none
  | some i => .int i
def preLWorth : List Ar → Rt → Prop := fun as r => ∃ (wd : FM.Sel) (b : FM.Blk) (held : List (Int × Bool)) (last : Int), as = [.dat (selD wd), .dat (bD b), .dat (.tuple (held.map pairD)), .dat (.int last)] ∧ held.length ≤ 1000 ∧ FM.insideM b held ≠ [] ∧ r = .dat (oiD (FM.worthM wd b held last))
theorem lblkStep_len (found : List FM.Blk) (p : Int) : (FM.lblkStep found p).length ≤ found.length + 1 := by
  unfold FM.lblkStep
  split
  · simp
  · split
    · simp [List.length_dropLast] <;> omega
    · simp
def lupN (names : List Int) (n : Int) : Nat → Int
  | 0 => n
  | i + 1 => FM.lup names (lupN names n i)
theorem foldmax {ns : List Int} : ∀ (m : Int), (ns.foldl (fun a c => if c > a then c else a) m = m ∨ ns.foldl (fun a c => if c > a then c else a) m ∈ ns) ∧ m ≤ ns.foldl (fun a c => if c > a then c else a) m ∧ ∀ n ∈ ns, n ≤ ns.foldl (fun a c => if c > a then c else a) m := by
  induction ns with
  | nil => intro m; simp
  | cons c ns ih =>
    intro m
    rw [List.foldl_cons]
    obtain ⟨h1, h2, h3⟩ := ih (if c > m then c else m)
    refine ⟨?_, ?_, fun n hn => ?_⟩
    · rcases h1 with h1 | h1
      · rw [h1]
        by_cases hc : c > m
        · right; simp [hc]
        · left; simp [hc]
      · right; exact List.mem_cons_of_mem _ h1
    · have : m ≤ (if c > m then c else m) := by split <;> omega
      exact Int.le_trans this h2
    · rcases List.mem_cons.mp hn with e | hn
      · subst e
        have : n ≤ (if n > m then n else m) := by split <;> omega
        exact Int.le_trans this h2
      · exact h3 n hn
section
variable {P : Program} {w : World} {K : PySem.W.Frag} {mg : Str → Option Value} {base : Heap} {C : Addr}
theorem df_L_blocks (A : FnAt K mg "_law_blocks" s_L_blocks) (T : Tx K mg C) : Df P w K mg base C "_law_blocks" 1 preLBlocks := by
  refine df_of A sc_L_blocks (fun as r h => ?_) (fun _ _ _ _ _ _ us hl => match us, hl with | [_], _ => rfl) (fun f cdv A outer s H E hr as r h => ?_)
  · obtain ⟨bs, rfl, _⟩ := h; rfl
  · obtain ⟨ns, rfl, hz, rfl⟩ := h
    have nd := sc_L_blocks.nd
    refine hss_cons (hs_setN 1 nd (pn_lst pds_nil) ?_)
    have hlen := sortI_len ns
    refine hss_cons (hs_for (xs := FM.sortI ns) (enc := .int) (is := [2]) (pis_new (pn_sortI T.sorted_ (ps_list (pl_var 0)) hr.units)) (pg_name (i := 2) nd rfl (.inl rfl))
      (fun i ρ => ∃ u, ρ = [some (.rl (ns.map .int)), some (.own ((((FM.sortI ns).take i).foldl FM.lblkStep []).map bD)), u]) ⟨none, rfl⟩ (fun i z ρ' hz' hR => ?_) (fun ρ' hR => ?_))
    · obtain ⟨u, rfl⟩ := hR
      have hi : i < ns.length := by rw [← hlen]; exact (List.getElem?_eq_some_iff.mp hz').1
      refine ⟨[.int z], gb_name, by simp, ?_⟩
      have hfold : (((FM.sortI ns).take (i + 1)).foldl FM.lblkStep []) = FM.lblkStep (((FM.sortI ns).take i).foldl FM.lblkStep []) z := by
        rw [List.take_add_one, hz', Option.toList_some, List.foldl_append]; rfl
      rw [hfold]
      generalize hacc : ((FM.sortI ns).take i).foldl FM.lblkStep [] = acc
      have hal : acc.length ≤ i := by
        have := foldl_len lblkStep_len ((FM.sortI ns).take i) []
        rw [hacc, List.length_take] at this
        simp only [List.length_nil] at this
        omega
      show HSs _ C [some (.rl (ns.map .int)), some (.own (acc.map bD)), some (.dat (.int z))] _ _
      have hne : ∀ l, acc.getLast? = some l → 0 < (acc.map bD).length := fun l hl => by
        cases acc with
        | nil => simp at hl
        | cons a t => simp
      refine hss_cons (hs_if (k1 := !(acc.map bD).isEmpty && (match acc.getLast? with | some l => decide (l.2 = z) | none => false)) (pq_w (pw_and' (by rw [← eqvAll_nil]; exact pq_neL hr.units (pl_var 1) (pl_new (pn_lst pds_nil)) (shp_mapL lay_bD (fun b => Nat.le_trans (dep_bD b) (by decide)) _) shp_nilL) fun h => ?_)) (fun h => ?_) fun h => ?_)
      · cases hl : acc.getLast? with
        | none =>
          have : acc = [] := List.getLast?_eq_none_iff.mp hl
          subst this
          simp at h
        | some l => exact pw_and1' (pq_eqI (pd_ixT (pd_ixL (d := bD l) (pl_var 1) (pd_neg pd_int) (atI_lastD hl)) pd_int) (pd_var 2))
      · cases hl : acc.getLast? with
        | none => rw [hl] at h; simp at h
        | some l =>
          refine hss_cons (hs_setI (m := (acc.map bD).length - 1) 1 rfl (pd_tup (pds_cons (pd_ixT (pd_ixL (d := bD l) (pl_var 1) (pd_neg pd_int) (atI_lastD hl)) pd_int) (pds_cons (pd_add (pd_var 2) pd_int) pds_nil))) (pd_neg pd_int) (ixN_last (hne l hl)) (hss_nil (hss_nil ?_)))
          refine ⟨some (.dat (.int z)), ?_⟩
          rw [hl] at h
          have h2 : l.2 = z := by simp at h; exact h.2
          have e : FM.lblkStep acc z = acc.dropLast ++ [(l.1, z + 1)] := by unfold FM.lblkStep; rw [hl]; simp only [h2, if_true]
          rw [e, List.length_map]
          have e2 : (acc.map bD).set (acc.length - 1) (.tuple [.int l.1, .int (z + 1)]) = (acc.dropLast ++ [(l.1, z + 1)]).map bD := by
            rw [← set_lastD hl, List.map_set]; rfl
          rw [← e2]
          rfl
      · refine hss_cons (hs_app 1 rfl (pe_bm PySem.F.plainAttrs_list PySem.F.slot_list_append PySem.F.type_list_append mt_append (pv 1) (pa_cons (pd_tup (pds_cons (pd_var 2) (pds_cons (pd_add (pd_var 2) pd_int) pds_nil))) pa_nil)) (sz_lt (by rw [List.length_map]; omega)) (hss_nil (hss_nil ?_)))
        refine ⟨some (.dat (.int z)), ?_⟩
        have e : FM.lblkStep acc z = acc ++ [(z, z + 1)] := by
          unfold FM.lblkStep
          cases hl : acc.getLast? with
          | none => rfl
          | some l =>
            rw [hl] at h
            have h0 := hne l hl
            have h2 : ¬ l.2 = z := by
              intro q
              have h3 : (acc.map bD).isEmpty = false := by cases acc <;> simp at h0 ⊢
              rw [h3] at h
              simp [q] at h
            simp only [h2, if_false]
        rw [e, List.map_append]
        rfl
    · obtain ⟨u, rfl⟩ := hR
      rw [List.take_length]
      exact hss_cons (hs_retL 1 rfl)
theorem df_L_take (A : FnAt K mg "_law_take" s_L_take) (T : Tx K mg C) : Df P w K mg base C "_law_take" 1 preLTake := by
  refine df_of A sc_L_take (fun as r h => ?_) (fun _ _ _ _ _ _ us hl => match us, hl with | [_, _, _], _ => rfl) (fun f cdv A outer s H E hr as r h => ?_)
  · obtain ⟨_, _, _, rfl, _⟩ := h; rfl
  · obtain ⟨room, st, p, rfl, hz, rfl⟩ := h
    have nd := sc_L_take.nd
    refine hss_cons (hs_unp (is := [3, 4]) (ds := [.int st.n, .tuple (st.held.map pairD)]) (pd_var 1) (pg_tup rfl (pgs_cons (pg_name (i := 3) nd rfl (.inl rfl)) (pgs_cons (pg_name (i := 4) nd rfl (.inl rfl)) pgs_nil))) gb_tup (by simp [rho0]) ?_)
    show HSs _ C [some (.dat (.int room)), some (.dat (lsD st)), some (.dat (.int p)), some (.dat (.int st.n)), some (.dat (.tuple (st.held.map pairD))), none, none, none, none] _ _
    refine hss_cons (hs_map (xs := st.held) (enc := pairD) (is := [6]) (own := [("_law_pair", 6)]) (f := fun e => .int e.1) 5 (pis_tup (pd_var 4)) (blkOk_by (N := ["_law_room", "_law_state", "_law_piece", "_law_missing", "_law_held", "_law_names", "_law_pair", "_law_up", "_law_turn"]) (sc := defScope s_L_take) (by decide +kernel)) nd (fun _ _ _ _ _ => pg_name (i := 6) nd rfl (.inl rfl)) (sz_le (by omega)) (by simp)
      (fun z _ => ⟨[pairD z], gb_name, fun _ _ _ _ _ => pd_ixT (ds := [.int z.1, .bool z.2]) (pd_var 6) pd_int⟩) ?_)
    have hnm : (st.held.map fun e => PyData.int e.1) = (st.held.map (·.1)).map .int := by rw [List.map_map]; rfl
    rw [hnm]
    generalize hns : st.held.map (·.1) = names
    show HSs _ C [some (.dat (.int room)), some (.dat (lsD st)), some (.dat (.int p)), some (.dat (.int st.n)), some (.dat (.tuple (st.held.map pairD))), some (.own (names.map .int)), none, none, none] _ _
    refine hss_cons (hs_if (k1 := decide (p = st.n)) (pq_eqI (pd_var 2) (pd_var 3)) (fun h => ?_) fun h => hss_nil ?_)
    · have h' : p = st.n := of_decide_eq_true h
      refine hss_cons (hs_set 7 nd (pd_add (pd_var 3) pd_int) ?_)
      refine hss_cons (hs_for (xs := rangeI 0 3) (enc := .int) (is := [8]) (pis_range1 T.range_ pd_int (by decide) (by decide)) (pg_name (i := 8) nd rfl (.inl rfl))
        (fun i ρ => ∃ u, ρ = [some (.dat (.int room)), some (.dat (lsD st)), some (.dat (.int p)), some (.dat (.int st.n)), some (.dat (.tuple (st.held.map pairD))), some (.own (names.map .int)), none, some (.dat (.int (lupN names (st.n + 1) i))), u]) ⟨none, rfl⟩ (fun i z ρ' hz' hR => ?_) (fun ρ' hR => ?_))
      · obtain ⟨u, rfl⟩ := hR
        refine ⟨[.int z], gb_name, by simp, ?_⟩
        show HSs _ C [some (.dat (.int room)), some (.dat (lsD st)), some (.dat (.int p)), some (.dat (.int st.n)), some (.dat (.tuple (st.held.map pairD))), some (.own (names.map .int)), none, some (.dat (.int (lupN names (st.n + 1) i))), some (.dat (.int z))] _ _
        refine hss_cons (hs_set 7 (d := .int (lupN names (st.n + 1) (i + 1))) nd (pv_if (k1 := names.contains (lupN names (st.n + 1) i)) (by rw [← inF_ints]; exact pq_in (pd_var 7) (ps_list (pl_var 5)) rfl (all_flat_ints _)) (fun hc => ?_) fun hc => ?_) (hss_nil ⟨_, rfl⟩))
        · have : lupN names (st.n + 1) (i + 1) = lupN names (st.n + 1) i + 1 := by
            show FM.lup _ _ = _
            unfold FM.lup
            rw [if_pos (List.contains_iff_mem.mp hc)]
          rw [this]
          exact pd_add (pd_var 7) pd_int
        · have : lupN names (st.n + 1) (i + 1) = lupN names (st.n + 1) i := by
            show FM.lup _ _ = _
            unfold FM.lup
            rw [if_neg (fun z => by rw [List.contains_iff_mem.mpr z] at hc; cases hc)]
          rw [this]
          exact pd_var 7
      · obtain ⟨u, rfl⟩ := hR
        have e3 : lupN names (st.n + 1) (rangeI 0 3).length = FM.lup names (FM.lup names (FM.lup names (st.n + 1))) := rfl
        rw [e3]
        have hres : FM.ltakeM room st p = ⟨FM.lup names (FM.lup names (FM.lup names (st.n + 1))), st.held.filter fun e => decide (FM.lup names (FM.lup names (FM.lup names (st.n + 1))) < e.1)⟩ := by
          unfold FM.ltakeM
          rw [hns]
          simp only [h', if_true]
        generalize FM.lup names (FM.lup names (FM.lup names (st.n + 1))) = m at hres ⊢
        refine hss_cons (hs_ret (d := .tuple [.int m, .tuple ((st.held.filter fun e => decide (m < e.1)).map pairD)]) (pd_tup (pds_cons (pd_var 7) (pds_cons (pd_toTup T.tuple_ (pl_new (pn_flt (xs := st.held) (enc := pairD) (is := [6]) (own := [("_law_pair", 6)]) (q := fun e => decide (m < e.1)) (f := pairD) (pis_tup (pd_var 4)) (blkOk_by (N := ["_law_room", "_law_state", "_law_piece", "_law_missing", "_law_held", "_law_names", "_law_pair", "_law_up", "_law_turn"]) (sc := defScope s_L_take) (by decide +kernel)) nd (fun _ _ _ _ _ => pg_name (i := 6) nd rfl (.inl rfl)) (sz_le (by omega)) (by simp)
          (fun z _ => ⟨[pairD z], gb_name, fun _ _ _ _ _ => pq_gt (pd_ixT (ds := [.int z.1, .bool z.2]) (pd_var 6) pd_int) (pd_var 7), fun _ _ _ _ _ _ => pd_var 6⟩)))) pds_nil))) ?_)
        show Rt.dat _ = Rt.dat _
        rw [hres]; rfl
    · have h' : ¬ p = st.n := of_decide_eq_false h
      refine hss_cons (hs_if (k1 := (decide (st.n < p) && decide (p ≤ st.n + room)) && !names.contains p) (pq_w (pw_and' (pq_chain op_lt op_le (pd_var 3) (pd_var 2) (pd_add (pd_var 3) (pd_var 0))) fun _ => pw_and1' (by rw [← inF_ints]; exact pq_notIn (pd_var 2) (ps_list (pl_var 5)) rfl (all_flat_ints _)))) (fun h => ?_) fun h => hss_nil ?_)
      · simp only [Bool.and_eq_true, decide_eq_true_eq, Bool.not_eq_true', List.contains_eq_mem, decide_eq_false_iff_not] at h
        refine hss_cons (hs_ret (pd_tup (pds_cons (pd_var 3) (pds_cons (pd_cat (pd_var 4) (pd_tup (pds_cons (pd_tup (pds_cons (pd_var 2) (pds_cons pd_bool pds_nil))) pds_nil)) (sz_le (by simp; omega))) pds_nil))) ?_)
        show Rt.dat _ = Rt.dat _
        have hres : FM.ltakeM room st p = ⟨st.n, st.held ++ [(p, false)]⟩ := by
          unfold FM.ltakeM
          rw [hns]
          simp only [h', if_false]
          rw [if_pos ⟨h.1, h.2⟩]
        rw [hres]
        unfold lsD
        rw [List.map_append]
        rfl
      · refine hss_cons (hs_ret (pd_var 1) ?_)
        show Rt.dat _ = Rt.dat _
        have hres : FM.ltakeM room st p = st := by
          unfold FM.ltakeM
          rw [hns]
          simp only [h', if_false]
          rw [if_neg]
          intro hc
          have : ((decide (st.n < p) && decide (p ≤ st.n + room)) && !names.contains p) = true := by simp [hc.1.1, hc.1.2, hc.2]
          rw [this] at h; cases h
        rw [hres]
end
end FB
end

section
set_option Elab.async false
set_option linter.all false
set_option maxRecDepth 100000
set_option maxHeartbeats 4000000
/-! _law_worth, _law_reply. -/
namespace FB
open PySem L2
theorem mem_rangeM {n : Nat} {z : Int} : z ∈ FM.rangeM n ↔ 0 ≤ z ∧ z < n := by
  unfold FM.rangeM
  simp only [List.mem_map, List.mem_range, Int.toNat_natCast]
  constructor
  · rintro ⟨i, hi, rfl⟩; omega
  · rintro ⟨h1, h2⟩; exact ⟨z.toNat, by omega, by omega⟩
theorem atI_nn {α : Type} {l : List α} {z : Int} {e : α} (h0 : 0 ≤ z) (h : l[z.toNat]? = some e) : atI l z = some e := by
  have hl := (List.getElem?_eq_some_iff.mp h).1
  unfold atI ixN
  rw [if_pos h0, if_pos (by omega)]
  exact h
theorem at_pair {held : List (Int × Bool)} {z : Int} (hz : z ∈ FM.rangeM held.length) : ∃ e, held[z.toNat]? = some e ∧ atI (held.map pairD) z = some (pairD e) := by
  obtain ⟨h0, h1⟩ := mem_rangeM.mp hz
  have hl : z.toNat < held.length := by omega
  exact ⟨held[z.toNat], List.getElem?_eq_getElem hl, atI_nn h0 (by rw [List.getElem?_map, List.getElem?_eq_getElem hl]; rfl)⟩
theorem rangeM_len (n : Nat) : (FM.rangeM n).length = n := by unfold FM.rangeM; simp
theorem insideM_len (b : FM.Blk) (held : List (Int × Bool)) : (FM.insideM b held).length ≤ held.length := by
  unfold FM.insideM
  have := List.length_filter_le (fun (k : Int) => match held[k.toNat]? with | some e => FM.inB e.1 b | none => false) (FM.rangeM held.length)
  rw [rangeM_len] at this
  exact this
theorem insideM_range {b : FM.Blk} {held : List (Int × Bool)} {z : Int} (h : z ∈ FM.insideM b held) : z ∈ FM.rangeM held.length := (List.mem_filter.mp h).1
theorem maxIn {b : FM.Blk} {held : List (Int × Bool)} (h : FM.insideM b held ≠ []) : (FM.insideM b held).foldl (fun a c => if c > a then c else a) 0 ∈ FM.insideM b held ∧ ∀ n ∈ FM.insideM b held, n ≤ (FM.insideM b held).foldl (fun a c => if c > a then c else a) 0 := by
  obtain ⟨h1, h2, h3⟩ := foldmax (ns := FM.insideM b held) 0
  refine ⟨?_, h3⟩
  rcases h1 with h1 | h1
  · obtain ⟨z, hz⟩ := List.exists_mem_of_ne_nil _ h
    have := h3 z hz
    have := (mem_rangeM.mp (insideM_range hz)).1
    have e : z = 0 := by omega
    subst e
    rw [h1]; exact hz
  · exact h1
theorem lblk_in {ns : List Int} : ∀ (ps : List Int) (acc : List FM.Blk), (∀ p ∈ ps, p ∈ ns) → (∀ b ∈ acc, b.1 ∈ ns ∧ b.1 < b.2) → ∀ b ∈ ps.foldl FM.lblkStep acc, b.1 ∈ ns ∧ b.1 < b.2
  | [], acc, _, h => h
  | p :: ps, acc, hp, h => by
    rw [List.foldl_cons]
    refine lblk_in ps _ (fun q hq => hp q (List.mem_cons_of_mem _ hq)) fun b hb => ?_
    have h0 : p ∈ ns := hp p List.mem_cons_self
    unfold FM.lblkStep at hb
    split at hb
    · rcases List.mem_append.mp hb with hb | hb
      · exact h b hb
      · simp only [List.mem_singleton] at hb; subst hb; exact ⟨h0, by show p < p + 1; omega⟩
    · rename_i l hl
      have hlm : l ∈ acc := List.mem_of_getLast? hl
      split at hb
      · rename_i he
        rcases List.mem_append.mp hb with hb | hb
        · exact h b ((List.dropLast_sublist acc).subset hb)
        · simp only [List.mem_singleton] at hb; subst hb
          have := h l hlm
          exact ⟨this.1, by show l.1 < p + 1; omega⟩
      · rcases List.mem_append.mp hb with hb | hb
        · exact h b hb
        · simp only [List.mem_singleton] at hb; subst hb; exact ⟨h0, by show p < p + 1; omega⟩
theorem lblocks_in {ns : List Int} : ∀ b ∈ FM.lblocksM ns, b.1 ∈ ns ∧ b.1 < b.2 := by
  unfold FM.lblocksM
  refine lblk_in _ [] (fun p hp => ?_) (by simp)
  unfold FM.sortI at hp
  exact List.mem_mergeSort.mp hp
theorem inside_ne {held : List (Int × Bool)} {b : FM.Blk} (h : b.1 ∈ held.map (·.1)) (hb : b.1 < b.2) : FM.insideM b held ≠ [] := by
  obtain ⟨e, he, e1⟩ := List.mem_map.mp h
  obtain ⟨i, hi⟩ := List.mem_iff_getElem?.mp he
  have hl := (List.getElem?_eq_some_iff.mp hi).1
  refine List.ne_nil_of_mem (a := (i : Int)) (List.mem_filter.mpr ⟨mem_rangeM.mpr ⟨by omega, by omega⟩, ?_⟩)
  simp only [Int.toNat_natCast, hi, FM.inB, Bool.and_eq_true, decide_eq_true_eq]
  rw [e1]; omega
theorem lblocks_len (ns : List Int) : (FM.lblocksM ns).length ≤ ns.length := by
  have := foldl_len lblkStep_len (FM.sortI ns) []
  unfold FM.lblocksM
  rw [sortI_len] at this
  simpa using this
def utQ (held : List (Int × Bool)) (k : Int) : Bool := match held[k.toNat]? with
  | some e => !e.2
  | none => false
theorem worth_untold (b : FM.Blk) (held : List (Int × Bool)) (last : Int) : FM.worthM .untold b held last = if (FM.insideM b held).filter (utQ held) = [] then none else some (-b.1) := rfl
section
variable {P : Program} {w : World} {K : PySem.W.Frag} {mg : Str → Option Value} {base : Heap} {C : Addr}
theorem df_L_worth (A : FnAt K mg "_law_worth" s_L_worth) (T : Tx K mg C) : Df P w K mg base C "_law_worth" 1 preLWorth := by
  refine df_of A sc_L_worth (fun as r h => ?_) (fun _ _ _ _ _ _ us hl => match us, hl with | [_, _, _, _], _ => rfl) (fun f cdv A outer s H E hr as r h => ?_)
  · obtain ⟨_, _, _, _, rfl, _⟩ := h; rfl
  · obtain ⟨wd, b, held, last, rfl, hz, hne, rfl⟩ := h
    have nd := sc_L_worth.nd
    have hil := insideM_len b held
    have hlm : ((held.map pairD).length : Int) = (held.length : Int) := by rw [List.length_map]
    refine hss_cons (hs_flt (xs := FM.rangeM held.length) (enc := .int) (is := [5]) (own := [("_law_k", 5)]) (q := fun k => match held[k.toNat]? with | some e => FM.inB e.1 b | none => false) (f := .int) 4 (pis_range1 (n := (held.length : Int)) T.range_ (by rw [← hlm]; exact pd_len T.len_ (ps_tuple (pd_var 2))) (by omega) (by omega)) (blkOk_by (N := ["_law_word", "_law_block", "_law_held", "_law_last", "_law_inside", "_law_k"]) (sc := defScope s_L_worth) (by decide +kernel)) nd (fun _ _ _ _ _ => pg_name (i := 5) nd rfl (.inl rfl)) (sz_le (by rw [rangeM_len]; omega)) (by simp [rho0])
      (fun z hz' => ⟨[.int z], gb_name, fun _ _ _ _ _ => ?_, fun _ _ _ _ _ _ => pd_var 5⟩) ?_)
    · obtain ⟨e, he, hat⟩ := at_pair hz'
      dsimp only
      rw [he]
      exact pq_chain op_le op_lt (pd_ixT (ds := [.int b.1, .int b.2]) (pd_var 1) pd_int) (pd_ixT (ds := [.int e.1, .bool e.2]) (d := .int e.1) (pd_ixT (ds := held.map pairD) (d := pairD e) (pd_var 2) (pd_var 5) hat) pd_int) (pd_ixT (ds := [.int b.1, .int b.2]) (pd_var 1) pd_int)
    have hfx : (FM.rangeM held.length).filter (fun k => match held[k.toNat]? with | some e => FM.inB e.1 b | none => false) = FM.insideM b held := rfl
    show HSs _ C [some (.dat (selD wd)), some (.dat (bD b)), some (.dat (.tuple (held.map pairD))), some (.dat (.int last)), some (.own ((FM.insideM b held).map .int)), none] _ _
    refine hss_lock 4 ?_
    show HSs _ C [some (.dat (selD wd)), some (.dat (bD b)), some (.dat (.tuple (held.map pairD))), some (.dat (.int last)), some (.rl ((FM.insideM b held).map .int)), none] _ _
    refine hss_cons (hs_if (k1 := decide (wd = .new)) (by rw [← sel_new]; exact pq_eqS (pd_var (d := .str (selS wd)) 0) pd_str) (fun h => ?_) fun h => hss_nil ?_)
    · have h' : wd = .new := of_decide_eq_true h
      subst h'
      refine hss_cons (hs_ret (d := oiD (FM.worthM .new b held last)) (pv_if (k1 := FM.inB last b) (pq_chain op_le op_lt (pd_ixT (ds := [.int b.1, .int b.2]) (pd_var 1) pd_int) (pd_var 3) (pd_ixT (ds := [.int b.1, .int b.2]) (pd_var 1) pd_int)) (fun hc => ?_) fun hc => ?_) rfl)
      · unfold FM.worthM; rw [if_pos hc]; exact pd_int
      · unfold FM.worthM; rw [if_neg (by rw [hc]; exact Bool.false_ne_true)]; exact pd_none
    have hnew : wd ≠ .new := of_decide_eq_false h
    refine hss_cons (hs_if (k1 := decide (wd = .late)) (by rw [← sel_late]; exact pq_eqS (pd_var (d := .str (selS wd)) 0) pd_str) (fun h => ?_) fun h => hss_nil ?_)
    · have h' : wd = .late := of_decide_eq_true h
      subst h'
      obtain ⟨m1, m2⟩ := maxIn hne
      exact hss_cons (hs_ret (d := oiD (FM.worthM .late b held last)) (pd_maxL rfl T.max_ (pl_var 4) m1 m2) rfl)
    have hlate : wd ≠ .late := of_decide_eq_false h
    refine hss_cons (hs_if (k1 := decide (wd = .untold) && ((FM.insideM b held).filter (utQ held)).isEmpty) (pq_w (pw_and' (by rw [← sel_untold]; exact pq_eqS (pd_var (d := .str (selS wd)) 0) pd_str) fun _ => pw_and1' ?_)) (fun h => ?_) fun h => hss_nil ?_)
    · have e : ((FM.insideM b held).filter (utQ held)).isEmpty = (((FM.insideM b held).filter (utQ held)).map PyData.int).isEmpty := by
        cases (FM.insideM b held).filter (utQ held) <;> rfl
      rw [e, ← eqvAll_nil]
      refine pq_eqL hr.units (pl_new (pn_flt (xs := FM.insideM b held) (enc := .int) (is := [5]) (own := [("_law_k", 5)]) (q := utQ held) (f := .int) (pis_var 4 rfl) (blkOk_by (N := ["_law_word", "_law_block", "_law_held", "_law_last", "_law_inside", "_law_k"]) (sc := defScope s_L_worth) (by decide +kernel)) nd (fun _ _ _ _ _ => pg_name (i := 5) nd rfl (.inl rfl)) (sz_le (by omega)) (by simp)
        (fun z hz' => ⟨[.int z], gb_name, fun _ _ _ _ _ => ?_, fun _ _ _ _ _ _ => pd_var 5⟩))) (pl_new (pn_lst pds_nil)) (shp_mapL (enc := .int) (fun a => rfl) (fun a => by simp [PyData.depth]) _) shp_nilL
      obtain ⟨e, he, hat⟩ := at_pair (insideM_range hz')
      unfold utQ
      rw [he]
      exact pq_not (pq_val (pd_ixT (ds := [.int e.1, .bool e.2]) (d := .bool e.2) (pd_ixT (ds := held.map pairD) (d := pairD e) (pd_var 2) (pd_var 5) hat) pd_int))
    · simp only [Bool.and_eq_true, decide_eq_true_eq, List.isEmpty_iff] at h
      obtain ⟨rfl, h2⟩ := h
      refine hss_cons (hs_ret (d := oiD (FM.worthM .untold b held last)) ?_ rfl)
      rw [worth_untold, if_pos h2]; exact pd_none
    refine hss_cons (hs_ret (d := oiD (FM.worthM wd b held last)) (pv_if (k1 := decide (wd = .high)) (by rw [← sel_high]; exact pq_eqS (pd_var (d := .str (selS wd)) 0) pd_str) (fun hc => ?_) fun hc => ?_) rfl)
    · have h' : wd = .high := of_decide_eq_true hc
      subst h'
      exact pd_ixT (ds := [.int b.1, .int b.2]) (pd_var 1) pd_int
    · have h' : wd ≠ .high := of_decide_eq_false hc
      cases wd with
      | new => exact absurd rfl hnew
      | late => exact absurd rfl hlate
      | high => exact absurd rfl h'
      | low => exact pd_neg (pd_ixT (ds := [.int b.1, .int b.2]) (pd_var 1) pd_int)
      | untold =>
        have : ¬ (FM.insideM b held).filter (utQ held) = [] := fun z => by rw [z] at h; simp at h
        rw [worth_untold, if_neg this]
        exact pd_neg (pd_ixT (ds := [.int b.1, .int b.2]) (pd_var 1) pd_int)
end
end FB
end

section
set_option Elab.async false
set_option linter.all false
set_option maxRecDepth 100000
set_option maxHeartbeats 4000000
/-! _law_reply. -/
namespace FB
open PySem L2
def preLReply : List Ar → Rt → Prop := fun as r => ∃ (sel : List FM.Sel) (s : FM.LSt) (last : Int), as = [.dat (.tuple (sel.map selD)), .dat (lsD s), .dat (.int last)] ∧ s.held.length ≤ 1000 ∧ sel.length ≤ 1000 ∧ r = .dat (.tuple [bsD (FM.lreplyM sel s last).1, lsD (FM.lreplyM sel s last).2])
def bmB : Option (FM.Blk × Int) → PyData
  | none => .none
  | some z => bD z.1
def bmX : Option (FM.Blk × Int) → PyData
  | none => .none
  | some z => .int z.2
theorem lpickStep_sub {held : List (Int × Bool)} {last : Int} {lp : List FM.Blk × List FM.Blk} {w : FM.Sel} : (∀ b ∈ (FM.lpickStep held last lp w).1, b ∈ lp.1) ∧ (FM.lpickStep held last lp w).1.length ≤ lp.1.length ∧ (FM.lpickStep held last lp w).2.length ≤ lp.2.length + 1 := by
  unfold FM.lpickStep
  split
  · exact ⟨fun b h => h, Nat.le_refl _, Nat.le_succ _⟩
  · exact ⟨fun b h => (List.mem_filter.mp h).1, List.length_filter_le _ _, by simp⟩
theorem lpicks_sub {held : List (Int × Bool)} {last : Int} : ∀ (ws : List FM.Sel) (lp : List FM.Blk × List FM.Blk), (∀ b ∈ (ws.foldl (FM.lpickStep held last) lp).1, b ∈ lp.1) ∧ (ws.foldl (FM.lpickStep held last) lp).1.length ≤ lp.1.length ∧ (ws.foldl (FM.lpickStep held last) lp).2.length ≤ lp.2.length + ws.length
  | [], lp => ⟨fun b h => h, Nat.le_refl _, Nat.le_refl _⟩
  | w :: ws, lp => by
    obtain ⟨a1, a2, a3⟩ := lpicks_sub ws (FM.lpickStep held last lp w)
    obtain ⟨b1, b2, b3⟩ := lpickStep_sub (held := held) (last := last) (lp := lp) (w := w)
    rw [List.foldl_cons, List.length_cons]
    exact ⟨fun b h => b1 b (a1 b h), by omega, by omega⟩
section
variable {P : Program} {w : World} {K : PySem.W.Frag} {mg : Str → Option Value} {base : Heap} {C : Addr}
theorem df_L_reply (A : FnAt K mg "_law_reply" s_L_reply) (T : Tx K mg C) (Gb : Df P w K mg base C "_law_blocks" 1 preLBlocks) (Gw : Df P w K mg base C "_law_worth" 1 preLWorth) : Df P w K mg base C "_law_reply" 2 preLReply := by
  refine df_of A sc_L_reply (fun as r h => ?_) (fun _ _ _ _ _ _ us hl => match us, hl with | [_, _, _], _ => rfl) (fun f cdv A outer s H E hr as r h => ?_)
  · obtain ⟨_, _, _, rfl, _⟩ := h; rfl
  · obtain ⟨sel, st, last, rfl, hz, hsz, rfl⟩ := h
    have nd := sc_L_reply.nd
    have hll := lblocks_len (st.held.map (·.1))
    rw [List.length_map] at hll
    have hlin := lblocks_in (ns := st.held.map (·.1))
    generalize hbl : FM.lblocksM (st.held.map (·.1)) = bl at hll hlin
    refine hss_cons (hs_par 3 4 nd (by decide) (nw_n (pn_call (ds := bl.map bD) Gb (hr.mono (by decide)) (ga_l (pl_new (pn_map (xs := st.held) (enc := pairD) (is := [5]) (own := [("_law_pair", 5)]) (f := fun e => .int e.1) (pis_tup (pd_ixT (ds := [.int st.n, .tuple (st.held.map pairD)]) (pd_var 1) pd_int)) (blkOk_by (N := ["_law_words_here", "_law_state", "_law_last", "_law_left", "_law_picked", "_law_pair", "_law_word", "_law_best", "_law_most", "_law_block", "_law_worth_here", "_law_held", "_law_piece", "_law_told", "_law_inside"]) (sc := defScope s_L_reply) (by decide +kernel)) nd (fun _ _ _ _ _ => pg_name (i := 5) nd rfl (.inl rfl)) (sz_le (by omega)) (by simp [rho0])
      (fun z _ => ⟨[pairD z], gb_name, fun _ _ _ _ _ => pd_ixT (ds := [.int z.1, .bool z.2]) (pd_var 5) pd_int⟩))) ga_nil) ⟨st.held.map (·.1), by rw [List.map_map]; rfl, by rw [List.length_map]; exact hz, by rw [hbl]⟩)) (nw_n (pn_lst pds_nil)) ?_)
    show HSs _ C [some (.dat (.tuple (sel.map selD))), some (.dat (lsD st)), some (.dat (.int last)), some (.own (bl.map bD)), some (.own []), none, none, none, none, none, none, none, none, none, none] _ _
    refine hss_lock 3 ?_
    show HSs _ C [some (.dat (.tuple (sel.map selD))), some (.dat (lsD st)), some (.dat (.int last)), some (.rl (bl.map bD)), some (.own []), none, none, none, none, none, none, none, none, none, none] _ _
    refine hss_cons (hs_for (xs := sel) (enc := selD) (is := [6]) (pis_tup (pd_var 0)) (pg_name (i := 6) nd rfl (.inl rfl))
      (fun i ρ => ∃ u6 u7 u8 u9 u10, ρ = [some (.dat (.tuple (sel.map selD))), some (.dat (lsD st)), some (.dat (.int last)), some (.rl (((sel.take i).foldl (FM.lpickStep st.held last) (bl, [])).1.map bD)), some (.own (((sel.take i).foldl (FM.lpickStep st.held last) (bl, [])).2.map bD)), none, u6, u7, u8, u9, u10, none, none, none, none])
      ⟨none, none, none, none, none, rfl⟩ (fun i z ρ' hz' hR => ?_) (fun ρ' hR => ?_))
    · obtain ⟨u6, u7, u8, u9, u10, rfl⟩ := hR
      refine ⟨[selD z], gb_name, by simp, ?_⟩
      have hfold : ((sel.take (i + 1)).foldl (FM.lpickStep st.held last) (bl, [])) = FM.lpickStep st.held last ((sel.take i).foldl (FM.lpickStep st.held last) (bl, [])) z := by
        rw [List.take_add_one, hz', Option.toList_some, List.foldl_append]; rfl
      obtain ⟨a1, a2, a3⟩ := lpicks_sub (held := st.held) (last := last) (sel.take i) (bl, [])
      have htl : (sel.take i).length ≤ sel.length := by rw [List.length_take]; omega
      rw [hfold]
      generalize ((sel.take i).foldl (FM.lpickStep st.held last) (bl, [])) = lp at a1 a2 a3 ⊢
      obtain ⟨left, picked⟩ := lp
      simp only [List.length_nil] at a3
      dsimp only at a1 a2
      show HSs _ C [some (.dat (.tuple (sel.map selD))), some (.dat (lsD st)), some (.dat (.int last)), some (.rl (left.map bD)), some (.own (picked.map bD)), none, some (.dat (selD z)), u7, u8, u9, u10, none, none, none, none] _ _
      refine hss_cons (hs_unp (is := [7, 8]) (ds := [.none, .none]) (pd_tup (pds_cons pd_none (pds_cons pd_none pds_nil))) (pg_tup rfl (pgs_cons (pg_name (i := 7) nd rfl (.inr rfl)) (pgs_cons (pg_name (i := 8) nd rfl (.inl rfl)) pgs_nil))) gb_tup (by simp) ?_)
      refine hss_cons (hs_for (xs := left) (enc := bD) (is := [9]) (pis_var 3 rfl) (pg_name (i := 9) nd rfl (.inl rfl))
        (fun j ρ => ∃ u9 u10, ρ = [some (.dat (.tuple (sel.map selD))), some (.dat (lsD st)), some (.dat (.int last)), some (.rl (left.map bD)), some (.own (picked.map bD)), none, some (.dat (selD z)), some (.dat (bmB ((left.take j).foldl (FM.bestStep z st.held last) none))), some (.dat (bmX ((left.take j).foldl (FM.bestStep z st.held last) none))), u9, u10, none, none, none, none])
        ⟨u9, u10, rfl⟩ (fun j b ρ'' hb hR' => ?_) (fun ρ'' hR' => ?_))
      · obtain ⟨u9, u10, rfl⟩ := hR'
        refine ⟨[bD b], gb_name, by simp, ?_⟩
        have hbm : b ∈ left := List.mem_of_getElem? hb
        have hbin := hlin b (a1 b hbm)
        have hfold2 : ((left.take (j + 1)).foldl (FM.bestStep z st.held last) none) = FM.bestStep z st.held last ((left.take j).foldl (FM.bestStep z st.held last) none) b := by
          rw [List.take_add_one, hb, Option.toList_some, List.foldl_append]; rfl
        rw [hfold2]
        generalize (left.take j).foldl (FM.bestStep z st.held last) none = bm
        show HSs _ C [some (.dat (.tuple (sel.map selD))), some (.dat (lsD st)), some (.dat (.int last)), some (.rl (left.map bD)), some (.own (picked.map bD)), none, some (.dat (selD z)), some (.dat (bmB bm)), some (.dat (bmX bm)), some (.dat (bD b)), u10, none, none, none, none] _ _
        refine hss_cons (hs_set 10 (d := oiD (FM.worthM z b st.held last)) nd (pd_call Gw (hr.mono (by decide)) (ga_d (pd_var 6) (ga_d (pd_var 9) (ga_d (pd_ixT (ds := [.int st.n, .tuple (st.held.map pairD)]) (pd_var 1) pd_int) (ga_d (pd_var 2) ga_nil)))) ⟨z, b, st.held, last, rfl, hz, inside_ne hbin.1 hbin.2, rfl⟩) ?_)
        have hstep : FM.bestStep z st.held last bm b = (match FM.worthM z b st.held last with
          | none => bm
          | some x => match bm with
            | none => some (b, x)
            | some (c, y) => if x > y then some (b, x) else some (c, y)) := rfl
        rw [hstep]
        cases hwo : FM.worthM z b st.held last with
        | none =>
          refine hss_cons (hs_if (k1 := false) (pq_w (pw_and' (k1 := false) (k2 := false) (pq_notN (d := .none) (pd_var 10)) fun h => by cases h)) (fun h => by cases h) fun _ => hss_nil (hss_nil ⟨_, _, rfl⟩))
        | some x =>
          cases bm with
          | none =>
            refine hss_cons (hs_if (k1 := true) (pq_w (pw_and' (k1 := true) (k2 := true) (pq_notN (d := .int x) (pd_var 10)) fun _ => pw_and1' (pq_w (pw_or' (k1 := true) (k2 := true) (pq_isN (d := .none) (pd_var 8)) fun h => by cases h)))) (fun _ => ?_) fun h => by cases h)
            exact hss_cons (hs_unp (is := [7, 8]) (ds := [bD b, .int x]) (pd_tup (pds_cons (pd_var 9) (pds_cons (pd_var 10) pds_nil))) (pg_tup rfl (pgs_cons (pg_name (i := 7) nd rfl (.inr rfl)) (pgs_cons (pg_name (i := 8) nd rfl (.inl rfl)) pgs_nil))) gb_tup (by simp) (hss_nil (hss_nil ⟨_, _, rfl⟩)))
          | some cy =>
            obtain ⟨c, y⟩ := cy
            refine hss_cons (hs_if (k1 := decide (y < x)) (pq_w (pw_and' (k1 := true) (k2 := decide (y < x)) (pq_notN (d := .int x) (pd_var 10)) fun _ => pw_and1' (pq_w (pw_or' (k1 := false) (k2 := decide (y < x)) (pq_isN (d := .int y) (pd_var 8)) fun _ => pw_or1' (pq_gt (pd_var (d := .int x) 10) (pd_var (d := .int y) 8)))))) (fun h => ?_) fun h => ?_)
            · have h' : x > y := of_decide_eq_true h
              dsimp only
              rw [if_pos h']
              exact hss_cons (hs_unp (is := [7, 8]) (ds := [bD b, .int x]) (pd_tup (pds_cons (pd_var 9) (pds_cons (pd_var 10) pds_nil))) (pg_tup rfl (pgs_cons (pg_name (i := 7) nd rfl (.inr rfl)) (pgs_cons (pg_name (i := 8) nd rfl (.inl rfl)) pgs_nil))) gb_tup (by simp) (hss_nil (hss_nil ⟨_, _, rfl⟩)))
            · have h' : ¬ x > y := of_decide_eq_false h
              dsimp only
              rw [if_neg h']
              exact hss_nil (hss_nil ⟨_, _, rfl⟩)
      · obtain ⟨u9, u10, rfl⟩ := hR'
        rw [List.take_length]
        have hstep : FM.lpickStep st.held last (left, picked) z = (match left.foldl (FM.bestStep z st.held last) none with | none => (left, picked) | some bx => (left.filter (fun e => !decide (e = bx.1)), picked ++ [bx.1])) := by
          unfold FM.lpickStep
          dsimp only
          cases left.foldl (FM.bestStep z st.held last) none <;> rfl
        rw [hstep]
        cases left.foldl (FM.bestStep z st.held last) none with
        | none => exact hss_cons (hs_if (k1 := false) (pq_notN (d := .none) (pd_var 7)) (fun h => by cases h) fun _ => hss_nil (hss_nil ⟨_, _, _, _, _, rfl⟩))
        | some bx =>
          refine hss_cons (hs_if (k1 := true) (pq_notN (d := bD bx.1) (pd_var 7)) (fun _ => ?_) fun h => by cases h)
          refine hss_cons (hs_app (d := bD bx.1) 4 rfl (pe_bm PySem.F.plainAttrs_list PySem.F.slot_list_append PySem.F.type_list_append mt_append (pv 4) (pa_cons (pd_var 7) pa_nil)) (sz_lt (by rw [List.length_map]; omega)) ?_)
          refine hss_cons (hs_flt (xs := left) (enc := bD) (is := [9]) (own := [("_law_block", 9)]) (q := fun e => !decide (e = bx.1)) (f := bD) 3 (pis_var 3 rfl) (blkOk_by (N := ["_law_words_here", "_law_state", "_law_last", "_law_left", "_law_picked", "_law_pair", "_law_word", "_law_best", "_law_most", "_law_block", "_law_worth_here", "_law_held", "_law_piece", "_law_told", "_law_inside"]) (sc := defScope s_L_reply) (by decide +kernel)) nd (fun _ _ _ _ _ => pg_name (i := 9) nd rfl (.inl rfl)) (sz_le (by omega)) (by simp)
            (fun y _ => ⟨[bD y], gb_name, fun _ _ _ _ _ => by rw [← eqv_bD]; exact pq_ne hr.units (pd_var 9) (pd_var (d := bD bx.1) 7) (shp_bD y) (shp_bD bx.1), fun _ _ _ _ _ _ => pd_var 9⟩) ?_)
          refine hss_lock (ds := (left.filter (fun e => !decide (e = bx.1))).map bD) 3 (hss_nil (hss_nil ⟨some (.dat (selD z)), some (.dat (bD bx.1)), some (.dat (.int bx.2)), u9, u10, ?_⟩))
          rw [List.map_append]
          rfl
    · obtain ⟨u6, u7, u8, u9, u10, rfl⟩ := hR
      rw [List.take_length]
      obtain ⟨a1, a2, a3⟩ := lpicks_sub (held := st.held) (last := last) sel (bl, [])
      have hpk : (sel.foldl (FM.lpickStep st.held last) (bl, [])).2 = FM.lpickedM sel st last := by rw [← hbl]; rfl
      rw [hpk] at a3 ⊢
      simp only [List.length_nil] at a3
      generalize (sel.foldl (FM.lpickStep st.held last) (bl, [])).1 = left
      have hres : FM.lreplyM sel st last = (FM.lpickedM sel st last, ⟨st.n, st.held.map fun e => (e.1, e.2 || !(((FM.lpickedM sel st last).filter fun b => FM.inB e.1 b).isEmpty))⟩) := rfl
      generalize FM.lpickedM sel st last = picked at hres a3 ⊢
      refine hss_lock (ds := picked.map bD) 4 ?_
      refine hss_cons (hs_setN 11 nd (pn_lst pds_nil) ?_)
      show HSs _ C [some (.dat (.tuple (sel.map selD))), some (.dat (lsD st)), some (.dat (.int last)), some (.rl (left.map bD)), some (.rl (picked.map bD)), none, u6, u7, u8, u9, u10, some (.own []), none, none, none] _ _
      refine hss_cons (hs_for (xs := st.held) (enc := pairD) (is := [12, 13]) (pis_tup (pd_ixT (ds := [.int st.n, .tuple (st.held.map pairD)]) (pd_var 1) pd_int)) (pg_tup rfl (pgs_cons (pg_name (i := 12) nd rfl (.inr rfl)) (pgs_cons (pg_name (i := 13) nd rfl (.inl rfl)) pgs_nil)))
        (fun i ρ => ∃ u9 u12 u13 u14, ρ = [some (.dat (.tuple (sel.map selD))), some (.dat (lsD st)), some (.dat (.int last)), some (.rl (left.map bD)), some (.rl (picked.map bD)), none, u6, u7, u8, u9, u10, some (.own (((st.held.take i).map fun e => (e.1, e.2 || !((picked.filter fun b => FM.inB e.1 b).isEmpty))).map pairD)), u12, u13, u14])
        ⟨u9, none, none, none, rfl⟩ (fun i z ρ' hz' hR => ?_) (fun ρ' hR => ?_))
      · obtain ⟨u9, u12, u13, u14, rfl⟩ := hR
        have hi : i < st.held.length := (List.getElem?_eq_some_iff.mp hz').1
        refine ⟨[.int z.1, .bool z.2], gb_tup, by simp, ?_⟩
        show HSs _ C [some (.dat (.tuple (sel.map selD))), some (.dat (lsD st)), some (.dat (.int last)), some (.rl (left.map bD)), some (.rl (picked.map bD)), none, u6, u7, u8, u9, u10, some (.own (((st.held.take i).map fun e => (e.1, e.2 || !((picked.filter fun b => FM.inB e.1 b).isEmpty))).map pairD)), some (.dat (.int z.1)), some (.dat (.bool z.2)), u14] _ _
        refine hss_cons (hs_flt (xs := picked) (enc := bD) (is := [9]) (own := [("_law_block", 9)]) (q := fun b => FM.inB z.1 b) (f := bD) 14 (pis_var 4 rfl) (blkOk_by (N := ["_law_words_here", "_law_state", "_law_last", "_law_left", "_law_picked", "_law_pair", "_law_word", "_law_best", "_law_most", "_law_block", "_law_worth_here", "_law_held", "_law_piece", "_law_told", "_law_inside"]) (sc := defScope s_L_reply) (by decide +kernel)) nd (fun _ _ _ _ _ => pg_name (i := 9) nd rfl (.inl rfl)) (sz_le (by omega)) (by simp)
            (fun y _ => ⟨[bD y], gb_name, fun _ _ _ _ _ => pq_chain op_le op_lt (pd_ixT (ds := [.int y.1, .int y.2]) (pd_var 9) pd_int) (pd_var 12) (pd_ixT (ds := [.int y.1, .int y.2]) (pd_var 9) pd_int), fun _ _ _ _ _ _ => pd_var 9⟩) ?_)
        have e5 : (picked.filter fun b => FM.inB z.1 b).isEmpty = ((picked.filter fun b => FM.inB z.1 b).map bD).isEmpty := by cases (picked.filter fun b => FM.inB z.1 b) <;> rfl
        refine hss_cons (hs_app (d := pairD (z.1, z.2 || !((picked.filter fun b => FM.inB z.1 b).isEmpty))) 11 rfl (pe_bm PySem.F.plainAttrs_list PySem.F.slot_list_append PySem.F.type_list_append mt_append (pv 11) (pa_cons (pd_tup (pds_cons (pd_var 12) (pds_cons (pd_or (k1 := z.2) (k2 := !((picked.filter fun b => FM.inB z.1 b).isEmpty)) (pd_var 13) fun _ => pd_one (by rw [e5, ← eqvAll_nil]; exact pd_neL hr.units (pl_var 14) (pl_new (pn_lst pds_nil)) (shp_mapL lay_bD (fun b => Nat.le_trans (dep_bD b) (by decide)) _) shp_nilL)) pds_nil))) pa_nil)) (sz_lt (by rw [List.length_map, List.length_map, List.length_take]; omega)) (hss_nil ?_))
        refine ⟨u9, some (.dat (.int z.1)), some (.dat (.bool z.2)), some (.own ((picked.filter fun b => FM.inB z.1 b).map bD)), ?_⟩
        rw [List.take_add_one, hz', Option.toList_some, List.map_append, List.map_append]
        rfl
      · obtain ⟨u9, u12, u13, u14, rfl⟩ := hR
        rw [List.take_length]
        refine hss_cons (hs_ret (pd_tup (pds_cons (pd_toTup T.tuple_ (pl_var 4)) (pds_cons (pd_tup (pds_cons (pd_ixT (ds := [.int st.n, .tuple (st.held.map pairD)]) (pd_var 1) pd_int) (pds_cons (pd_toTup T.tuple_ (pl_var 11)) pds_nil))) pds_nil))) ?_)
        show Rt.dat _ = Rt.dat _
        rw [hres]
        rfl
end
end FB
end

section
set_option Elab.async false
set_option linter.all false
set_option maxRecDepth 100000
set_option maxHeartbeats 4000000
/-! _law_event, _law_answers, _law_are_events, _law_parted. -/
namespace FB
open PySem L2
def noAns (sp : FM.Spec) (e : FM.Ev) : Bool := if sp.once then !isRound e else !e.isCome
def preS (sp : FM.Spec) (s : FM.LSt) (e : FM.Ev) : FM.LSt := match e with
  | .come p => FM.ltakeM sp.room s p
  | .drop p => ⟨s.n, s.held.filter fun x => !decide (x.1 = p)⟩
  | .round => s
def preL (l : Option Int) (e : FM.Ev) : Option Int := match e with
  | .come p => some p
  | _ => l
def finM (sp : FM.Spec) (s : FM.LSt) (l : Option Int) (e : FM.Ev) : FM.LSt × Option Int × FM.Ans := match l with
  | none => (s, none, none)
  | some l' => if noAns sp e then (s, some l', none) else ((FM.lreplyM sp.sel s l').2, none, some ((FM.lreplyM sp.sel s l').2.n, (FM.lreplyM sp.sel s l').1))
theorem levent_eq (sp : FM.Spec) (s : FM.LSt) (l : Option Int) (e : FM.Ev) : FM.leventM sp s l e = finM sp (preS sp s e) (preL l e) e := by
  cases e with
  | come p =>
    simp only [FM.leventM, finM, preS, preL, noAns, isRound, FM.Ev.isCome]
    rcases Bool.eq_false_or_eq_true sp.once with ho | ho <;> simp [ho]
  | drop p =>
    cases l with
    | none => simp [FM.leventM, finM, preS, preL]
    | some l =>
      simp only [FM.leventM, finM, preS, preL, noAns, isRound, FM.Ev.isCome]
      rcases Bool.eq_false_or_eq_true sp.once with ho | ho <;> simp [ho]
  | round =>
    cases l with
    | none => simp [FM.leventM, finM, preS, preL]
    | some l =>
      simp only [FM.leventM, finM, preS, preL, noAns, isRound, FM.Ev.isCome]
      rcases Bool.eq_false_or_eq_true sp.once with ho | ho <;> simp [ho]
theorem ltake_len (room : Int) (s : FM.LSt) (p : Int) : (FM.ltakeM room s p).held.length ≤ s.held.length + 1 := by
  unfold FM.ltakeM
  dsimp only
  split
  · exact Nat.le_succ_of_le (List.length_filter_le _ _)
  · split
    · simp
    · exact Nat.le_succ _
def resD (x : FM.LSt × Option Int × FM.Ans) : PyData := .tuple [lsD x.1, lastD x.2.1, ansD x.2.2]
def preLEvent : List Ar → Rt → Prop := fun as r => ∃ (sp : FM.Spec) (s : FM.LSt) (l : Option Int) (e : FM.Ev), as = [.dat (spD' sp), .dat (lsD s), .dat (lastD l), .dat (evD e)] ∧ s.held.length ≤ 800 ∧ sp.sel.length ≤ 1000 ∧ r = .dat (resD (FM.leventM sp s l e))
def lanF (sp : FM.Spec) (acc : FM.LSt × Option Int × List FM.Ans) (e : FM.Ev) : FM.LSt × Option Int × List FM.Ans := ((FM.leventM sp acc.1 acc.2.1 e).1, (FM.leventM sp acc.1 acc.2.1 e).2.1, acc.2.2 ++ [(FM.leventM sp acc.1 acc.2.1 e).2.2])
def lan0 : FM.LSt × Option Int × List FM.Ans := (⟨0, []⟩, none, [])
theorem lanswers_eq (sp : FM.Spec) (es : List FM.Ev) : FM.lanswersM sp es = (es.foldl (lanF sp) lan0).2.2 := rfl
theorem lanF_len (sp : FM.Spec) : ∀ (es : List FM.Ev) (acc : FM.LSt × Option Int × List FM.Ans), (es.foldl (lanF sp) acc).2.2.length = acc.2.2.length + es.length
  | [], acc => by simp
  | e :: es, acc => by
    rw [List.foldl_cons, lanF_len sp es]
    simp [lanF]; omega
/-- the states on the way hold few pieces -/
def FewOn (sp : FM.Spec) (es : List FM.Ev) : Prop := ∀ k, ((es.take k).foldl (lanF sp) lan0).1.held.length ≤ 800
def preLAnswers : List Ar → Rt → Prop := fun as r => ∃ (sp : FM.Spec) (es : List FM.Ev), as = [.dat (spD' sp), .dat (.tuple (es.map evD))] ∧ FewOn sp es ∧ es.length < sizeLine ∧ sp.sel.length ≤ 1000 ∧ r = .lst ((FM.lanswersM sp es).map ansD)
def preLAre : List Ar → Rt → Prop := fun as r => ∃ (es : List FM.Ev), as = [.dat (.tuple (es.map evD))] ∧ es.length < sizeLine ∧ r = .dat (.bool (es.all FM.Ev.ok))
def preLParted : List Ar → Rt → Prop := fun as r => ∃ (a b : FM.Spec) (es : List FM.Ev), as = [.dat (spD' a), .dat (spD' b), .dat (.tuple (es.map evD))] ∧ FewOn a es ∧ FewOn b es ∧ es.length < sizeLine ∧ a.sel.length ≤ 1000 ∧ b.sel.length ≤ 1000 ∧ r = .dat (.bool (FM.partedM a b es))
theorem isNo_lastD (l : Option Int) : isNo (lastD l) = l.isNone := by cases l <;> rfl
theorem lay_evD (e : FM.Ev) : PyData.canLay0 (evD e) = true := by
  have h1 : PyData.strOk ("come" : Str) = true := by decide +kernel
  have h2 : PyData.strOk ("drop" : Str) = true := by decide +kernel
  have h3 : PyData.strOk ("round" : Str) = true := by decide +kernel
  cases e <;> simp [evD, PyData.canLay0, PyData.canLayAll0, h1, h2, h3]
theorem dep_evD (e : FM.Ev) : PyData.depth (evD e) ≤ 1 := by cases e <;> simp [evD, PyData.depth, PyData.depthAll]
theorem shp_evD (e : FM.Ev) : Shp (evD e) := by
  have := dep_evD e
  simp only [Shp, SeqAt.shaped, lay_evD, Bool.true_and, decide_eq_true_eq]
  omega
theorem eqv_round (e : FM.Ev) : PyData.eqv (evD e) (.tuple [.str "round"]) = isRound e := by
  cases e <;> simp [evD, PyData.eqv, PyData.eqvAll, isRound]
theorem lay_ansD (a : FM.Ans) : PyData.canLay0 (ansD a) = true := by
  cases a <;> simp [ansD, bsD, PyData.canLay0, PyData.canLayAll0, canLayAll_map lay_bD]
theorem dep_ansD (a : FM.Ans) : PyData.depth (ansD a) ≤ 40 := by
  cases a with
  | none => simp [ansD, PyData.depth]
  | some a =>
    have := depthAll_map dep_bD a.2
    simp only [ansD, bsD, PyData.depth, PyData.depthAll]
    omega
theorem cut_dropLast {α : Type} (l : List α) : cutL l none (some (-1)) = l.dropLast := by
  unfold cutL
  have h1 : HT.sIx l.length 0 none = 0 := rfl
  have h2 : HT.sIx l.length l.length (some (-1)) = l.length - 1 := by unfold HT.sIx; simp; omega
  rw [h1, h2, List.drop_zero, Nat.sub_zero, List.dropLast_eq_take]
theorem pq_evDr {X : Cx} {C : Addr} {ρ : Rho} {a : Expr} {e : FM.Ev} {pos p1 p2 p3 : Pos} {j k : Nat} (h : PD X C ρ a (evD e)) : PQ X C ρ (.Compare (.Subscript a (.Constant (.int 0) j p1) pos) [.Eq] [.Constant (.str "drop") k p3] p2) e.isDrop := by
  rw [← evW_drop]; exact pq_eqS (pd_ev0 h) pd_str
section
variable {P : Program} {w : World} {K : PySem.W.Frag} {mg : Str → Option Value} {base : Heap} {C : Addr}
theorem df_L_event (A : FnAt K mg "_law_event" s_L_event) (T : Tx K mg C) (Gt : Df P w K mg base C "_law_take" 1 preLTake) (Gr : Df P w K mg base C "_law_reply" 2 preLReply) : Df P w K mg base C "_law_event" 3 preLEvent := by
  refine df_of A sc_L_event (fun as r h => ?_) (fun _ _ _ _ _ _ us hl => match us, hl with | [_, _, _, _], _ => rfl) (fun f cdv A outer s H E hr as r h => ?_)
  · obtain ⟨_, _, _, _, rfl, _⟩ := h; rfl
  · obtain ⟨sp, st, l, e, rfl, hz, hsz, rfl⟩ := h
    have nd := sc_L_event.nd
    rw [levent_eq]
    have hps : (preS sp st e).held.length ≤ 801 := by
      cases e with
      | come p => have := ltake_len sp.room st p; show (FM.ltakeM sp.room st p).held.length ≤ _; omega
      | drop p => exact Nat.le_trans (List.length_filter_le _ _) (by omega)
      | round => show st.held.length ≤ _; omega
    have fin : ∀ (s' : FM.LSt) (l' : Option Int) {ρ : Rho}, ρ = [some (.dat (spD' sp)), some (.dat (lsD s')), some (.dat (lastD l')), some (.dat (evD e)), none, none] → s'.held.length ≤ 801 →
        HSs (bX P w K mg base ["_law_spec_here", "_law_state", "_law_last", "_law_event_here", "_law_pair", "_law_picked"] "_law_event" (defScope s_L_event) f cdv A outer s H E) C ρ ((defBody s_L_event).drop 2) (retP (.dat (resD (finM sp s' l' e)))) := fun s' l' ρ hρ hs' => by
      subst hρ
      cases l' with
      | none =>
        exact hss_cons (hs_if (k1 := true) (pq_w (pw_or' (k1 := true) (k2 := true) (pq_isN (d := .none) (pd_var 2)) fun h => by cases h)) (fun _ => hss_cons (hs_ret (pd_tup (pds_cons (pd_var 1) (pds_cons (pd_var (d := .none) 2) (pds_cons pd_none pds_nil)))) rfl)) fun h => by cases h)
      | some l' =>
        refine hss_cons (hs_if (k1 := noAns sp e) (pq_w (pw_or' (k1 := false) (k2 := noAns sp e) (pq_isN (d := .int l') (pd_var 2)) fun _ => pw_or1' ?_)) (fun h => ?_) fun h => hss_nil ?_)
        · unfold noAns
          cases ho : sp.once with
          | true =>
            rw [if_pos rfl, ← evW_round]
            exact pq_neS (pd_ev0 (pd_var 3)) (pv_if (k1 := true) (pq_val (pd_ixT (ds := [.int sp.room, .tuple (sp.sel.map selD), proD sp.pro, .bool sp.once]) (d := .bool true) (pd_var 0) pd_int (by rw [ho]; rfl))) (fun _ => pd_str) fun h => by cases h)
          | false =>
            rw [if_neg Bool.false_ne_true, ← evW_come]
            exact pq_neS (pd_ev0 (pd_var 3)) (pv_if (k1 := false) (pq_val (pd_ixT (ds := [.int sp.room, .tuple (sp.sel.map selD), proD sp.pro, .bool sp.once]) (d := .bool false) (pd_var 0) pd_int (by rw [ho]; rfl))) (fun h => by cases h) fun _ => pd_str)
        · refine hss_cons (hs_ret (pd_tup (pds_cons (pd_var 1) (pds_cons (pd_var (d := .int l') 2) (pds_cons pd_none pds_nil)))) ?_)
          show Rt.dat _ = Rt.dat _
          unfold finM
          rw [h]
          rfl
        · refine hss_cons (hs_unp (is := [5, 1]) (ds := [bsD (FM.lreplyM sp.sel s' l').1, lsD (FM.lreplyM sp.sel s' l').2]) (pd_call Gr (hr.mono (by decide)) (ga_d (pd_ixT (ds := [.int sp.room, .tuple (sp.sel.map selD), proD sp.pro, .bool sp.once]) (pd_var 0) pd_int) (ga_d (pd_var 1) (ga_d (pd_var (d := .int l') 2) ga_nil))) ⟨sp.sel, s', l', rfl, by omega, hsz, rfl⟩) (pg_tup rfl (pgs_cons (pg_name (i := 5) nd rfl (.inl rfl)) (pgs_cons (pg_name (i := 1) nd rfl (.inl rfl)) pgs_nil))) gb_tup (by simp) ?_)
          refine hss_cons (hs_ret (pd_tup (pds_cons (pd_var 1) (pds_cons pd_none (pds_cons (pd_tup (pds_cons (pd_ixT (ds := [.int (FM.lreplyM sp.sel s' l').2.n, .tuple ((FM.lreplyM sp.sel s' l').2.held.map pairD)]) (pd_var 1) pd_int) (pds_cons (pd_var 5) pds_nil))) pds_nil)))) ?_)
          show Rt.dat _ = Rt.dat _
          unfold finM
          rw [h]
          rfl
    refine hss_cons (hs_if (pq_evC (pd_var 3)) (fun h => ?_) fun h => hss_nil ?_)
    · cases e with
      | come p =>
        refine hss_cons (hs_par 1 2 nd (by decide) (nw_d (pd_call Gt (hr.mono (by decide)) (ga_d (pd_ixT (ds := [.int sp.room, .tuple (sp.sel.map selD), proD sp.pro, .bool sp.once]) (pd_var 0) pd_int) (ga_d (pd_var 1) (ga_d (pd_ixT (ds := [.str "come", .int p]) (pd_var 3) pd_int) ga_nil))) ⟨sp.room, st, p, rfl, by omega, rfl⟩)) (nw_d (pd_ixT (ds := [.str "come", .int p]) (pd_var 3) pd_int)) (hss_nil ?_))
        exact hss_cons (hs_if (k1 := false) (pq_evDr (e := .come p) (pd_var 3)) (fun h => by cases h) fun _ => hss_nil (fin (FM.ltakeM sp.room st p) (some p) rfl hps))
      | drop p => cases h
      | round => cases h
    · cases e with
      | come p => cases h
      | drop p =>
        refine hss_cons (hs_if (k1 := true) (pq_evDr (e := .drop p) (pd_var 3)) (fun _ => ?_) fun h => by cases h)
        refine hss_cons (hs_set 1 nd (pd_tup (pds_cons (pd_ixT (ds := [.int st.n, .tuple (st.held.map pairD)]) (pd_var 1) pd_int) (pds_cons (pd_toTup T.tuple_ (pl_new (pn_flt (xs := st.held) (enc := pairD) (is := [4]) (own := [("_law_pair", 4)]) (q := fun x => !decide (x.1 = p)) (f := pairD) (pis_tup (pd_ixT (ds := [.int st.n, .tuple (st.held.map pairD)]) (pd_var 1) pd_int)) (blkOk_by (N := ["_law_spec_here", "_law_state", "_law_last", "_law_event_here", "_law_pair", "_law_picked"]) (sc := defScope s_L_event) (by decide +kernel)) nd (fun _ _ _ _ _ => pg_name (i := 4) nd rfl (.inl rfl)) (sz_le (by omega)) (by simp [rho0])
          (fun z _ => ⟨[pairD z], gb_name, fun _ _ _ _ _ => pq_neI (pd_ixT (ds := [.int z.1, .bool z.2]) (pd_var 4) pd_int) (pd_ixT (ds := [.str "drop", .int p]) (pd_var 3) pd_int), fun _ _ _ _ _ _ => pd_var 4⟩)))) pds_nil))) (hss_nil ?_))
        exact fin ⟨st.n, st.held.filter fun x => !decide (x.1 = p)⟩ l rfl hps
      | round =>
        refine hss_cons (hs_if (k1 := false) (pq_evDr (e := .round) (pd_var 3)) (fun h => by cases h) fun _ => hss_nil ?_)
        exact fin st l rfl hps
end
end FB
end

section
set_option Elab.async false
set_option linter.all false
set_option maxRecDepth 100000
set_option maxHeartbeats 4000000
/-! _law_answers, _law_are_events, _law_parted. -/
namespace FB
open PySem L2
def forBody : Stmt → List Stmt
  | .For _ _ b _ _ => b
  | _ => []
theorem kind_evD (z : FM.Ev) : kindD (evD z) = "tuple" := by cases z <;> rfl
theorem kit_tt : kitB "tuple" "tuple" = some true := by decide +kernel
section
variable {X : Cx} {C : Addr} {ρ : Rho} {a e : Expr} {pos p : Pos} {ds es : List PyData}
theorem pd_all' {bs : List Bool} {b : Bool} (hb : bs.all (· == true) = b) (hcm : X.calm = true) (hm : X.mg "all" = none) (ha : PL X C ρ a (bs.map .bool)) (hg : Gl X "all" := by rfl) (hs : starEach [a] X.env = (false, eval a X.env) :: starEach [] X.env := by rfl) : PD X C ρ (.Call (.Name "all" p) [a] [] pos) (.bool b) := hb ▸ pd_all hcm hm ha hg hs
theorem pn_lstEq (h : ds = es) (he : PN X C ρ e ds) : PN X C ρ e es := h ▸ he
end
section
variable {P : Program} {w : World} {K : PySem.W.Frag} {mg : Str → Option Value} {base : Heap} {C : Addr}
theorem df_L_answers (A : FnAt K mg "_law_answers" s_L_answers) (T : Tx K mg C) (Ge : Df P w K mg base C "_law_event" 3 preLEvent) : Df P w K mg base C "_law_answers" 4 preLAnswers := by
  refine df_of A sc_L_answers (fun as r h => ?_) (fun _ _ _ _ _ _ us hl => match us, hl with | [_, _], _ => rfl) (fun f cdv A outer s H E hr as r h => ?_)
  · obtain ⟨_, _, rfl, _⟩ := h; rfl
  · obtain ⟨sp, es, rfl, hf, hz, hsz, rfl⟩ := h
    have nd := sc_L_answers.nd
    refine hss_cons (hs_par3 2 3 4 (s1 := .dat (lsD ⟨0, []⟩)) (s2 := .dat .none) (s3 := .own []) nd (by decide) (by decide) (by decide) (nw_d (pd_tup (pds_cons pd_int (pds_cons (pd_tup pds_nil) pds_nil)))) (nw_d pd_none) (nw_n (pn_lst pds_nil)) ?_)
    refine hss_cons (hs_for (xs := es) (enc := evD) (is := [5]) (pis_tup (pd_var 1)) (pg_name (i := 5) nd rfl (.inl rfl))
      (fun i ρ => ∃ u v, ρ = [some (.dat (spD' sp)), some (.dat (.tuple (es.map evD))), some (.dat (lsD ((es.take i).foldl (lanF sp) lan0).1)), some (.dat (lastD ((es.take i).foldl (lanF sp) lan0).2.1)), some (.own (((es.take i).foldl (lanF sp) lan0).2.2.map ansD)), u, v]) ⟨none, none, rfl⟩ (fun i z ρ' hz' hR => ?_) (fun ρ' hR => ?_))
    · obtain ⟨u, v, rfl⟩ := hR
      have hi : i < es.length := (List.getElem?_eq_some_iff.mp hz').1
      refine ⟨[evD z], gb_name, by simp, ?_⟩
      have hfold : (es.take (i + 1)).foldl (lanF sp) lan0 = lanF sp ((es.take i).foldl (lanF sp) lan0) z := by
        rw [List.take_add_one, hz', Option.toList_some, List.foldl_append]; rfl
      have hfew := hf i
      have hal := lanF_len sp (es.take i) lan0
      rw [List.length_take] at hal
      simp only [lan0, List.length_nil] at hal
      rw [hfold]
      unfold lan0 at hfew ⊢
      generalize (es.take i).foldl (lanF sp) (⟨0, []⟩, none, []) = acc at hal hfew ⊢
      obtain ⟨st, l, an⟩ := acc
      show HSs _ C [some (.dat (spD' sp)), some (.dat (.tuple (es.map evD))), some (.dat (lsD st)), some (.dat (lastD l)), some (.own (an.map ansD)), some (.dat (evD z)), v] _ _
      refine hss_cons (hs_unp (d := resD (FM.leventM sp st l z)) (is := [2, 3, 6]) (ds := [lsD (FM.leventM sp st l z).1, lastD (FM.leventM sp st l z).2.1, ansD (FM.leventM sp st l z).2.2]) (pd_call Ge (hr.mono (by decide)) (ga_d (pd_var 0) (ga_d (pd_var 2) (ga_d (pd_var 3) (ga_d (pd_var 5) ga_nil)))) ⟨sp, st, l, z, rfl, hfew, hsz, rfl⟩) (pg_tup rfl (pgs_cons (pg_name (i := 2) nd rfl (.inl rfl)) (pgs_cons (pg_name (i := 3) nd rfl (.inl rfl)) (pgs_cons (pg_name (i := 6) nd rfl (.inl rfl)) pgs_nil)))) gb_tup (by simp) ?_)
      refine hss_cons (hs_app (d := ansD (FM.leventM sp st l z).2.2) 4 rfl (pe_bm PySem.F.plainAttrs_list PySem.F.slot_list_append PySem.F.type_list_append mt_append (pv 4) (pa_cons (pd_var 6) pa_nil)) (by rw [List.length_map]; simp at hal; omega) (hss_nil ?_))
      refine ⟨some (.dat (evD z)), some (.dat (ansD (FM.leventM sp st l z).2.2)), ?_⟩
      unfold lanF
      rw [List.map_append]
      rfl
    · obtain ⟨u, v, rfl⟩ := hR
      rw [List.take_length]
      exact hss_cons (hs_retL 4 rfl)
theorem df_L_are (A : FnAt K mg "_law_are_events" s_L_are_events) (T : Tx K mg C) : Df P w K mg base C "_law_are_events" 1 preLAre := by
  refine df_of A sc_L_are_events (fun as r h => ?_) (fun _ _ _ _ _ _ us hl => match us, hl with | [_], _ => rfl) (fun f cdv A outer s H E hr as r h => ?_)
  · obtain ⟨_, rfl, _⟩ := h; rfl
  · obtain ⟨es, rfl, hz, rfl⟩ := h
    have nd := sc_L_are_events.nd
    refine hss_cons (hs_if (k1 := false) (pq_w (pw_or' (k1 := false) (k2 := false) (pq_not (k1 := true) (pq_val (pd_isi T.isinstance_ (pd_var 0) (pe_ty (T := "tuple") T.tuple_ (by decide +kernel)) (by show kitB "tuple" "tuple" = some true; decide +kernel)))) fun _ => pw_or1' (pq_not (k1 := true) (pq_val ?_)))) (fun h => by cases h) fun _ => hss_nil ?_)
    · exact pd_all' (bs := es.map fun _ => true) (by simp) rfl T.all_ (pl_new (pn_lstEq (by rw [List.map_map]; rfl) (pn_map (xs := es) (enc := evD) (is := [1]) (own := [("_law_event_here", 1)]) (f := fun _ => .bool true) (pis_tup (pd_var 0)) (blkOk_by (N := ["_law_row", "_law_event_here"]) (sc := defScope s_L_are_events) (by decide +kernel)) nd (fun _ _ _ _ _ => pg_name (i := 1) nd rfl (.inl rfl)) (Nat.le_of_lt hz) (by simp [rho0])
        (fun z _ => ⟨[evD z], gb_name, fun _ _ _ _ _ => pd_isi T.isinstance_ (pd_var (d := evD z) 1) (pe_ty (T := "tuple") T.tuple_ (by decide +kernel)) (by rw [kind_evD]; exact kit_tt)⟩))))
    refine hss_cons (hs_for (xs := es) (enc := evD) (is := [1]) (pis_tup (pd_var 0)) (pg_name (i := 1) nd rfl (.inl rfl))
      (fun i ρ => (∃ u, ρ = [some (.dat (.tuple (es.map evD))), u]) ∧ (es.take i).all FM.Ev.ok = true) ⟨⟨none, rfl⟩, rfl⟩ (fun i z ρ' hz' hR => ?_) (fun ρ' hR => ?_))
    · obtain ⟨⟨u, rfl⟩, hal⟩ := hR
      refine ⟨[evD z], gb_name, by simp, ?_⟩
      have hnext : z.ok = true → (es.take (i + 1)).all FM.Ev.ok = true := fun h => by
        rw [List.take_add_one, hz', Option.toList_some, List.all_append, hal]
        simp [h]
      have hbad : z.ok = false → es.all FM.Ev.ok = false := fun h => by
        rw [List.all_eq_false]
        exact ⟨z, List.mem_of_getElem? hz', by simp [h]⟩
      show HSs _ C [some (.dat (.tuple (es.map evD))), some (.dat (evD z))] _ _
      refine hss_cons (hs_if (k1 := isRound z) (by rw [← eqv_round]; exact pq_eq hr.units (pd_var 1) (pd_tup (pds_cons pd_str pds_nil)) (shp_evD z) (shp_evD .round)) (fun h => ?_) fun h => hss_nil ?_)
      · cases z with
        | round => exact hss_cons (hs_continue ⟨⟨_, rfl⟩, hnext rfl⟩)
        | come p => cases h
        | drop p => cases h
      · have key : ∀ (wd : Str) (p : Int), evD z = .tuple [.str wd, .int p] → (wd = "come" ∨ wd = "drop") → z.ok = decide (0 ≤ p) → HSs (bX P w K mg base ["_law_row", "_law_event_here"] "_law_are_events" (defScope s_L_are_events) f cdv A outer s H E) C [some (.dat (.tuple (es.map evD))), some (.dat (evD z))] (((forBody ((defBody s_L_are_events).getD 1 (.Pass ⟨0, 0, 0, 0⟩)))).drop 1)
            (loopP (fun ρ => (∃ u, ρ = [some (.dat (.tuple (es.map evD))), u]) ∧ (es.take (i + 1)).all FM.Ev.ok = true) (thenP (fun ρ' => HSs (bX P w K mg base ["_law_row", "_law_event_here"] "_law_are_events" (defScope s_L_are_events) f cdv A outer s H E) C ρ' ((defBody s_L_are_events).drop 2) (retP (.dat (.bool (es.all FM.Ev.ok))))) (retP (.dat (.bool (es.all FM.Ev.ok)))))) := fun wd p he hw hok => by
          rw [he]
          refine hss_cons (hs_if (k1 := false) (pq_w (pw_or' (k1 := false) (k2 := false) (pq_neI (i := 2) (j := 2) (pd_len (ds := [.str wd, .int p]) T.len_ (ps_tuple (pd_var 1))) pd_int) fun _ => pw_or1' ?_)) (fun h => by cases h) fun _ => hss_nil ?_)
          · have e : (!inF (.str wd) ([("come" : Str), "drop"].map .str)) = false := by
              rw [inF_strs]
              rcases hw with rfl | rfl <;> decide +kernel
            rw [← e]
            exact pq_notIn (pd_ixT (ds := [.str wd, .int p]) (pd_var 1) pd_int) (ps_list (pl_new (pn_lst (pds_cons pd_str (pds_cons pd_str pds_nil))))) rfl rfl
          · refine hss_cons (hs_if (k1 := decide (p < 0)) (pq_w (pw_or' (k1 := false) (k2 := decide (p < 0)) (pq_not (k1 := true) (pq_val (pd_isi (d := .int p) T.isinstance_ (pd_ixT (ds := [.str wd, .int p]) (pd_var 1) pd_int) (pe_ty (T := "int") T.int_ (by decide +kernel)) (by show kitB "int" "int" = some true; decide +kernel)))) fun _ => pw_or' (k1 := false) (k2 := decide (p < 0)) (pq_val (pd_isi (d := .int p) T.isinstance_ (pd_ixT (ds := [.str wd, .int p]) (pd_var 1) pd_int) (pe_ty (T := "bool") T.bool_ (by decide +kernel)) (by show kitB "int" "bool" = some false; decide +kernel))) fun _ => pw_or1' (pq_lt (pd_ixT (ds := [.str wd, .int p]) (pd_var 1) pd_int) pd_int))) (fun h => ?_) fun h => ?_)
            · have hp : p < 0 := of_decide_eq_true h
              refine hss_cons (hs_ret pd_bool ?_)
              show Rt.dat _ = Rt.dat _
              rw [hbad (by rw [hok]; exact decide_eq_false (by omega))]
            · have hp : ¬ p < 0 := of_decide_eq_false h
              exact hss_nil (hss_nil ⟨⟨_, rfl⟩, hnext (by rw [hok]; exact decide_eq_true (by omega))⟩)
        cases z with
        | round => cases h
        | come p => exact key "come" p rfl (.inl rfl) rfl
        | drop p => exact key "drop" p rfl (.inr rfl) rfl
    · obtain ⟨⟨u, rfl⟩, hal⟩ := hR
      rw [List.take_length] at hal
      refine hss_cons (hs_ret pd_bool ?_)
      show Rt.dat _ = Rt.dat _
      rw [hal]
end
end FB
end

section
set_option Elab.async false
set_option linter.all false
set_option maxRecDepth 100000
set_option maxHeartbeats 4000000
/-! _law_parted, _law_place, _law_tries. -/
namespace FB
open PySem L2
section
variable {X : Cx} {C : Addr} {ρ : Rho} {a b e : Expr} {pos p : Pos} {ds es : List PyData}
/-- list + list -/
theorem pn_catL (ha : PO' X C ρ a ds) (hb : PO' X C ρ b es) (hz : ds.length + es.length ≤ sizeLine) : PN X C ρ (.BinOp a .Add b pos) (ds ++ es) := (pe_op op_cat ha hb).weak fun σ H Q ⟨H₀, M, F, q⟩ =>
  ⟨H₀, M, F, fun p xs H1 s1 n1 h1 r1 => ⟨H₀, M, F.same s1, fun p' ys H2 s2 n2 h2 r2 => ⟨p, p', xs, ys, rfl, rfl, s2 _ _ h1, h2, by rw [r1.length, r2.length]; exact hz, fun n hn => by
    refine q n _ _ ((s1.trans s2).trans (same_new hn)) ((s1.trans s2).free hn) upd_same (RpA.mono (Same.tle (same_new hn)) _ ((RpA.mono (Same.tle s2) _ r1).append r2))⟩⟩⟩
theorem pq_eqT (hu : X.A.units + 64 < cLine) (ha : PD X C ρ a (.tuple ds)) (hb : PD X C ρ b (.tuple es)) (s1 : Shp (.tuple ds)) (s2 : Shp (.tuple es)) : PQ X C ρ (.Compare a [.Eq] [b] pos) (PyData.eqvAll ds es) := by
  have := pq_eq (pos := pos) hu ha hb s1 s2
  simpa only [PyData.eqv] using this
end
theorem last_of {α : Type} {l : List α} (h : l ≠ []) : ∃ z, l.getLast? = some z := ⟨l.getLast h, List.getLast?_eq_some_getLast h⟩
theorem partedM_eq (a b : FM.Spec) (row : List FM.Ev) (h : row.all FM.Ev.ok = true) (hn : row ≠ []) : FM.partedM a b row = (decide ((FM.lanswersM a row).dropLast = (FM.lanswersM b row).dropLast) && !decide ((FM.lanswersM a row).getLast? = (FM.lanswersM b row).getLast?)) := by
  unfold FM.partedM
  rw [h]
  have : row.isEmpty = false := by cases row with
    | nil => exact absurd rfl hn
    | cons _ _ => rfl
  rw [this]
  rfl
def preLPlace : List Ar → Rt → Prop := fun as r => ∃ (x y : FM.LSt × Option Int × FM.Ans), as = [.dat (resD x), .dat (resD y)] ∧ x.1.held.length ≤ 1000 ∧ y.1.held.length ≤ 1000 ∧ r = .dat (lplD (FM.lplaceM x y))
def preLTries : List Ar → Rt → Prop := fun as r => ∃ (h : FM.LPl) (wide : Int), as = [.dat (lplD h), .dat (.int wide)] ∧ h.s1.held.length ≤ 1000 ∧ h.s2.held.length ≤ 1000 ∧ (0 ≤ wide ∧ wide ≤ 1000) ∧ r = .lst ((FM.ltriesM h wide).map evD)
section
variable {P : Program} {w : World} {K : PySem.W.Frag} {mg : Str → Option Value} {base : Heap} {C : Addr}
theorem df_L_parted (A : FnAt K mg "_law_parted" s_L_parted) (T : Tx K mg C) (Ge : Df P w K mg base C "_law_are_events" 1 preLAre) (Ga : Df P w K mg base C "_law_answers" 4 preLAnswers) : Df P w K mg base C "_law_parted" 5 preLParted := by
  refine df_of A sc_L_parted (fun as r h => ?_) (fun _ _ _ _ _ _ us hl => match us, hl with | [_, _, _], _ => rfl) (fun f cdv A outer s H E hr as r h => ?_)
  · obtain ⟨_, _, _, rfl, _⟩ := h; rfl
  · obtain ⟨a, b, es, rfl, hfa, hfb, hz, ha, hb, rfl⟩ := h
    have nd := sc_L_parted.nd
    refine hss_cons (hs_if (k1 := !(es.all FM.Ev.ok) || (es.map evD).isEmpty) (pq_w (pw_or' (pq_not (pq_val (pd_call Ge (hr.mono (by decide)) (ga_d (pd_var 2) ga_nil) ⟨es, rfl, hz, rfl⟩))) fun _ => pw_or1' ?_)) (fun h => ?_) fun h => hss_nil ?_)
    · rw [← eqvAll_nil]
      exact pq_eqT hr.units (pd_var 2) (pd_tup pds_nil) (shp_mapT lay_evD (fun b => Nat.le_trans (dep_evD b) (by decide)) _) rfl
    · refine hss_cons (hs_ret pd_bool ?_)
      show Rt.dat _ = Rt.dat _
      have : FM.partedM a b es = false := by
        unfold FM.partedM
        have e : (es.map evD).isEmpty = es.isEmpty := by cases es <;> rfl
        rw [e] at h
        rw [if_pos h]
      rw [this]
    · have hok : es.all FM.Ev.ok = true := by
        cases q : es.all FM.Ev.ok with
        | true => rfl
        | false => rw [q] at h; simp at h
      have hne : es ≠ [] := by
        intro q
        subst q
        simp at h
      rw [partedM_eq a b es hok hne]
      have l1 := lanF_len a es lan0
      have l2 := lanF_len b es lan0
      rw [← lanswers_eq] at l1 l2
      have hpos : 0 < es.length := List.length_pos_iff.mpr hne
      have n1 : FM.lanswersM a es ≠ [] := fun q => by rw [q] at l1; simp [lan0] at l1; omega
      have n2 : FM.lanswersM b es ≠ [] := fun q => by rw [q] at l2; simp [lan0] at l2; omega
      refine hss_cons (hs_par 3 4 nd (by decide) (nw_n (pn_call Ga (hr.mono (by decide)) (ga_d (pd_var 0) (ga_d (pd_var 2) ga_nil)) ⟨a, es, rfl, hfa, hz, ha, rfl⟩)) (nw_n (pn_call Ga (hr.mono (by decide)) (ga_d (pd_var 1) (ga_d (pd_var 2) ga_nil)) ⟨b, es, rfl, hfb, hz, hb, rfl⟩)) ?_)
      generalize FM.lanswersM a es = x at n1
      generalize FM.lanswersM b es = y at n2
      obtain ⟨xl, hx⟩ := last_of n1
      obtain ⟨yl, hy⟩ := last_of n2
      have hxy : decide (x.getLast? = y.getLast?) = decide (xl = yl) := by rw [Bool.eq_iff_iff]; simp [hx, hy]
      rw [hxy]
      show HSs _ C [some (.dat (spD' a)), some (.dat (spD' b)), some (.dat (.tuple (es.map evD))), some (.own (x.map ansD)), some (.own (y.map ansD))] _ _
      refine hss_cons (hs_ret (d := .bool (decide (x.dropLast = y.dropLast) && !decide (xl = yl))) (pd_and (k1 := decide (x.dropLast = y.dropLast)) (k2 := !decide (xl = yl)) ?_ fun _ => pd_one ?_) rfl)
      · rw [← eqvAll_map eqv_ansD, List.map_dropLast, List.map_dropLast, ← cut_dropLast, ← cut_dropLast]
        refine pd_eqL hr.units (pl_new (pn_sliceL (pl_var 3) pod_none (pod_some (pd_neg pd_int)))) (pl_new (pn_sliceL (pl_var 4) pod_none (pod_some (pd_neg pd_int)))) ?_ ?_
        · rw [cut_dropLast, ← List.map_dropLast]; exact shp_mapL lay_ansD dep_ansD _
        · rw [cut_dropLast, ← List.map_dropLast]; exact shp_mapL lay_ansD dep_ansD _
      · rw [← eqv_ansD]
        exact pd_ne hr.units (pd_ixL (d := ansD xl) (pl_var 3) (pd_neg pd_int) (atI_lastD hx)) (pd_ixL (d := ansD yl) (pl_var 4) (pd_neg pd_int) (atI_lastD hy)) (shp_ansD xl) (shp_ansD yl)
theorem df_L_place (A : FnAt K mg "_law_place" s_L_place) (T : Tx K mg C) : Df P w K mg base C "_law_place" 1 preLPlace := by
  refine df_of A sc_L_place (fun as r h => ?_) (fun _ _ _ _ _ _ us hl => match us, hl with | [_, _], _ => rfl) (fun f cdv A outer s H E hr as r h => ?_)
  · obtain ⟨_, _, rfl, _⟩ := h; rfl
  · obtain ⟨x, y, rfl, hx, hy, rfl⟩ := h
    have nd := sc_L_place.nd
    obtain ⟨s1, l1, a1⟩ := x
    obtain ⟨s2, l2, a2⟩ := y
    dsimp only at hx hy
    have hres : FM.lplaceM (s1, l1, a1) (s2, l2, a2) = ⟨FM.llow s1 (if s2.n < s1.n then s2.n else s1.n), FM.llast l1 (if s2.n < s1.n then s2.n else s1.n) (s1.held.map (·.1) ++ s2.held.map (·.1)), FM.llow s2 (if s2.n < s1.n then s2.n else s1.n), FM.llast l2 (if s2.n < s1.n then s2.n else s1.n) (s1.held.map (·.1) ++ s2.held.map (·.1))⟩ := rfl
    refine hss_cons (hs_set 2 nd (pd_min2 rfl T.min_ (pd_ixT (ds := [.int s1.n, .tuple (s1.held.map pairD)]) (pd_ixT (ds := [lsD s1, lastD l1, ansD a1]) (pd_var 0) pd_int) pd_int) (pd_ixT (ds := [.int s2.n, .tuple (s2.held.map pairD)]) (pd_ixT (ds := [lsD s2, lastD l2, ansD a2]) (pd_var 1) pd_int) pd_int)) ?_)
    generalize (if s2.n < s1.n then s2.n else s1.n) = m at hres ⊢
    refine hss_cons (hs_map (xs := s1.held ++ s2.held) (enc := pairD) (is := [4]) (own := [("_law_pair", 4)]) (f := fun e => .int e.1) 3 (by rw [List.map_append]; exact pis_tup (pd_cat (pd_ixT (ds := [.int s1.n, .tuple (s1.held.map pairD)]) (pd_ixT (ds := [lsD s1, lastD l1, ansD a1]) (pd_var 0) pd_int) pd_int) (pd_ixT (ds := [.int s2.n, .tuple (s2.held.map pairD)]) (pd_ixT (ds := [lsD s2, lastD l2, ansD a2]) (pd_var 1) pd_int) pd_int) (sz_le (by rw [List.length_map, List.length_map]; omega)))) (blkOk_by (N := ["_law_first", "_law_second", "_law_by", "_law_names", "_law_pair", "_law_found", "_law_state", "_law_last", "_law_told", "_law_piece", "_law_flag"]) (sc := defScope s_L_place) (by decide +kernel)) nd (fun _ _ _ _ _ => pg_name (i := 4) nd rfl (.inl rfl)) (sz_le (by rw [List.length_append]; omega)) (by simp [rho0])
      (fun z _ => ⟨[pairD z], gb_name, fun _ _ _ _ _ => pd_ixT (ds := [.int z.1, .bool z.2]) (pd_var 4) pd_int⟩) ?_)
    have hnm : ((s1.held ++ s2.held).map fun e => PyData.int e.1) = (s1.held.map (·.1) ++ s2.held.map (·.1)).map .int := by rw [List.map_append, List.map_append, List.map_map, List.map_map]; rfl
    rw [hnm]
    generalize s1.held.map (·.1) ++ s2.held.map (·.1) = names at hres ⊢
    refine hss_cons (hs_setN 5 nd (pn_lst pds_nil) ?_)
    show HSs _ C [some (.dat (resD (s1, l1, a1))), some (.dat (resD (s2, l2, a2))), some (.dat (.int m)), some (.own (names.map .int)), none, some (.own []), none, none, none, none, none] _ _
    refine hss_cons (hs_for (xs := [(s1, l1, a1), (s2, l2, a2)]) (enc := resD) (is := [6, 7, 8]) (pis_new (pn_lst (pds_cons (pd_var 0) (pds_cons (pd_var 1) pds_nil)))) (pg_tup rfl (pgs_cons (pg_name (i := 6) nd rfl (.inl rfl)) (pgs_cons (pg_name (i := 7) nd rfl (.inl rfl)) (pgs_cons (pg_name (i := 8) nd rfl (.inl rfl)) pgs_nil))))
      (fun i ρ => ∃ u6 u7 u8, ρ = [some (.dat (resD (s1, l1, a1))), some (.dat (resD (s2, l2, a2))), some (.dat (.int m)), some (.own (names.map .int)), none, some (.own (([lsD (FM.llow s1 m), lastD (FM.llast l1 m names), lsD (FM.llow s2 m), lastD (FM.llast l2 m names)] : List PyData).take (2 * i))), u6, u7, u8, none, none])
      ⟨none, none, none, rfl⟩ (fun i z ρ' hz' hR => ?_) (fun ρ' hR => ?_))
    · obtain ⟨u6, u7, u8, rfl⟩ := hR
      have hi : i < 2 := (List.getElem?_eq_some_iff.mp hz').1
      obtain ⟨st, l, an⟩ := z
      refine ⟨[lsD st, lastD l, ansD an], gb_tup, by simp, ?_⟩
      have hzl : st.held.length ≤ 1000 := by
        match i, hi with
        | 0, _ => cases hz'; exact hx
        | 1, _ => cases hz'; exact hy
      have hnext : (([lsD (FM.llow s1 m), lastD (FM.llast l1 m names), lsD (FM.llow s2 m), lastD (FM.llast l2 m names)] : List PyData).take (2 * (i + 1))) = (([lsD (FM.llow s1 m), lastD (FM.llast l1 m names), lsD (FM.llow s2 m), lastD (FM.llast l2 m names)] : List PyData).take (2 * i)) ++ [lsD (FM.llow st m)] ++ [lastD (FM.llast l m names)] := by
        match i, hi with
        | 0, _ => cases hz'; rfl
        | 1, _ => cases hz'; rfl
      have hlen : (([lsD (FM.llow s1 m), lastD (FM.llast l1 m names), lsD (FM.llow s2 m), lastD (FM.llast l2 m names)] : List PyData).take (2 * i)).length ≤ 4 := by rw [List.length_take]; simp only [List.length_cons, List.length_nil]; omega
      rw [hnext]
      generalize (([lsD (FM.llow s1 m), lastD (FM.llast l1 m names), lsD (FM.llow s2 m), lastD (FM.llast l2 m names)] : List PyData).take (2 * i)) = acc at hlen
      show HSs _ C [some (.dat (resD (s1, l1, a1))), some (.dat (resD (s2, l2, a2))), some (.dat (.int m)), some (.own (names.map .int)), none, some (.own acc), some (.dat (lsD st)), some (.dat (lastD l)), some (.dat (ansD an)), none, none] _ _
      refine hss_cons (hs_app (d := lsD (FM.llow st m)) 5 rfl (pe_bm PySem.F.plainAttrs_list PySem.F.slot_list_append PySem.F.type_list_append mt_append (pv 5) (pa_cons (pd_tup (pds_cons (pd_sub (pd_ixT (ds := [.int st.n, .tuple (st.held.map pairD)]) (pd_var 6) pd_int) (pd_var 2)) (pds_cons (d := .tuple ((FM.llow st m).held.map pairD)) (pd_toTup T.tuple_ (pl_new (pn_lstEq (by unfold FM.llow; rw [List.map_map]; rfl) (pn_map (xs := st.held) (enc := pairD) (is := [9, 10]) (own := [("_law_piece", 9), ("_law_flag", 10)]) (g := gTup K 2 (gNs [9, 10])) (f := fun e => pairD (e.1 - m, e.2)) (pis_tup (pd_ixT (ds := [.int st.n, .tuple (st.held.map pairD)]) (pd_var 6) pd_int)) (blkOk_by (N := ["_law_first", "_law_second", "_law_by", "_law_names", "_law_pair", "_law_found", "_law_state", "_law_last", "_law_told", "_law_piece", "_law_flag"]) (sc := defScope s_L_place) (by decide +kernel)) nd (fun _ _ _ _ _ => pg_tup rfl (pgs_cons (pg_name (i := 9) nd rfl (.inl rfl)) (pgs_cons (pg_name (i := 10) nd rfl (.inl rfl)) pgs_nil))) (sz_le (by omega)) (by simp)
          (fun z _ => ⟨[.int z.1, .bool z.2], gb_tup, fun _ _ _ _ _ => pd_tup (pds_cons (pd_sub (pd_var 9) (pd_var 2)) (pds_cons (pd_var 10) pds_nil))⟩))))) pds_nil))) pa_nil)) (sz_lt (by omega)) ?_)
      refine hss_cons (hs_app (d := lastD (FM.llast l m names)) 5 rfl (pe_bm PySem.F.plainAttrs_list PySem.F.slot_list_append PySem.F.type_list_append mt_append (pv 5) (pa_cons (pv_if (k1 := l.isNone) (by rw [← isNo_lastD]; exact pq_isN (pd_var 7)) (fun hc => ?_) fun hc => ?_) pa_nil)) (sz_lt (by rw [List.length_append]; simp; omega)) (hss_nil ⟨_, _, _, rfl⟩))
      · cases l with
        | none => exact pd_none
        | some l => cases hc
      · cases l with
        | none => cases hc
        | some l =>
          refine pv_if (k1 := names.contains l) (by rw [← inF_ints]; exact pq_in (pd_var (d := .int l) 7) (ps_list (pl_var 3)) rfl (all_flat_ints _)) (fun hc => ?_) fun hc => ?_
          · have e : FM.llast (some l) m names = some (l - m) := by
              simp only [FM.llast, Option.map_some]
              rw [if_pos (List.contains_iff_mem.mp hc)]
            rw [e]
            exact pd_sub (pd_var (d := .int l) 7) (pd_var 2)
          · have e : FM.llast (some l) m names = some (-1) := by
              simp only [FM.llast, Option.map_some]
              rw [if_neg (fun z => by rw [List.contains_iff_mem.mpr z] at hc; cases hc)]
            rw [e]
            exact pd_neg (i := 1) pd_int
    · obtain ⟨u6, u7, u8, rfl⟩ := hR
      refine hss_cons (hs_ret (pd_toTup T.tuple_ (pl_var 5)) ?_)
      show Rt.dat _ = Rt.dat _
      rw [hres]
      rfl
theorem df_L_tries (A : FnAt K mg "_law_tries" s_L_tries) (T : Tx K mg C) : Df P w K mg base C "_law_tries" 1 preLTries := by
  refine df_of A sc_L_tries (fun as r h => ?_) (fun _ _ _ _ _ _ us hl => match us, hl with | [_, _], _ => rfl) (fun f cdv A outer s H E hr as r h => ?_)
  · obtain ⟨_, _, rfl, _⟩ := h; rfl
  · obtain ⟨h, wd, rfl, hx, hy, hw, rfl⟩ := h
    have nd := sc_L_tries.nd
    obtain ⟨s1, l1, s2, l2⟩ := h
    dsimp only at hx hy
    have hres : FM.ltriesM ⟨s1, l1, s2, l2⟩ wd = (FM.rangeM wd).map FM.Ev.come ++ ((FM.rangeM wd).filter fun p => (s1.held.map (·.1) ++ s2.held.map (·.1)).contains p).map FM.Ev.drop ++ [.round] := rfl
    refine hss_cons (hs_setN 2 nd (pn_map (xs := s1.held ++ s2.held) (enc := pairD) (is := [3]) (own := [("_law_pair", 3)]) (f := fun e => .int e.1) (by rw [List.map_append]; exact pis_tup (pd_cat (pd_ixT (ds := [.int s1.n, .tuple (s1.held.map pairD)]) (pd_ixT (ds := [lsD s1, lastD l1, lsD s2, lastD l2]) (pd_var 0) pd_int) pd_int) (pd_ixT (ds := [.int s2.n, .tuple (s2.held.map pairD)]) (pd_ixT (ds := [lsD s1, lastD l1, lsD s2, lastD l2]) (pd_var 0) pd_int) pd_int) (sz_le (by rw [List.length_map, List.length_map]; omega)))) (blkOk_by (N := ["_law_here", "_law_wide", "_law_names", "_law_pair", "_law_found", "_law_piece"]) (sc := defScope s_L_tries) (by decide +kernel)) nd (fun _ _ _ _ _ => pg_name (i := 3) nd rfl (.inl rfl)) (sz_le (by rw [List.length_append]; omega)) (by simp [rho0])
      (fun z _ => ⟨[pairD z], gb_name, fun _ _ _ _ _ => pd_ixT (ds := [.int z.1, .bool z.2]) (pd_var 3) pd_int⟩)) ?_)
    have hnm : ((s1.held ++ s2.held).map fun e => PyData.int e.1) = (s1.held.map (·.1) ++ s2.held.map (·.1)).map .int := by rw [List.map_append, List.map_append, List.map_map, List.map_map]; rfl
    rw [hnm]
    generalize s1.held.map (·.1) ++ s2.held.map (·.1) = names at hres ⊢
    have hl : (FM.rangeM wd).length ≤ 1000 := by
      unfold FM.rangeM
      rw [List.length_map, List.length_range]
      omega
    have hl2 : ((FM.rangeM wd).filter fun p => names.contains p).length ≤ 1000 := Nat.le_trans (List.length_filter_le _ _) hl
    show HSs _ C [some (.dat (lplD ⟨s1, l1, s2, l2⟩)), some (.dat (.int wd)), some (.own (names.map .int)), none, none, none] _ _
    refine hss_cons (hs_setN 4 nd (pn_catL (ds := (FM.rangeM wd).map fun z => evD (.come z)) (es := ((FM.rangeM wd).filter fun p => names.contains p).map fun z => evD (.drop z)) (po_new (pn_map (xs := FM.rangeM wd) (enc := .int) (is := [5]) (own := [("_law_piece", 5)]) (f := fun z => evD (.come z)) (pis_range1 T.range_ (pd_var 1) (by omega) (by omega)) (blkOk_by (N := ["_law_here", "_law_wide", "_law_names", "_law_pair", "_law_found", "_law_piece"]) (sc := defScope s_L_tries) (by decide +kernel)) nd (fun _ _ _ _ _ => pg_name (i := 5) nd rfl (.inl rfl)) (sz_le (by omega)) (by simp)
        (fun z _ => ⟨[.int z], gb_name, fun _ _ _ _ _ => pd_tup (pds_cons pd_str (pds_cons (pd_var 5) pds_nil))⟩)))
      (po_new (pn_flt (xs := FM.rangeM wd) (enc := .int) (is := [5]) (own := [("_law_piece", 5)]) (q := fun p => names.contains p) (f := fun z => evD (.drop z)) (pis_range1 T.range_ (pd_var 1) (by omega) (by omega)) (blkOk_by (N := ["_law_here", "_law_wide", "_law_names", "_law_pair", "_law_found", "_law_piece"]) (sc := defScope s_L_tries) (by decide +kernel)) nd (fun _ _ _ _ _ => pg_name (i := 5) nd rfl (.inl rfl)) (sz_le (by omega)) (by simp)
        (fun z _ => ⟨[.int z], gb_name, fun _ _ _ _ _ => by dsimp only; rw [← inF_ints]; exact pq_in (pd_var 5) (ps_list (pl_var 2)) rfl (all_flat_ints _), fun _ _ _ _ _ _ => pd_tup (pds_cons pd_str (pds_cons (pd_var 5) pds_nil))⟩))) (sz_le (by rw [List.length_map, List.length_map]; omega))) ?_)
    refine hss_cons (hs_retN (pn_catL (es := [evD .round]) (po_var 4) (po_new (pn_lst (pds_cons (pd_tup (pds_cons pd_str pds_nil)) pds_nil))) (sz_le (by rw [List.length_append, List.length_map, List.length_map]; show _ + 1 ≤ _; omega))) ?_)
    show Rt.lst _ = Rt.lst _
    rw [hres, List.map_append, List.map_append, List.map_map, List.map_map]
    rfl
end
end FB
end

section
set_option Elab.async false
set_option linter.all false
set_option maxRecDepth 100000
set_option maxHeartbeats 4000000
/-! _law_least. -/
namespace FB
open PySem L2
theorem nks_pairs : ∀ l : List (Int × Bool), nks (l.map pairD) = l.map fun e => NestedKey.tup [.num e.1, .num (if e.2 then 1 else 0)]
  | [] => by simp [nks]
  | i :: l => by simp [nks, nk, pairD, nks_pairs l]
theorem nk_lsD (s : FM.LSt) : nk (lsD s) = .tup [.num s.n, .tup (s.held.map fun e => NestedKey.tup [.num e.1, .num (if e.2 then 1 else 0)])] := by simp [lsD, nk, nks, nks_pairs]
theorem nk_lsD_inj {s t : FM.LSt} (h : nk (lsD s) = nk (lsD t)) : s = t := by
  rw [nk_lsD, nk_lsD] at h
  simp only [NestedKey.tup.injEq, List.cons.injEq, NestedKey.num.injEq, and_true] at h
  obtain ⟨h1, h2⟩ := h
  have e2 : s.held = t.held := (List.map_inj_right (f := fun e : Int × Bool => NestedKey.tup [.num e.1, .num (if e.2 then 1 else 0)]) (fun x y e => by
    simp only [NestedKey.tup.injEq, List.cons.injEq, NestedKey.num.injEq, and_true] at e
    obtain ⟨a1, a2⟩ := e
    refine Prod.ext a1 ?_
    cases hx : x.2 <;> cases hy : y.2 <;> simp_all)).mp h2
  cases s; cases t
  simp only at h1 e2
  subst h1 e2
  rfl
theorem nk_lastD_inj {a b : Option Int} (h : nk (lastD a) = nk (lastD b)) : a = b := by
  cases a <;> cases b <;> simp_all [lastD, nk]
theorem nk_lplD (p : FM.LPl) : nk (lplD p) = .tup [nk (lsD p.s1), nk (lastD p.l1), nk (lsD p.s2), nk (lastD p.l2)] := by simp [lplD, nk, nks]
theorem nk_lplD_inj {p q : FM.LPl} (h : nk (lplD p) = nk (lplD q)) : p = q := by
  rw [nk_lplD, nk_lplD] at h
  simp only [NestedKey.tup.injEq, List.cons.injEq, and_true] at h
  obtain ⟨h1, h2, h3, h4⟩ := h
  have e1 := nk_lsD_inj h1
  have e2 := nk_lastD_inj h2
  have e3 := nk_lsD_inj h3
  have e4 := nk_lastD_inj h4
  cases p; cases q
  simp only at e1 e2 e3 e4
  subst e1 e2 e3 e4
  rfl
theorem depth_pairs : ∀ l : List (Int × Bool), NestedKey.depthAll (l.map fun e => NestedKey.tup [.num e.1, .num (if e.2 then 1 else 0)]) ≤ 1
  | [] => by simp [NestedKey.depthAll]
  | i :: l => by
    have := depth_pairs l
    simp only [List.map_cons, NestedKey.depthAll, NestedKey.depth]
    omega
theorem keyOk_lplD (p : FM.LPl) : keyOk (lplD p) := by
  refine ⟨?_, _, rfl⟩
  have h1 := depth_pairs p.s1.held
  have h2 := depth_pairs p.s2.held
  have h3 : ∀ l : Option Int, (nk (lastD l)).depth = 0 := fun l => by cases l <;> simp [lastD, nk, NestedKey.depth]
  rw [nk_lplD, nk_lsD, nk_lsD]
  simp only [NestedKey.depth, NestedKey.depthAll, h3]
  omega
def seenK (S : List FM.LPl) : List (NestedKey × PyData) := S.map fun x => (nk (lplD x), .bool true)
theorem look_seen (S : List FM.LPl) (q : FM.LPl) : (lookD (seenK S) (nk (lplD q))).isSome = decide (q ∈ S) := by
  unfold lookD seenK
  induction S with
  | nil => rfl
  | cons x S ih =>
    simp only [List.map_cons, List.find?_cons]
    by_cases h : x = q
    · subst h; simp
    · have : ¬ nk (lplD x) = nk (lplD q) := fun e => h (nk_lplD_inj e)
      have h' : ¬ q = x := fun e => h e.symm
      simp only [this, decide_false, List.mem_cons, h', false_or]
      exact ih
def preLeast : List Ar → Rt → Prop := fun as r => ∃ (a b : FM.Spec) (n : Nat), as = [.dat (spD' a), .dat (spD' b)] ∧ (0 ≤ a.room ∧ a.room ≤ 100) ∧ (0 ≤ b.room ∧ b.room ≤ 100) ∧ a.sel.length ≤ 1000 ∧ b.sel.length ≤ 1000 ∧ FM.lleastM a b = some n ∧ r = .dat (.int n)
structure GoodS (S : List FM.LPl) : Prop where
  sm : ∀ x ∈ S, x.s1.held.length ≤ 400 ∧ x.s2.held.length ≤ 400
  sz : S.length ≤ FM.sizeMax
theorem smL_iff {s : FM.LSt} (h : FM.smL s = true) : s.held.length ≤ 400 := of_decide_eq_true h
theorem levent_len (sp : FM.Spec) (s : FM.LSt) (l : Option Int) (e : FM.Ev) : (FM.leventM sp s l e).1.held.length ≤ s.held.length + 1 := by
  have hps : (preS sp s e).held.length ≤ s.held.length + 1 := by
    cases e with
    | come p => exact ltake_len sp.room s p
    | drop p => exact Nat.le_succ_of_le (List.length_filter_le _ _)
    | round => exact Nat.le_succ _
  rw [levent_eq]
  unfold finM
  split
  · exact hps
  · split
    · exact hps
    · show ((preS sp s e).held.map _).length ≤ _
      rw [List.length_map]; exact hps
section
variable {P : Program} {w : World} {K : PySem.W.Frag} {mg : Str → Option Value} {base : Heap} {C : Addr}
theorem df_L_least (A : FnAt K mg "_law_least" s_L_least) (T : Tx K mg C) (Ge : Df P w K mg base C "_law_event" 3 preLEvent) (Gp : Df P w K mg base C "_law_place" 1 preLPlace) (Gt : Df P w K mg base C "_law_tries" 1 preLTries) : Df P w K mg base C "_law_least" 4 preLeast := by
  refine df_of A sc_L_least (fun as r h => ?_) (fun _ _ _ _ _ _ us hl => match us, hl with | [_, _], _ => rfl) (fun f cdv A outer s H E hr as r h => ?_)
  · obtain ⟨_, _, _, rfl, _⟩ := h; rfl
  · obtain ⟨a, b, n, rfl, ha, hb, hsa, hsb, hres, rfl⟩ := h
    have nd := sc_L_least.nd
    unfold FM.lleastM at hres
    have hw : 0 ≤ FM.wideM a.room b.room ∧ FM.wideM a.room b.room ≤ 102 := by unfold FM.wideM; split <;> omega
    refine hss_cons (hs_set (d := lplD FM.lbegin) 2 nd (pd_tup (pds_cons (pd_tup (pds_cons pd_int (pds_cons (pd_tup pds_nil) pds_nil))) (pds_cons pd_none (pds_cons (pd_tup (pds_cons pd_int (pds_cons (pd_tup pds_nil) pds_nil))) (pds_cons pd_none pds_nil))))) ?_)
    refine hss_cons (hs_par3 3 4 5 (s3 := .dat (.int (FM.wideM a.room b.room))) nd (by decide) (by decide) (by decide) (nw_c hr.units (pd_var 2) (pd_bool (cb := true)) (keyOk_lplD _)) (nw_n (pn_lst (pds_cons (pd_var 2) pds_nil))) (nw_d (pd_add (pd_max2 rfl T.max_ (pd_ixT (ds := [.int a.room, .tuple (a.sel.map selD), proD a.pro, .bool a.once]) (pd_var 0) pd_int) (pd_ixT (ds := [.int b.room, .tuple (b.sel.map selD), proD b.pro, .bool b.once]) (pd_var 1) pd_int)) pd_int)) ?_)
    generalize FM.wideM a.room b.room = wd at hw hres ⊢
    refine hss_lock (ds := [FM.lbegin].map lplD) 4 ?_
    refine hss_cons (hs_for (xs := rangeI 1 399) (enc := .int) (is := [6]) (pis_range2 T.range_ pd_int pd_int (by decide)) (pg_name (i := 6) nd rfl (.inl rfl))
      (fun i ρ => ∃ (S F : List FM.LPl) (u6 u7 u8 u9 u10 u11 u12 : Option Sl), ρ = [some (.dat (spD' a)), some (.dat (spD' b)), some (.dat (lplD FM.lbegin)), some (.dct (seenK S)), some (.rl (F.map lplD)), some (.dat (.int wd)), u6, u7, u8, u9, u10, u11, u12] ∧ FM.lleastF a b wd (399 - i) (1 + i) S F = some n ∧ GoodS S ∧ GoodS F)
      ⟨[FM.lbegin], [FM.lbegin], none, none, none, none, none, none, none, rfl, hres, ⟨fun x hx => by simp at hx; subst hx; simp [FM.lbegin], by simp [FM.sizeMax]⟩, ⟨fun x hx => by simp at hx; subst hx; simp [FM.lbegin], by simp [FM.sizeMax]⟩⟩ (fun i z ρ' hz' hR => ?_) (fun ρ' hR => ?_))
    · obtain ⟨S, F, u6, u7, u8, u9, u10, u11, u12, rfl, hl, hS, hF⟩ := hR
      have hi : i < 399 := by
        have := (List.getElem?_eq_some_iff.mp hz').1
        simpa [rangeI] using this
      have hzi : z = 1 + (i : Int) := by
        unfold rangeI at hz'
        rw [List.getElem?_map, List.getElem?_range hi] at hz'
        cases hz'; rfl
      obtain ⟨f, hf⟩ : ∃ f, 399 - i = f + 1 := ⟨399 - i - 1, by omega⟩
      have hf2 : 399 - (i + 1) = f := by omega
      rw [hf] at hl
      unfold FM.lleastF at hl
      refine ⟨[.int z], gb_name, by simp, ?_⟩
      show HSs _ C [some (.dat (spD' a)), some (.dat (spD' b)), some (.dat (lplD FM.lbegin)), some (.dct (seenK S)), some (.rl (F.map lplD)), some (.dat (.int wd)), some (.dat (.int z)), u7, u8, u9, u10, u11, u12] _ _
      refine hss_cons (hs_setN 7 nd (pn_lst pds_nil) ?_)
      cases hly : FM.llayerM a b wd F S [] with
      | none => rw [hly] at hl; cases hl
      | some o =>
        rw [hly] at hl
        have hret : o = none → n = 1 + i := fun q => by subst q; cases hl; rfl
        refine hss_cons (hs_for (xs := F) (enc := lplD) (is := [8]) (pis_var 4 rfl) (pg_name (i := 8) nd rfl (.inl rfl))
          (fun j ρ => ∃ (S L : List FM.LPl) (u8 u9 u10 u11 u12 : Option Sl), ρ = [some (.dat (spD' a)), some (.dat (spD' b)), some (.dat (lplD FM.lbegin)), some (.dct (seenK S)), some (.rl (F.map lplD)), some (.dat (.int wd)), some (.dat (.int z)), some (.own (L.map lplD)), u8, u9, u10, u11, u12] ∧ FM.llayerM a b wd (F.drop j) S L = some o ∧ GoodS S ∧ GoodS L ∧ L.length ≤ S.length)
          ⟨S, [], u8, u9, u10, u11, u12, rfl, hly, hS, ⟨fun x hx => by simp at hx, by simp⟩, by simp⟩ (fun j h ρ' hh hR => ?_) (fun ρ' hR => ?_))
        · obtain ⟨S, L, u8, u9, u10, u11, u12, rfl, hly, hS, hL, hLS⟩ := hR
          have hj := (List.getElem?_eq_some_iff.mp hh).1
          have hhF : h ∈ F := List.mem_of_getElem? hh
          obtain ⟨g1, g2⟩ := hF.sm h hhF
          have hdr : F.drop j = h :: F.drop (j + 1) := by
            rw [List.drop_eq_getElem_cons hj]
            congr 1
            exact (List.getElem?_eq_some_iff.mp hh).2
          rw [hdr] at hly
          unfold FM.llayerM at hly
          refine ⟨[lplD h], gb_name, by simp, ?_⟩
          show HSs _ C [some (.dat (spD' a)), some (.dat (spD' b)), some (.dat (lplD FM.lbegin)), some (.dct (seenK S)), some (.rl (F.map lplD)), some (.dat (.int wd)), some (.dat (.int z)), some (.own (L.map lplD)), some (.dat (lplD h)), u9, u10, u11, u12] _ _
          cases hsc : FM.lscanM a b h (FM.ltriesM h wd) S L with
          | none => rw [hsc] at hly; cases hly
          | some o2 =>
            rw [hsc] at hly
            have hret2 : o2 = none → n = 1 + i := fun q => by subst q; cases hly; exact hret rfl
            refine hss_cons (hs_for (xs := FM.ltriesM h wd) (enc := evD) (is := [9]) (pis_new (pn_call Gt (hr.mono (by decide)) (ga_d (pd_var 8) (ga_d (pd_var 5) ga_nil)) ⟨h, wd, rfl, by omega, by omega, by omega, rfl⟩)) (pg_name (i := 9) nd rfl (.inl rfl))
              (fun k ρ => ∃ (S L : List FM.LPl) (u9 u10 u11 u12 : Option Sl), ρ = [some (.dat (spD' a)), some (.dat (spD' b)), some (.dat (lplD FM.lbegin)), some (.dct (seenK S)), some (.rl (F.map lplD)), some (.dat (.int wd)), some (.dat (.int z)), some (.own (L.map lplD)), some (.dat (lplD h)), u9, u10, u11, u12] ∧ FM.lscanM a b h ((FM.ltriesM h wd).drop k) S L = some o2 ∧ GoodS S ∧ GoodS L ∧ L.length ≤ S.length)
              ⟨S, L, u9, u10, u11, u12, rfl, hsc, hS, hL, hLS⟩ (fun k e ρ' he hR => ?_) (fun ρ' hR => ?_))
            · obtain ⟨S, L, u9, u10, u11, u12, rfl, hsc, hS, hL, hLS⟩ := hR
              have hk := (List.getElem?_eq_some_iff.mp he).1
              have hdr : (FM.ltriesM h wd).drop k = e :: (FM.ltriesM h wd).drop (k + 1) := by
                rw [List.drop_eq_getElem_cons hk]
                congr 1
                exact (List.getElem?_eq_some_iff.mp he).2
              rw [hdr] at hsc
              unfold FM.lscanM at hsc
              refine ⟨[evD e], gb_name, by simp, ?_⟩
              show HSs _ C [some (.dat (spD' a)), some (.dat (spD' b)), some (.dat (lplD FM.lbegin)), some (.dct (seenK S)), some (.rl (F.map lplD)), some (.dat (.int wd)), some (.dat (.int z)), some (.own (L.map lplD)), some (.dat (lplD h)), some (.dat (evD e)), u10, u11, u12] _ _
              refine hss_cons (hs_set (d := resD (FM.leventM a h.s1 h.l1 e)) 10 nd (pd_call Ge (hr.mono (by decide)) (ga_d (pd_var 0) (ga_d (pd_ixT (ds := [lsD h.s1, lastD h.l1, lsD h.s2, lastD h.l2]) (pd_var 8) pd_int) (ga_d (pd_ixT (ds := [lsD h.s1, lastD h.l1, lsD h.s2, lastD h.l2]) (pd_var 8) pd_int) (ga_d (pd_var 9) ga_nil)))) ⟨a, h.s1, h.l1, e, rfl, by omega, hsa, rfl⟩) ?_)
              refine hss_cons (hs_set (d := resD (FM.leventM b h.s2 h.l2 e)) 11 nd (pd_call Ge (hr.mono (by decide)) (ga_d (pd_var 1) (ga_d (pd_ixT (ds := [lsD h.s1, lastD h.l1, lsD h.s2, lastD h.l2]) (pd_var 8) pd_int) (ga_d (pd_ixT (ds := [lsD h.s1, lastD h.l1, lsD h.s2, lastD h.l2]) (pd_var 8) pd_int) (ga_d (pd_var 9) ga_nil)))) ⟨b, h.s2, h.l2, e, rfl, by omega, hsb, rfl⟩) ?_)
              have hst : FM.lstepM a b h e = if (FM.leventM a h.s1 h.l1 e).2.2 ≠ (FM.leventM b h.s2 h.l2 e).2.2 then none else some (FM.lplaceM (FM.leventM a h.s1 h.l1 e) (FM.leventM b h.s2 h.l2 e)) := rfl
              rw [hst] at hsc
              have v1 := levent_len a h.s1 h.l1 e
              have v2 := levent_len b h.s2 h.l2 e
              generalize FM.leventM a h.s1 h.l1 e = x at hsc v1 ⊢
              generalize FM.leventM b h.s2 h.l2 e = y at hsc v2 ⊢
              refine hss_cons (hs_if (k1 := !decide (x.2.2 = y.2.2)) (by rw [← eqv_ansD]; exact pq_ne hr.units (pd_ixT (ds := [lsD x.1, lastD x.2.1, ansD x.2.2]) (pd_var 10) pd_int) (pd_ixT (ds := [lsD y.1, lastD y.2.1, ansD y.2.2]) (pd_var 11) pd_int) (shp_ansD _) (shp_ansD _)) (fun hc => ?_) fun hc => hss_nil ?_)
              · have hc' : x.2.2 ≠ y.2.2 := by simpa using hc
                rw [if_pos hc'] at hsc
                cases hsc
                refine hss_cons (hs_ret (pd_var 6) ?_)
                show Rt.dat _ = Rt.dat _
                rw [hret2 rfl, hzi]
                simp
              · have hc' : ¬ x.2.2 ≠ y.2.2 := by simpa using hc
                rw [if_neg hc'] at hsc
                dsimp only at hsc
                refine hss_cons (hs_set (d := lplD (FM.lplaceM x y)) 12 nd (pd_call Gp (hr.mono (by decide)) (ga_d (pd_var 10) (ga_d (pd_var 11) ga_nil)) ⟨x, y, rfl, by omega, by omega, rfl⟩) ?_)
                generalize FM.lplaceM x y = q at hsc ⊢
                refine hss_cons (hs_if (k1 := !decide (q ∈ S)) (by rw [← look_seen]; exact pq_notInD hr.units (pd_var 12) (pc_var 3) (keyOk_lplD q)) (fun hc => ?_) fun hc => ?_)
                · have hq : ¬ q ∈ S := by simpa using hc
                  rw [if_neg hq] at hsc
                  split at hsc
                  · rename_i hcs
                    obtain ⟨c1, c2, c3⟩ := hcs
                    have hnone : lookD (seenK S) (nk (lplD q)) = none := by
                      have := look_seen S q
                      rw [decide_eq_false hq] at this
                      simpa using this
                    refine hss_cons (hs_setD 3 (d' := .bool true) hr.units rfl pd_bool (pd_var 12) (keyOk_lplD q) hnone (by unfold seenK; rw [List.length_map]; exact sz_le (Nat.le_of_lt c1)) ?_)
                    refine hss_cons (hs_app (d := lplD q) 7 rfl (pe_bm PySem.F.plainAttrs_list PySem.F.slot_list_append PySem.F.type_list_append mt_append (pv 7) (pa_cons (pd_var 12) pa_nil)) (sz_lt (by rw [List.length_map]; exact Nat.le_trans hLS (Nat.le_of_lt c1))) (hss_nil (hss_nil ?_)))
                    have good : ∀ {Z : List FM.LPl}, GoodS Z → Z.length < FM.sizeMax → GoodS (Z ++ [q]) := fun {Z} hZ hz => ⟨fun y hy => by
                      rcases List.mem_append.mp hy with hy | hy
                      · exact hZ.sm y hy
                      · simp only [List.mem_singleton] at hy
                        subst hy
                        exact ⟨smL_iff c2, smL_iff c3⟩, by rw [List.length_append]; exact hz⟩
                    refine ⟨S ++ [q], L ++ [q], some (.dat (evD e)), some (.dat (resD x)), some (.dat (resD y)), some (.dat (lplD q)), ?_, hsc, good hS c1, good hL (Nat.lt_of_le_of_lt hLS c1), by rw [List.length_append, List.length_append]; exact Nat.add_le_add_right hLS _⟩
                    unfold seenK
                    rw [List.map_append, List.map_append]
                    rfl
                  · cases hsc
                · have hq : q ∈ S := by simpa using hc
                  rw [if_pos hq] at hsc
                  exact hss_nil (hss_nil ⟨S, L, some (.dat (evD e)), some (.dat (resD x)), some (.dat (resD y)), some (.dat (lplD q)), rfl, hsc, hS, hL, hLS⟩)
            · obtain ⟨S', L', u9, u10, u11, u12, rfl, hsc', hS', hL', hLS'⟩ := hR
              rw [List.drop_length] at hsc'
              unfold FM.lscanM at hsc'
              cases hsc'
              exact hss_nil ⟨S', L', some (.dat (lplD h)), u9, u10, u11, u12, rfl, hly, hS', hL', hLS'⟩
        · obtain ⟨S', L', u8, u9, u10, u11, u12, rfl, hly', hS', hL', hLS'⟩ := hR
          rw [List.drop_length] at hly'
          unfold FM.llayerM at hly'
          cases hly'
          refine hss_cons (hs_move (ds := L'.map lplD) 4 7 nd rfl (by decide) ?_)
          refine hss_lock (ds := L'.map lplD) 4 (hss_nil ⟨S', L', some (.dat (.int z)), none, u8, u9, u10, u11, u12, rfl, ?_, hS', hL'⟩)
          rw [hf2]
          have : 1 + (i + 1) = 1 + i + 1 := by omega
          rw [this]
          exact hl
    · obtain ⟨S, F, u6, u7, u8, u9, u10, u11, u12, rfl, hl, hS, hF⟩ := hR
      have e : (rangeI 1 399).length = 399 := by simp [rangeI]
      rw [e] at hl
      have : n = 0 := by
        rw [show 399 - 399 = 0 from rfl] at hl
        unfold FM.lleastF at hl
        cases hl; rfl
      subst this
      exact hss_cons (hs_ret pd_int rfl)
end
end FB
end

section
set_option Elab.async false
set_option linter.all false
set_option maxRecDepth 100000
set_option maxHeartbeats 4000000
/-! Purses, further. -/
namespace FB
open PySem L2
section
variable {X : Cx} {C : Addr} {ρ : Rho} {e c b : Expr} {es' rest : List Expr} {d d' : PyData} {ds es : List PyData} {a : Addr} {i j k : Nat} {n m : Int} {pos p p1 p2 p3 : Pos} {x y z : Str} {R R' : PyData → Prop} {Pa Pb Pc : Int → Prop} {as : List Ar} {Post : Fl → Prop} {body els : List Stmt}
def isI (P : Int → Prop) : PyData → Prop := fun d => ∃ i : Int, d = .int i ∧ P i
abbrev PFI (X : Cx) (C : Addr) (ρ : Rho) (a : Addr) (e : Expr) (P : Int → Prop) : Prop := PF X C ρ a e (isI P)
theorem pfi_of (i : Nat) (h : PD X C ρ e (.int n)) (hi : ρ[i]? = some (some (.prs a))) (r : Pa n) : PFI X C ρ a e Pa := pf_of i h hi ⟨n, rfl, r⟩
theorem three_set {H : Hp} {a : Addr} {v : V} {q : Int} {xs : List V} {j : Nat} (hx : H a = some (.lst xs)) (t : three H a) (hv : v = .int q) : three (upd H a (.lst (xs.set j v))) a := by
  obtain ⟨u1, u2, u3, hh⟩ := t
  rw [hh] at hx
  cases hx
  subst hv
  match j with
  | 0 => exact ⟨_, _, _, upd_same⟩
  | 1 => exact ⟨_, _, _, upd_same⟩
  | 2 => exact ⟨_, _, _, upd_same⟩
  | j + 3 => exact ⟨_, _, _, upd_same⟩
/-- purse[k] -/
theorem pf_ix3 (i : Nat) {kk : Int} {jj : Nat} (hi : ρ[i]? = some (some (.prs a))) (hk : ∀ u v w : V, ∃ o : V, atI [u, v, w] kk = some o ∧ (o = u ∨ o = v ∨ o = w)) (hN : X.N[i]? = some y := by rfl) (hv : Vis X.env.scope y := by first | exact Or.inl rfl | exact Or.inr (Or.inl rfl) | exact Or.inr (Or.inr rfl)) (hd : (y == ("__debug__" : Str)) = false := by decide)
    (hcd : (y == ("__classdict__" : Str)) = false := by decide) (hs : PlainIx (.Constant (.int kk) jj p1) := by exact fun _ _ => rfl) : PFI X C ρ a (.Subscript (.Name y p) (.Constant (.int kk) jj p1) pos) (fun _ => True) :=
  (pe_ix ix_list (pe_var hN hv hd hcd) pe_int hs).weak fun σ H Q ⟨H₀, M, F, q⟩ => by
    obtain ⟨v, e, rfl, nn, x1, x2, x3, th⟩ := F.slot i _ hi
    obtain ⟨o, ho, hor⟩ := hk (.int x1) (.int x2) (.int x3)
    refine ⟨_, e, a, _, kk, o, rfl, rfl, SqL.of th, ho, ?_⟩
    have t : three H a := ⟨x1, x2, x3, th⟩
    rcases hor with h | h | h
    · exact q o (.int x1) H (fun b o e _ => e) t ⟨x1, rfl, trivial⟩ (by rw [h]; exact Rp.int)
    · exact q o (.int x2) H (fun b o e _ => e) t ⟨x2, rfl, trivial⟩ (by rw [h]; exact Rp.int)
    · exact q o (.int x3) H (fun b o e _ => e) t ⟨x3, rfl, trivial⟩ (by rw [h]; exact Rp.int)
theorem at3_0 (u v w : V) : ∃ o : V, atI [u, v, w] 0 = some o ∧ (o = u ∨ o = v ∨ o = w) := ⟨u, rfl, .inl rfl⟩
theorem at3_1 (u v w : V) : ∃ o : V, atI [u, v, w] 1 = some o ∧ (o = u ∨ o = v ∨ o = w) := ⟨v, rfl, .inr (.inl rfl)⟩
theorem at3_2 (u v w : V) : ∃ o : V, atI [u, v, w] 2 = some o ∧ (o = u ∨ o = v ∨ o = w) := ⟨w, rfl, .inr (.inr rfl)⟩
/-- a op b of whole numbers -/
theorem pfi_op (i : Nat) {op : Operator} {D : Int → Int → Prop} {g : Int → Int → Int} (hi : ρ[i]? = some (some (.prs a))) (ho : OpR X (binaryOp op) (rI D fun i j => .int (g i j))) (ha : PFI X C ρ a c Pa) (hb : PFI X C ρ a b Pb) (hc : ∀ i j, Pa i → Pb j → D i j ∧ Pc (g i j)) : PFI X C ρ a (.BinOp c op b pos) Pc :=
  (pe_op ho ha hb).weak fun σ H Q ⟨H₀, M, F, q⟩ => ⟨H₀, M, F, fun v d H1 k1 t1 ⟨n1, e1, r1⟩ rv1 => ⟨H₀, M, F.prs hi k1 t1, fun u d' H2 k2 t2 ⟨n2, e2, r2⟩ rv2 => by
    subst e1 e2
    have h1 := Rp.int_iff.mp rv1
    have h2 := Rp.int_iff.mp rv2
    subst h1 h2
    obtain ⟨h3, h4⟩ := hc n1 n2 r1 r2
    exact ⟨n1, n2, rfl, rfl, h3, q _ _ H2 (Keep.trans k1 k2) t2 ⟨_, rfl, h4⟩ Rp.int⟩⟩⟩
theorem pfi_op0 (i : Nat) {op : Operator} {g : Int → Int → Int} (hi : ρ[i]? = some (some (.prs a))) (ho : OpR X (binaryOp op) (rI0 fun i j => .int (g i j))) (ha : PFI X C ρ a c Pa) (hb : PFI X C ρ a b Pb) (hc : ∀ i j, Pa i → Pb j → Pc (g i j)) : PFI X C ρ a (.BinOp c op b pos) Pc :=
  (pe_op ho ha hb).weak fun σ H Q ⟨H₀, M, F, q⟩ => ⟨H₀, M, F, fun v d H1 k1 t1 ⟨n1, e1, r1⟩ rv1 => ⟨H₀, M, F.prs hi k1 t1, fun u d' H2 k2 t2 ⟨n2, e2, r2⟩ rv2 => by
    subst e1 e2
    have h1 := Rp.int_iff.mp rv1
    have h2 := Rp.int_iff.mp rv2
    subst h1 h2
    exact ⟨n1, n2, rfl, rfl, q _ _ H2 (Keep.trans k1 k2) t2 ⟨_, rfl, hc n1 n2 r1 r2⟩ Rp.int⟩⟩⟩
theorem pfi_int (hm : X.mg "int" = none) (ha : PFI X C ρ a c Pa) (hg : Gl X "int" := by rfl) (hs : starEach [c] X.env = (false, eval c X.env) :: starEach [] X.env := by rfl) : PFI X C ρ a (.Call (.Name "int" p) [c] [] pos) Pa :=
  (pe_callTy call_int1 hg hm (by decide +kernel) (pa_cons ha pa_nil hs) (by decide) (by decide) hs rfl).weak fun σ H Q ⟨H₀, M, F, q⟩ => ⟨H₀, M, F, fun v d H1 k1 t1 ⟨n1, e1, r1⟩ rv1 => by
    subst e1
    have h1 := Rp.int_iff.mp rv1
    subst h1
    exact .inl ⟨n1, rfl, q _ _ H1 k1 t1 ⟨n1, rfl, r1⟩ Rp.int⟩⟩
/-- purse[k] = e -/
theorem hs_set3 (i : Nat) {ps : Pos} {kk : Int} {jj m : Nat} (hi : ρ[i]? = some (some (.prs a))) (he : PFI X C ρ a e Pa) (hm : ixN 3 kk = some m) (hp : Post (.nx ρ)) (hN : X.N[i]? = some x := by rfl) (hv : Vis X.env.scope x := by first | exact Or.inl rfl | exact Or.inr (Or.inl rfl) | exact Or.inr (Or.inr rfl)) (hd : (x == ("__debug__" : Str)) = false := by decide) (hcd : (x == ("__classdict__" : Str)) = false := by decide)
    (ha : ∀ v, assign (.Subscript (.Name x p1) (.Constant (.int kk) jj p2) ps) X.env v = (do
      let ov ← holding [v] (eval (.Name x p1) X.env)
      let iv ← holding [v, ov] (eval (.Constant (.int kk) jj p2) X.env)
      standAt ps
      holding [v, ov, iv] (setItem ov iv v)
      release [v, ov, iv] []) := by intro _; rfl)
    (hs : swapsWithSole [.Subscript (.Name x p1) (.Constant (.int kk) jj p2) ps] e pos.line X.env = pure false := by rfl) (hw : swappedStores [.Subscript (.Name x p1) (.Constant (.int kk) jj p2) ps] e X.env = pure none := by rfl)
    (h1 : (assignEach [.Subscript (.Name x p1) (.Constant (.int kk) jj p2) ps] X.env).map (·.2) = [assign (.Subscript (.Name x p1) (.Constant (.int kk) jj p2) ps) X.env] := by rfl) : HS X C ρ (.Assign [.Subscript (.Name x p1) (.Constant (.int kk) jj p2) ps] e pos) Post :=
  (ps_asg he (pg_sub (pe_var hN hv hd hcd) pe_int set_list ha) hs hw h1).weak fun D σ H ⟨H₀, M, F, nn, _⟩ => ⟨H₀, M, F, fun u d H1 k1 t1 ⟨n1, e1, r1⟩ rv1 => by
    subst e1
    have h1 := Rp.int_iff.mp rv1
    subst h1
    have F1 := F.prs hi k1 t1
    obtain ⟨v, e, rfl, n2, x1, x2, x3, th⟩ := F1.slot i _ hi
    refine ⟨_, e, a, _, kk, m, rfl, rfl, th, hm, ?_⟩
    exact nn _ _ _ hp (F1.prs hi (fun b o hb hz => by rw [upd_ne (by simpa using hz)]; exact hb) (three_set th ⟨x1, x2, x3, th⟩ rfl))⟩
/-- a test whose answer is not known -/
theorem hs_ifG (i : Nat) (hi : ρ[i]? = some (some (.prs a))) (hc : PFI X C ρ a c Pa) (hb : PD X C ρ b (.int n)) (ha : HSs X C ρ body Post) (hb' : HSs X C ρ els Post) (hm : behindInMarks .Gt b = false := by rfl) : HS X C ρ (.If (.Compare c [.Gt] [b] p) body els pos) Post :=
  (ps_if (pt_cmpR op_gt hc hb hm) ha hb').weak fun D σ H ⟨H₀, M, F, q⟩ => ⟨H₀, M, F, fun v d H1 k1 t1 ⟨n1, e1, r1⟩ rv1 => ⟨H₀, M, F.prs hi k1 t1, fun u H2 s2 rv2 => by
    subst e1
    have h1 := Rp.int_iff.mp rv1
    have h2 := Rp.int_iff.mp rv2
    subst h1 h2
    refine ⟨n1, n, rfl, rfl, decide (n < n1), rfl, ?_⟩
    by_cases hlt : n < n1
    · rw [decide_eq_true hlt]; exact iteT ⟨H₀, M, (F.prs hi k1 t1).same s2, q⟩
    · rw [decide_eq_false hlt]; exact iteF ⟨H₀, M, (F.prs hi k1 t1).same s2, q⟩⟩⟩
end
end FB
end

section
set_option Elab.async false
set_option linter.all false
set_option maxRecDepth 100000
set_option maxHeartbeats 4000000
/-! Defs whose first argument is a purse; _law_pick. -/
namespace FB
open PySem L2
def retF (a : Addr) (R : PyData → Prop) : Fl → Prop
  | .rt (.datP a' d) => a' = a ∧ R d
  | _ => False
section
variable {P : Program} {w : World} {K : PySem.W.Frag} {mg : Str → Option Value} {base : Heap} {C : Addr}
theorem fr_startP {N : List Str} {us : List V} {as : List Ar} {H : Hp} {a : Addr} (t : three H a) (h : ArsOk K C H us as) (hl : as.length + 1 ≤ N.length) (hd : ∀ ar ∈ as, ∃ d, ar = .dat d) : Fr P w K C H [a] H (some (.prs a) :: rho0 (N.length - 1) as) (L2.start N (.ref a :: us)) := by
  obtain ⟨x, y, z, th⟩ := t
  have F : Fr P w K C H [] H (rho0 N.length (.lst [.int x, .int y, .int z] :: as)) (L2.start N (.ref a :: us)) := fr_start (vs := .ref a :: us) ⟨⟨a, _, rfl, Rd.of th, RpA.ints_iff (ns := [x, y, z]).mpr rfl⟩, h⟩ (by simpa using hl)
  have e : rho0 N.length (.lst [.int x, .int y, .int z] :: as) = some (.rl [.int x, .int y, .int z]) :: rho0 (N.length - 1) as := by
    unfold rho0
    simp only [List.map_cons, List.cons_append, List.length_cons, Ar.sl]
    congr 3
    omega
  rw [e] at F
  have key : ∀ (i : Nat) (s : Sl), (rho0 (N.length - 1) as)[i]? = some (some s) → ∃ d, s = .dat d := fun i s e => by
    unfold rho0 at e
    by_cases hi : i < as.length
    · rw [List.getElem?_append_left (by simpa using hi), List.getElem?_map] at e
      cases q : as[i]? with
      | none => rw [q] at e; cases e
      | some ar =>
        rw [q] at e
        cases e
        obtain ⟨d, rfl⟩ := hd ar (List.mem_of_getElem? q)
        exact ⟨d, rfl⟩
    · rw [List.getElem?_append_right (by simpa using hi), List.getElem?_replicate] at e
      split at e <;> cases e
  refine ⟨fun b o e _ => e, F.len, fun i s e => ?_, fun i j s t v hij e1 e2 e3 e4 e5 e6 => ?_⟩
  · cases i with
    | zero =>
      have e' : some (some (Sl.prs a)) = some (some s) := e
      cases e'
      exact ⟨_, start_get (vs := .ref a :: us) rfl, rfl, .inr (by simp), x, y, z, th⟩
    | succ i =>
      have e' : (rho0 (N.length - 1) as)[i]? = some (some s) := e
      obtain ⟨d, rfl⟩ := key i s e'
      exact F.slot (i + 1) _ e
  · cases i with
    | zero =>
      cases j with
      | zero => exact hij rfl
      | succ j =>
        have e' : (rho0 (N.length - 1) as)[j]? = some (some t) := e2
        obtain ⟨d, rfl⟩ := key j t e'
        simp [Sl.lst] at e4
    | succ i =>
      have e' : (rho0 (N.length - 1) as)[i]? = some (some s) := e1
      obtain ⟨d, rfl⟩ := key i s e'
      simp [Sl.mut] at e3
theorem dfP_of {x : Str} {st : Stmt} {N ps : List Str} {k : Nat} {Pre : List Ar → (PyData → Prop) → Prop} (A : FnAt K mg x st) (S : FnScope N ps (defScope st)) (len : ∀ as R, Pre as R → as.length + 1 = ps.length) (dat : ∀ as R, Pre as R → ∀ ar ∈ as, ∃ d, ar = .dat d)
    (hb : ∀ (kV doc pm : Value) (an : Option Addr) (cdv ct : Value) (us : List Value), us.length = ps.length → bindArgs (PySem.W.fnOf x x (defArgs st) (defBody st) (defScope st) .none kV doc pm an cdv ct) ⟨us, []⟩ = pure (ps.zip us))
    (hbody : ∀ (a f : Addr) (cdv : Value) (A : Around) (outer : List Env) (s : Shared) (H : Hp) (E : XK), Room k (A.deeper (PyProof.Rows.envOfC x (defScope st) s.heap.objs.size f cdv)) → ∀ as R, Pre as R →
      HSs (bX P w K mg base N x (defScope st) f cdv A outer s H E) C (some (.prs a) :: rho0 (N.length - 1) as) (defBody st) (retF a R)) : DfP P w K mg base C x (k + 1) Pre := by
  obtain ⟨f, fd, hm, F⟩ := A
  refine ⟨f, fd, ps, hm, F.kp, F.binds hb, F.ok S (fun vs H Q E h => ?_) (fun cdv A outer s H vs Q E hr h => ?_)⟩
  · obtain ⟨a, us, as, R, rfl, _, ha, hp, _⟩ := h
    rw [List.length_cons, ha.length]
    exact len as R hp
  · obtain ⟨a, us, as, R, rfl, t, ha, hp, hQ⟩ := h
    have hl : as.length + 1 ≤ N.length := by
      rw [len as R hp]
      have := congrArg List.length S.pre
      rw [List.length_take] at this
      omega
    refine ⟨_, hbody a f cdv A outer s H E hr as R hp, H, [a], fr_startP t ha hl (dat as R hp), (fun _ _ _ h => h.elim), (fun _ _ _ h => h.elim), (fun _ _ _ h => h.elim), fun r' v H' hr' k hv => ?_⟩
    cases r' with
    | datP a' d =>
      obtain ⟨rfl, hR⟩ := hr'
      exact hQ v d H' k hv.2 hR hv.1
    | _ => exact hr'.elim
end
section
variable {X : Cx} {C : Addr} {ρ : Rho} {e c b : Expr} {a : Addr} {i j k : Nat} {n m : Int} {pos p p1 p2 p3 : Pos} {x y z : Str} {Pa : Int → Prop} {Post : Fl → Prop}
theorem pf_divmod (i : Nat) (hi : ρ[i]? = some (some (.prs a))) (hm : X.mg "divmod" = none) (ha : PFI X C ρ a c Pa) (hb : PD X C ρ b (.int m)) (h0 : 0 < m ∧ m < 1073741824) (hg : Gl X "divmod" := by rfl) (hs : starEach [c, b] X.env = (false, eval c X.env) :: starEach [b] X.env := by rfl) (hs2 : starEach [b] X.env = (false, eval b X.env) :: starEach [] X.env := by rfl) (hpl : (backTo pos (starEach [b] X.env)).any (·.1) = false := by rfl) :
    PF X C ρ a (.Call (.Name "divmod" p) [c, b] [] pos) (fun d => ∃ q r : Int, d = .tuple [.int q, .int r] ∧ 0 ≤ r ∧ r < m) :=
  (pe_callB call_divmod hg hm (by decide +kernel) (pa_cons ha (pa_cons hb pa_nil hs2) hs) (by decide) (by decide) hs hpl).weak fun σ H Q ⟨H₀, M, F, q⟩ => ⟨H₀, M, F, fun v d H1 k1 t1 ⟨n1, e1, r1⟩ rv1 => ⟨H₀, M, F.prs hi k1 t1, fun u H2 s2 rv2 => by
    subst e1
    have h1 := Rp.int_iff.mp rv1
    have h2 := Rp.int_iff.mp rv2
    subst h1 h2
    refine ⟨n1, m, rfl, h0, fun p hp => ?_⟩
    refine q _ (.tuple [.int (n1 / m), .int (n1 % m)]) _ (Keep.trans k1 (Keep.of (s2.trans (same_new hp)))) ((t1.same s2).same (same_new hp)) ⟨_, _, rfl, Int.emod_nonneg _ (by omega), Int.emod_lt_of_pos _ h0.1⟩ ?_
    exact Rp.tup (SqT.of upd_same) (RpA.cons Rp.int (RpA.cons Rp.int RpA.nil))⟩⟩
/-- purse[k], y = e -/
theorem hs_dm3 (i l : Nat) {ps py pt : Pos} {kt : Nat} {kk : Int} {jj m : Nat} (nd : X.N.Nodup) (hi : ρ[i]? = some (some (.prs a))) (he : PF X C ρ a e (fun d => ∃ q r : Int, d = .tuple [.int q, .int r] ∧ Pa r)) (hm : ixN 3 kk = some m) (hp : ∀ r, Pa r → Post (.nx (ρ.set l (some (.dat (.int r)))))) (hl : l < ρ.length := by exact Nat.le_of_ble_eq_true rfl) (hN : X.N[i]? = some x := by rfl) (hv : Vis X.env.scope x := by first | exact Or.inl rfl | exact Or.inr (Or.inl rfl) | exact Or.inr (Or.inr rfl)) (hd : (x == ("__debug__" : Str)) = false := by decide) (hcd : (x == ("__classdict__" : Str)) = false := by decide)
    (hc : X.calm = true := by rfl) (hy : X.N[l]? = some y := by rfl) (hx : Loc X.env.scope y := by first | exact Or.inl rfl | exact Or.inr rfl) (hf : X.fn y = true ∨ X.env.scope.names.lookup y = some .local := by first | exact .inl rfl | exact .inr rfl)
    (ha : ∀ v, assign (.Subscript (.Name x p1) (.Constant (.int kk) jj p2) ps) X.env v = (do
      let ov ← holding [v] (eval (.Name x p1) X.env)
      let iv ← holding [v, ov] (eval (.Constant (.int kk) jj p2) X.env)
      standAt ps
      holding [v, ov, iv] (setItem ov iv v)
      release [v, ov, iv] []) := by intro _; rfl)
    (hn : (assignEach [.Subscript (.Name x p1) (.Constant (.int kk) jj p2) ps, .Name y py] X.env).length = 2 := by rfl) (hst : (assignEach [.Subscript (.Name x p1) (.Constant (.int kk) jj p2) ps, .Name y py] X.env).findIdx? (·.1) = none := by rfl)
    (hsw : swapsWithSole [.Tuple [.Subscript (.Name x p1) (.Constant (.int kk) jj p2) ps, .Name y py] kt pt] e pos.line X.env = pure false := by rfl) (hw : swappedStores [.Tuple [.Subscript (.Name x p1) (.Constant (.int kk) jj p2) ps, .Name y py] kt pt] e X.env = pure none := by rfl)
    (h1 : (assignEach [.Tuple [.Subscript (.Name x p1) (.Constant (.int kk) jj p2) ps, .Name y py] kt pt] X.env).map (·.2) = [assign (.Tuple [.Subscript (.Name x p1) (.Constant (.int kk) jj p2) ps, .Name y py] kt pt) X.env] := by rfl)
    (hpgs : ∀ {tt : TG} {u : TGs}, PG X (.Subscript (.Name x p1) (.Constant (.int kk) jj p2) ps) tt → PGs X [.Name y py] u → PGs X [.Subscript (.Name x p1) (.Constant (.int kk) jj p2) ps, .Name y py] (gCons tt u) := by intro _ _ q1 q2; exact pgs_cons q1 q2) : HS X C ρ (.Assign [.Tuple [.Subscript (.Name x p1) (.Constant (.int kk) jj p2) ps, .Name y py] kt pt] e pos) Post :=
  (ps_asg he (pg_tup hc (hpgs (pg_sub (pe_var hN hv hd hcd) pe_int set_list ha) (pgs_cons (pg_name (i := l) nd hy hx hf) pgs_nil)) hn hst) hsw hw h1).weak fun D σ H ⟨H₀, M, F, nn, _⟩ => ⟨H₀, M, F, fun v d H1 k1 t1 ⟨q, r, e1, r1⟩ rv => by
    subst e1
    obtain ⟨tp, xs, rfl, hx1, hx2⟩ := Rp.tup_iff.mp rv
    have hxs := RpA.ints_iff (ns := [q, r]).mp hx2
    subst hxs
    have F1 := F.prs hi k1 t1
    obtain ⟨v, e, rfl, n2, x1, x2, x3, th⟩ := F1.slot i _ hi
    refine ⟨tp, _, rfl, hx1, rfl, .int q, [.int r], rfl, _, e, a, _, kk, m, rfl, rfl, th, hm, .int r, [], rfl, rfl, ?_⟩
    exact nn _ _ _ (hp r r1) ((F1.prs hi (fun b o hb hz => by rw [upd_ne (by simpa using hz)]; exact hb) (three_set th ⟨x1, x2, x3, th⟩ rfl)).set (sl := .dat (.int r)) hl (show Rp _ _ _ _ from Rp.int) rfl)⟩
end
def prePick : List Ar → (PyData → Prop) → Prop := fun as R => ∃ m : Int, as = [.dat (.int m)] ∧ 0 < m ∧ m < 1073741824 ∧ R = isI (fun i => 0 ≤ i ∧ i < m)
section
variable {P : Program} {w : World} {K : PySem.W.Frag} {mg : Str → Option Value} {base : Heap} {C : Addr}
theorem df_L_pick (A : FnAt K mg "_law_pick" s_L_pick) (T : Tx K mg C) : DfP P w K mg base C "_law_pick" 1 prePick := by
  refine dfP_of A sc_L_pick (fun as r h => ?_) (fun as R h => ?_) (fun _ _ _ _ _ _ us hl => match us, hl with | [_, _], _ => rfl) (fun a f cdv A outer s H E hr as R h => ?_)
  · obtain ⟨_, rfl, _⟩ := h; rfl
  · obtain ⟨_, rfl, _⟩ := h; intro ar har; simp at har; exact ⟨_, har⟩
  · obtain ⟨m, rfl, hm0, hm1, rfl⟩ := h
    have nd := sc_L_pick.nd
    refine hss_cons (hs_set3 (Pa := fun _ => True) (m := 2) 0 rfl (pfi_op0 (Pa := fun _ => True) (Pb := fun _ => True) 0 rfl op_add (pf_ix3 0 rfl at3_2) (pfi_of 0 pd_int rfl trivial) (fun _ _ _ _ => trivial)) rfl ?_)
    refine hss_cons (hs_setF (R := isI fun _ => True) 2 0 nd rfl (pfi_int T.int_ (pf_ix3 0 rfl at3_0)) (fun d hd => ?_))
    obtain ⟨mx, rfl, _⟩ := hd
    refine hss_cons (hs_set 3 nd (pd_add (pd_mod (pd_toInt T.int_ (pd_var 2)) pd_int (by decide)) pd_int) ?_)
    have hmore : 0 ≤ mx % 30011 ∧ mx % 30011 < 30011 := by omega
    refine hss_cons (hs_set3 (Pa := fun _ => True) (m := 0) 0 rfl (pfi_op (D := fun _ j => 0 < j) (Pa := fun _ => True) (Pb := fun j => j = 2147483587) 0 rfl op_mod (pfi_int T.int_ (pfi_op0 (Pa := fun _ => True) (Pb := fun _ => True) 0 rfl op_add (pfi_op0 (Pa := fun _ => True) (Pb := fun _ => True) 0 rfl op_add (pfi_of 0 (pd_mul (pd_var 2) (pd_var 3) (.inr (by omega))) rfl trivial) (pfi_op (D := CMul) (Pa := fun i => i = 65537) (Pb := fun _ => True) 0 rfl op_mul (pfi_of 0 pd_int rfl rfl) (pf_ix3 0 rfl at3_2) (fun i j hi _ => ⟨by subst hi; exact .inl (by decide), trivial⟩)) (fun _ _ _ _ => trivial)) (pfi_of 0 pd_int rfl trivial) (fun _ _ _ _ => trivial))) (pfi_of 0 pd_int rfl rfl) (fun i j _ hj => ⟨by subst hj; decide, trivial⟩)) rfl ?_)
    refine hss_cons (hs_ifG 0 rfl (pf_ix3 0 rfl at3_1) pd_int ?_ (hss_nil ?_))
    · refine hss_cons (hs_dm3 (Pa := fun r => 0 ≤ r ∧ r < m) (m := 1) 0 4 nd rfl (pf_divmod 0 rfl T.divmod_ (pf_ix3 0 rfl at3_1) (pd_var 1) ⟨hm0, hm1⟩) rfl (fun r hr => ?_))
      exact hss_cons (hs_retF (R := isI fun i => 0 ≤ i ∧ i < m) (pf_of 0 (pd_var 4) rfl ⟨r, rfl, hr⟩) (fun d hd => ⟨rfl, hd⟩) ⟨0, rfl⟩)
    · refine hss_cons (hs_retF (R := isI fun i => 0 ≤ i ∧ i < m) (pfi_op (D := fun _ j => 0 < j) (Pa := fun _ => True) (Pb := fun j => j = m) 0 rfl op_mod (pfi_int T.int_ (pfi_op (D := CDiv) (Pa := fun _ => True) (Pb := fun j => j = 128) 0 rfl op_fdiv (pf_ix3 0 rfl at3_0) (pfi_of 0 pd_int rfl rfl) (fun i j _ hj => ⟨by subst hj; exact ⟨by decide, by decide⟩, trivial⟩))) (pfi_of 0 (pd_var 1) rfl rfl) (fun i j _ hj => ⟨by subst hj; exact hm0, by subst hj; exact ⟨Int.emod_nonneg _ (by omega), Int.emod_lt_of_pos _ hm0⟩⟩)) (fun d hd => ⟨rfl, hd⟩) ⟨0, rfl⟩)
end
end FB
end

section
set_option Elab.async false
set_option linter.all false
set_option maxRecDepth 100000
set_option maxHeartbeats 4000000
/-! More of purses: displays, comprehensions; _law_words, _law_promises, _law_spec. -/
namespace FB
open PySem L2
section
variable {X : Cx} {C : Addr} {ρ : Rho} {e c b tg iter elt : Expr} {es' rest : List Expr} {d d' : PyData} {ds es : List PyData} {a : Addr} {i j k : Nat} {n m : Int} {pos p p1 p2 p3 : Pos} {x y z : Str} {R R' R1 R2' R3 : PyData → Prop} {Rs : List PyData → Prop} {Pa Pb Pc : Int → Prop} {as : List Ar} {Post : Fl → Prop} {body els : List Stmt}
def tFs (X : Cx) (C : Addr) (ρ : Rho) (a : Addr) (Rs : List PyData → Prop) : TA := fun σ H Q => ∃ H₀ M, Fr X.prog X.w X.K C H₀ M H ρ σ ∧ ∀ vs ds H', Keep [a] H H' → three H' a → Rs ds → RpA X.K H' vs ds → Q vs H'
abbrev PFs (X : Cx) (C : Addr) (ρ : Rho) (a : Addr) (es : List Expr) (Rs : List PyData → Prop) : Prop := PA X es (tFs X C ρ a Rs)
theorem pfs_nil (i : Nat) (hi : ρ[i]? = some (some (.prs a))) : PFs X C ρ a [] (fun ds => ds = []) := pa_nil.weak fun σ H Q ⟨H₀, M, F, q⟩ => q [] [] H (fun b o e _ => e) (F.three hi) rfl RpA.nil
theorem pfs_cons (i : Nat) (hi : ρ[i]? = some (some (.prs a))) (h : PF X C ρ a e R) (t : PFs X C ρ a rest Rs) (hs : starEach (e :: rest) X.env = (false, eval e X.env) :: starEach rest X.env := by rfl) : PFs X C ρ a (e :: rest) (fun ds => ∃ d ds', ds = d :: ds' ∧ R d ∧ Rs ds') := (pa_cons h t hs).weak fun σ H Q ⟨H₀, M, F, q⟩ =>
  ⟨H₀, M, F, fun v d H1 k1 t1 r1 rv1 => ⟨H₀, M, F.prs hi k1 t1, fun vs ds H2 k2 t2 r2 rv2 => q (v :: vs) (d :: ds) H2 (Keep.trans k1 k2) t2 ⟨d, ds, rfl, r1, r2⟩ (RpA.cons (Rp.mono (keep_tle k2 t1) _ rv1) rv2)⟩⟩
theorem pf_tup {k : Nat} {es : List Expr} (h : PFs X C ρ a es Rs) (hz : ∀ ds, Rs ds → ds.length ≤ sizeLine) : PF X C ρ a (.Tuple es k pos) (fun d => ∃ ds, d = .tuple ds ∧ Rs ds) := (pe_tup h).weak fun σ H Q ⟨H₀, M, F, q⟩ =>
  ⟨H₀, M, F, fun vs ds H1 k1 t1 r1 rv1 => ⟨by rw [rv1.length]; exact hz ds r1, fun n hn => q _ (.tuple ds) _ (Keep.trans k1 (Keep.of (same_new hn))) (t1.same (same_new hn)) ⟨ds, rfl, r1⟩ (Rp.tup (SqT.of upd_same) (RpA.mono (Same.tle (same_new hn)) _ rv1))⟩⟩
/-- pick == 0 -/
theorem pf_eqC (i : Nat) (hi : ρ[i]? = some (some (.prs a))) (h : PFI X C ρ a c Pa) (hb : PD X C ρ b (.int n)) (hm : behindInMarks .Eq b = false := by rfl) : PF X C ρ a (.Compare c [.Eq] [b] pos) (fun d => ∃ k, d = .bool k) := (pe_cmpR op_eq h hb hm).weak fun σ H Q ⟨H₀, M, F, q⟩ =>
  ⟨H₀, M, F, fun v d H1 k1 t1 ⟨n1, e1, r1⟩ rv1 => ⟨H₀, M, F.prs hi k1 t1, fun u H2 s2 rv2 => by
    subst e1
    have h1 := Rp.int_iff.mp rv1
    have h2 := Rp.int_iff.mp rv2
    subst h1 h2
    exact ⟨rfl, q _ (.bool (decide (n1 = n))) H2 (Keep.trans k1 (Keep.of s2)) (t1.same s2) ⟨_, rfl⟩ (by rw [Rp.bool_iff]; simp)⟩⟩⟩
/-- l[pick], l a variable -/
theorem pf_ixV (i l : Nat) (hi : ρ[i]? = some (some (.prs a))) (hl : ρ[l]? = some (some (.own ds))) (hb : PFI X C ρ a b (fun n => 0 ≤ n ∧ n < ds.length)) (hN : X.N[l]? = some y := by rfl) (hv : Vis X.env.scope y := by first | exact Or.inl rfl | exact Or.inr (Or.inl rfl) | exact Or.inr (Or.inr rfl)) (hd : (y == ("__debug__" : Str)) = false := by decide)
    (hcd : (y == ("__classdict__" : Str)) = false := by decide) (hs : PlainIx b := by exact fun _ _ => rfl) : PF X C ρ a (.Subscript (.Name y p) b pos) (fun d => d ∈ ds) := (pe_ix ix_list (pe_var hN hv hd hcd) hb hs).weak fun σ H Q ⟨H₀, M, F, q⟩ => by
  obtain ⟨v, e, la, vs, rfl, n2, h1, h2⟩ := F.slot l _ hl
  refine ⟨_, e, H₀, M, F, fun u d H1 k1 t1 ⟨n1, e1, r1, r2⟩ rv1 => ?_⟩
  subst e1
  have h3 := Rp.int_iff.mp rv1
  subst h3
  have F1 := F.prs hi k1 t1
  obtain ⟨v, e', la', vs', e4, n2', h1', h2'⟩ := F1.slot l _ hl
  rw [e] at e'
  cases e'
  cases e4
  have hlen := h2'.length
  have hi2 : n1.toNat < vs'.length := by omega
  obtain ⟨d, hd, rd⟩ := h2'.get (List.getElem?_eq_getElem hi2)
  exact ⟨la, vs', n1, vs'[n1.toNat], rfl, rfl, .inl (Rd.of h1'), atI_nn r1 (List.getElem?_eq_getElem hi2), q _ d H1 k1 t1 (List.mem_of_getElem? hd) rd⟩
/-- [..][pick] -/
theorem pf_ixN (i : Nat) (hi : ρ[i]? = some (some (.prs a))) (hl : PN X C ρ e ds) (hb : PFI X C ρ a b (fun n => 0 ≤ n ∧ n < ds.length)) (hs : PlainIx b := by exact fun _ _ => rfl) : PF X C ρ a (.Subscript e b pos) (fun d => d ∈ ds) := (pe_ix ix_list hl hb hs).weak fun σ H Q ⟨H₀, M, F, q⟩ => by
  refine ⟨H₀, M, F, fun l vs H1 s1 hn h1 h2 => ⟨H₀, M, F.same s1, fun u d H2 k2 t2 ⟨n1, e1, r1, r2⟩ rv2 => ?_⟩⟩
  subst e1
  have h3 := Rp.int_iff.mp rv2
  subst h3
  have t1 := (F.three hi).same s1
  have hla : l ≠ a := by
    rintro rfl
    obtain ⟨_, _, _, h⟩ := F.three hi
    rw [hn] at h; cases h
  have h1' : H2 l = some (.lst vs) := k2 l _ h1 (by simpa using hla)
  have h2' := RpA.mono (keep_tle k2 t1) _ h2
  have hlen := h2'.length
  have hi2 : n1.toNat < vs.length := by omega
  obtain ⟨d, hd, rd⟩ := h2'.get (List.getElem?_eq_getElem hi2)
  exact ⟨l, vs, n1, vs[n1.toNat], rfl, rfl, .inl (Rd.of h1'), atI_nn r1 (List.getElem?_eq_getElem hi2), q _ d H2 (Keep.trans (Keep.of s1) k2) t2 (List.mem_of_getElem? hd) rd⟩
/-- a new list, behind changes of the purse -/
def tNF (X : Cx) (C : Addr) (ρ : Rho) (a : Addr) (Rs : List PyData → Prop) : TE := fun σ H Q => ∃ H₀ M, Fr X.prog X.w X.K C H₀ M H ρ σ ∧ ∀ l vs ds H', Keep [a] H H' → three H' a → H' l = some (.lst vs) → RpA X.K H' vs ds → Rs ds → Q (.ref l) H'
theorem pf_toTup (hm : X.mg "tuple" = none) (ha : PE X e (tNF X C ρ a Rs)) (hg : Gl X "tuple" := by rfl) (hs : starEach [e] X.env = (false, eval e X.env) :: starEach [] X.env := by rfl) : PF X C ρ a (.Call (.Name "tuple" p) [e] [] pos) (fun d => ∃ ds, d = .tuple ds ∧ Rs ds) :=
  (pe_callTy call_tuple_of hg hm (by decide +kernel) (pa_cons ha pa_nil hs) (by decide) (by decide) hs rfl).weak fun σ H Q ⟨H₀, M, F, q⟩ => ⟨H₀, M, F, fun l vs ds H1 k1 t1 h1 h2 r => ⟨l, vs, rfl, .inl ⟨.inl (Rd.of h1), fun n hn => q _ (.tuple ds) _ (Keep.trans k1 (Keep.of (same_new hn))) (t1.same (same_new hn)) ⟨ds, rfl, r⟩ (Rp.tup (SqT.of upd_same) (RpA.mono (Same.tle (same_new hn)) _ h2))⟩⟩⟩
variable {β : Type} {xs : List β} {enc : β → PyData} {g : TG} {is : List Nat} {scope : Scope} {own : List (Str × Nat)}
theorem pn_lcF (i : Nat) (hi' : ρ[i]? = some (some (.prs a))) (hi : PIs X C ρ tg iter (xs.map enc)) (ok : BlkOk X.N X.env.scope scope own) (nd : X.N.Nodup) (hg : ∀ (s : Shared) (H : Hp) (D : Addr) (cl : List (Str × Addr)) (fp : List Addr), PG (X.blk s H scope (compEnvC scope cl D X.env) fp) tg g)
    (hsz : xs.length ≤ sizeLine) (hsub : ∀ j ∈ is, j ∈ own.map (·.2) ∧ j < ρ.length) (h : ∀ z ∈ xs, ∃ ds', GBd X.K g is (enc z) ds' ∧ ∀ (s : Shared) (H : Hp) (D : Addr) (cl : List (Str × Addr)) (fp : List Addr), PE (X.blk s H scope (compEnvC scope cl D X.env) fp) elt (tF X C (bindR (wipeR ρ (own.map (·.2))) is ds') a R)) (hc : X.calm = true := by rfl) (hf : ∀ x, foldedSetIterable iter X.env x = pure x := by intro _; rfl) :
    PE X (.ListComp elt [⟨tg, iter, [], 0⟩] scope pos) (tNF X C ρ a (fun ds => (∀ d ∈ ds, R d) ∧ ds.length = xs.length)) :=
  (pe_lc (tt := fun σ H Q => Q true H) (te := fun σ H Q => ∃ z ∈ xs, ∃ ds', (∀ (s : Shared) (H : Hp) (D : Addr) (cl : List (Str × Addr)) (fp : List Addr), PE (X.blk s H scope (compEnvC scope cl D X.env) fp) elt (tF X C (bindR (wipeR ρ (own.map (·.2))) is ds') a R)) ∧ tF X C (bindR (wipeR ρ (own.map (·.2))) is ds') a R σ H Q)
    hc nd hi ok hg (fun s H D cl fp => pts_nil) (fun s H D cl fp => ⟨fun pins s' σ H' Q I ⟨z, hz, ds', he, t⟩ => (he s H D cl fp).run pins s' σ H' Q I t⟩) hf).weak (by
  rintro σ H Q ⟨H₀, M, F, qq⟩
  refine ⟨H₀, M, F, fun J H1 s1 sq D hD => ?_⟩
  have F1 := F.same s1
  have t1 := F1.three hi'
  have hDa : D ≠ a := by
    rintro rfl
    obtain ⟨_, _, _, h⟩ := t1
    rw [hD] at h; cases h
  have sq := sq [a] fun b hb => by
    simp only [List.mem_singleton] at hb
    subst hb
    obtain ⟨v, e, rfl, _⟩ := F.slot i _ hi'
    exact mem_ownL.mpr ⟨i, _, hi', rfl, e⟩
  refine ⟨fun i m H' => m = xs.length - i ∧ i ≤ xs.length ∧ Keep [a] H1 (fun b => if b = D then none else H' b) ∧ three H' a ∧ ∃ acc ds, H' D = some (.lst acc) ∧ RpA X.K H' acc ds ∧ (∀ d ∈ ds, R d) ∧ ds.length = i, ⟨_, rfl, Nat.zero_le _, fun b o e _ => ?_, t1.same (same_new hD), [], [], upd_same, RpA.nil, fun d hd => by simp at hd, rfl⟩, ?_⟩
  · have hb : b ≠ D := ne_of_none e hD
    show (if b = D then none else upd H1 D (.lst []) b) = some o
    rw [if_neg hb, upd_ne hb]
    exact e
  rintro i m H' ⟨rfl, hi2, k, th, acc, ds, hacc, racc, hR, hlen⟩
  have k' : Keep [a] H1 H' := fun b o e z => by
    have := k b o e z
    by_cases hb : b = D
    · subst hb; rw [hD] at e; cases e
    · simpa [hb] using this
  have t : TLe X.K H1 H' := keep_tle k' t1
  by_cases hlt : i < xs.length
  · have hlt' : i < (xs.map enc).length := by rw [List.length_map]; exact hlt
    refine .inr ⟨sq.go H' i k' t hlt', fun H2 => Keep [a] H1 (fun b => if b = D then none else H2 b) ∧ three H2 a ∧ ∃ acc ds, H2 D = some (.lst acc) ∧ RpA X.K H2 acc ds ∧ (∀ d ∈ ds, R d) ∧ ds.length = i + 1, fun H2 ⟨k2, a2⟩ => ⟨xs.length - (i + 1), by omega, rfl, hlt, k2, a2⟩, fun v H2 y => ?_⟩
    obtain ⟨s2, d, e1, rd⟩ := sq.yld H' i v H2 hlt' k' t y
    rw [List.getElem?_map] at e1
    obtain ⟨z, ez, rfl⟩ := Option.map_eq_some_iff.mp e1
    have hz : z ∈ xs := List.mem_of_getElem? ez
    obtain ⟨ds', gb, he⟩ := h z hz
    refine gb v _ H2 _ rd fun vs hvs => ⟨by rw [wipe_setAll fun j hj => (hsub j hj).1, wipe_wipe], ?_⟩
    have G : Fr X.prog X.w X.K C H₀ M H2 ρ σ := (F1.prs hi' k' th).same s2
    have G2 := (G.wipe (own.map (·.2))).bind hvs fun j hj => by rw [wipeR_length]; exact (hsub j hj).2
    dsimp only
    rw [if_pos rfl]
    refine ⟨z, hz, ds', he, H₀, M, G2, fun u d H4 k4 t4 r4 rv4 => ?_⟩
    have hD4 : H4 D = some (.lst acc) := k4 D _ (s2 _ _ hacc) (by simpa using hDa)
    have ht2 : TLe X.K H' H4 := fun b xs q => keep_tle k4 (th.same s2) b xs (Same.tle s2 b xs q)
    have racc4 := RpA.mono ht2 _ racc
    refine ⟨acc, hD4, by rw [racc4.length, hlen]; exact Nat.lt_of_lt_of_le hlt hsz, fun b o e zz => ?_, ?_, acc ++ [u], ds ++ [d], upd_same, ?_, fun d' hd' => ?_, by rw [List.length_append, hlen]; rfl⟩
    · have hb : b ≠ D := ne_of_none e hD
      show (if b = D then none else upd H4 D (.lst (acc ++ [u])) b) = some o
      rw [if_neg hb, upd_ne hb]
      exact k4 b o (s2 _ _ (k' b o e zz)) zz
    · obtain ⟨x1, x2, x3, h4⟩ := t4
      exact ⟨x1, x2, x3, by rw [upd_ne (Ne.symm hDa)]; exact h4⟩
    · have le : TLe X.K H4 (upd H4 D (.lst (acc ++ [u]))) := upd_tle (fun xs e => by rw [hD4] at e; cases e) fun o w e => by rw [hD4] at e; cases e
      exact (RpA.mono le _ racc4).snoc (Rp.mono le _ rv4)
    · rcases List.mem_append.mp hd' with hd' | hd'
      · exact hR d' hd'
      · simp only [List.mem_singleton] at hd'; subst hd'; exact r4
  · have e : i = xs.length := by omega
    subst e
    refine .inl ⟨?_, ?_⟩
    · have := sq.stop H' k' t
      rwa [List.length_map] at this
    · exact qq D acc ds H' (Keep.trans (Keep.of s1) k') th hacc racc ⟨hR, hlen⟩)
end
end FB
end

section
set_option Elab.async false
set_option linter.all false
set_option maxRecDepth 100000
set_option maxHeartbeats 4000000
/-! _law_words, _law_promises, _law_spec, _law_near. -/
namespace FB
open PySem L2
section
variable {X : Cx} {C : Addr} {ρ : Rho} {e a b c tg iter elt : Expr} {d d' : PyData} {ds es : List PyData} {ap : Addr} {i j k l : Nat} {n m : Int} {pos p p1 p2 p3 : Pos} {x y z : Str} {R R' R1 R2' R3 : PyData → Prop} {Rs : List PyData → Prop} {as : List Ar} {Post : Fl → Prop}
/-- a, b, c = e, f, g that may change the purse -/
theorem hs_parF3 {px py pz pt : Pos} {kt k2 : Nat} {pt2 : Pos} (q i j l : Nat) (nd : X.N.Nodup) (hq : ρ[q]? = some (some (.prs ap))) (hij : i ≠ j) (hil : i ≠ l) (hjl : j ≠ l) (hqi : q ≠ i) (hqj : q ≠ j) (ha : PF X C ρ ap a R1) (hb : PF X C ρ ap b R2') (hcc : PF X C ρ ap c R3) (hp : ∀ d1 d2 d3, R1 d1 → R2' d2 → R3 d3 → Post (.nx (((ρ.set i (some (.dat d1))).set j (some (.dat d2))).set l (some (.dat d3))))) (hli : i < ρ.length := by exact Nat.le_of_ble_eq_true rfl) (hlj : j < ρ.length := by exact Nat.le_of_ble_eq_true rfl) (hll : l < ρ.length := by exact Nat.le_of_ble_eq_true rfl) (hc : X.calm = true := by rfl) (hi : X.N[i]? = some x := by rfl) (hj : X.N[j]? = some y := by rfl) (hl : X.N[l]? = some z := by rfl)
    (hx : X.env.scope.names.lookup x = some .local := by rfl) (hy : X.env.scope.names.lookup y = some .local := by rfl) (hz : X.env.scope.names.lookup z = some .local := by rfl) (hsa : starEach [a, b, c] X.env = (false, eval a X.env) :: starEach [b, c] X.env := by rfl) (hsb : starEach [b, c] X.env = (false, eval b X.env) :: starEach [c] X.env := by rfl) (hsc : starEach [c] X.env = (false, eval c X.env) :: starEach [] X.env := by rfl)
    (hw : swappedStores [.Tuple [.Name x px, .Name y py, .Name z pz] kt pt] (.Tuple [a, b, c] k2 pt2) X.env = pure (some [x, y, z]) := by rfl) (hs : swapsWithSole [.Tuple [.Name x px, .Name y py, .Name z pz] kt pt] (.Tuple [a, b, c] k2 pt2) pos.line X.env = pure false := by rfl) :
    HS X C ρ (.Assign [.Tuple [.Name x px, .Name y py, .Name z pz] kt pt] (.Tuple [a, b, c] k2 pt2) pos) Post := (ps_par3 hc nd hi hj hl hij hil hjl hx hy hz (pa_cons ha (pa_cons hb (pa_cons hcc pa_nil hsc) hsb) hsa) hw hs).weak fun D σ H ⟨H₀, M, F, n, _⟩ =>
  ⟨H₀, M, F, fun v d1 H1 k1 t1 r1 rv1 => ⟨H₀, M, F.prs hq k1 t1, fun u d2 H2 k2 t2 r2 rv2 => ⟨H₀, M, (F.prs hq k1 t1).prs hq k2 t2, fun t d3 H3 k3 t3 r3 rv3 => ⟨v, u, t, rfl, n _ _ H3 (hp d1 d2 d3 r1 r2 r3) ((((((F.prs hq k1 t1).prs hq k2 t2).prs hq k3 t3).set (sl := .dat d1) hli (Rp.mono (keep_tle k3 t2) _ (Rp.mono (keep_tle k2 t1) _ rv1)) rfl).set (sl := .dat d2) (by rw [List.length_set]; exact hlj) (Rp.mono (keep_tle k3 t2) _ rv2) rfl).set (sl := .dat d3) (by rw [List.length_set, List.length_set]; exact hll) rv3 rfl)⟩⟩⟩⟩
/-- a, b = e, f that may change the purse -/
theorem hs_parF {px py pt : Pos} {kt k2 : Nat} {pt2 : Pos} (q i j : Nat) (nd : X.N.Nodup) (hq : ρ[q]? = some (some (.prs ap))) (hij : i ≠ j) (ha : PF X C ρ ap a R1) (hb : PF X C ρ ap b R2') (hp : ∀ d1 d2, R1 d1 → R2' d2 → Post (.nx ((ρ.set i (some (.dat d1))).set j (some (.dat d2))))) (hli : i < ρ.length := by exact Nat.le_of_ble_eq_true rfl) (hlj : j < ρ.length := by exact Nat.le_of_ble_eq_true rfl) (hc : X.calm = true := by rfl) (hi : X.N[i]? = some x := by rfl) (hj : X.N[j]? = some y := by rfl)
    (hx : X.env.scope.names.lookup x = some .local := by rfl) (hy : X.env.scope.names.lookup y = some .local := by rfl) (hsa : starEach [a, b] X.env = (false, eval a X.env) :: starEach [b] X.env := by rfl) (hsb : starEach [b] X.env = (false, eval b X.env) :: starEach [] X.env := by rfl)
    (hw : swappedStores [.Tuple [.Name x px, .Name y py] kt pt] (.Tuple [a, b] k2 pt2) X.env = pure (some [x, y]) := by rfl) (hs : swapsWithSole [.Tuple [.Name x px, .Name y py] kt pt] (.Tuple [a, b] k2 pt2) pos.line X.env = pure false := by rfl) :
    HS X C ρ (.Assign [.Tuple [.Name x px, .Name y py] kt pt] (.Tuple [a, b] k2 pt2) pos) Post := (ps_par hc nd hi hj hij hx hy (pa_cons ha (pa_cons hb pa_nil hsb) hsa) hw hs).weak fun D σ H ⟨H₀, M, F, n, _⟩ =>
  ⟨H₀, M, F, fun v d1 H1 k1 t1 r1 rv1 => ⟨H₀, M, F.prs hq k1 t1, fun u d2 H2 k2 t2 r2 rv2 => ⟨v, u, rfl, n _ _ H2 (hp d1 d2 r1 r2) ((((F.prs hq k1 t1).prs hq k2 t2).set (sl := .dat d1) hli (Rp.mono (keep_tle k2 t1) _ rv1) rfl).set (sl := .dat d2) (by rw [List.length_set]; exact hlj) rv2 rfl)⟩⟩⟩
end
/-- a row of so many selectors -/
def isSel (P : List FM.Sel → Prop) : PyData → Prop := fun d => ∃ l : List FM.Sel, d = .tuple (l.map selD) ∧ P l
def isPro : PyData → Prop := fun d => ∃ n, n ≤ 5 ∧ d = proD n
def OkSp (wd : Int) (sp : FM.Spec) : Prop := (0 ≤ sp.room ∧ sp.room ≤ wd) ∧ sp.sel.length ≤ 3 ∧ sp.pro ≤ 5
def isSp (wd : Int) : PyData → Prop := fun d => ∃ sp, d = spD' sp ∧ OkSp wd sp
def preWords : List Ar → (PyData → Prop) → Prop := fun as R => ∃ m : Nat, as = [.dat (.int m)] ∧ m ≤ 3 ∧ R = isSel (fun l => l.length = m)
def preProm : List Ar → (PyData → Prop) → Prop := fun as R => as = [] ∧ R = isPro
def preSpec : List Ar → (PyData → Prop) → Prop := fun as R => ∃ wd : Int, as = [.dat (.int wd)] ∧ 0 ≤ wd ∧ wd ≤ 3 ∧ R = isSp wd
def preNear : List Ar → (PyData → Prop) → Prop := fun as R => ∃ (wd : Int) (sp : FM.Spec), as = [.dat (spD' sp), .dat (.int wd)] ∧ 0 ≤ wd ∧ wd ≤ 3 ∧ OkSp wd sp ∧ R = isSp wd
theorem sels_of : ∀ {ds : List PyData}, (∀ d ∈ ds, ∃ w : FM.Sel, d = selD w) → ∃ l : List FM.Sel, ds = l.map selD
  | [], _ => ⟨[], rfl⟩
  | d :: ds, h => by
    obtain ⟨w, rfl⟩ := h d List.mem_cons_self
    obtain ⟨l, rfl⟩ := sels_of fun e he => h e (List.mem_cons_of_mem _ he)
    exact ⟨w :: l, rfl⟩
theorem cutL_map {α β : Type} (f : α → β) (l : List α) (lo hi : Option Int) : cutL (l.map f) lo hi = (cutL l lo hi).map f := by
  unfold cutL
  rw [List.length_map, List.map_take, List.map_drop]
theorem cutL_len {α : Type} (l : List α) (lo hi : Option Int) : (cutL l lo hi).length ≤ l.length := by
  unfold cutL
  rw [List.length_take, List.length_drop]; omega
theorem cutL_3 {α : Type} (l : List α) : (cutL l none (some 3)).length ≤ 3 := by
  unfold cutL
  have h2 : HT.sIx l.length l.length (some 3) ≤ 3 := by unfold HT.sIx; simp; omega
  rw [List.length_take]
  omega
section
variable {P : Program} {w : World} {K : PySem.W.Frag} {mg : Str → Option Value} {base : Heap} {C : Addr}
theorem df_L_words (A : FnAt K mg "_law_words" s_L_words) (T : Tx K mg C) (Gp : DfP P w K mg base C "_law_pick" 1 prePick) : DfP P w K mg base C "_law_words" 2 preWords := by
  refine dfP_of A sc_L_words (fun as r h => ?_) (fun as R h => ?_) (fun _ _ _ _ _ _ us hl => match us, hl with | [_, _], _ => rfl) (fun a f cdv A outer s H E hr as R h => ?_)
  · obtain ⟨_, rfl, _⟩ := h; rfl
  · obtain ⟨_, rfl, _⟩ := h; intro ar har; simp at har; exact ⟨_, har⟩
  · obtain ⟨m, rfl, hm, rfl⟩ := h
    have nd := sc_L_words.nd
    refine hss_cons (hs_setN (ds := [FM.Sel.new, .late, .low, .high, .untold].map selD) 2 nd (pn_lst (pds_cons pd_str (pds_cons pd_str (pds_cons pd_str (pds_cons pd_str (pds_cons pd_str pds_nil)))))) ?_)
    refine hss_cons (hs_retF (R := isSel fun l => l.length = m) (pf_imp (pf_toTup T.tuple_ (pn_lcF (R := fun d => d ∈ [FM.Sel.new, .late, .low, .high, .untold].map selD) (xs := FM.rangeM m) (enc := .int) (is := [3]) (own := [("_law_turn", 3)]) 0 rfl (pis_range1 T.range_ (pd_var 1) (by omega) (by omega)) (blkOk_by (N := ["_law_purse_here", "_law_many", "_law_menu", "_law_turn"]) (sc := defScope s_L_words) (by decide +kernel)) nd (fun _ _ _ _ _ => pg_name (i := 3) nd rfl (.inl rfl)) (sz_le (by rw [rangeM_len]; omega)) (by simp [rho0])
      (fun z _ => ⟨[.int z], gb_name, fun _ _ _ _ _ => pf_ixV 0 2 rfl rfl (pf_imp (pf_call 0 Gp (hr.mono (by decide)) rfl (ga_d pd_int ga_nil) ⟨5, rfl, by decide, by decide, rfl⟩) (fun d ⟨n, e, h1, h2⟩ => ⟨n, e, h1, h2⟩))⟩))) (fun d hd => ?_)) (fun d hd => ⟨rfl, hd⟩) ⟨0, rfl⟩)
    obtain ⟨ds, rfl, h1, h2⟩ := hd
    obtain ⟨l, rfl⟩ := sels_of (ds := ds) fun d hd => by
      obtain ⟨w, _, rfl⟩ := List.mem_map.mp (h1 d hd)
      exact ⟨w, rfl⟩
    rw [List.length_map, rangeM_len] at h2
    exact ⟨l, rfl, h2⟩
theorem df_L_prom (A : FnAt K mg "_law_promises" s_L_promises) (T : Tx K mg C) (Gp : DfP P w K mg base C "_law_pick" 1 prePick) : DfP P w K mg base C "_law_promises" 2 preProm := by
  refine dfP_of A sc_L_promises (fun as r h => ?_) (fun as R h => ?_) (fun _ _ _ _ _ _ us hl => match us, hl with | [_], _ => rfl) (fun a f cdv A outer s H E hr as R h => ?_)
  · obtain ⟨rfl, _⟩ := h; rfl
  · obtain ⟨rfl, _⟩ := h; intro ar har; simp at har
  · obtain ⟨rfl, rfl⟩ := h
    refine hss_cons (hs_retF (R := isPro) (pf_imp (pf_ixN (ds := [proD 0, proD 1, proD 2, proD 3, proD 4, proD 5]) 0 rfl (pn_lst (pds_cons (pd_tup pds_nil) (pds_cons (pd_tup (pds_cons pd_str pds_nil)) (pds_cons (pd_tup (pds_cons pd_str pds_nil)) (pds_cons (pd_tup (pds_cons pd_str (pds_cons pd_str pds_nil))) (pds_cons (pd_tup (pds_cons pd_str (pds_cons pd_str pds_nil))) (pds_cons (pd_tup (pds_cons pd_str pds_nil)) pds_nil)))))))
      (pf_imp (pf_call 0 Gp (hr.mono (by decide)) rfl (ga_d pd_int ga_nil) ⟨6, rfl, by decide, by decide, rfl⟩) (fun d ⟨n, e, h1, h2⟩ => ⟨n, e, h1, h2⟩))) (fun d hd => ?_)) (fun d hd => ⟨rfl, hd⟩) ⟨0, rfl⟩)
    simp only [List.mem_cons, List.not_mem_nil, or_false] at hd
    rcases hd with rfl | rfl | rfl | rfl | rfl | rfl
    · exact ⟨0, by decide, rfl⟩
    · exact ⟨1, by decide, rfl⟩
    · exact ⟨2, by decide, rfl⟩
    · exact ⟨3, by decide, rfl⟩
    · exact ⟨4, by decide, rfl⟩
    · exact ⟨5, by decide, rfl⟩
theorem df_L_spec (A : FnAt K mg "_law_spec" s_L_spec) (T : Tx K mg C) (Gp : DfP P w K mg base C "_law_pick" 1 prePick) (Gw : DfP P w K mg base C "_law_words" 2 preWords) (Gq : DfP P w K mg base C "_law_promises" 2 preProm) : DfP P w K mg base C "_law_spec" 3 preSpec := by
  refine dfP_of A sc_L_spec (fun as r h => ?_) (fun as R h => ?_) (fun _ _ _ _ _ _ us hl => match us, hl with | [_, _], _ => rfl) (fun a f cdv A outer s H E hr as R h => ?_)
  · obtain ⟨_, rfl, _⟩ := h; rfl
  · obtain ⟨_, rfl, _⟩ := h; intro ar har; simp at har; exact ⟨_, har⟩
  · obtain ⟨wd, rfl, h0, h1, rfl⟩ := h
    have nd := sc_L_spec.nd
    refine hss_cons (hs_parF3 (R1 := fun d => ∃ k, d = .bool k) (R2' := isI fun i => 0 ≤ i ∧ i < wd + 1) (R3 := isI fun i => 0 ≤ i ∧ i < 4) 0 2 3 4 nd rfl (by decide) (by decide) (by decide) (by decide) (by decide)
      (pf_eqC 0 rfl (pf_call 0 Gp (hr.mono (by decide)) rfl (ga_d pd_int ga_nil) ⟨4, rfl, by decide, by decide, rfl⟩) pd_int)
      (pf_call 0 Gp (hr.mono (by decide)) rfl (ga_d (pd_add (pd_var 1) pd_int) ga_nil) ⟨wd + 1, rfl, by omega, by omega, rfl⟩)
      (pf_call 0 Gp (hr.mono (by decide)) rfl (ga_d pd_int ga_nil) ⟨4, rfl, by decide, by decide, rfl⟩) (fun d1 d2 d3 q1 q2 q3 => ?_))
    obtain ⟨once, rfl⟩ := q1
    obtain ⟨room, rfl, r0, r1⟩ := q2
    obtain ⟨many, rfl, m0, m1⟩ := q3
    obtain ⟨mn, rfl⟩ : ∃ mn : Nat, many = mn := ⟨many.toNat, by omega⟩
    show HSs _ C [some (.prs a), some (.dat (.int wd)), some (.dat (.bool once)), some (.dat (.int room)), some (.dat (.int mn))] _ _
    refine hss_cons (hs_retF (R := isSp wd) (pf_imp (pf_tup (pfs_cons 0 rfl (pf_of (R := fun d => d = .int room) 0 (pd_var 3) rfl rfl) (pfs_cons 0 rfl (pf_call 0 Gw (hr.mono (by decide)) rfl (ga_d (pd_var 4) ga_nil) ⟨mn, rfl, by omega, rfl⟩) (pfs_cons 0 rfl (pf_call 0 Gq (hr.mono (by decide)) rfl ga_nil ⟨rfl, rfl⟩) (pfs_cons 0 rfl (pf_of (R := fun d => d = .bool once) 0 (pd_var 2) rfl rfl) (pfs_nil 0 rfl))))) (fun ds hd => ?_)) (fun d hd => ?_)) (fun d hd => ⟨rfl, hd⟩) ⟨0, rfl⟩)
    · obtain ⟨_, _, rfl, _, _, _, rfl, _, _, _, rfl, _, _, _, rfl, _, rfl⟩ := hd
      exact Nat.le_of_ble_eq_true rfl
    · obtain ⟨ds, rfl, d1, _, rfl, rfl, d2, _, rfl, ⟨l, rfl, hl⟩, d3, _, rfl, ⟨n, hn, rfl⟩, d4, _, rfl, rfl, rfl⟩ := hd
      exact ⟨⟨room, l, n, once⟩, rfl, ⟨by show 0 ≤ room; omega, by show room ≤ wd; omega⟩, by show l.length ≤ 3; omega, hn⟩
end
end FB
end

section
set_option Elab.async false
set_option linter.all false
set_option maxRecDepth 100000
set_option maxHeartbeats 4000000
/-! _law_near, _law_purse, _law_number. -/
namespace FB
open PySem L2
section
variable {X : Cx} {C : Addr} {ρ : Rho} {a b : Expr} {lo hi : Option Expr} {ol oh : Option Int} {ds : List PyData} {d : PyData} {i : Int} {pos p2 : Pos} {x : Str}
def RK (X : Cx) (ds : List PyData) : Hp → V → Prop := fun H v => ∃ a vs, v = .ref a ∧ SqF X.K H a vs ∧ RpA X.K H vs ds
theorem RK.stay : Stay (RK X ds) := fun H H' v s ⟨a, vs, e, h1, h2⟩ => ⟨a, vs, e, h1.keep fun o u q => s _ _ q, RpA.mono (Same.tle s) ds h2⟩
theorem pk_var (i : Nat) (h : ρ[i]? = some (some (.kl ds)) := by rfl) (hN : X.N[i]? = some x := by rfl) (hv : Vis X.env.scope x := by first | exact Or.inl rfl | exact Or.inr (Or.inl rfl) | exact Or.inr (Or.inr rfl)) (hd : (x == ("__debug__" : Str)) = false := by decide)
    (hcd : (x == ("__classdict__" : Str)) = false := by decide) : PE X (.Name x pos) (tV X C ρ (RK X ds)) := (pe_var hN hv hd hcd).weak fun σ H Q ⟨H₀, M, F, q⟩ => by
  obtain ⟨v, e, r⟩ := F.slot i _ h
  exact ⟨v, e, q v H (Same.refl H) r⟩
theorem ps_k (h : PE X a (tV X C ρ (RK X ds))) : PE X a (tV X C ρ (RS X ds)) := pv_imp h fun H v ⟨a, vs, e, h, r⟩ => ⟨a, vs, e, .inl h.sq, r⟩
theorem pd_ixK (ha : PE X a (tV X C ρ (RK X ds))) (hb : PD X C ρ b (.int i)) (h : atI ds i = some d) (hs : PlainIx b := by exact fun _ _ => rfl) : PD X C ρ (.Subscript a b pos) d := (pe_ix ix_list ha hb hs).weak fun σ H Q ⟨H₀, M, F, q⟩ =>
  ⟨H₀, M, F, fun x H1 s1 r1 => ⟨H₀, M, F.same s1, fun y H2 s2 r2 => by
    obtain ⟨p, xs, rfl, hx, rx⟩ := RK.stay _ _ _ s2 r1
    obtain ⟨v, hv, rv⟩ := atI_rel rx h
    exact ⟨p, xs, i, v, rfl, Rp.int_iff.mp r2, hx.sq, hv, q v H2 (s1.trans s2) rv⟩⟩⟩
theorem pn_sliceK (ha : PE X a (tV X C ρ (RK X ds))) (hl : POd X C ρ lo ol) (hh : POd X C ρ hi oh) : PN X C ρ (.Subscript a (.Slice lo hi none p2) pos) (cutL ds ol oh) := (pe_slice sl_list ha hl hh).weak fun σ H Q ⟨H₀, M, F, q⟩ =>
  ⟨H₀, M, F, fun x H1 s1 r1 => ⟨H₀, M, F.same s1, fun H2 s2 => ⟨H₀, M, (F.same s1).same s2, fun H3 s3 => by
    obtain ⟨p, xs, rfl, hx, rx⟩ := RK.stay _ _ _ (s2.trans s3) r1
    refine ⟨p, xs, rfl, hx.sq, fun n hn => ?_⟩
    exact q n _ _ (((s1.trans s2).trans s3).trans (same_new hn)) (((s1.trans s2).trans s3).free hn) upd_same (RpA.mono (Same.tle (same_new hn)) _ (cut_rel rx))⟩⟩⟩
end
theorem ga_k {X : Cx} {C : Addr} {ρ : Rho} {e : Expr} {rest : List Expr} {as : List Ar} {ds : List PyData} (h : PE X e (tV X C ρ (RK X ds))) (t : PGs' X C ρ rest as) (hs : starEach (e :: rest) X.env = (false, eval e X.env) :: starEach rest X.env := by rfl) : PGs' X C ρ (e :: rest) (.kl ds :: as) := ga_cons (ar := .kl ds) h t hs
def preLPurse : List Ar → Rt → Prop := fun as r => ∃ c : Int, as = [.dat (.int c)] ∧ r = .lst [.int (c % 2147483587), .int (if decide (c < 0) || decide (10 ^ 18 ≤ c) then (if c < 0 then -c else c) else 0), .int 0]
def mixM (script : List Int) (k : Int) : Int := script.foldl (fun m c => (m * 48271 + c) % 2147483587) ((k * k * 7919 + 104729 * k + 15485863) % 2147483587)
def preNumber : List Ar → Rt → Prop := fun as r => ∃ (script : List Int) (k : Nat), as = [.kl (script.map .int), .dat (.int k)] ∧ k ≤ 4 ∧ r = .dat (.int (match script[k]? with
  | some c => c
  | none => mixM (script.take 4) k))
theorem proD_ok {n : Nat} (h : n ≤ 5) : isPro (proD n) := ⟨n, h, rfl⟩
theorem hs_retSp {X : Cx} {C : Addr} {ρ : Rho} {a : Addr} {wd : Int} {e1 e2 e3 e4 : Expr} {kt : Nat} {pt pos : Pos} {rest : List Stmt} {Post : Fl → Prop} (hi : ρ[0]? = some (some (.prs a))) (hpo : ∀ d, isSp wd d → Post (.rt (.datP a d)))
    (s1 : starEach [e1, e2, e3, e4] X.env = (false, eval e1 X.env) :: starEach [e2, e3, e4] X.env) (s2 : starEach [e2, e3, e4] X.env = (false, eval e2 X.env) :: starEach [e3, e4] X.env) (s3 : starEach [e3, e4] X.env = (false, eval e3 X.env) :: starEach [e4] X.env) (s4 : starEach [e4] X.env = (false, eval e4 X.env) :: starEach [] X.env)
    (g1 : PFI X C ρ a e1 (fun i => 0 ≤ i ∧ i ≤ wd)) (g2 : PF X C ρ a e2 (isSel fun l => l.length ≤ 3)) (g3 : PF X C ρ a e3 isPro) (g4 : PF X C ρ a e4 (fun d => ∃ k, d = .bool k)) : HSs X C ρ (.Return (some (.Tuple [e1, e2, e3, e4] kt pt)) pos   :: rest) Post := by
  refine hss_cons (hs_retF (R := isSp wd) (pf_imp (pf_tup (pfs_cons 0 hi g1 (pfs_cons 0 hi g2 (pfs_cons 0 hi g3 (pfs_cons 0 hi g4 (pfs_nil 0 hi) s4) s3) s2) s1) (fun ds hd => ?_)) (fun d hd => ?_)) hpo ⟨0, hi⟩)
  · obtain ⟨_, _, rfl, _, _, _, rfl, _, _, _, rfl, _, _, _, rfl, _, rfl⟩ := hd
    exact Nat.le_of_ble_eq_true rfl
  · obtain ⟨ds, rfl, d1, _, rfl, ⟨rm, rfl, hrm⟩, d2, _, rfl, ⟨l, rfl, hl⟩, d3, _, rfl, ⟨n, hn, rfl⟩, d4, _, rfl, ⟨o, rfl⟩, rfl⟩ := hd
    exact ⟨⟨rm, l, n, o⟩, rfl, hrm, hl, hn⟩
section
variable {P : Program} {w : World} {K : PySem.W.Frag} {mg : Str → Option Value} {base : Heap} {C : Addr}
theorem df_L_purse (A : FnAt K mg "_law_purse" s_L_purse) (T : Tx K mg C) : Df P w K mg base C "_law_purse" 1 preLPurse := by
  refine df_of A sc_L_purse (fun as r h => ?_) (fun _ _ _ _ _ _ us hl => match us, hl with | [_], _ => rfl) (fun f cdv A outer s H E hr as r h => ?_)
  · obtain ⟨_, rfl, _⟩ := h; rfl
  · obtain ⟨c, rfl, rfl⟩ := h
    have nd := sc_L_purse.nd
    refine hss_cons (hs_set (d := .int (if decide (c < 0) || decide (10 ^ 18 ≤ c) then (if c < 0 then -c else c) else 0)) 1 nd (pv_if (k1 := decide (c < 0) || decide (10 ^ 18 ≤ c)) (pq_w (pw_or' (pq_lt (pd_var 0) pd_int) fun _ => pw_or1' (pq_ge (pd_var 0) (pd_pow pd_int pd_int ⟨by decide, by decide, by decide⟩)))) (fun hc => ?_) fun hc => ?_) ?_)
    · rw [if_pos hc]; exact pd_abs T.abs_ (pd_var 0)
    · rw [if_neg (by rw [hc]; exact Bool.false_ne_true)]; exact pd_int
    · exact hss_cons (hs_retN (pn_lst (pds_cons (pd_mod (pd_toInt T.int_ (pd_var 0)) pd_int (by decide)) (pds_cons (pd_var 1) (pds_cons pd_int pds_nil)))) rfl)
theorem df_L_number (A : FnAt K mg "_law_number" s_L_number) (T : Tx K mg C) : Df P w K mg base C "_law_number" 1 preNumber := by
  refine df_of A sc_L_number (fun as r h => ?_) (fun _ _ _ _ _ _ us hl => match us, hl with | [_, _], _ => rfl) (fun f cdv A outer s H E hr as r h => ?_)
  · obtain ⟨_, _, rfl, _⟩ := h; rfl
  · obtain ⟨script, k, rfl, hk, rfl⟩ := h
    have nd := sc_L_number.nd
    refine hss_cons (hs_if (pq_lt (pd_var 1) (pd_len T.len_ (ps_k (pk_var 0)))) (fun h => ?_) fun h => hss_nil ?_)
    · simp only [List.length_map, decide_eq_true_eq, Int.ofNat_lt] at h
      refine hss_cons (hs_ret (pd_ixK (d := .int script[k]) (pk_var 0) (pd_var 1) (by simp [atI, ixN, h])) ?_)
      show Rt.dat _ = Rt.dat _
      rw [List.getElem?_eq_getElem h]
    · simp only [List.length_map, decide_eq_false_iff_not, Int.ofNat_lt] at h
      rw [List.getElem?_eq_none (by omega)]
      refine hss_cons (hs_set 2 nd (pd_mod (pd_toInt T.int_ (pd_add (pd_add (pd_mul (pd_mul (pd_var 1) (pd_var 1) (.inl (by omega))) pd_int (.inr (by decide))) (pd_mul pd_int (pd_var 1) (.inl (by decide)))) pd_int)) pd_int (by decide)) ?_)
      have hcut : cutL (script.map PyData.int) none (some 4) = (script.take 4).map .int := by
        unfold cutL
        have h1 : HT.sIx (script.map PyData.int).length 0 none = 0 := rfl
        have h2 : HT.sIx (script.map PyData.int).length (script.map PyData.int).length (some 4) = min 4 script.length := by unfold HT.sIx; simp
        rw [h1, h2, List.drop_zero, Nat.sub_zero, ← List.map_take]
        congr 1
        by_cases hl : script.length ≤ 4
        · rw [Nat.min_eq_right hl, List.take_length, List.take_of_length_le hl]
        · rw [Nat.min_eq_left (by omega)]
      refine hss_cons (hs_for (xs := script.take 4) (enc := .int) (is := [3]) (by rw [← hcut]; exact pis_new (pn_sliceK (pk_var 0) pod_none (pod_some pd_int))) (pg_name (i := 3) nd rfl (.inl rfl))
        (fun i ρ => ∃ u, ρ = [some (.kl (script.map .int)), some (.dat (.int k)), some (.dat (.int (mixM ((script.take 4).take i) k))), u]) ⟨none, rfl⟩ (fun i z ρ' hz' hR => ?_) (fun ρ' hR => ?_))
      · obtain ⟨u, rfl⟩ := hR
        refine ⟨[.int z], gb_name, by simp, ?_⟩
        have hfold : mixM ((script.take 4).take (i + 1)) k = (mixM ((script.take 4).take i) k * 48271 + z) % 2147483587 := by
          unfold mixM
          rw [List.take_add_one, hz', Option.toList_some, List.foldl_append]; rfl
        rw [hfold]
        show HSs _ C [some (.kl (script.map .int)), some (.dat (.int k)), some (.dat (.int (mixM ((script.take 4).take i) k))), some (.dat (.int z))] _ _
        exact hss_cons (hs_set 2 nd (pd_mod (pd_toInt T.int_ (pd_add (pd_mul (pd_var 2) pd_int (.inr (by decide))) (pd_var 3))) pd_int (by decide)) (hss_nil ⟨_, rfl⟩))
      · obtain ⟨u, rfl⟩ := hR
        rw [List.take_length]
        exact hss_cons (hs_ret (pd_var 2) rfl)
theorem df_L_near (A : FnAt K mg "_law_near" s_L_near) (T : Tx K mg C) (Gp : DfP P w K mg base C "_law_pick" 1 prePick) (Gw : DfP P w K mg base C "_law_words" 2 preWords) (Gq : DfP P w K mg base C "_law_promises" 2 preProm) : DfP P w K mg base C "_law_near" 3 preNear := by
  refine dfP_of A sc_L_near (fun as r h => ?_) (fun as R h => ?_) (fun _ _ _ _ _ _ us hl => match us, hl with | [_, _, _], _ => rfl) (fun a f cdv A outer s H E hr as R h => ?_)
  · obtain ⟨_, _, rfl, _⟩ := h; rfl
  · obtain ⟨_, _, rfl, _⟩ := h; intro ar har
    simp at har
    rcases har with rfl | rfl
    · exact ⟨_, rfl⟩
    · exact ⟨_, rfl⟩
  · obtain ⟨wd, sp, rfl, h0, h1, ⟨⟨r0, r1⟩, r2, r3⟩, rfl⟩ := h
    have nd := sc_L_near.nd
    obtain ⟨room, sel, pro, once⟩ := sp
    dsimp only at r0 r1 r2 r3
    refine hss_cons (hs_unp (is := [3, 4, 5, 6]) (ds := [.int room, .tuple (sel.map selD), proD pro, .bool once]) (pd_var 1) (pg_tup rfl (pgs_cons (pg_name (i := 3) nd rfl (.inl rfl)) (pgs_cons (pg_name (i := 4) nd rfl (.inl rfl)) (pgs_cons (pg_name (i := 5) nd rfl (.inl rfl)) (pgs_cons (pg_name (i := 6) nd rfl (.inl rfl)) pgs_nil))))) gb_tup (by simp [rho0]) ?_)
    refine hss_cons (hs_parF (R1 := isI fun i => 0 ≤ i ∧ i < 8) (R2' := isI fun i => 0 ≤ i ∧ i < 3) 0 7 8 nd rfl (by decide) (pf_call 0 Gp (hr.mono (by decide)) rfl (ga_d pd_int ga_nil) ⟨8, rfl, by decide, by decide, rfl⟩) (pf_call 0 Gp (hr.mono (by decide)) rfl (ga_d pd_int ga_nil) ⟨3, rfl, by decide, by decide, rfl⟩) (fun d1 d2 q1 q2 => ?_))
    obtain ⟨way, rfl, w0, w1⟩ := q1
    obtain ⟨at_, rfl, a0, a1⟩ := q2
    refine hss_cons (hs_setF (R := isSel fun l => l.length = 3) 9 0 nd rfl (pf_call 0 Gw (hr.mono (by decide)) rfl (ga_d pd_int ga_nil) ⟨3, rfl, by decide, rfl⟩) (fun d hd => ?_))
    obtain ⟨some_, rfl, hs3⟩ := hd
    show HSs _ C [some (.prs a), some (.dat (spD' ⟨room, sel, pro, once⟩)), some (.dat (.int wd)), some (.dat (.int room)), some (.dat (.tuple (sel.map selD))), some (.dat (proD pro)), some (.dat (.bool once)), some (.dat (.int way)), some (.dat (.int at_)), some (.dat (.tuple (some_.map selD)))] _ _
    have gq : ∀ {p1 p2 pos : Pos}, PF (bX P w K mg base ["_law_purse_here", "_law_spec_here", "_law_wide", "_law_room", "_law_words_here", "_law_promises_here", "_law_once", "_law_way", "_law_at", "_law_some"] "_law_near" (defScope s_L_near) f cdv A outer s H E) C [some (.prs a), some (.dat (spD' ⟨room, sel, pro, once⟩)), some (.dat (.int wd)), some (.dat (.int room)), some (.dat (.tuple (sel.map selD))), some (.dat (proD pro)), some (.dat (.bool once)), some (.dat (.int way)), some (.dat (.int at_)), some (.dat (.tuple (some_.map selD)))] a (.Call (.Name "_law_promises" p1) [.Name "_law_purse_here" p2] [] pos) isPro := pf_call 0 Gq (hr.mono (by decide)) rfl ga_nil ⟨rfl, rfl⟩
    refine hss_cons (hs_if (pq_eqI (pd_var 7) pd_int) (fun _ => hs_retSp (wd := wd) rfl (fun d hd => ⟨rfl, hd⟩) rfl rfl rfl rfl (pf_imp (pf_call 0 Gp (hr.mono (by decide)) rfl (ga_d (pd_add (pd_var 2) pd_int) ga_nil) ⟨wd + 1, rfl, by omega, by omega, rfl⟩) (fun d ⟨n, e, h1, h2⟩ => ⟨n, e, h1, by omega⟩)) (pf_of 0 (pd_var 4) rfl ⟨sel, rfl, r2⟩) gq (pf_of 0 (pd_var 6) rfl ⟨once, rfl⟩)) fun _ => hss_nil ?_)
    refine hss_cons (hs_if (pq_eqI (pd_var 7) pd_int) (fun _ => hs_retSp (wd := wd) rfl (fun d hd => ⟨rfl, hd⟩) rfl rfl rfl rfl (pfi_of 0 (pd_var 3) rfl ⟨r0, r1⟩) (pf_of 0 (pd_var 4) rfl ⟨sel, rfl, r2⟩) gq (pf_of 0 (pd_not (pd_var 6)) rfl ⟨_, rfl⟩)) fun _ => hss_nil ?_)
    refine hss_cons (hs_if (pq_eqI (pd_var 7) pd_int) (fun _ => hs_retSp (wd := wd) rfl (fun d hd => ⟨rfl, hd⟩) rfl rfl rfl rfl (pfi_of 0 (pd_var 3) rfl ⟨r0, r1⟩) (pf_of 0 (pd_var 9) rfl ⟨some_, rfl, by omega⟩) (pf_of 0 (pd_var 5) rfl (proD_ok r3)) (pf_of 0 (pd_var 6) rfl ⟨once, rfl⟩)) fun _ => hss_nil ?_)
    refine hss_cons (hs_if (pq_eqI (pd_var 7) pd_int) (fun _ => hs_retSp (wd := wd) rfl (fun d hd => ⟨rfl, hd⟩) rfl rfl rfl rfl (pfi_of 0 (pd_var 3) rfl ⟨r0, r1⟩) (pf_of 0 (pd_revT (pd_var 4)) rfl ⟨sel.reverse, by rw [List.map_reverse], by show sel.reverse.length ≤ 3; rw [List.length_reverse]; exact r2⟩) (pf_of 0 (pd_var 5) rfl (proD_ok r3)) (pf_of 0 (pd_var 6) rfl ⟨once, rfl⟩)) fun _ => hss_nil ?_)
    refine hss_cons (hs_if (pq_eqI (pd_var 7) pd_int) (fun _ => hs_retSp (wd := wd) rfl (fun d hd => ⟨rfl, hd⟩) rfl rfl rfl rfl (pfi_of 0 (pd_var 3) rfl ⟨r0, r1⟩) (pf_of 0 (pd_sliceT (pd_var 4) pod_none (pod_some (pd_var 8))) rfl ⟨cutL sel none (some at_), by rw [cutL_map], Nat.le_trans (cutL_len _ _ _) r2⟩) gq (pf_of 0 (pd_var 6) rfl ⟨once, rfl⟩)) fun _ => hss_nil ?_)
    refine hss_cons (hs_if (pq_eqI (pd_var 7) pd_int) (fun _ => hs_retSp (wd := wd) rfl (fun d hd => ⟨rfl, hd⟩) rfl rfl rfl rfl (pfi_of 0 (pd_var 3) rfl ⟨r0, r1⟩) (pf_of 0 (pd_sliceT (pd_cat (pd_var 4) (pd_var 9) (sz_le (by rw [List.length_map, List.length_map]; omega))) pod_none (pod_some pd_int)) rfl ⟨cutL (sel ++ some_) none (some 3), by rw [← List.map_append, cutL_map], cutL_3 _⟩) (pf_of 0 (pd_var 5) rfl (proD_ok r3)) (pf_of 0 (pd_var 6) rfl ⟨once, rfl⟩)) fun _ => hss_nil ?_)
    have c1 := cutL_len sel none (some at_)
    have c2 := cutL_len some_ none (some 1)
    have c3 := cutL_len sel (some (at_ + 1)) none
    exact hs_retSp (wd := wd) rfl (fun d hd => ⟨rfl, hd⟩) rfl rfl rfl rfl (pfi_of 0 (pd_var 3) rfl ⟨r0, r1⟩) (pf_of 0 (pd_sliceT (pd_cat (pd_cat (pd_sliceT (pd_var 4) pod_none (pod_some (pd_var 8))) (pd_sliceT (pd_var 9) pod_none (pod_some pd_int)) (sz_le (by rw [cutL_map, cutL_map, List.length_map, List.length_map]; omega))) (pd_sliceT (pd_var 4) (pod_some (pd_add (pd_var 8) pd_int)) pod_none) (sz_le (by rw [List.length_append, cutL_map, cutL_map, cutL_map, List.length_map, List.length_map, List.length_map]; omega))) pod_none (pod_some pd_int)) rfl ⟨cutL (cutL sel none (some at_) ++ cutL some_ none (some 1) ++ cutL sel (some (at_ + 1)) none) none (some 3), by rw [cutL_map, cutL_map, cutL_map, ← List.map_append, ← List.map_append, cutL_map], cutL_3 _⟩) gq (pf_of 0 (pd_var 6) rfl ⟨once, rfl⟩)
end
end FB
end

section
set_option Elab.async false
set_option linter.all false
set_option maxRecDepth 100000
set_option maxHeartbeats 4000000
/-! enumerate of a tuple. -/
namespace FB
open PySem L2
open AutoSeq1 (wpAny_loadPart')
theorem meets_enumerate_newT (l : Addr) (items : Array Value) (n : Nat) (dct : Option Addr) (sl : Array (Option Value)) :
    Meets (Builtin.«enumerate.__new__» ⟨[.type "enumerate", .ref l], []⟩) (fun _ R s => s.heap.get? l = some { cls := .type "tuple", dict := dct, data := .seq items n, slots := sl } ∧
      R (.ok (.ret (.ref (s.heap.push { cls := .type "tuple_iterator", data := .fields #[.ref l, .int 0 0] }).objs.size)))
        { s with heap := (s.heap.push { cls := .type "tuple_iterator", data := .fields #[.ref l, .int 0 0] }).push { cls := .type "enumerate", data := .fields #[.none, .bool false, .ref s.heap.objs.size, rawInt 0, .none, .none] } }) :=
  .of_wp fun prog w A R s h => by
    obtain ⟨hp, g, d, tk, os⟩ := s; obtain ⟨hl, h⟩ := h
    have hsub := sub_enumerate
    have hL : Heap.IsTuple (Shared.heap ⟨hp, g, d, tk, os⟩) l items := ⟨_, hl, rfl, n, rfl⟩
    wp_walk using wpAny_loadPart' hl
    refine wpAny_stack_any fun st => wpAny_pure ?_
    split
    · rename_i c _ _ _ _ _
      cases (c == Value.type "enumerate")
      · wp_walk using wpAny_loadPart' hl, wpAny_pyIter_tuple hL
        exact ⟨_, rfl, h⟩
      · wp_walk using wpAny_loadPart' hl, wpAny_pyIter_tuple hL
        exact ⟨_, rfl, h⟩
    · wp_walk using wpAny_loadPart' hl, wpAny_pyIter_tuple hL
      exact ⟨_, rfl, h⟩
section
variable {prog : Program} {w : World} {A : Around} {E : Value → Shared → Prop} {s : Shared}
theorem call_enumerate_tuple {l : Addr} {items : Array Value} {Q : Value → Shared → Prop} (hL : s.heap.IsTuple l items)
    (h : ∀ h', IsEnum h' (s.heap.objs.size + 1) s.heap.objs.size 0 .none → h'.IsTupleIter s.heap.objs.size l 0 → h'.objs.size = s.heap.objs.size + 2 →
      (∀ b o, s.heap.get? b = some o → h'.get? b = some o) → Q (.ref (s.heap.objs.size + 1)) { s with heap := h' }) :
    wpAny (model prog w) A (call (.type "enumerate") [.ref l]) Q E s := by
  obtain ⟨⟨c, dct, dt, sl⟩, hl, hc, n, hd⟩ := hL
  replace hc : c = .type "tuple" := hc
  replace hd : dt = .seq items n := hd
  subst hc hd
  refine callType_new F.called_enumerate (by decide) (F.typeCall_enumerate_1 _) (F.newCall_enumerate_1 _) (fun obj => F.args_object_init_2 obj _) F.entry_enumerate_new
    (meets_enumerate_newT l items n dct sl) ⟨hl, ?_⟩
  have hz : (s.heap.push { cls := .type "tuple_iterator", data := .fields #[.ref l, .int 0 0] }).objs.size = s.heap.objs.size + 1 := Heap.size_push ..
  show _ ∧ _
  rw [hz]
  have he : IsEnum ((s.heap.push { cls := .type "tuple_iterator", data := .fields #[.ref l, .int 0 0] }).push
      { cls := .type "enumerate", data := .fields #[.none, .bool false, .ref s.heap.objs.size, rawInt 0, .none, .none] }) (s.heap.objs.size + 1) s.heap.objs.size 0 .none := by
    have := Heap.get?_push_size (s.heap.push { cls := .type "tuple_iterator", data := .fields #[.ref l, .int 0 0] })
      (o := { cls := .type "enumerate", data := .fields #[.none, .bool false, .ref s.heap.objs.size, rawInt 0, .none, .none] }) rfl
    rw [hz] at this; exact this
  refine ⟨⟨_, he, rfl⟩, h _ he ⟨_, Heap.get?_push_of_some _ (Heap.get?_push_size _ rfl), rfl, rfl⟩ (by rw [Heap.size_push, hz]) fun b o x => Heap.get?_push_of_some _ (Heap.get?_push_of_some _ x)⟩
end
theorem enum_endT {prog : Program} {w : World} {A : Around} {E : Value → Shared → Prop} {s : Shared} {e it l : Addr} {i : Nat} {items : Array Value} {old : Value} {Q : Option Value → Shared → Prop} (hh : A.handled = none)
    (he : IsEnum s.heap e it i old) (hit : s.heap.IsTupleIter it l i) (hl : s.heap.IsTuple l items) (hx : items[i]? = none)
    (hQ : ∀ h', Heap.ExtBut it s.heap h' → Q none { s with heap := h' }) : wpAny (model prog w) A (pyNext (.ref e)) Q E s := by
  have hT : s.TypeIs (.ref e) "enumerate" := ⟨_, he, rfl⟩
  unfold pyNext
  refine wpAny_bind (wpAny_attempt (wpAny_callSpecial?_slot (name := Str.ofString "__next__") hT F.slot_enumerate_next
    (wpAny_call_entry F.slot_enumerate_next hT F.entry_enumerate_next ?_ (F.args_enumerate_next_1 _))))
  show wpAny _ _ (field (.ref e) 2 >>= _) _ _ _
  refine wpAny_bind (wpAny_field he rfl (x := .ref it) rfl ?_)
  refine wpAny_bind (wpAny_nextOf_tuple_end hh hit hl hx fun h' x he' hx' => ?_)
  obtain ⟨o, ho, hc⟩ := hx'
  refine wpAny_bind (wpAny_isInstance (T := "StopIteration") (b := true) ⟨o, ho, hc⟩ isSubtype_stop ?_)
  exact wpAny_pure (hQ _ he')
/-- the tuple at a, each item in a new pair -/
def IteT (K : PySem.W.Frag) (a : Addr) : It :=
  ⟨fun i H => ∃ (xs : List V) (x : V), SqT K H a xs ∧ xs[i]? = some x, fun i H v H' => ∃ T x, v = .ref T ∧ H T = none ∧ H' = upd H T (.tup [.int (i : Nat), x]) ∧ ∀ xs, SqT K H a xs → xs[i]? = some x, fun i H => ∃ xs : List V, SqT K H a xs ∧ xs.length ≤ i⟩
theorem turn_enumT {P : Program} {w : World} {K : PySem.W.Frag} {elts : List Expr} {kk : Nat} {tpos : Pos} (a e it : Addr) (hai : a ≠ it) (hae : e ≠ a) :
    Turn P w K (.Tuple elts kk tpos) (IteT K a) [e, it] e (fun i h => (∃ old, IsEnum h e it ((i : Nat) : Int) old) ∧ h.IsTupleIter it a i ∧ e ≠ it) where
  mem := by simp
  obj := fun i h st b hb => by
    obtain ⟨⟨old, he⟩, ⟨o, ho, hc, hd⟩, _⟩ := st
    have e' : b = e ∨ b = it := by simpa using hb
    rcases e' with z | z
    · rw [z]; exact ⟨_, he, fun v q => nomatch q⟩
    · rw [z]; exact ⟨o, ho, fun v q => by rw [hd] at q; cases q⟩
  keep := fun i h h' st k => let ⟨⟨old, he⟩, hi, hne⟩ := st; ⟨⟨old, k e (by simp) _ he⟩, hi.at fun o q => k it (by simp) o q, hne⟩
  item := by
    intro X hP hw hK hc i pins s σ H E I hf st hg
    subst hP hw hK
    obtain ⟨⟨old, he⟩, hit, hne⟩ := st
    obtain ⟨xs, x, hq, hx⟩ := hg
    obtain ⟨its, rv, p, hz⟩ := I.tuple hq
    obtain ⟨u, hu, ru⟩ := rv.get hx
    have hel : e < s.heap.objs.size := Heap.lt_size he
    have hil : it < s.heap.objs.size := by obtain ⟨_, q, _⟩ := hit; exact Heap.lt_size q
    have D := Draws.tuple (prog := X.prog) (w := X.w) (A := X.A.in1) (I.ok.hd hc) it a hai its.toArray
    have hi : i < its.toArray.size := by
      have := (List.getElem?_eq_some_iff.mp hu).1
      simpa using this
    refine wpAny_pyNext_enum_itemD D he ⟨hit, p⟩ hi hne (by simp [hne, hae]) fun x' h' tk hPx ho hs' hT hsz hk => ?_
    have hxu : x' = u := by
      have e1 : its.toArray[i]? = some x' := hPx
      have e2 : its.toArray[i]? = some u := by simpa using hu
      rw [e1] at e2
      exact Option.some.inj e2
    subst hxu
    obtain ⟨hit', hpl'⟩ := hs'
    refine ⟨_, rfl, wpAny_letOwnedTupleGo_enum (s := { s with heap := h', toks := tk + 1 }) ho fun h'' he' sb => ?_⟩
    have hT2 : h''.get? s.heap.objs.size = some { cls := .type "tuple", data := .seq #[.int i tk, x'] } := (sb.2 _ (Nat.ne_of_gt hel)).trans hT
    have new : ObjOk X.prog X.w (upd H s.heap.objs.size (.tup [.int (i : Nat), x])) h'' s.heap.objs.size (.tup [.int (i : Nat), x]) :=
      ⟨by show 2 ≤ sizeLine; decide, [.int i tk, x'], .cons ⟨_, rfl⟩ (.cons ru .nil), ⟨_, hT2, rfl, _, rfl⟩⟩
    have I1 : Inv X pins σ (upd H s.heap.objs.size (.tup [.int (i : Nat), x])) { s with heap := h'', toks := tk + 1 } :=
      I.turnedNew (ch := [e, it]) (fun b ob hb q => (sb.2 b (fun z => hb (by simp [z]))).trans (hk b ob (fun z => hb (by simp [z])) (fun z => hb (by simp [z])) q)) hf (Nat.le_refl _) new
    refine ⟨.ref s.heap.objs.size, _, I1, rfl, ⟨_, x, rfl, I.hok.fresh (Nat.le_refl _), rfl, fun ys hy => by rw [I.tuple_inj hy hq]; exact hx⟩, ⟨⟨x', ?_⟩, hit'.at fun o q => (sb.2 it (Ne.symm hne)).trans q, hne⟩, fun b hb => ?_⟩
    · have e1 : ((i + 1 : Nat) : Int) = (i : Int) + 1 := by omega
      rw [e1]; exact he'
    · have hb' : b < s.heap.objs.size := by
        have e' : b = e ∨ b = it := by simpa using hb
        rcases e' with z | z
        · rw [z]; exact hel
        · rw [z]; exact hil
      rw [upd_ne (Nat.ne_of_lt hb')]
      exact (hf b hb).1
  done := by
    intro X hP hw hK hc i pins s σ H E I hf st hg
    subst hP hw hK
    obtain ⟨⟨old, he⟩, hit, hne⟩ := st
    obtain ⟨xs, hq, hx⟩ := hg
    obtain ⟨its, rv, p, hz⟩ := I.tuple hq
    obtain ⟨f0, f1, f2, f3, f4, f5⟩ := hf it (by simp)
    have hl := rv.length
    refine enum_endT (I.ok.hd hc) he hit p (by simp; omega) fun h' eb => ⟨rfl, I.turned (t' := s.toks) (fun b o hb q => eb b o hb q) f0 f1 f3 f4 f5⟩
  self := fun A i s Q E st h => let ⟨⟨_, he⟩, _⟩ := st; wpAny_pyIter_enum he h
def iEnumT (K : PySem.W.Frag) (ta : TA) : TI := fun σ H R => ta σ H fun vs H1 => ∃ a xs, vs = [.ref a] ∧ SqT K H1 a xs ∧ R (IteT K a) H1
theorem pi_enumT {X : Cx} {e : Expr} {ta : TA} {p pos tpos : Pos} {elts : List Expr} {kk : Nat} (hg : Gl X "enumerate") (hm : X.mg "enumerate" = none) (ha : PA X [e] ta) (hs : starEach [e] X.env = [(false, eval e X.env)] := by rfl) :
    PI X (.Tuple elts kk tpos) (.Call (.Name "enumerate" p) [e] [] pos) (iEnumT X.K ta) := by
  refine ⟨fun pins s σ H R I h => ?_⟩
  refine PyProof.Rows.Call_ (ld_blt I hg hm PyProof.Rows.boot_enumerate (PyProof.Rows.callWith_type1 (thn (ha.run pos pins s σ H _ I h) fun us s1 ⟨vs, H1, I1, r1, q1⟩ => ?_) hs rfl))
  obtain ⟨a, xs, ex, hq, q⟩ := q1
  subst ex
  cases r1 with
  | cons r rr =>
    cases rr
    cases r
    obtain ⟨its, rv, p', hz⟩ := I1.tuple hq
    have hal : a < s1.heap.objs.size := by obtain ⟨o, ho, _⟩ := p'; exact Heap.lt_size ho
    refine call_enumerate_tuple p' fun h' he hit hsz hk => wpAny_pyIter_enum he ?_
    have I2 : Inv X pins σ H1 { s1 with heap := h' } := I1.kept (t' := s1.toks) hk
    refine ⟨s1.heap.objs.size + 1, [s1.heap.objs.size + 1, s1.heap.objs.size], _, _, H1, rfl, I2, turn_enumT a (s1.heap.objs.size + 1) s1.heap.objs.size (Nat.ne_of_lt hal) (Nat.ne_of_gt (Nat.lt_succ_of_lt hal)), ⟨⟨.none, he⟩, hit, Nat.succ_ne_self _⟩, fun b hb => ?_, q⟩
    have e' : b = s1.heap.objs.size + 1 ∨ b = s1.heap.objs.size := by simpa using hb
    have hle : s1.heap.objs.size ≤ b := by
      rcases e' with z | z
      · rw [z]; exact Nat.le_add_right _ _
      · rw [z]; exact Nat.le_refl _
    exact I1.fpOk hle (I1.hok.fresh hle)
def enumD (ds : List PyData) : List PyData := (List.range ds.length).map fun (i : Nat) => .tuple [.int i, ds.getD i .none]
theorem seq_enumT {K : PySem.W.Frag} {M : List Addr} {H : Hp} {a : Addr} {vs : List V} {ds : List PyData} (h : SqT K H a vs) (r : RpA K H vs ds) : Seq K M H (IteT K a) (enumD ds) where
  go := fun H2 i k t hi => by
    have hi' : i < vs.length := by rw [r.length]; simpa [enumD] using hi
    exact ⟨vs, vs[i], t _ _ h, List.getElem?_eq_getElem hi'⟩
  yld := fun H2 i v H' hi k t ⟨T, x, e, hn, eH, y⟩ => by
    subst e eH
    have hv := y vs (t _ _ h)
    obtain ⟨d, e, rd⟩ := r.get hv
    have hi' : i < ds.length := by simpa [enumD] using hi
    refine ⟨same_new hn, .tuple [.int i, d], ?_, Rp.tup (SqT.of upd_same) (RpA.cons Rp.int (RpA.cons (Rp.mono (Same.tle (same_new hn)) _ (Rp.mono t _ rd)) RpA.nil))⟩
    unfold enumD
    rw [List.getElem?_map, List.getElem?_range hi']
    simp [List.getD_eq_getElem?_getD, e]
  stop := fun H2 k t => ⟨vs, t _ _ h, by rw [r.length]; simp [enumD]⟩
theorem pis_enumT {X : Cx} {C : Addr} {ρ : Rho} {e : Expr} {ds : List PyData} {p pos tpos : Pos} {elts : List Expr} {kk : Nat} (hm : X.mg "enumerate" = none) (h : PD X C ρ e (.tuple ds)) (hg : Gl X "enumerate" := by rfl) (hs : starEach [e] X.env = (false, eval e X.env) :: starEach [] X.env := by rfl) (hs' : starEach [e] X.env = [(false, eval e X.env)] := by rfl) : PIs X C ρ (.Tuple elts kk tpos) (.Call (.Name "enumerate" p) [e] [] pos) (enumD ds) :=
  (pi_enumT hg hm (pa_cons h pa_nil hs) hs').weak fun σ H R ⟨H₀, M, F, q⟩ => ⟨H₀, M, F, fun v H' s hv => by
    obtain ⟨l, vs, rfl, h1, h2⟩ := Rp.tup_iff.mp hv
    exact ⟨l, vs, rfl, h1, q _ H' s fun M' hM => seq_enumT h1 h2⟩⟩
end FB
end

section
set_option Elab.async false
set_option linter.all false
set_option maxRecDepth 100000
set_option maxHeartbeats 4000000
/-! check_selectors, check_promises. -/
namespace FB
open PySem L2
def proW : Nat → List Str
  | 0 => []
  | 1 => ["all"]
  | 2 => ["first"]
  | 3 => ["first", "told"]
  | 4 => ["told", "first"]
  | _ => ["told"]
theorem proD_eq (n : Nat) : proD n = .tuple ((proW n).map .str) := by
  match n with
  | 0 => rfl
  | 1 => rfl
  | 2 => rfl
  | 3 => rfl
  | 4 => rfl
  | n + 5 => rfl
def preSels : List Ar → Rt → Prop := fun as r => ∃ sel : List FM.Sel, as = [.dat (.tuple (sel.map selD))] ∧ sel.length ≤ 3 ∧ r = .dat .none
def prePros : List Ar → Rt → Prop := fun as r => ∃ n : Nat, as = [.dat (proD n)] ∧ r = .dat .none
theorem enumD_get {ds : List PyData} {i : Nat} (h : i < ds.length) : (enumD ds)[i]? = some (.tuple [.int i, ds[i]]) := by
  unfold enumD
  rw [List.getElem?_map, List.getElem?_range h]
  simp [List.getD_eq_getElem?_getD, h]
def sel5 : List Str := ["new", "late", "low", "high", "untold"]
theorem selS_in (w : FM.Sel) : sel5.contains (selS w) = true := by cases w <;> decide +kernel
theorem selD_map (sel : List FM.Sel) : sel.map selD = (sel.map selS).map .str := by rw [List.map_map]; rfl
/-- what the loop of check_promises asks of a word at a place -/
def proBad (ws : List Str) (i : Nat) (w : Str) : Bool := (!(["all", "first", "told"] : List Str).contains w) || (decide ((i : Int) = 1) && (ws.contains "all" || decide (ws.head? = some w)))
theorem pro_len (n : Nat) : (proW n).length ≤ 2 := by
  match n with
  | 0 => exact Nat.le_of_ble_eq_true rfl
  | 1 => exact Nat.le_of_ble_eq_true rfl
  | 2 => exact Nat.le_of_ble_eq_true rfl
  | 3 => exact Nat.le_of_ble_eq_true rfl
  | 4 => exact Nat.le_of_ble_eq_true rfl
  | n + 5 => exact Nat.le_of_ble_eq_true rfl
def proAll (ws : List Str) : Bool := (List.range ws.length).all fun i => !proBad ws i (ws.getD i "")
theorem pro_good (n : Nat) : proAll (proW n) = true := by
  match n with
  | 0 => decide +kernel
  | 1 => decide +kernel
  | 2 => decide +kernel
  | 3 => decide +kernel
  | 4 => decide +kernel
  | n + 5 => show proAll ["told"] = true; decide +kernel
theorem pro_at {n i : Nat} {w : Str} (h : (proW n)[i]? = some w) : proBad (proW n) i w = false := by
  have h1 := pro_good n
  unfold proAll at h1
  rw [List.all_eq_true] at h1
  have hi := (List.getElem?_eq_some_iff.mp h).1
  have := h1 i (List.mem_range.mpr hi)
  rw [List.getD_eq_getElem?_getD, h] at this
  simpa using this
section
variable {X : Cx} {C : Addr} {ρ : Rho} {pos : Pos}
theorem pd_SELS (T : Tx X.K X.mg C) (hg : Gl X "SELECTORS" := by rfl) (hd : (("SELECTORS" : Str) == ("__debug__" : Str)) = false := by decide) : PD X C ρ (.Name "SELECTORS" pos) (.tuple (sel5.map .str)) := by
  obtain ⟨a, o, its, n, h1, h2, h3, h4, h5, h6⟩ := T.sels
  have hl := h6.length
  exact (pe_glob (v := .ref a) hg h1 rfl hd).weak fun σ H Q ⟨H₀, M, F, q⟩ => q _ H (Same.refl H) (Rp.tup (.inr ⟨o, its, n, h2, h3, h4, by simp at hl ⊢; omega, h6⟩) (RpA.strs_iff.mpr rfl))
end
section
variable {P : Program} {w : World} {K : PySem.W.Frag} {mg : Str → Option Value} {base : Heap} {C : Addr}
theorem df_check_selectors (A : FnAt K mg "check_selectors" s_check_selectors) (T : Tx K mg C) : Df P w K mg base C "check_selectors" 1 preSels := by
  refine df_of A sc_check_selectors (fun as r h => ?_) (fun _ _ _ _ _ _ us hl => match us, hl with | [_], _ => rfl) (fun f cdv A outer s H E hr as r h => ?_)
  · obtain ⟨_, rfl, _⟩ := h; rfl
  · obtain ⟨sel, rfl, hz, rfl⟩ := h
    have nd := sc_check_selectors.nd
    obtain ⟨t, ht⟩ := T.mostSel
    refine hss_cons (hs_if (k1 := false) (pq_w (pw_or' (k1 := false) (k2 := false) (pq_not (k1 := true) (pq_val (pd_isi T.isinstance_ (pd_var 0) (pe_ty (T := "tuple") T.tuple_ (by decide +kernel)) (by exact kit_tt)))) fun _ => pw_or1' ?_)) (fun h => by cases h) fun _ => hss_nil ?_)
    · have e : decide ((3 : Int) < ((sel.map selD).length : Int)) = false := by rw [List.length_map, decide_eq_false_iff_not]; omega
      rw [← e]
      exact pq_gt (pd_len T.len_ (ps_tuple (pd_var 0))) (pd_globI ht)
    · refine hss_cons (hs_for (xs := enumD (sel.map selD)) (enc := id) (is := [1, 2]) (by rw [List.map_id]; exact pis_enumT T.enumerate_ (pd_var 0)) (pg_tup rfl (pgs_cons (pg_name (i := 1) nd rfl (.inl rfl)) (pgs_cons (pg_name (i := 2) nd rfl (.inl rfl)) pgs_nil)))
        (fun i ρ => ∃ u v, ρ = [some (.dat (.tuple (sel.map selD))), u, v]) ⟨none, none, rfl⟩ (fun i z ρ' hz' hR => ?_) (fun ρ' hR => ?_))
      · obtain ⟨u, v, rfl⟩ := hR
        have hi : i < (sel.map selD).length := by
          have := (List.getElem?_eq_some_iff.mp hz').1
          simpa [enumD] using this
        rw [enumD_get hi] at hz'
        cases hz'
        have hi' : i < sel.length := by simpa using hi
        have e1 : (sel.map selD)[i] = .str (selS sel[i]) := by rw [List.getElem_map]; rfl
        rw [e1]
        refine ⟨[.int i, .str (selS sel[i])], gb_tup, by simp, ?_⟩
        show HSs _ C [some (.dat (.tuple (sel.map selD))), some (.dat (.int i)), some (.dat (.str (selS sel[i])))] _ _
        refine hss_cons (hs_if (k1 := false) ?_ (fun h => by cases h) fun _ => hss_nil (hss_nil ⟨_, _, rfl⟩))
        have e2 : (!inF (.str (selS sel[i])) (sel5.map .str)) = false := by rw [inF_strs, selS_in]; rfl
        rw [← e2]
        exact pq_notIn (pd_var 2) (ps_tuple (pd_SELS T)) rfl (all_flat_strs _)
      · obtain ⟨u, v, rfl⟩ := hR
        exact hss_nil rfl
theorem df_check_promises (A : FnAt K mg "check_promises" s_check_promises) (T : Tx K mg C) : Df P w K mg base C "check_promises" 1 prePros := by
  refine df_of A sc_check_promises (fun as r h => ?_) (fun _ _ _ _ _ _ us hl => match us, hl with | [_], _ => rfl) (fun f cdv A outer s H E hr as r h => ?_)
  · obtain ⟨_, rfl, _⟩ := h; rfl
  · obtain ⟨n, rfl, rfl⟩ := h
    have nd := sc_check_promises.nd
    have hlen := pro_len n
    have hat : ∀ {i : Nat} {w : Str}, (proW n)[i]? = some w → proBad (proW n) i w = false := pro_at
    rw [proD_eq]
    generalize proW n = ws at hlen hat
    refine hss_cons (hs_if (k1 := false) (pq_w (pw_or' (k1 := false) (k2 := false) (pq_not (k1 := true) (pq_val (pd_isi T.isinstance_ (pd_var 0) (pe_ty (T := "tuple") T.tuple_ (by decide +kernel)) (by exact kit_tt)))) fun _ => pw_or1' ?_)) (fun h => by cases h) fun _ => hss_nil ?_)
    · have e : decide ((2 : Int) < ((ws.map PyData.str).length : Int)) = false := by rw [List.length_map, decide_eq_false_iff_not]; omega
      rw [← e]
      exact pq_gt (pd_len T.len_ (ps_tuple (pd_var 0))) pd_int
    · refine hss_cons (hs_for (xs := enumD (ws.map .str)) (enc := id) (is := [1, 2]) (by rw [List.map_id]; exact pis_enumT T.enumerate_ (pd_var 0)) (pg_tup rfl (pgs_cons (pg_name (i := 1) nd rfl (.inl rfl)) (pgs_cons (pg_name (i := 2) nd rfl (.inl rfl)) pgs_nil)))
        (fun i ρ => ∃ u v, ρ = [some (.dat (.tuple (ws.map .str))), u, v]) ⟨none, none, rfl⟩ (fun i z ρ' hz' hR => ?_) (fun ρ' hR => ?_))
      · obtain ⟨u, v, rfl⟩ := hR
        have hi : i < (ws.map PyData.str).length := by
          have := (List.getElem?_eq_some_iff.mp hz').1
          simpa [enumD] using this
        rw [enumD_get hi] at hz'
        cases hz'
        have hi' : i < ws.length := by simpa using hi
        have e1 : (ws.map PyData.str)[i] = .str ws[i] := by rw [List.getElem_map]
        rw [e1]
        have hb := hat (List.getElem?_eq_getElem hi')
        have hne : ∃ w0 wr, ws = w0 :: wr := by cases ws with
          | nil => simp at hi'
          | cons a b => exact ⟨a, b, rfl⟩
        generalize ws[i] = x at hb
        obtain ⟨w0, wr, hw⟩ := hne
        refine ⟨[.int i, .str x], gb_tup, by simp, ?_⟩
        show HSs _ C [some (.dat (.tuple (ws.map .str))), some (.dat (.int i)), some (.dat (.str x))] _ _
        refine hss_cons (hs_if (k1 := false) ?_ (fun h => by cases h) fun _ => hss_nil (hss_nil ⟨_, _, rfl⟩))
        rw [← hb]
        unfold proBad
        refine pq_w (pw_or' (by rw [← inF_strs]; exact pq_notIn (pd_var 2) (ps_tuple (pd_tup (pds_cons pd_str (pds_cons pd_str (pds_cons pd_str pds_nil))))) rfl rfl) fun _ => pw_or1' (pq_w (pw_and' (pq_eqI (pd_var 1) pd_int) fun _ => pw_and1' (pq_w (pw_or' (by rw [← inF_strs]; exact pq_in pd_str (ps_tuple (pd_var 0)) rfl (all_flat_strs _)) fun _ => pw_or1' ?_)))))
        have e3 : decide (ws.head? = some x) = decide (w0 = x) := by subst hw; rw [Bool.eq_iff_iff]; simp
        rw [e3]
        exact pq_eqS (pd_ixT (ds := ws.map .str) (pd_var 0) pd_int (by subst hw; simp [atI, ixN])) (pd_var 2)
      · obtain ⟨u, v, rfl⟩ := hR
        exact hss_nil rfl
end
end FB
end

section
set_option Elab.async false
set_option linter.all false
set_option maxRecDepth 100000
set_option maxHeartbeats 4000000
/-! Receiver.__init__, _law_made. -/
namespace FB
open PySem L2
/-- a statement that only adds objects -/
def tRaw (X : Cx) (C : Addr) (ρ : Rho) : TS := fun D σ H => ∃ H₀ M, Fr X.prog X.w X.K C H₀ M H ρ σ ∧ ∀ H', Same H H' → D.nx σ H'
section
variable {X : Cx} {C : Addr} {ρ : Rho} {e c : Expr} {d : PyData} {body : List Stmt} {pos : Pos}
theorem raw_if (hc : PQ X C ρ c false) : PS X (.If c body [] pos) (tRaw X C ρ) := (ps_if hc hss_never' pss_nil).weak fun D σ H ⟨H₀, M, F, q⟩ => ⟨H₀, M, F, fun H1 s1 => iteF (q H1 s1)⟩
theorem raw_expr (h : PD X C ρ e d) (hsw : swapsWith e none pos.line X.env = pure false := by rfl) : PS X (.Expr e pos) (tRaw X C ρ) := (ps_expr h hsw).weak fun D σ H ⟨H₀, M, F, q⟩ => ⟨H₀, M, F, fun v H' s _ => q H' s⟩
end
theorem pq_eqV {X : Cx} {C : Addr} {ρ : Rho} {e : Expr} {k k' : Bool} (h : k = k') (q : PQ X C ρ e k) : PQ X C ρ e k' := h ▸ q
/-- self.f = e -/
def tFldR (X : Cx) (C : Addr) (ρ : Rho) (d : PyData) (f : Str) : TS := fun D σ H => ∃ H₀ M x dx fs, Fr X.prog X.w X.K C H₀ M H ρ σ ∧ σ[0]? = some (some (.ref x)) ∧ H x = some (.ins C dx fs) ∧ fs.length < 1000 ∧ ∀ y H', Same H H' → Rp X.K H' y d → D.nx σ (upd H' x (.ins C dx (putF f y fs)))
theorem raw_fld {X : Cx} {C : Addr} {ρ : Rho} {value : Expr} {d : PyData} {f x : Str} {p pos' pos : Pos} (c : Cls X.K C) (n : NoAttr X.K C f) (h : PD X C ρ value d) (hN : X.N[0]? = some x := by rfl) (hv : Vis X.env.scope x := by first | exact Or.inl rfl | exact Or.inr (Or.inl rfl) | exact Or.inr (Or.inr rfl)) (hd : (x == ("__debug__" : Str)) = false := by decide)
    (hcd : (x == ("__classdict__" : Str)) = false := by decide) (hs : swapsWith value (some (.Attribute (.Name x p) f pos')) pos.line X.env = pure false := by rfl) : PS X (.Assign [.Attribute (.Name x p) f pos'] value pos) (tFldR X C ρ d f) :=
  (ps_fld (pe_var hN hv hd hcd) h hs).weak fun D σ H ⟨H₀, M, a, dx, fs, F, e0, hx, hl, q⟩ => ⟨H₀, M, F, fun y H1 s1 ry => ⟨.ref a, e0, a, C, dx, fs, rfl, s1 _ _ hx, c, n, hl, q y H1 s1 ry⟩⟩
theorem put6 (a b c d e f : V) : putF "remembers_told" f (putF "remembers_order" e (putF "is_once" d (putF "own_promises" c (putF "own_selectors" b (putF "own_room" a []))))) = ([("own_room", a), ("own_selectors", b), ("own_promises", c), ("is_once", d), ("remembers_order", e), ("remembers_told", f)] : List (Str × V)) := by
  rfl
open PySem.W in
def sortSD (ns : List Str) : List PyData := (ns.mergeSort (dataLe false fun i : Str => PyData.str i)).map .str
open PySem.W in
theorem pn_sortS {X : Cx} {C : Addr} {ρ : Rho} {e : Expr} {pos p : Pos} {ns : List Str} (hm : X.mg "sorted" = none) (he : PE X e (tV X C ρ (RS X (ns.map .str)))) (hu : X.A.units + 64 < cLine) (hg : Gl X "sorted" := by rfl) (hs : starEach [e] X.env = (false, eval e X.env) :: starEach [] X.env := by rfl) :
    PN X C ρ (.Call (.Name "sorted" p) [e] [] pos) (sortSD ns) := pn_sorted (p := p) (pos := pos) (enc := fun i : Str => PyData.str i) hm he (AllAlike.of fun b b' => by simp [alike]) (Sortable.others fun b => ⟨(fun z => nomatch z), (fun xs z => nomatch z)⟩) (fun b _ => by simp only [PyData.depth]; omega) hg hs
def spInit (K : PySem.W.Frag) (C : Addr) : Sp := fun vs H Q _ => ∃ x dx sp us, vs = .ref x :: us ∧ H x = some (.ins C dx []) ∧ ArsOk K C H us [.dat (.int sp.room), .dat (.tuple (sp.sel.map selD)), .dat (proD sp.pro), .dat (.bool sp.once)] ∧ OkSp 3 sp ∧
  ∀ H' b c, Keep [x] H H' → H' x = some (.ins C dx (rcF sp.room (.ref b) c sp.once (sp.sel.contains .late) (sp.sel.contains .untold || decide (3 ≤ sp.pro)))) → SqT K H' b ((sp.sel.map selS).map V.str) → Q .non H'
def InitAt (K : PySem.W.Frag) (C : Addr) : Prop := ∃ dvs f fd, Mk K C f ∧ dvs.length = 3 ∧ FunD K "__init__" "Receiver.__init__" (defArgs s_R_init) (defBody s_R_init) (defScope s_R_init) dvs [] f fd
/-- the constructor with its promise -/
def DInit (P : Program) (w : World) (K : PySem.W.Frag) (mg : Str → Option Value) (base : Heap) (C : Addr) (k : Nat) : Prop :=
  ∃ f fd ps, Mk K C f ∧ Binds K fd ps [] ∧ FnOk P w K mg base CX0 k f fd ps (spInit K C)
theorem sel_has (sel : List FM.Sel) (w : FM.Sel) (x : Str) (h : ∀ v, decide (selS v = x) = decide (v = w)) : (sel.map selS).contains x = sel.contains w := by
  induction sel with
  | nil => rfl
  | cons a l ih =>
    rw [List.map_cons, List.contains_cons, List.contains_cons, ih]
    congr 1
    have := h a
    rw [Bool.eq_iff_iff] at this ⊢
    simp only [decide_eq_true_eq, beq_iff_eq] at this ⊢
    exact ⟨fun q => (this.mp q.symm).symm, fun q => (this.mpr q.symm).symm⟩
theorem pro_told (n : Nat) (h : n ≤ 5) : (proW n).contains "told" = decide (3 ≤ n) := by
  match n, h with
  | 0, _ => decide +kernel
  | 1, _ => decide +kernel
  | 2, _ => decide +kernel
  | 3, _ => decide +kernel
  | 4, _ => decide +kernel
  | 5, _ => decide +kernel
theorem args4 {K : PySem.W.Frag} {C : Addr} {H : Hp} {us : List V} {a1 a2 a3 a4 : PyData} (h : ArsOk K C H us [.dat a1, .dat a2, .dat a3, .dat a4]) : ∃ u1 u2 u3 u4, us = [u1, u2, u3, u4] ∧ Rp K H u1 a1 ∧ Rp K H u2 a2 ∧ Rp K H u3 a3 ∧ Rp K H u4 a4 := by
  cases us with
  | nil => exact h.elim
  | cons u1 us => cases us with
    | nil => exact h.2.elim
    | cons u2 us => cases us with
      | nil => exact h.2.2.elim
      | cons u3 us => cases us with
        | nil => exact h.2.2.2.elim
        | cons u4 us => cases us with
          | nil => exact ⟨u1, u2, u3, u4, rfl, h.1, h.2.1, h.2.2.1, h.2.2.2.1⟩
          | cons u5 us => exact h.2.2.2.2.elim
section
variable {P : Program} {w : World} {K : PySem.W.Frag} {mg : Str → Option Value} {base : Heap} {C : Addr}
theorem d_init (A : InitAt K C) (T : Tx K mg C) (Gn : Df P w K mg base C "is_number" 2 preNum) (Gs : Df P w K mg base C "check_selectors" 1 preSels) (Gp : Df P w K mg base C "check_promises" 1 prePros) : DInit P w K mg base C 3 := by
  obtain ⟨dvs, f, fd, hM, h3, F⟩ := A
  obtain ⟨ds, hds, hB⟩ := F.binds1 (ps := ["self", "room", "selectors", "promises", "once"]) 5 3 (by intro z; rw [z] at h3; cases h3) (by rw [h3]; rfl) (fun T kV doc pm an cdv ct us its hl hi => by
    match us, hl, its, hi.trans h3 with
    | [_, _, _, _, _], _, [_, _, _], _ => exact ⟨_, rfl, rfl⟩)
  have hd0 : ds = [] := by
    have : dvs.drop 3 = [] := List.drop_eq_nil_of_le (by omega)
    rw [this] at hds
    cases hds; rfl
  subst hd0
  refine ⟨f, fd, _, hM, hB, F.ok sc_R_init (fun vs H Q E h => ?_) fun cdv A outer s H vs Q E hr h => ?_⟩
  · obtain ⟨x, dx, sp, us, rfl, _, ha, _⟩ := h
    rw [List.length_cons, ha.length]; rfl
  · obtain ⟨x, dx, sp, us, rfl, hx, ha, ⟨⟨r0, r1⟩, r2, r3⟩, hQ⟩ := h
    obtain ⟨u1, u2, u3, u4, rfl, a1, a2, a3, a4⟩ : ∃ u1 u2 u3 u4, us = [u1, u2, u3, u4] ∧ Rp K H u1 (.int sp.room) ∧ Rp K H u2 (.tuple (sp.sel.map selD)) ∧ Rp K H u3 (proD sp.pro) ∧ Rp K H u4 (.bool sp.once) := by
      exact args4 ha
    have hρ : ∃ ρ : Rho, ρ = [none, some (.dat (.int sp.room)), some (.dat (.tuple (sp.sel.map selD))), some (.dat (proD sp.pro)), some (.dat (.bool sp.once))] := ⟨_, rfl⟩
    obtain ⟨ρ, eρ⟩ := hρ
    have mk : ∀ H1, TLe K H H1 → Fr P w K C (fun _ => none) [] H1 ρ (L2.start ["self", "room", "selectors", "promises", "once"] [.ref x, u1, u2, u3, u4]) := fun H1 le => by
      subst eρ
      refine ⟨(fun b o e _ => nomatch e), rfl, fun i s e => ?_, fun i j s t v hij e1 e2 e3 _ _ _ => ?_⟩
      · match i, e with
        | 0, e => cases e
        | 1, e => cases e; exact ⟨u1, rfl, Rp.mono le _ a1⟩
        | 2, e => cases e; exact ⟨u2, rfl, Rp.mono le _ a2⟩
        | 3, e => cases e; exact ⟨u3, rfl, Rp.mono le _ a3⟩
        | 4, e => cases e; exact ⟨u4, rfl, Rp.mono le _ a4⟩
        | i + 5, e => simp at e
      · match i, e1 with
        | 0, e => cases e
        | 1, e => cases e; cases e3
        | 2, e => cases e; cases e3
        | 3, e => cases e; cases e3
        | 4, e => cases e; cases e3
        | i + 5, e => simp at e
    obtain ⟨tm, htm⟩ := T.mostRoom
    have hsel : sp.sel.map selD = (sp.sel.map selS).map .str := selD_map sp.sel
    have hpro : proD sp.pro = .tuple ((proW sp.pro).map .str) := proD_eq sp.pro
    subst eρ
    have hu := hr.units
    refine ⟨_, (pss_cons (raw_if (C := C) (ρ := [none, some (.dat (.int sp.room)), some (.dat (.tuple (sp.sel.map selD))), some (.dat (proD sp.pro)), some (.dat (.bool sp.once))]) ?c0) (pss_cons (raw_expr (C := C) (ρ := [none, some (.dat (.int sp.room)), some (.dat (.tuple (sp.sel.map selD))), some (.dat (proD sp.pro)), some (.dat (.bool sp.once))]) (d := .none) ?c1) (pss_cons (raw_expr (C := C) (ρ := [none, some (.dat (.int sp.room)), some (.dat (.tuple (sp.sel.map selD))), some (.dat (proD sp.pro)), some (.dat (.bool sp.once))]) (d := .none) ?c2) (pss_cons (raw_if (C := C) (ρ := [none, some (.dat (.int sp.room)), some (.dat (.tuple (sp.sel.map selD))), some (.dat (proD sp.pro)), some (.dat (.bool sp.once))]) ?c3)
      (pss_cons (raw_fld (ρ := [none, some (.dat (.int sp.room)), some (.dat (.tuple (sp.sel.map selD))), some (.dat (proD sp.pro)), some (.dat (.bool sp.once))]) T.cls T.nRoom (pd_var 1)) (pss_cons (raw_fld (ρ := [none, some (.dat (.int sp.room)), some (.dat (.tuple (sp.sel.map selD))), some (.dat (proD sp.pro)), some (.dat (.bool sp.once))]) T.cls T.nSel (pd_var 2)) (pss_cons (raw_fld (ρ := [none, some (.dat (.int sp.room)), some (.dat (.tuple (sp.sel.map selD))), some (.dat (proD sp.pro)), some (.dat (.bool sp.once))]) (d := .tuple (sortSD (proW sp.pro))) T.cls T.nPro ?c6) (pss_cons (raw_fld (ρ := [none, some (.dat (.int sp.room)), some (.dat (.tuple (sp.sel.map selD))), some (.dat (proD sp.pro)), some (.dat (.bool sp.once))]) T.cls T.nOnce (pd_var 4)) (pss_cons (raw_fld (ρ := [none, some (.dat (.int sp.room)), some (.dat (.tuple (sp.sel.map selD))), some (.dat (proD sp.pro)), some (.dat (.bool sp.once))]) (d := .bool (sp.sel.contains .late)) T.cls T.nOrd ?c8) (pss_cons (raw_fld (ρ := [none, some (.dat (.int sp.room)), some (.dat (.tuple (sp.sel.map selD))), some (.dat (proD sp.pro)), some (.dat (.bool sp.once))]) (d := .bool (sp.sel.contains .untold || decide (3 ≤ sp.pro))) T.cls T.nTld ?c9) pss_nil)))))))))).nox, ?_⟩
    case c0 =>
      have e1 : decide ((3 : Int) < sp.room) = false := by rw [decide_eq_false_iff_not]; omega
      refine pq_w (pw_or' (k1 := false) (k2 := false) (pq_not (k1 := true) (pq_val ?_)) fun _ => pw_or1' (by rw [← e1]; exact pq_gt (pd_var 1) (pd_globI htm)))
      exact pd_call Gn (hr.mono (by decide)) (ga_d (pd_var 1) ga_nil) ⟨sp.room, rfl, by rw [decide_eq_true r0]⟩
    case c1 => exact pd_call Gs (hr.mono (by decide)) (ga_d (pd_var 2) ga_nil) ⟨sp.sel, rfl, r2, rfl⟩
    case c2 => exact pd_call Gp (hr.mono (by decide)) (ga_d (pd_var 3) ga_nil) ⟨sp.pro, rfl, rfl⟩
    case c3 =>
      have e1 : (!decide (sp.once = true) && !decide (sp.once = false)) = false := by cases sp.once <;> rfl
      exact pq_eqV e1 (pq_w (pw_and' (pq_notB (pd_var 4) pd_bool) fun _ => pw_and1' (pq_notB (pd_var 4) pd_bool)))
    case c6 => exact pd_toTup T.tuple_ (pl_new (pn_sortS T.sorted_ (ps_tuple (by rw [← hpro]; exact pd_var 3)) hu))
    case c8 =>
      have e1 : inF (.str "late") ((sp.sel.map selS).map .str) = sp.sel.contains .late := by rw [inF_strs]; exact sel_has _ _ _ sel_late
      rw [← e1]
      exact pd_in pd_str (ps_tuple (by rw [← hsel]; exact pd_var 2)) rfl (all_flat_strs _)
    case c9 =>
      have e1 : inF (.str "untold") ((sp.sel.map selS).map .str) = sp.sel.contains .untold := by rw [inF_strs]; exact sel_has _ _ _ sel_untold
      have e2 : inF (.str "told") ((proW sp.pro).map .str) = decide (3 ≤ sp.pro) := by rw [inF_strs]; exact pro_told _ r3
      rw [← e1, ← e2]
      exact pd_or (pd_in pd_str (ps_tuple (by rw [← hsel]; exact pd_var 2)) rfl (all_flat_strs _)) fun _ => pd_one (pd_in pd_str (ps_tuple (by rw [← hpro]; exact pd_var 3)) rfl (all_flat_strs _))
    have lt : ∀ {H1 H2 : Hp}, TLe K H H1 → Same H1 H2 → TLe K H H2 := fun h s b xs q => Same.tle s b xs (h b xs q)
    have lu : ∀ {H1 : Hp} {fs fs' : List (Str × V)}, TLe K H H1 → H1 x = some (.ins C dx fs) → TLe K H (upd H1 x (.ins C dx fs')) := fun h hx b xs q => upd_tle (fun xs e => by rw [hx] at e; cases e) (fun o u e => by rw [hx] at e; cases e) b xs (h b xs q)
    have ks : ∀ {H1 H2 : Hp}, Keep [x] H H1 → Same H1 H2 → Keep [x] H H2 := fun k s => Keep.trans k (Keep.of s)
    have ku : ∀ {H1 : Hp} {o : HO}, Keep [x] H H1 → Keep [x] H (upd H1 x o) := fun k b o e z => by rw [upd_ne (by simpa using z)]; exact k b o e z
    refine ⟨_, _, mk H (fun _ _ h => h), fun H1 s1 => ⟨_, _, mk H1 (Same.tle s1), fun H2 s2 => ⟨_, _, mk H2 (Same.tle (s1.trans s2)), fun H3 s3 => ⟨_, _, mk H3 (Same.tle ((s1.trans s2).trans s3)), fun H4 s4 => ?_⟩⟩⟩⟩
    have S4 : Same H H4 := ((s1.trans s2).trans s3).trans s4
    have l4 := Same.tle (K := K) S4
    have k4 : Keep [x] H H4 := Keep.of S4
    have x4 : H4 x = some (.ins C dx []) := S4 _ _ hx
    refine ⟨_, _, x, dx, [], mk H4 l4, rfl, x4, by decide, fun y5 H5 s5 r5 => ?_⟩
    have x5 := s5 _ _ x4
    have l5 := lu (fs' := putF "own_room" y5 []) (lt l4 s5) x5
    have k5 := ku (o := .ins C dx (putF "own_room" y5 [])) (ks k4 s5)
    refine ⟨_, _, x, dx, _, mk _ l5, rfl, upd_same, Nat.le_of_ble_eq_true rfl, fun y6 H6 s6 r6 => ?_⟩
    have x6 := s6 _ _ upd_same
    have l6 := lu (fs' := putF "own_selectors" y6 (putF "own_room" y5 [])) (lt l5 s6) x6
    have k6 := ku (o := .ins C dx (putF "own_selectors" y6 (putF "own_room" y5 []))) (ks k5 s6)
    refine ⟨_, _, x, dx, _, mk _ l6, rfl, upd_same, Nat.le_of_ble_eq_true rfl, fun y7 H7 s7 r7 => ?_⟩
    have x7 := s7 _ _ upd_same
    have l7 := lu (fs' := putF "own_promises" y7 (putF "own_selectors" y6 (putF "own_room" y5 []))) (lt l6 s7) x7
    have k7 := ku (o := .ins C dx (putF "own_promises" y7 (putF "own_selectors" y6 (putF "own_room" y5 [])))) (ks k6 s7)
    refine ⟨_, _, x, dx, _, mk _ l7, rfl, upd_same, Nat.le_of_ble_eq_true rfl, fun y8 H8 s8 r8 => ?_⟩
    have x8 := s8 _ _ upd_same
    have l8 := lu (fs' := putF "is_once" y8 (putF "own_promises" y7 (putF "own_selectors" y6 (putF "own_room" y5 [])))) (lt l7 s8) x8
    have k8 := ku (o := .ins C dx (putF "is_once" y8 (putF "own_promises" y7 (putF "own_selectors" y6 (putF "own_room" y5 []))))) (ks k7 s8)
    refine ⟨_, _, x, dx, _, mk _ l8, rfl, upd_same, Nat.le_of_ble_eq_true rfl, fun y9 H9 s9 r9 => ?_⟩
    have x9 := s9 _ _ upd_same
    have l9 := lu (fs' := putF "remembers_order" y9 (putF "is_once" y8 (putF "own_promises" y7 (putF "own_selectors" y6 (putF "own_room" y5 []))))) (lt l8 s9) x9
    have k9 := ku (o := .ins C dx (putF "remembers_order" y9 (putF "is_once" y8 (putF "own_promises" y7 (putF "own_selectors" y6 (putF "own_room" y5 [])))))) (ks k8 s9)
    refine ⟨_, _, x, dx, _, mk _ l9, rfl, upd_same, Nat.le_of_ble_eq_true rfl, fun y10 H10 s10 r10 => ?_⟩
    have x10 := s10 _ _ upd_same
    have l10 := lu (fs' := putF "remembers_told" y10 (putF "remembers_order" y9 (putF "is_once" y8 (putF "own_promises" y7 (putF "own_selectors" y6 (putF "own_room" y5 [])))))) (lt l9 s10) x10
    have k10 := ku (o := .ins C dx (putF "remembers_told" y10 (putF "remembers_order" y9 (putF "is_once" y8 (putF "own_promises" y7 (putF "own_selectors" y6 (putF "own_room" y5 []))))))) (ks k9 s10)
    have e5 := Rp.int_iff.mp r5
    have e8 := Rp.bool_iff.mp r8
    have e9 := Rp.bool_iff.mp r9
    have e10 := Rp.bool_iff.mp r10
    obtain ⟨b, xs, e6, hb, hr6⟩ := Rp.tup_iff.mp r6
    rw [hsel] at hr6
    have exs := RpA.strs_iff.mp hr6
    subst e5 e6 e8 e9 e10 exs
    refine hQ _ b y7 k10 (by rw [put6]; exact upd_same) ?_
    have t6 : TLe K H6 (upd H10 x (.ins C dx (putF "remembers_told" (.bl (sp.sel.contains .untold || decide (3 ≤ sp.pro))) (putF "remembers_order" (.bl (sp.sel.contains .late)) (putF "is_once" (.bl sp.once) (putF "own_promises" y7 (putF "own_selectors" (.ref b) (putF "own_room" (.int sp.room) [])))))))) := by
      have u : ∀ {H1 : Hp} {fs fs' : List (Str × V)}, TLe K H6 H1 → H1 x = some (.ins C dx fs) → TLe K H6 (upd H1 x (.ins C dx fs')) := fun h hx b xs q => upd_tle (fun xs e => by rw [hx] at e; cases e) (fun o u e => by rw [hx] at e; cases e) b xs (h b xs q)
      have w : ∀ {H1 H2 : Hp}, TLe K H6 H1 → Same H1 H2 → TLe K H6 H2 := fun h s b xs q => Same.tle s b xs (h b xs q)
      exact u (w (u (w (u (w (u (w (u (fun _ _ h => h) x6) s7) x7) s8) x8) s9) x9) s10) x10
    exact t6 _ _ hb
end
end FB
end

section
set_option Elab.async false
set_option linter.all false
set_option maxRecDepth 100000
set_option maxHeartbeats 4000000
/-! _law_made, _law_pair_right, _law_right. -/
namespace FB
open PySem L2
def preMade : List Ar → Rt → Prop := fun as r => ∃ sp : FM.Spec, as = [.dat (spD' sp)] ∧ OkSp 3 sp ∧ r = .rcv (rcD sp.rcv)
def OkPair (a b : FM.Spec) : Prop := OkSp 3 a ∧ OkSp 3 b ∧ ((OkSp 2 a ∧ OkSp 2 b) ∨ (a.once = false ∧ b.once = false))
/-- both searches end and agree -/
def PairOk (a b : FM.Spec) : Prop := ∃ (f n : Nat) (res : Option (List FM.Ev)), FM.partF a.rcv b.rcv f 0 [(FM.startM, none)] = some res ∧ FM.lleastM a b = some n ∧
  match res with
  | none => n = 0
  | some row => n ≠ 0 ∧ FM.partedM a b row = true ∧ row.length = n ∧ FewOn a row ∧ FewOn b row ∧ row.length < sizeLine
def resP : Option (List FM.Ev) → PyData
  | none => .none
  | some row => .tuple (row.map evD)
def prePair : List Ar → Rt → Prop := fun as r => ∃ a b : FM.Spec, as = [.dat (spD' a), .dat (spD' b)] ∧ OkSp 3 a ∧ OkSp 3 b ∧ PairOk a b ∧ r = .dat (.bool true)
def preRight : List Ar → (PyData → Prop) → Prop := fun as R => as = [] ∧ R = (fun d => d = .bool true)
section
variable {P : Program} {w : World} {K : PySem.W.Frag} {mg : Str → Option Value} {base : Heap} {C : Addr}
theorem pr_make {X : Cx} {ρ : Rho} {e : Expr} {es : List Expr} {pos p : Pos} {sp : FM.Spec} {k : Nat} (T : Tx X.K X.mg C) (G : DInit X.prog X.w X.K X.mg X.base C k) (hr : Room (k + 1) X.A) (ha : PGs' X C ρ (e :: es) [.dat (.int sp.room), .dat (.tuple (sp.sel.map selD)), .dat (proD sp.pro), .dat (.bool sp.once)]) (ok : OkSp 3 sp)
    (hg : Gl X "Receiver" := by rfl) (hdb : (("Receiver" : Str) == ("__debug__" : Str)) = false := by decide) (he : starEach (e :: es) X.env = (false, eval e X.env) :: starEach es X.env := by rfl) (hpl : (backTo pos (starEach es X.env)).any (·.1) = false := by rfl) : PR X C ρ (.Call (.Name "Receiver" p) (e :: es) [] pos) (rcD sp.rcv) := by
  obtain ⟨f, fd, ps, hM, hB, F⟩ := G
  exact (pe_make hM F hr hg T.rcv hB .nil pass0 ha hdb he hpl).weak fun σ H Q ⟨H₀, M, Fr', q⟩ => ⟨H₀, M, Fr', fun us H1 s1 r1 x dx hx hdx hne => by
    rw [List.append_nil]
    have hxd : x ≠ dx := fun z => hne z.symm
    have s2 : Same H1 (upd (upd H1 dx (.own x)) x (.ins C dx [])) := fun b o e => by
      rw [upd_ne (ne_of_none e hx), upd_ne (ne_of_none e hdx)]; exact e
    refine ⟨x, dx, sp, us, rfl, upd_same, ?_, ok, fun H' b c kp hx' hb => ⟨rfl, ?_⟩⟩
    · obtain ⟨u1, u2, u3, u4, rfl, a1, a2, a3, a4⟩ := args4 r1
      exact ⟨Rp.mono (Same.tle s2) _ a1, Rp.mono (Same.tle s2) _ a2, Rp.mono (Same.tle s2) _ a3, Rp.mono (Same.tle s2) _ a4, True.intro⟩
    · refine q _ H' (fun b o e => ?_) ⟨x, dx, b, c, rfl, hx', hb⟩
      have e1 := s1 b o e
      exact kp b o (s2 b o e1) (by simp only [List.mem_singleton]; exact ne_of_none e1 hx)⟩
theorem df_L_made (A : FnAt K mg "_law_made" s_L_made) (T : Tx K mg C) (G : DInit P w K mg base C 3) : Df P w K mg base C "_law_made" 5 preMade := by
  refine df_of A sc_L_made (fun as r h => ?_) (fun _ _ _ _ _ _ us hl => match us, hl with | [_], _ => rfl) (fun f cdv A outer s H E hr as r h => ?_)
  · obtain ⟨_, rfl, _⟩ := h; rfl
  · obtain ⟨sp, rfl, ok, rfl⟩ := h
    exact hss_cons (hs_retR (pr_make T G hr (ga_d (pd_ixT (ds := [.int sp.room, .tuple (sp.sel.map selD), proD sp.pro, .bool sp.once]) (pd_var 0) pd_int) (ga_d (pd_ixT (ds := [.int sp.room, .tuple (sp.sel.map selD), proD sp.pro, .bool sp.once]) (pd_var 0) pd_int) (ga_d (pd_ixT (ds := [.int sp.room, .tuple (sp.sel.map selD), proD sp.pro, .bool sp.once]) (pd_var 0) pd_int) (ga_d (pd_ixT (ds := [.int sp.room, .tuple (sp.sel.map selD), proD sp.pro, .bool sp.once]) (pd_var 0) pd_int) ga_nil)))) ok) rfl)
theorem df_L_pair (A : FnAt K mg "_law_pair_right" s_L_pair_right) (T : Tx K mg C) (Gm : Df P w K mg base C "_law_made" 5 preMade) (Gr : Df P w K mg base C "receivers_part" 6 preParts) (Gl : Df P w K mg base C "_law_least" 4 preLeast) (Gp : Df P w K mg base C "_law_parted" 5 preLParted) : Df P w K mg base C "_law_pair_right" 7 prePair := by
  refine df_of A sc_L_pair_right (fun as r h => ?_) (fun _ _ _ _ _ _ us hl => match us, hl with | [_, _], _ => rfl) (fun f cdv A outer s H E hr as r h => ?_)
  · obtain ⟨_, _, rfl, _⟩ := h; rfl
  · obtain ⟨a, b, rfl, ⟨⟨a0, a1⟩, a2, a3⟩, ⟨⟨b0, b1⟩, b2, b3⟩, ⟨fu, n, res, h1, h2, h3⟩, rfl⟩ := h
    have nd := sc_L_pair_right.nd
    refine hss_cons (hs_par 2 3 (s1 := .dat (resP res)) nd (by decide) (nw_d (pd_call Gr (hr.mono (by decide)) (ga_r (pr_call Gm (hr.mono (by decide)) (ga_d (pd_var 0) ga_nil) ⟨a, rfl, ⟨⟨a0, a1⟩, a2, a3⟩, rfl⟩) (ga_r (pr_call Gm (hr.mono (by decide)) (ga_d (pd_var 1) ga_nil) ⟨b, rfl, ⟨⟨b0, b1⟩, b2, b3⟩, rfl⟩) ga_nil)) ⟨a.rcv, b.rcv, fu, res, rfl, ⟨a0, by show a.room ≤ 100; omega⟩, ⟨b0, by show b.room ≤ 100; omega⟩, by show a.sel.length ≤ 1000; omega, by show b.sel.length ≤ 1000; omega, h1, by cases res <;> rfl⟩)) (nw_d (pd_call Gl (hr.mono (by decide)) (ga_d (pd_var 0) (ga_d (pd_var 1) ga_nil)) ⟨a, b, n, rfl, ⟨a0, by omega⟩, ⟨b0, by omega⟩, by omega, by omega, h2, rfl⟩)) ?_)
    cases res with
    | none =>
      have hn : n = 0 := h3
      subst hn
      refine hss_cons (hs_if (k1 := true) (pq_w (pw_or' (k1 := true) (k2 := true) (pq_isN (d := .none) (pd_var 2)) fun h => by cases h)) (fun _ => ?_) fun h => by cases h)
      exact hss_cons (hs_ret (d := .bool (true && decide ((0 : Int) = 0))) (pd_and (k1 := true) (pd_isN (d := .none) (pd_var 2)) fun _ => pd_one (pd_eqI (pd_var (d := .int 0) 3) pd_int)) (by show Rt.dat _ = Rt.dat _; rfl))
    | some row =>
      obtain ⟨n0, hp, hl, hfa, hfb, hz⟩ := h3
      have e1 : decide ((n : Int) = 0) = false := by rw [decide_eq_false_iff_not]; omega
      refine hss_cons (hs_if (k1 := false) (pq_w (pw_or' (k1 := false) (k2 := false) (pq_isN (d := .tuple (row.map evD)) (pd_var 2)) fun _ => pw_or1' (pq_eqV e1 (pq_eqI (pd_var (d := .int n) 3) pd_int)))) (fun h => by cases h) fun _ => hss_nil ?_)
      refine hss_cons (hs_ret (d := .bool (true && decide (((row.map evD).length : Int) = n))) (pd_and (k1 := true) (by rw [← hp]; exact pd_call Gp (hr.mono (by decide)) (ga_d (pd_var 0) (ga_d (pd_var 1) (ga_d (pd_var (d := .tuple (row.map evD)) 2) ga_nil))) ⟨a, b, row, rfl, hfa, hfb, hz, by omega, by omega, rfl⟩) fun _ => pd_one (pd_eqI (pd_len T.len_ (ps_tuple (pd_var (d := .tuple (row.map evD)) 2))) (pd_var (d := .int n) 3))) ?_)
      show Rt.dat _ = Rt.dat _
      rw [List.length_map, hl]
      simp
theorem df_L_right (A : FnAt K mg "_law_right" s_L_right) (T : Tx K mg C) (PL : ∀ a b, OkPair a b → PairOk a b) (Gs : DfP P w K mg base C "_law_spec" 3 preSpec) (Gn : DfP P w K mg base C "_law_near" 3 preNear) (Gp : Df P w K mg base C "_law_pair_right" 7 prePair) : DfP P w K mg base C "_law_right" 8 preRight := by
  refine dfP_of A sc_L_right (fun as r h => ?_) (fun as R h => ?_) (fun _ _ _ _ _ _ us hl => match us, hl with | [_], _ => rfl) (fun a f cdv A outer s H E hr as R h => ?_)
  · obtain ⟨rfl, _⟩ := h; rfl
  · obtain ⟨rfl, _⟩ := h; intro ar har; simp at har
  · obtain ⟨rfl, rfl⟩ := h
    have nd := sc_L_right.nd
    refine hss_cons (hs_for (xs := rangeI 0 2) (enc := .int) (is := [1]) (pis_range1 T.range_ pd_int (by decide) (by decide)) (pg_name (i := 1) nd rfl (.inl rfl))
      (fun i ρ => ∃ u v x, ρ = [some (.prs a), u, v, x]) ⟨none, none, none, rfl⟩ (fun i z ρ' hz' hR => ?_) (fun ρ' hR => ?_))
    · obtain ⟨u, v, x, rfl⟩ := hR
      refine ⟨[.int z], gb_name, by simp, ?_⟩
      show HSs _ C [some (.prs a), some (.dat (.int z)), v, x] _ _
      refine hss_cons (hs_setF (R := isSp 2) 2 0 nd rfl (pf_call 0 Gs (hr.mono (by decide)) rfl (ga_d pd_int ga_nil) ⟨2, rfl, by decide, by decide, rfl⟩) (fun d hd => ?_))
      obtain ⟨s1, rfl, ok1⟩ := hd
      refine hss_cons (hs_setF (R := isSp 2) 3 0 nd rfl (pf_call 0 Gn (hr.mono (by decide)) rfl (ga_d (pd_var 2) (ga_d pd_int ga_nil)) ⟨2, s1, rfl, by decide, by decide, ok1, rfl⟩) (fun d hd => ?_))
      obtain ⟨s2, rfl, ok2⟩ := hd
      have up : ∀ {s : FM.Spec}, OkSp 2 s → OkSp 3 s := fun ⟨⟨h0, h1⟩, h2⟩ => ⟨⟨h0, by omega⟩, h2⟩
      exact hss_cons (hs_if (k1 := false) (pq_not (k1 := true) (pq_val (pd_call Gp (hr.mono (by decide)) (ga_d (pd_var 2) (ga_d (pd_var 3) ga_nil)) ⟨s1, s2, rfl, up ok1, up ok2, PL s1 s2 ⟨up ok1, up ok2, .inl ⟨ok1, ok2⟩⟩, rfl⟩))) (fun h => by cases h) fun _ => hss_nil (hss_nil ⟨_, _, _, rfl⟩))
    · obtain ⟨u, v, x, rfl⟩ := hR
      exact hss_cons (hs_retF (R := fun d => d = .bool true) (pf_of 0 pd_bool rfl rfl) (fun d hd => ⟨rfl, hd⟩) ⟨0, rfl⟩)
end
end FB
end

section
set_option Elab.async false
set_option linter.all false
set_option maxRecDepth 100000
set_option maxHeartbeats 4000000
/-! The law; all together. -/
namespace FB
open PySem L2
theorem Fr.toPrs {P : Program} {w : World} {K : PySem.W.Frag} {C : Addr} {H₀ H : Hp} {M : List Addr} {ρ : Rho} {σ : St} {i : Nat} {n1 n2 n3 : Int} (F : Fr P w K C H₀ M H ρ σ) (h : ρ[i]? = some (some (.own [.int n1, .int n2, .int n3]))) : ∃ a, Fr P w K C H₀ M H (ρ.set i (some (.prs a))) σ := by
  obtain ⟨v, e, a, vs, rfl, n, h1, h2⟩ := F.slot i _ h
  have hvs := RpA.ints_iff (ns := [n1, n2, n3]).mp h2
  subst hvs
  have hi : i < ρ.length := (List.getElem?_eq_some_iff.mp h).1
  refine ⟨a, F.base, by rw [List.length_set]; exact F.len, fun j s q => ?_, fun j k s t u hjk e1 e2 e3 e4 e5 e6 => ?_⟩
  · by_cases hj : j = i
    · subst hj
      rw [List.getElem?_set_self hi] at q
      cases q
      exact ⟨_, e, rfl, n, _, _, _, h1⟩
    · rw [List.getElem?_set_ne (Ne.symm hj)] at q
      exact F.slot j s q
  · by_cases hj : j = i
    · subst hj
      rw [List.getElem?_set_ne hjk] at e2
      exact F.apart j k _ t u hjk h e2 rfl e4 e5 e6
    · rw [List.getElem?_set_ne (Ne.symm hj)] at e1
      by_cases hk : k = i
      · subst hk
        exact F.apart j k s _ u hjk e1 h e3 rfl e5 e6
      · rw [List.getElem?_set_ne (Ne.symm hk)] at e2
        exact F.apart j k s t u hjk e1 e2 e3 e4 e5 e6
theorem hss_purse {X : Cx} {C : Addr} {ρ : Rho} {rest : List Stmt} {Post : Fl → Prop} (i : Nat) {n1 n2 n3 : Int} (h : ρ[i]? = some (some (.own [.int n1, .int n2, .int n3]))) (k : ∀ a, HSs X C (ρ.set i (some (.prs a))) rest Post) : HSs X C ρ rest Post :=
  PSs.any.weak fun D σ H ⟨H₀, M, F, q⟩ => by
    obtain ⟨a, F'⟩ := F.toPrs h
    exact ⟨_, k a, H₀, M, F', q⟩
def preLaw : List Ar → Rt → Prop := fun as r => ∃ script : List Int, as = [.kl (script.map .int)] ∧ script.length ≤ 63 ∧ r = .dat (.bool true)
section
variable {P : Program} {w : World} {K : PySem.W.Frag} {mg : Str → Option Value} {base : Heap} {C : Addr}
def spLaw (K : PySem.W.Frag) : Sp := fun vs H Q _ => ∃ (a : Addr) (ns : List Int), vs = [.ref a] ∧ SqF K H a (ns.map V.int) ∧ ns.length ≤ 63 ∧ ∀ H', Q (.bl true) H'
theorem okLaw {x qual : Str} {st : Stmt} {f : Addr} {fd : FuncData} {N ps : List Str} {k : Nat} (F : Fun K x qual st f fd) (S : FnScope N ps (defScope st)) (hps : ps.length = 1 := by rfl)
    (hbody : ∀ (cdv : Value) (A : Around) (outer : List Env) (s : Shared) (H : Hp) (E : XK), Room k (A.deeper (PyProof.Rows.envOfC qual (defScope st) s.heap.objs.size f cdv)) → ∀ as r, preLaw as r →
      HSs (bX P w K mg base N qual (defScope st) f cdv A outer s H E) C (rho0 N.length as) (defBody st) (retP r)) : FnOk P w K mg base CX0 (k + 1) f fd ps (spLaw K) := by
  refine F.ok S (fun vs H Q E h => ?_) (fun cdv A outer s H vs Q E hr h => ?_)
  · obtain ⟨a, ns, rfl, _⟩ := h
    rw [hps]; rfl
  · obtain ⟨a, ns, rfl, hs, hl, hQ⟩ := h
    have ha : ArsOk K C H [.ref a] [.kl (ns.map .int)] := ⟨⟨a, _, rfl, hs, RpA.ints_iff.mpr rfl⟩, True.intro⟩
    have hl1 : 1 ≤ N.length := by
      have := congrArg List.length S.pre
      rw [List.length_take, hps] at this
      omega
    refine ⟨_, hbody cdv A outer s H E hr [.kl (ns.map .int)] (.dat (.bool true)) ⟨ns, rfl, hl, rfl⟩, H, [], fr_start ha hl1, fun ρ' σ' H' hr' F' => ?_, fun _ _ _ h => h.elim, fun _ _ _ h => h.elim, fun r' v H' hr' k hv => ?_⟩
    · exact (show Rt.dat (.bool true) ≠ Rt.dat .none from fun z => by cases z) hr' |>.elim
    · have e : r' = .dat (.bool true) := hr'
      subst e
      have := Rp.bool_iff.mp (show Rp K H' v (.bool true) from hv)
      subst this
      exact hQ H'
theorem fn_law {fa : Addr} {fd : FuncData} (FF : Fun K "law" "law" s_law fa fd) (T : Tx K mg C) (PL : ∀ a b, OkPair a b → PairOk a b) (Gn : Df P w K mg base C "_law_number" 1 preNumber) (Gu : Df P w K mg base C "_law_purse" 1 preLPurse) (Gs : DfP P w K mg base C "_law_spec" 3 preSpec) (Gp : Df P w K mg base C "_law_pair_right" 7 prePair) (Gr : DfP P w K mg base C "_law_right" 8 preRight) : FnOk P w K mg base CX0 9 fa fd ["_law_script"] (spLaw K) := by
  refine okLaw (C := C) FF sc_law rfl (fun cdv A outer s H E hr as r h => ?_)
  · obtain ⟨script, rfl, hz, rfl⟩ := h
    have nd := sc_law.nd
    refine hss_cons (hs_setN 1 nd (pn_call Gu (hr.mono (by decide)) (ga_d (pd_call Gn (hr.mono (by decide)) (ga_k (pk_var 0) (ga_d pd_int ga_nil)) ⟨script, 0, rfl, by decide, rfl⟩) ga_nil) ⟨_, rfl, rfl⟩) ?_)
    refine hss_purse 1 rfl fun a => ?_
    show HSs _ C [some (.kl (script.map .int)), some (.prs a), none, none, none] _ _
    refine hss_cons (hs_parF (R1 := isSp 3) (R2' := isSp 3) 1 2 3 nd rfl (by decide) (pf_call 1 Gs (hr.mono (by decide)) rfl (ga_d pd_int ga_nil) ⟨3, rfl, by decide, by decide, rfl⟩) (pf_call 1 Gs (hr.mono (by decide)) rfl (ga_d pd_int ga_nil) ⟨3, rfl, by decide, by decide, rfl⟩) (fun d1 d2 q1 q2 => ?_))
    obtain ⟨s1, rfl, ⟨r0, r1⟩, r2, r3⟩ := q1
    obtain ⟨s2, rfl, ⟨t0, t1⟩, t2, t3⟩ := q2
    show HSs _ C [some (.kl (script.map .int)), some (.prs a), some (.dat (spD' s1)), some (.dat (spD' s2)), none] _ _
    have c1 : (cutL s1.sel none (some 2)).length ≤ 2 := by
      unfold cutL
      have h2 : HT.sIx s1.sel.length s1.sel.length (some 2) ≤ 2 := by unfold HT.sIx; simp; omega
      rw [List.length_take]; omega
    have c2 : (cutL s2.sel none (some 1)).length ≤ 1 := by
      unfold cutL
      have h2 : HT.sIx s2.sel.length s2.sel.length (some 1) ≤ 1 := by unfold HT.sIx; simp; omega
      rw [List.length_take]; omega
    have ok1 : OkSp 3 ⟨s1.room, s1.sel, s1.pro, false⟩ := ⟨⟨r0, r1⟩, r2, r3⟩
    have ok2 : OkSp 3 ⟨s2.room, cutL s1.sel none (some 2) ++ cutL s2.sel none (some 1), 0, false⟩ := ⟨⟨t0, t1⟩, by show (cutL s1.sel none (some 2) ++ cutL s2.sel none (some 1)).length ≤ 3; rw [List.length_append]; omega, by show 0 ≤ 5; omega⟩
    refine hss_cons (hs_if (k1 := false) (pq_not (k1 := true) (pq_val (pd_call Gp (hr.mono (by decide)) (ga_d (d := spD' ⟨s1.room, s1.sel, s1.pro, false⟩) ?g1 (ga_d (d := spD' ⟨s2.room, cutL s1.sel none (some 2) ++ cutL s2.sel none (some 1), 0, false⟩) ?g2 ga_nil)) ⟨_, _, rfl, ok1, ok2, PL _ _ ⟨ok1, ok2, .inr ⟨rfl, rfl⟩⟩, rfl⟩))) (fun h => by cases h) fun _ => hss_nil ?_)
    case g1 => exact pd_tup (pds_cons (pd_ixT (ds := [.int s1.room, .tuple (s1.sel.map selD), proD s1.pro, .bool s1.once]) (pd_var 2) pd_int) (pds_cons (pd_ixT (ds := [.int s1.room, .tuple (s1.sel.map selD), proD s1.pro, .bool s1.once]) (pd_var 2) pd_int) (pds_cons (pd_ixT (ds := [.int s1.room, .tuple (s1.sel.map selD), proD s1.pro, .bool s1.once]) (pd_var 2) pd_int) (pds_cons pd_bool pds_nil))))
    case g2 =>
      refine pd_tup (pds_cons (pd_ixT (ds := [.int s2.room, .tuple (s2.sel.map selD), proD s2.pro, .bool s2.once]) (pd_var 3) pd_int) (pds_cons (d := .tuple ((cutL s1.sel none (some 2) ++ cutL s2.sel none (some 1)).map selD)) ?_ (pds_cons (pd_tup pds_nil) (pds_cons pd_bool pds_nil))))
      rw [List.map_append, ← cutL_map, ← cutL_map]
      exact pd_cat (pd_sliceT (pd_ixT (ds := [.int s1.room, .tuple (s1.sel.map selD), proD s1.pro, .bool s1.once]) (pd_var 2) pd_int) pod_none (pod_some pd_int)) (pd_sliceT (pd_ixT (ds := [.int s2.room, .tuple (s2.sel.map selD), proD s2.pro, .bool s2.once]) (pd_var 3) pd_int) pod_none (pod_some pd_int)) (sz_le (by rw [cutL_map, cutL_map, List.length_map, List.length_map]; omega))
    have hlen : ((script.map PyData.int).length : Int) = (script.length : Int) := by rw [List.length_map]
    have hw : ∃ wv : Int, wv = (if (if (4 : Int) < (script.length : Int) then 4 else (script.length : Int)) > 2 then (if (4 : Int) < (script.length : Int) then 4 else (script.length : Int)) else 2) := ⟨_, rfl⟩
    obtain ⟨wv, ew⟩ := hw
    have hwb : 0 ≤ wv ∧ wv ≤ 4 := by rw [ew]; split <;> (try split) <;> omega
    have hrl : (FM.rangeM wv).length = wv.toNat := by unfold FM.rangeM; simp
    refine hss_cons (hs_ret (d := .bool true) (pd_all' (bs := (FM.rangeM wv).map fun _ => true) (by simp) rfl T.all_ (pl_new (pn_lstEq (by rw [List.map_map]; rfl) (pn_map (xs := FM.rangeM wv) (enc := .int) (is := [4]) (own := [("_law_k", 4)]) (f := fun _ => .bool true) (pis_range1 (n := wv) T.range_ (by rw [ew, ← hlen]; exact pd_max2 rfl T.max_ pd_int (pd_min2 rfl T.min_ (pd_len T.len_ (ps_k (pk_var 0))) pd_int)) (by omega) (by omega)) (blkOk_by (N := ["_law_script", "_law_purse_here", "_law_some", "_law_more", "_law_k"]) (sc := defScope s_law) (by decide +kernel)) nd (fun _ _ _ _ _ => pg_name (i := 4) nd rfl (.inl rfl)) (sz_le (by rw [hrl]; omega)) (by simp)
      (fun z hz' => ⟨[.int z], gb_name, fun _ _ _ _ _ => ?_⟩))))) rfl)
    have hz0 : ∃ k : Nat, z = k ∧ k ≤ 4 := by
      unfold FM.rangeM at hz'
      obtain ⟨i, hi, rfl⟩ := List.mem_map.mp hz'
      have := List.mem_range.mp hi
      exact ⟨i, by omega, by omega⟩
    obtain ⟨k, rfl, hk⟩ := hz0
    exact pd_callN Gr (hr.mono (by decide)) (pn_call Gu (hr.mono (by decide)) (ga_d (pd_call Gn (hr.mono (by decide)) (ga_k (pk_var 0) (ga_d (pd_var 4) ga_nil)) ⟨script, k, rfl, hk, rfl⟩) ga_nil) ⟨_, rfl, rfl⟩) ⟨rfl, rfl⟩
end
end FB
end

section
set_option Elab.async false
set_option linter.all false
set_option maxRecDepth 100000
set_option maxHeartbeats 4000000
/-! What the top has written; all defs together. -/
namespace FB
open PySem L2
section
variable {K : PySem.W.Frag} {h : Heap} {mg : Str → Option Value} {C f p g : Addr} {x qual : Str} {st : Stmt} {oc : Value} {od an : Option Addr} {osl : Array (Option Value)} {kV doc pm cdv ct : Value}
theorem fnat (X : K.In h) (G : h.Ns mainGlobals mg) (a : PySem.W.nsIn K mainGlobals x = some (some (.ref f))) (l : K.lookup f = some ⟨oc, od, .func (PySem.W.fnOf x x (defArgs st) (defBody st) (defScope st) .none kV doc pm an cdv ct), osl⟩)
    (c : PySem.W.codeIn K cdv x = true) (k : PySem.W.keepIn K (.ref f) = true) : FnAt K mg x st := ⟨f, _, PySem.W.mg_of X G a, fun_mk l c k⟩
theorem mtat (a : PySem.W.findIn K (.ref C) x = some (some (.ref f))) (i : PySem.W.isFn K (.ref f) = true) (l : K.lookup f = some ⟨oc, od, .func (PySem.W.fnOf x qual (defArgs st) (defBody st) (defScope st) .none kV doc pm an cdv ct), osl⟩)
    (c : PySem.W.codeIn K cdv qual = true) (k : PySem.W.keepIn K (.ref f) = true) : MtAt K C x qual st := ⟨f, _, ⟨a, i, k⟩, fun_mk l c k⟩
/-- no K but the script's -/
theorem sqF_of {H : Hp} {a : Addr} {xs : List V} (hO : L2.Only H) (hS : SqL K H a xs) : SqF K H a xs := by
  rcases hS with (q | ⟨o, q⟩) | q
  · rcases hO a with n | ⟨o, ys, n⟩
    · rw [n] at q; cases q
    · rw [n] at q; cases q
  · exact .inl ⟨o, q⟩
  · exact .inr q
def PropAt (K : PySem.W.Frag) (C : Addr) (x qual : Str) (st : Stmt) : Prop := ∃ p g fd, PropOf K C x p g ∧ Fun K x qual st g fd
theorem propat {rest : List Value} (b1 : PySem.W.findIn K (.ref C) x = some (some (.ref p))) (b2 : PySem.W.specialIn K (.ref p) "__get__" = some (some (.builtin "property.__get__"))) (b3 : PySem.W.takesIn K (.ref p) = some true) (b4 : PySem.W.recIn K p "property" = some (.ref g :: rest))
    (l : K.lookup g = some ⟨oc, od, .func (PySem.W.fnOf x qual (defArgs st) (defBody st) (defScope st) .none kV doc pm an cdv ct), osl⟩) (c : PySem.W.codeIn K cdv qual = true) (k : PySem.W.keepIn K (.ref g) = true) : PropAt K C x qual st := ⟨p, g, _, ⟨b1, b2, b3, ⟨rest, b4⟩⟩, fun_mk l c k⟩
theorem initat {Td e1 e2 : Addr} {tc : Value} {td : Option Addr} {tn : Nat} {tsl : Array (Option Value)} (m : PySem.W.makesIn K C = true) (i : PySem.W.findIn K (.ref C) "__init__" = some (some (.ref f))) (n : PySem.W.isFn K (.ref f) = true) (kc : PySem.W.keepIn K (.ref C) = true)
    (l : K.lookup f = some ⟨oc, od, .func (PySem.W.fnOf "__init__" "Receiver.__init__" (defArgs s_R_init) (defBody s_R_init) (defScope s_R_init) (.ref Td) kV doc pm an cdv ct), osl⟩) (c : PySem.W.codeIn K cdv "Receiver.__init__" = true) (k : PySem.W.keepIn K (.ref f) = true)
    (t : K.lookup Td = some ⟨tc, td, .seq #[.ref e1, .ref e2, .bool false] tn, tsl⟩) : InitAt K C :=
  ⟨[.ref e1, .ref e2, .bl false], f, _, ⟨m, i, n, kc⟩, rfl, ⟨⟨oc, od, .ref Td, kV, doc, pm, an, cdv, ct, osl, rfl, l, c, .inr ⟨(by intro z; cases z), Td, _, [.ref e1, .ref e2, .bool false], tn, rfl, t, rfl, .cons rfl (.cons rfl (.cons rfl .nil))⟩, .inl rfl⟩, k⟩⟩
theorem txat {t1 t2 t3 u1 u2 u3 u4 u5 : Tok} {aT : Addr} {dS : Option Addr} {nS : Nat} {slS : Array (Option Value)} (X : K.In h) (G : h.Ns mainGlobals mg)
    (n_isinstance : PySem.W.nsIn K mainGlobals "isinstance" = some none)
    (n_int : PySem.W.nsIn K mainGlobals "int" = some none)
    (n_bool : PySem.W.nsIn K mainGlobals "bool" = some none)
    (n_tuple : PySem.W.nsIn K mainGlobals "tuple" = some none)
    (n_sorted : PySem.W.nsIn K mainGlobals "sorted" = some none)
    (n_max : PySem.W.nsIn K mainGlobals "max" = some none)
    (n_min : PySem.W.nsIn K mainGlobals "min" = some none)
    (n_len : PySem.W.nsIn K mainGlobals "len" = some none)
    (n_range : PySem.W.nsIn K mainGlobals "range" = some none)
    (n_enumerate : PySem.W.nsIn K mainGlobals "enumerate" = some none)
    (n_abs : PySem.W.nsIn K mainGlobals "abs" = some none)
    (n_all : PySem.W.nsIn K mainGlobals "all" = some none)
    (n_divmod : PySem.W.nsIn K mainGlobals "divmod" = some none)
    (aC : PySem.W.nsIn K mainGlobals "Receiver" = some (some (.ref C)))
    (pg : PySem.W.plainGet K C Str.empty = true) (hd : PySem.W.hasDictIn K C = true) (po : PySem.W.plainOver K C = true) (sa : PySem.W.findIn K (.ref C) "__setattr__" = some (some (.builtin "object.__setattr__")))
    (m_own_room : PySem.W.findIn K (.ref C) "own_room" = some none)
    (m_own_selectors : PySem.W.findIn K (.ref C) "own_selectors" = some none)
    (m_own_promises : PySem.W.findIn K (.ref C) "own_promises" = some none)
    (m_is_once : PySem.W.findIn K (.ref C) "is_once" = some none)
    (m_remembers_order : PySem.W.findIn K (.ref C) "remembers_order" = some none)
    (m_remembers_told : PySem.W.findIn K (.ref C) "remembers_told" = some none)
    (gI : PySem.W.nsIn K mainGlobals "IDLE" = some (some (.int (-1) t1))) (gR : PySem.W.nsIn K mainGlobals "MOST_ROOM" = some (some (.int 3 t2))) (gS : PySem.W.nsIn K mainGlobals "MOST_SELECTORS" = some (some (.int 3 t3)))
    (iC : PySem.W.findIn K (.ref C) "__class__" = some (some (.builtin "object.__class__"))) (iG : PySem.W.specialIn K (.builtin "object.__class__") "__get__" = some (some (.builtin "getset_descriptor.__get__"))) (iT : PySem.W.takesIn K (.builtin "object.__class__") = some true) (iM : PySem.W.mroIn K C (.type "object") = some true)
    (aS : PySem.W.nsIn K mainGlobals "SELECTORS" = some (some (.ref aT))) (lS : K.lookup aT = some ⟨.type "tuple", dS, .seq #[.str "new" u1, .str "late" u2, .str "low" u3, .str "high" u4, .str "untold" u5] nS, slS⟩) : Tx K mg C where
  isinstance_ := PySem.W.mg_none_of X G n_isinstance
  int_ := PySem.W.mg_none_of X G n_int
  bool_ := PySem.W.mg_none_of X G n_bool
  tuple_ := PySem.W.mg_none_of X G n_tuple
  sorted_ := PySem.W.mg_none_of X G n_sorted
  max_ := PySem.W.mg_none_of X G n_max
  min_ := PySem.W.mg_none_of X G n_min
  len_ := PySem.W.mg_none_of X G n_len
  range_ := PySem.W.mg_none_of X G n_range
  enumerate_ := PySem.W.mg_none_of X G n_enumerate
  abs_ := PySem.W.mg_none_of X G n_abs
  all_ := PySem.W.mg_none_of X G n_all
  divmod_ := PySem.W.mg_none_of X G n_divmod
  cls := ⟨pg, hd, po, sa⟩
  nRoom := m_own_room
  nSel := m_own_selectors
  nPro := m_own_promises
  nOnce := m_is_once
  nOrd := m_remembers_order
  nTld := m_remembers_told
  idle := ⟨t1, PySem.W.mg_of X G gI⟩
  mostRoom := ⟨t2, PySem.W.mg_of X G gR⟩
  mostSel := ⟨t3, PySem.W.mg_of X G gS⟩
  rcv := PySem.W.mg_of X G aC
  iC := iC
  iG := iG
  iT := iT
  iM := iM
  sels := ⟨_, _, _, nS, PySem.W.mg_of X G aS, lS, rfl, rfl, Nat.le_of_ble_eq_true rfl, .cons ⟨_, rfl⟩ (.cons ⟨_, rfl⟩ (.cons ⟨_, rfl⟩ (.cons ⟨_, rfl⟩ (.cons ⟨_, rfl⟩ .nil))))⟩
end
section
variable {P : Program} {w : World} {K : PySem.W.Frag} {mg : Str → Option Value} {base : Heap} {C : Addr}
theorem dp_of {x qual fld : Str} {st : Stmt} {N : List Str} {p1 p2 p3 : Pos} (A : PropAt K C x qual st) (S : FnScope N ["self"] (defScope st)) (hN : N[0]? = some ("self" : Str)) (hb : defBody st = [.Return (some (.Attribute (.Name "self" p1) fld p2)) p3]) (c : Cls K C) (n : NoAttr K C fld)
    (hbi : ∀ (kV doc pm : Value) (an : Option Addr) (cdv ct : Value) (us : List Value), us.length = 1 → bindArgs (PySem.W.fnOf x qual (defArgs st) (defBody st) (defScope st) .none kV doc pm an cdv ct) ⟨us, []⟩ = pure ((["self"] : List Str).zip us)) : Dp' P w K mg base C x fld 1 := by
  obtain ⟨p, g, fd, hp, F⟩ := A
  refine ⟨p, g, fd, ["self"], hp, F.binds hbi, ?_⟩
  obtain ⟨oc, od, kV, doc, pm, an, cdv, ct, osl, rfl, lk, hcd⟩ := F.ex
  exact fn_getter lk hcd S hN hb c n
theorem all_law {fa : Addr} {fd : FuncData} (FF : Fun K "law" "law" s_law fa fd) (T : Tx K mg C) (PL : ∀ a b, OkPair a b → PairOk a b) (AI : InitAt K C)
    (M_take : MtAt K C "take" "Receiver.take" s_R_take)
    (M_reply : MtAt K C "reply" "Receiver.reply" s_R_reply)
    (M_without : MtAt K C "without" "Receiver.without" s_R_without)
    (P_room : PropAt K C "room" "Receiver.room" s_R_room)
    (P_once : PropAt K C "once" "Receiver.once" s_R_once)
    (A_is_integer : FnAt K mg "is_integer" s_is_integer)
    (A_is_number : FnAt K mg "is_number" s_is_number)
    (A_merged : FnAt K mg "merged" s_merged)
    (A_blocks_of : FnAt K mg "blocks_of" s_blocks_of)
    (A_block_with : FnAt K mg "block_with" s_block_with)
    (A_wanted : FnAt K mg "wanted" s_wanted)
    (A_lowered_holding : FnAt K mg "lowered_holding" s_lowered_holding)
    (A_answered : FnAt K mg "answered" s_answered)
    (A_place_behind : FnAt K mg "place_behind" s_place_behind)
    (A_events_in : FnAt K mg "events_in" s_events_in)
    (A_real_events : FnAt K mg "real_events" s_real_events)
    (A_steps_to : FnAt K mg "steps_to" s_steps_to)
    (A_check_receiver : FnAt K mg "check_receiver" s_check_receiver)
    (A_receivers_part : FnAt K mg "receivers_part" s_receivers_part)
    (A_check_selectors : FnAt K mg "check_selectors" s_check_selectors)
    (A_check_promises : FnAt K mg "check_promises" s_check_promises)
    (A_L_number : FnAt K mg "_law_number" s_L_number)
    (A_L_purse : FnAt K mg "_law_purse" s_L_purse)
    (A_L_pick : FnAt K mg "_law_pick" s_L_pick)
    (A_L_blocks : FnAt K mg "_law_blocks" s_L_blocks)
    (A_L_take : FnAt K mg "_law_take" s_L_take)
    (A_L_worth : FnAt K mg "_law_worth" s_L_worth)
    (A_L_reply : FnAt K mg "_law_reply" s_L_reply)
    (A_L_event : FnAt K mg "_law_event" s_L_event)
    (A_L_answers : FnAt K mg "_law_answers" s_L_answers)
    (A_L_are_events : FnAt K mg "_law_are_events" s_L_are_events)
    (A_L_parted : FnAt K mg "_law_parted" s_L_parted)
    (A_L_words : FnAt K mg "_law_words" s_L_words)
    (A_L_promises : FnAt K mg "_law_promises" s_L_promises)
    (A_L_spec : FnAt K mg "_law_spec" s_L_spec)
    (A_L_near : FnAt K mg "_law_near" s_L_near)
    (A_L_made : FnAt K mg "_law_made" s_L_made)
    (A_L_place : FnAt K mg "_law_place" s_L_place)
    (A_L_tries : FnAt K mg "_law_tries" s_L_tries)
    (A_L_least : FnAt K mg "_law_least" s_L_least)
    (A_L_pair_right : FnAt K mg "_law_pair_right" s_L_pair_right)
    (A_L_right : FnAt K mg "_law_right" s_L_right)
    : FnOk P w K mg base CX0 9 fa fd ["_law_script"] (spLaw K) := by
  have g_int := df_is_integer (P := P) (w := w) (base := base) A_is_integer T
  have g_num := df_is_number (P := P) (w := w) (base := base) A_is_number T g_int
  have g_mer := df_merged (P := P) (w := w) (base := base) A_merged T
  have g_blo := df_blocks_of (P := P) (w := w) (base := base) A_blocks_of T g_mer
  have g_bwi := df_block_with (P := P) (w := w) (base := base) A_block_with T
  have g_wan := df_wanted (P := P) (w := w) (base := base) A_wanted T
  have g_low := df_lowered (P := P) (w := w) (base := base) A_lowered_holding T
  have g_tak := dm_take (P := P) (w := w) (mg := mg) (base := base) M_take T
  have g_wit := dm_without (P := P) (w := w) (mg := mg) (base := base) M_without T
  have g_rep := dm_reply (P := P) (w := w) (mg := mg) (base := base) M_reply T g_blo g_wan g_bwi
  have g_room : Dp' P w K mg base C "room" "own_room" 1 := dp_of P_room sc_R_room rfl rfl T.cls T.nRoom fun _ _ _ _ _ _ us hl => match us, hl with | [_], _ => rfl
  have g_once : Dp' P w K mg base C "once" "is_once" 1 := dp_of P_once sc_R_once rfl rfl T.cls T.nOnce fun _ _ _ _ _ _ us hl => match us, hl with | [_], _ => rfl
  have g_ans := df_answered (P := P) (w := w) (base := base) A_answered T g_once g_wit g_tak g_rep
  have g_beh := df_place_behind (P := P) (w := w) (base := base) A_place_behind T g_once g_ans g_low
  have g_evs := df_events_in (P := P) (w := w) (base := base) A_events_in T g_room
  have g_rea := df_real_events (P := P) (w := w) (base := base) A_real_events T
  have g_ste := df_steps_to (P := P) (w := w) (base := base) A_steps_to T
  have g_chr := df_check_receiver (P := P) (w := w) (base := base) A_check_receiver T
  have g_par := df_receivers_part (P := P) (w := w) (base := base) A_receivers_part T g_chr g_evs g_beh g_ste g_rea
  have g_chs := df_check_selectors (P := P) (w := w) (base := base) A_check_selectors T
  have g_chp := df_check_promises (P := P) (w := w) (base := base) A_check_promises T
  have g_ini := d_init (P := P) (w := w) (base := base) AI T g_num g_chs g_chp
  have l_num := df_L_number (P := P) (w := w) (base := base) A_L_number T
  have l_pur := df_L_purse (P := P) (w := w) (base := base) A_L_purse T
  have l_pic := df_L_pick (P := P) (w := w) (base := base) A_L_pick T
  have l_blo := df_L_blocks (P := P) (w := w) (base := base) A_L_blocks T
  have l_tak := df_L_take (P := P) (w := w) (base := base) A_L_take T
  have l_wor := df_L_worth (P := P) (w := w) (base := base) A_L_worth T
  have l_rep := df_L_reply (P := P) (w := w) (base := base) A_L_reply T l_blo l_wor
  have l_eve := df_L_event (P := P) (w := w) (base := base) A_L_event T l_tak l_rep
  have l_ans := df_L_answers (P := P) (w := w) (base := base) A_L_answers T l_eve
  have l_are := df_L_are (P := P) (w := w) (base := base) A_L_are_events T
  have l_par := df_L_parted (P := P) (w := w) (base := base) A_L_parted T l_are l_ans
  have l_wrd := df_L_words (P := P) (w := w) (base := base) A_L_words T l_pic
  have l_prm := df_L_prom (P := P) (w := w) (base := base) A_L_promises T l_pic
  have l_spe := df_L_spec (P := P) (w := w) (base := base) A_L_spec T l_pic l_wrd l_prm
  have l_nea := df_L_near (P := P) (w := w) (base := base) A_L_near T l_pic l_wrd l_prm
  have l_mad := df_L_made (P := P) (w := w) (base := base) A_L_made T g_ini
  have l_pla := df_L_place (P := P) (w := w) (base := base) A_L_place T
  have l_tri := df_L_tries (P := P) (w := w) (base := base) A_L_tries T
  have l_lea := df_L_least (P := P) (w := w) (base := base) A_L_least T l_eve l_pla l_tri
  have l_pai := df_L_pair (P := P) (w := w) (base := base) A_L_pair_right T l_mad g_par l_lea l_par
  have l_rig := df_L_right (P := P) (w := w) (base := base) A_L_right T PL l_spe l_nea l_pai
  exact fn_law FF T PL l_num l_pur l_spe l_pai l_rig
theorem all_mk {h : Heap} {fa : Addr} (X : K.In h) (G : h.Ns mainGlobals mg) (hfa : mg "law" = some (.ref fa)) (PL : ∀ a b, OkPair a b → PairOk a b) (T : Tx K mg C) (AI : InitAt K C)
    (M_take : MtAt K C "take" "Receiver.take" s_R_take)
    (M_reply : MtAt K C "reply" "Receiver.reply" s_R_reply)
    (M_without : MtAt K C "without" "Receiver.without" s_R_without)
    (P_room : PropAt K C "room" "Receiver.room" s_R_room)
    (P_once : PropAt K C "once" "Receiver.once" s_R_once)
    (A_is_integer : FnAt K mg "is_integer" s_is_integer)
    (A_is_number : FnAt K mg "is_number" s_is_number)
    (A_merged : FnAt K mg "merged" s_merged)
    (A_blocks_of : FnAt K mg "blocks_of" s_blocks_of)
    (A_block_with : FnAt K mg "block_with" s_block_with)
    (A_wanted : FnAt K mg "wanted" s_wanted)
    (A_lowered_holding : FnAt K mg "lowered_holding" s_lowered_holding)
    (A_answered : FnAt K mg "answered" s_answered)
    (A_place_behind : FnAt K mg "place_behind" s_place_behind)
    (A_events_in : FnAt K mg "events_in" s_events_in)
    (A_real_events : FnAt K mg "real_events" s_real_events)
    (A_steps_to : FnAt K mg "steps_to" s_steps_to)
    (A_check_receiver : FnAt K mg "check_receiver" s_check_receiver)
    (A_receivers_part : FnAt K mg "receivers_part" s_receivers_part)
    (A_check_selectors : FnAt K mg "check_selectors" s_check_selectors)
    (A_check_promises : FnAt K mg "check_promises" s_check_promises)
    (A_L_number : FnAt K mg "_law_number" s_L_number)
    (A_L_purse : FnAt K mg "_law_purse" s_L_purse)
    (A_L_pick : FnAt K mg "_law_pick" s_L_pick)
    (A_L_blocks : FnAt K mg "_law_blocks" s_L_blocks)
    (A_L_take : FnAt K mg "_law_take" s_L_take)
    (A_L_worth : FnAt K mg "_law_worth" s_L_worth)
    (A_L_reply : FnAt K mg "_law_reply" s_L_reply)
    (A_L_event : FnAt K mg "_law_event" s_L_event)
    (A_L_answers : FnAt K mg "_law_answers" s_L_answers)
    (A_L_are_events : FnAt K mg "_law_are_events" s_L_are_events)
    (A_L_parted : FnAt K mg "_law_parted" s_L_parted)
    (A_L_words : FnAt K mg "_law_words" s_L_words)
    (A_L_promises : FnAt K mg "_law_promises" s_L_promises)
    (A_L_spec : FnAt K mg "_law_spec" s_L_spec)
    (A_L_near : FnAt K mg "_law_near" s_L_near)
    (A_L_made : FnAt K mg "_law_made" s_L_made)
    (A_L_place : FnAt K mg "_law_place" s_L_place)
    (A_L_tries : FnAt K mg "_law_tries" s_L_tries)
    (A_L_least : FnAt K mg "_law_least" s_L_least)
    (A_L_pair_right : FnAt K mg "_law_pair_right" s_L_pair_right)
    (A_L_right : FnAt K mg "_law_right" s_L_right)
    (A_law : FnAt K mg "law" s_law)
    : ∃ fd : FuncData, (∀ (s : Shared) (u : Value), BindsTo s fd ⟨[u], []⟩ [("_law_script", u)]) ∧ ∀ base : Heap, K.In base → base.Ns mainGlobals mg → FnOk P w K mg base CX0 9 fa fd ["_law_script"] (spLaw K) := by
  obtain ⟨f, fd, hf, F⟩ := A_law
  have e := hfa.symm.trans hf
  cases e
  refine ⟨fd, fun s u => ?_, fun base _ _ => all_law F T PL AI M_take M_reply M_without P_room P_once A_is_integer A_is_number A_merged A_blocks_of A_block_with A_wanted A_lowered_holding A_answered A_place_behind A_events_in A_real_events A_steps_to A_check_receiver A_receivers_part A_check_selectors A_check_promises A_L_number A_L_purse A_L_pick A_L_blocks A_L_take A_L_worth A_L_reply A_L_event A_L_answers A_L_are_events A_L_parted A_L_words A_L_promises A_L_spec A_L_near A_L_made A_L_place A_L_tries A_L_least A_L_pair_right A_L_right⟩
  obtain ⟨oc, od, kV, doc, pm, an, cdv, ct, osl, rfl, _, _⟩ := F.ex
  exact .of_eq rfl
end
end FB
end

section
set_option Elab.async false
set_option linter.all false
/-! Plain: sorting, blocks, what the selectors pick. -/
namespace FM
theorem sortI_perm (l : List Int) : (sortI l).Perm l := List.mergeSort_perm l _
theorem sortI_pw (l : List Int) : (sortI l).Pairwise (· ≤ ·) := by
  have h := List.pairwise_mergeSort (le := fun a b : Int => decide (a ≤ b)) (fun a b c h1 h2 => by simp at *; omega) (fun a b => by simp; omega) l
  exact h.imp fun {a b} h => of_decide_eq_true h
theorem sorted_unique {l m : List Int} (h : l.Perm m) (hl : l.Pairwise (· ≤ ·)) (hm : m.Pairwise (· ≤ ·)) : l = m :=
  List.Perm.eq_of_pairwise (fun a b _ _ h1 h2 => Int.le_antisymm h1 h2) hl hm h
theorem sortI_eq {l m : List Int} (h : l.Perm m) : sortI l = sortI m :=
  sorted_unique ((sortI_perm l).trans (h.trans (sortI_perm m).symm)) (sortI_pw l) (sortI_pw m)
theorem sortI_of {l : List Int} (h : l.Pairwise (· ≤ ·)) : sortI l = l := sorted_unique (sortI_perm l) (sortI_pw l) h
theorem sortI_filter (q : Int → Bool) (l : List Int) : sortI (l.filter q) = (sortI l).filter q :=
  sorted_unique ((sortI_perm _).trans ((sortI_perm l).filter q).symm) (sortI_pw _) ((sortI_pw l).filter q)
theorem sortI_add (c : Int) (l : List Int) : sortI (l.map (· + c)) = (sortI l).map (· + c) :=
  sorted_unique ((sortI_perm _).trans ((sortI_perm l).map _).symm) (sortI_pw _) (List.Pairwise.map _ (fun a b h => by show a + c ≤ b + c; omega) (sortI_pw l))
theorem mem_sortI {l : List Int} {x : Int} : x ∈ sortI l ↔ x ∈ l := (sortI_perm l).mem_iff
theorem sortI_lt {l : List Int} (h : l.Nodup) : (sortI l).Pairwise (· < ·) := by
  have h1 := sortI_pw l
  have h2 : (sortI l).Nodup := (sortI_perm l).nodup_iff.mpr h
  exact (h1.and h2).imp fun {a b} ⟨p, q⟩ => by omega
theorem sortP_map (l : List Int) : sortP (l.map fun p => (p, p + 1)) = (sortI l).map fun p => (p, p + 1) := by
  unfold sortP sortI
  symm
  refine List.map_mergeSort fun a _ b _ => ?_
  unfold leP
  rw [Bool.eq_iff_iff]
  simp
  omega
theorem fold_blocks : ∀ (s : List Int) (acc : List Blk), s.Pairwise (· < ·) → (∀ l, acc.getLast? = some l → ∀ z ∈ s, l.2 ≤ z) → (s.map fun p => ((p, p + 1) : Blk)).foldl mergeStep acc = s.foldl lblkStep acc
  | [], _, _, _ => rfl
  | p :: s, acc, hp, hl => by
    rw [List.map_cons, List.foldl_cons, List.foldl_cons]
    have e : mergeStep acc (p, p + 1) = lblkStep acc p := by
      unfold mergeStep lblkStep
      cases hg : acc.getLast? with
      | none => rfl
      | some l =>
        have h1 : l.2 ≤ p := hl l hg p List.mem_cons_self
        by_cases h : p ≤ l.2
        · have h2 : l.2 = p := by omega
          have h3 : p + 1 > l.2 := by omega
          simp only [h, h2, h3, if_true, gt_iff_lt]
          rw [h2] at h3
          simp [h3]
        · have h2 : ¬ l.2 = p := by omega
          simp only [h, h2, if_false]
    rw [e]
    have hp2 := List.pairwise_cons.mp hp
    refine fold_blocks s _ hp2.2 fun l hg z hz => ?_
    have hz := hp2.1 z hz
    have hlast : l.2 = p + 1 := by
      unfold lblkStep at hg
      split at hg
      · simp at hg; rw [← hg]
      · split at hg
        · simp at hg; rw [← hg]
        · simp at hg; rw [← hg]
    omega
theorem blocks_eq {held ns : List Int} (h : held.Perm ns) (hn : ns.Nodup) : blocksM held = lblocksM ns := by
  unfold blocksM mergedM lblocksM
  rw [sortP_map, sortI_eq h]
  exact fold_blocks _ [] (sortI_lt hn) fun l hg => by simp at hg
/-- blocks in their order, apart, none empty, each begun by a piece -/
structure Blks (left : List Blk) (ns : List Int) : Prop where
  asc : left.Pairwise fun b c => b.2 ≤ c.1
  ne : ∀ b ∈ left, b.1 < b.2
  mem : ∀ b ∈ left, b.1 ∈ ns
theorem lblk_asc : ∀ (s : List Int) (acc : List Blk), s.Pairwise (· < ·) → (acc.Pairwise fun b c => b.2 ≤ c.1) → (∀ b ∈ acc, b.1 < b.2 ∧ ∀ z ∈ s, b.2 ≤ z) → (s.foldl lblkStep acc).Pairwise fun b c => b.2 ≤ c.1
  | [], _, _, h, _ => h
  | p :: s, acc, hp, h, hb => by
    rw [List.foldl_cons]
    have hp2 := List.pairwise_cons.mp hp
    have hold : ∀ b ∈ acc, b.2 ≤ p := fun b hm => (hb b hm).2 p List.mem_cons_self
    have key : ∀ (pre : List Blk) (x : Int), (∀ b ∈ pre, b ∈ acc) → (pre.Pairwise fun b c => b.2 ≤ c.1) → (∀ b ∈ pre, b.2 ≤ x) → x ≤ p → (s.foldl lblkStep (pre ++ [(x, p + 1)])).Pairwise fun b c => b.2 ≤ c.1 := fun pre x h1 h2 h3 h4 => by
      refine lblk_asc s _ hp2.2 ?_ fun b hm => ?_
      · rw [List.pairwise_append]
        refine ⟨h2, by simp, fun b hm c hc => ?_⟩
        simp only [List.mem_singleton] at hc
        subst hc
        exact h3 b hm
      · rcases List.mem_append.mp hm with hm | hm
        · have := hb b (h1 b hm)
          exact ⟨this.1, fun z hz => this.2 z (List.mem_cons_of_mem _ hz)⟩
        · simp only [List.mem_singleton] at hm
          subst hm
          exact ⟨by show x < p + 1; omega, fun z hz => by have := hp2.1 z hz; show p + 1 ≤ z; omega⟩
    unfold lblkStep
    cases hg : acc.getLast? with
    | none => exact key acc p (fun b hm => hm) h hold (Int.le_refl _)
    | some l =>
      dsimp only
      split
      · obtain ⟨pre, rfl⟩ := List.getLast?_eq_some_iff.mp hg
        rw [List.dropLast_concat]
        rw [List.pairwise_append] at h
        refine key pre l.1 (fun b hm => List.mem_append_left _ hm) h.1 (fun b hm => h.2.2 b hm l (by simp)) ?_
        have := (hb l (by simp)).1
        have := hold l (by simp)
        omega
      · exact key acc p (fun b hm => hm) h hold (Int.le_refl _)
theorem blks_all {ns : List Int} (hn : ns.Nodup) : Blks (lblocksM ns) ns :=
  ⟨lblk_asc _ [] (sortI_lt hn) .nil (fun b hm => by simp at hm), fun b hb => (FB.lblocks_in b hb).2, fun b hb => (FB.lblocks_in b hb).1⟩
theorem Blks.filter {left : List Blk} {ns : List Int} (h : Blks left ns) (q : Blk → Bool) : Blks (left.filter q) ns :=
  ⟨h.asc.filter q, fun b hb => h.ne b (List.mem_filter.mp hb).1, fun b hb => h.mem b (List.mem_filter.mp hb).1⟩
theorem inB_iff {p : Int} {b : Blk} : inB p b = true ↔ b.1 ≤ p ∧ p < b.2 := by unfold inB; simp
/-- two blocks that hold one piece are one -/
theorem Blks.one {left : List Blk} {ns : List Int} (h : Blks left ns) {b c : Blk} (hb : b ∈ left) (hc : c ∈ left) {p : Int} (h1 : inB p b = true) (h2 : inB p c = true) : b = c := by
  rw [inB_iff] at h1 h2
  obtain ⟨i, hi⟩ := List.mem_iff_getElem?.mp hb
  obtain ⟨j, hj⟩ := List.mem_iff_getElem?.mp hc
  have hi2 := List.getElem?_eq_some_iff.mp hi
  have hj2 := List.getElem?_eq_some_iff.mp hj
  have pw := List.pairwise_iff_getElem.mp h.asc
  rcases Nat.lt_trichotomy i j with q | q | q
  · have := pw i j hi2.1 hj2.1 q
    rw [hi2.2, hj2.2] at this
    omega
  · subst q
    rw [hi] at hj
    exact Option.some.inj hj
  · have := pw j i hj2.1 hi2.1 q
    rw [hi2.2, hj2.2] at this
    omega
theorem Blks.side {left : List Blk} {ns : List Int} (h : Blks left ns) {b c : Blk} (hb : b ∈ left) (hc : c ∈ left) (hne : c ≠ b) : b.2 ≤ c.1 ∨ c.2 ≤ b.1 := by
  obtain ⟨i, hi⟩ := List.mem_iff_getElem?.mp hb
  obtain ⟨j, hj⟩ := List.mem_iff_getElem?.mp hc
  have hi2 := List.getElem?_eq_some_iff.mp hi
  have hj2 := List.getElem?_eq_some_iff.mp hj
  have pw := List.pairwise_iff_getElem.mp h.asc
  rcases Nat.lt_trichotomy i j with q | q | q
  · have := pw i j hi2.1 hj2.1 q
    rw [hi2.2, hj2.2] at this
    exact .inl this
  · subst q
    rw [hi] at hj
    exact absurd (Option.some.inj hj).symm hne
  · have := pw j i hj2.1 hi2.1 q
    rw [hi2.2, hj2.2] at this
    exact .inr this
/-! ### the best block -/
theorem best_go {w : Sel} {held : List (Int × Bool)} {last x : Int} {b : Blk} : ∀ (left : List Blk) (bm : Option (Blk × Int)), (∀ c ∈ left, c = b → worthM w c held last = some x) → (∀ c ∈ left, c ≠ b → ∀ y, worthM w c held last = some y → y < x) →
    (bm = none ∨ bm = some (b, x) ∨ ∃ c y, bm = some (c, y) ∧ y < x) → (b ∈ left ∨ bm = some (b, x)) → left.foldl (bestStep w held last) bm = some (b, x)
  | [], bm, _, _, _, h => by
    rcases h with h | h
    · simp at h
    · exact h
  | c :: left, bm, h1, h2, h3, h4 => by
    rw [List.foldl_cons]
    have r1 : ∀ d ∈ left, d = b → worthM w d held last = some x := fun d hd => h1 d (List.mem_cons_of_mem _ hd)
    have r2 : ∀ d ∈ left, d ≠ b → ∀ y, worthM w d held last = some y → y < x := fun d hd => h2 d (List.mem_cons_of_mem _ hd)
    by_cases hc : c = b
    · subst hc
      have hw := h1 c List.mem_cons_self rfl
      have e : bestStep w held last bm c = some (c, x) := by
        unfold bestStep
        rw [hw]
        rcases h3 with rfl | rfl | ⟨d, y, rfl, hy⟩
        · rfl
        · simp
        · simp [hy]
      rw [e]
      exact best_go left _ r1 r2 (.inr (.inl rfl)) (.inr rfl)
    · have h4' : b ∈ left ∨ bm = some (b, x) := by
        rcases h4 with h | h
        · rcases List.mem_cons.mp h with h | h
          · exact absurd h.symm hc
          · exact .inl h
        · exact .inr h
      cases hw : worthM w c held last with
      | none =>
        have e : bestStep w held last bm c = bm := by unfold bestStep; rw [hw]
        rw [e]
        exact best_go left _ r1 r2 h3 h4'
      | some z =>
        have hz := h2 c List.mem_cons_self hc z hw
        rcases h3 with rfl | rfl | ⟨d, y, rfl, hy⟩
        · have e : bestStep w held last none c = some (c, z) := by unfold bestStep; rw [hw]
          rw [e]
          exact best_go left _ r1 r2 (.inr (.inr ⟨c, z, rfl, hz⟩)) (.inl (h4'.resolve_right (by simp)))
        · have e : bestStep w held last (some (b, x)) c = some (b, x) := by
            unfold bestStep; rw [hw]
            have : ¬ z > x := by omega
            simp [this]
          rw [e]
          exact best_go left _ r1 r2 (.inr (.inl rfl)) (.inr rfl)
        · have hb' : b ∈ left := h4'.resolve_right (by intro q; cases q; omega)
          unfold bestStep
          rw [hw]
          dsimp only
          split
          · exact best_go left _ r1 r2 (.inr (.inr ⟨c, z, rfl, hz⟩)) (.inl hb')
          · exact best_go left _ r1 r2 (.inr (.inr ⟨d, y, rfl, hy⟩)) (.inl hb')
theorem best_of {w : Sel} {held : List (Int × Bool)} {last x : Int} {b : Blk} {left : List Blk} (hb : b ∈ left) (h1 : worthM w b held last = some x) (h2 : ∀ c ∈ left, c ≠ b → ∀ y, worthM w c held last = some y → y < x) : left.foldl (bestStep w held last) none = some (b, x) :=
  best_go left none (fun c _ e => by rw [e]; exact h1) h2 (.inl rfl) (.inl hb)
theorem best_none {w : Sel} {held : List (Int × Bool)} {last : Int} : ∀ (left : List Blk), (∀ c ∈ left, worthM w c held last = none) → left.foldl (bestStep w held last) none = none
  | [], _ => rfl
  | c :: left, h => by
    rw [List.foldl_cons]
    have e : bestStep w held last none c = none := by unfold bestStep; rw [h c List.mem_cons_self]
    rw [e]
    exact best_none left fun d hd => h d (List.mem_cons_of_mem _ hd)
/-! ### the first piece in a block -/
theorem bw_none {ps : List Int} {left : List Blk} (h : blockWith ps left = none) : ∀ p ∈ ps, ∀ b ∈ left, inB p b = false := by
  intro p hp b hb
  unfold blockWith at h
  have h1 := List.findSome?_eq_none_iff.mp h p hp
  have h2 := List.find?_eq_none.mp h1 b hb
  simpa using h2
theorem bw_some {ps : List Int} {left : List Blk} {b : Blk} (h : blockWith ps left = some b) : b ∈ left ∧ ∃ l1 q l2, ps = l1 ++ q :: l2 ∧ inB q b = true ∧ ∀ p ∈ l1, ∀ c ∈ left, inB p c = false := by
  unfold blockWith at h
  induction ps with
  | nil => simp at h
  | cons p ps ih =>
    rw [List.findSome?_cons] at h
    cases hf : left.find? (fun b => inB p b) with
    | some c =>
      rw [hf] at h
      cases h
      exact ⟨List.mem_of_find?_eq_some hf, [], p, ps, rfl, List.find?_some hf, fun p hp => by simp at hp⟩
    | none =>
      rw [hf] at h
      obtain ⟨h1, l1, q, l2, e, h2, h3⟩ := ih h
      refine ⟨h1, p :: l1, q, l2, by rw [e]; rfl, h2, fun r hr c hc => ?_⟩
      rcases List.mem_cons.mp hr with rfl | hr
      · have := List.find?_eq_none.mp hf c hc
        simpa using this
      · exact h3 r hr c hc
theorem mem_inside {b : Blk} {held : List (Int × Bool)} {k : Int} : k ∈ insideM b held ↔ 0 ≤ k ∧ ∃ e, held[k.toNat]? = some e ∧ inB e.1 b = true := by
  unfold insideM
  rw [List.mem_filter, FB.mem_rangeM]
  constructor
  · rintro ⟨⟨h0, h1⟩, h2⟩
    split at h2
    · rename_i e he
      exact ⟨h0, e, he, h2⟩
    · cases h2
  · rintro ⟨h0, e, he, h2⟩
    have := (List.getElem?_eq_some_iff.mp he).1
    exact ⟨⟨h0, by omega⟩, by rw [he]; exact h2⟩
end FM
end

section
set_option Elab.async false
set_option linter.all false
/-! Plain: each selector picks alike in both; replies alike. -/
namespace FM
theorem bw_of {ps : List Int} {left : List Blk} {b : Blk} {l1 l2 : List Int} {q : Int} (e : ps = l1 ++ q :: l2) (h1 : ∀ p ∈ l1, ∀ c ∈ left, inB p c = false) (h2 : left.find? (fun c => inB q c) = some b) : blockWith ps left = some b := by
  subst e
  unfold blockWith
  induction l1 with
  | nil => rw [List.nil_append, List.findSome?_cons, h2]
  | cons p l1 ih =>
    rw [List.cons_append, List.findSome?_cons]
    have : left.find? (fun b => inB p b) = none := List.find?_eq_none.mpr fun c hc => by rw [h1 p List.mem_cons_self c hc]; simp
    rw [this]
    exact ih fun r hr => h1 r (List.mem_cons_of_mem _ hr)
theorem find_one {left : List Blk} {ns : List Int} (h : Blks left ns) {b : Blk} {q : Int} (hb : b ∈ left) (hq : inB q b = true) : left.find? (fun c => inB q c) = some b := by
  cases hf : left.find? (fun c => inB q c) with
  | none =>
    have := List.find?_eq_none.mp hf b hb
    rw [hq] at this; simp at this
  | some c => rw [h.one (List.mem_of_find?_eq_some hf) hb (List.find?_some hf) hq]
section
variable {held : List (Int × Bool)} {left : List Blk} {last : Int} {s : PSt}
theorem in_of_mem {p : Int} (h : p ∈ held.map (·.1)) : ∃ (k : Nat) (e : Int × Bool), held[k]? = some e ∧ e.1 = p := by
  obtain ⟨e, he, rfl⟩ := List.mem_map.mp h
  obtain ⟨k, hk⟩ := List.mem_iff_getElem?.mp he
  exact ⟨k, e, hk, rfl⟩
theorem inside_ne (hB : Blks left (held.map (·.1))) {b : Blk} (hb : b ∈ left) : insideM b held ≠ [] := FB.inside_ne (hB.mem b hb) (hB.ne b hb)
/-- what the program's state is to the law's -/
structure Fit (w : Sel) (held : List (Int × Bool)) (s : PSt) : Prop where
  perm : s.held.Perm (held.map (·.1))
  late : w = .late → s.held = held.map (·.1)
  told : w = .untold → ∀ e ∈ held, (e.2 = true ↔ e.1 ∈ s.told)
theorem worth_new (b : Blk) (held : List (Int × Bool)) (last : Int) : worthM .new b held last = if inB last b then some 0 else none := rfl
theorem word_eq (w : Sel) (hn : (held.map (·.1)).Nodup) (hB : Blks left (held.map (·.1))) (hF : Fit w held s) : blockWith (wantedM w s last left) left = (left.foldl (bestStep w held last) none).map (·.1) := by
  cases w with
  | new =>
    show blockWith [last] left = _
    cases h : blockWith [last] left with
    | none =>
      rw [best_none left fun c hc => by unfold worthM; rw [bw_none h last (by simp) c hc]; rfl]
      rfl
    | some b =>
      obtain ⟨h1, l1, q, l2, e, h2, h3⟩ := bw_some h
      have hq : q = last := by
        have : q ∈ [last] := by rw [e]; simp
        simpa using this
      subst hq
      rw [best_of (x := 0) h1 (by unfold worthM; rw [h2]; rfl) fun c hc hne y hy => by
        rw [worth_new] at hy
        split at hy
        · rename_i hin
          exact absurd (hB.one hc h1 hin h2) hne
        · cases hy]
      rfl
  | low =>
    show blockWith (left.map (·.1)) left = _
    cases left with
    | nil => rfl
    | cons b rest =>
      have hbb : inB b.1 b = true := inB_iff.mpr ⟨Int.le_refl _, hB.ne b List.mem_cons_self⟩
      rw [bw_of (ps := (b :: rest).map (·.1)) (b := b) (l1 := []) (q := b.1) (l2 := rest.map (·.1)) rfl (fun p hp => by simp at hp) (find_one hB List.mem_cons_self hbb)]
      rw [best_of (x := -b.1) List.mem_cons_self rfl fun c hc hne y hy => by
        cases hy
        rcases List.mem_cons.mp hc with rfl | hc
        · exact absurd rfl hne
        · have h1 := (List.pairwise_cons.mp hB.asc).1 c hc
          have h2 := hB.ne b List.mem_cons_self
          show -c.1 < -b.1
          omega]
      rfl
  | high =>
    show blockWith (left.map (·.1)).reverse left = _
    rcases List.eq_nil_or_concat left with rfl | ⟨pre, b, rfl⟩
    · rfl
    · rw [List.concat_eq_append] at *
      have hbm : b ∈ pre ++ [b] := by simp
      have hbb : inB b.1 b = true := inB_iff.mpr ⟨Int.le_refl _, hB.ne b hbm⟩
      rw [bw_of (b := b) (l1 := []) (q := b.1) (l2 := (pre.map (·.1)).reverse) (by simp) (fun p hp => by simp at hp) (find_one hB hbm hbb)]
      rw [best_of (x := b.1) hbm rfl fun c hc hne y hy => by
        cases hy
        rcases List.mem_append.mp hc with hc | hc
        · have h1 := (List.pairwise_append.mp hB.asc).2.2 c hc b (by simp)
          have h2 := hB.ne c (List.mem_append_left _ hc)
          show c.1 < b.1
          omega
        · simp only [List.mem_singleton] at hc
          exact absurd hc hne]
      rfl
  | late =>
    have hh : s.held = held.map (·.1) := hF.late rfl
    show blockWith s.held.reverse left = _
    rw [hh]
    cases h : blockWith (held.map (·.1)).reverse left with
    | none =>
      cases left with
      | nil => rfl
      | cons b rest =>
        have := bw_none h b.1 (List.mem_reverse.mpr (hB.mem b List.mem_cons_self)) b List.mem_cons_self
        rw [inB_iff.mpr ⟨Int.le_refl _, hB.ne b List.mem_cons_self⟩] at this
        cases this
    | some b =>
      obtain ⟨h1, l1, q, l2, e, h2, h3⟩ := bw_some h
      have e2 : held.map (·.1) = l2.reverse ++ q :: l1.reverse := by
        have := congrArg List.reverse e
        rw [List.reverse_reverse] at this
        rw [this]; simp
      -- the place of q
      have hq : (held.map (·.1))[l2.length]? = some q := by rw [e2, List.getElem?_append_right (by simp)]; simp
      -- pieces behind it are in no block
      have hup : ∀ (k : Nat) (e' : Int × Bool) (c : Blk), held[k]? = some e' → c ∈ left → inB e'.1 c = true → k ≤ l2.length := fun k e' c hk hc hin => by
        by_cases hle : k ≤ l2.length
        · exact hle
        · have hk2 : (held.map (·.1))[k]? = some e'.1 := by rw [List.getElem?_map, hk]; rfl
          rw [e2, List.getElem?_append_right (by simp; omega)] at hk2
          have hlt : k - l2.reverse.length = (k - l2.length - 1) + 1 := by simp; omega
          rw [hlt, List.getElem?_cons_succ] at hk2
          have hm : e'.1 ∈ l1 := List.mem_reverse.mp (List.mem_of_getElem? hk2)
          rw [h3 _ hm c hc] at hin
          cases hin
      obtain ⟨eq', hkq, heq⟩ : ∃ e', held[l2.length]? = some e' ∧ e'.1 = q := by
        rw [List.getElem?_map] at hq
        exact Option.map_eq_some_iff.mp hq
      have hmemq : (l2.length : Int) ∈ insideM b held := mem_inside.mpr ⟨by omega, eq', by simpa using hkq, by rw [heq]; exact h2⟩
      have hbest : worthM .late b held last = some (l2.length : Int) := by
        show some _ = some _
        obtain ⟨m1, m2⟩ := FB.maxIn (inside_ne hB h1)
        congr 1
        have g1 := m2 _ hmemq
        obtain ⟨k0, e', hk, hin⟩ := mem_inside.mp m1
        have g2 := hup _ e' b hk h1 hin
        omega
      rw [best_of h1 hbest fun c hc hne y hy => by
        have hy' : (insideM c held).foldl (fun a c => if c > a then c else a) 0 = y := Option.some.inj hy
        obtain ⟨m1, m2⟩ := FB.maxIn (inside_ne hB hc)
        rw [hy'] at m1
        obtain ⟨k0, e', hk, hin⟩ := mem_inside.mp m1
        have g2 := hup _ e' c hk hc hin
        rcases Nat.lt_or_ge y.toNat l2.length with g | g
        · omega
        · have : y.toNat = l2.length := by omega
          rw [this, hkq] at hk
          cases hk
          rw [heq] at hin
          exact absurd (hB.one hc h1 hin h2) hne]
      rfl
  | untold =>
    show blockWith ((sortI s.held).filter fun e => !s.told.contains e) left = _
    have mem_want : ∀ {q : Int}, q ∈ (sortI s.held).filter (fun e => !s.told.contains e) ↔ q ∈ held.map (·.1) ∧ q ∉ s.told := fun {q} => by
      rw [List.mem_filter, mem_sortI, hF.perm.mem_iff]
      simp
    have unt : ∀ {c : Blk} {y : Int}, worthM .untold c held last = some y → y = -c.1 ∧ ∃ q, q ∈ held.map (·.1) ∧ q ∉ s.told ∧ inB q c = true := fun {c y} hy => by
      rw [FB.worth_untold] at hy
      split at hy
      · cases hy
      · rename_i hne
        cases hy
        obtain ⟨k, hk⟩ := List.exists_mem_of_ne_nil _ hne
        obtain ⟨hk1, hk2⟩ := List.mem_filter.mp hk
        obtain ⟨k0, e, he, hin⟩ := mem_inside.mp hk1
        unfold FB.utQ at hk2
        rw [he] at hk2
        dsimp only at hk2
        have hem : e ∈ held := List.mem_of_getElem? he
        refine ⟨rfl, e.1, List.mem_map.mpr ⟨e, hem, rfl⟩, fun z => ?_, hin⟩
        rw [(hF.told rfl e hem).mpr z] at hk2
        cases hk2
    have has : ∀ {c : Blk} {q : Int}, q ∈ held.map (·.1) → q ∉ s.told → inB q c = true → worthM .untold c held last = some (-c.1) := fun {c q} hq ht hin => by
      rw [FB.worth_untold, if_neg]
      obtain ⟨k, e, he, rfl⟩ := in_of_mem hq
      have hem : e ∈ held := List.mem_of_getElem? he
      refine List.ne_nil_of_mem (a := (k : Int)) (List.mem_filter.mpr ⟨mem_inside.mpr ⟨by omega, e, by simpa using he, hin⟩, ?_⟩)
      unfold FB.utQ
      have : ((k : Int)).toNat = k := by omega
      rw [this, he]
      cases h2 : e.2 with
      | false => simp [h2]
      | true => exact absurd ((hF.told rfl e hem).mp h2) ht
    cases h : blockWith ((sortI s.held).filter fun e => !s.told.contains e) left with
    | none =>
      rw [best_none left fun c hc => by
        cases hy : worthM .untold c held last with
        | none => rfl
        | some y =>
          obtain ⟨_, q, h1, h2, h3⟩ := unt hy
          rw [bw_none h q (mem_want.mpr ⟨h1, h2⟩) c hc] at h3
          cases h3]
      rfl
    | some b =>
      obtain ⟨h1, l1, q, l2, e, h2, h3⟩ := bw_some h
      have hqm : q ∈ (sortI s.held).filter fun e => !s.told.contains e := by rw [e]; simp
      obtain ⟨hq1, hq2⟩ := mem_want.mp hqm
      have hsort : ((sortI s.held).filter fun e => !s.told.contains e).Pairwise (· ≤ ·) := (sortI_pw _).filter _
      rw [best_of h1 (has hq1 hq2 h2) fun c hc hne y hy => by
        obtain ⟨rfl, q', g1, g2, g3⟩ := unt hy
        have hm := mem_want.mpr ⟨g1, g2⟩
        have hqq : q ≤ q' := by
          rw [e] at hm hsort
          rcases List.mem_append.mp hm with hm | hm
          · rw [h3 q' hm c hc] at g3; cases g3
          · rcases List.mem_cons.mp hm with rfl | hm
            · exact Int.le_refl _
            · exact (List.pairwise_cons.mp (List.pairwise_append.mp hsort).2.1).1 q' hm
        rw [inB_iff] at g3 h2
        have := hB.ne b h1
        rcases hB.side h1 hc hne with h | h <;> omega]
      rfl
end
end FM
end

section
set_option Elab.async false
set_option linter.all false
/-! Plain: the program's receiver against the law's. -/
namespace FM
abbrev LSt.names (t : LSt) : List Int := t.held.map (·.1)
structure Sim (sp : Spec) (s : PSt) (t : LSt) : Prop where
  n : s.n = t.n
  nd : t.names.Nodup
  rg : ∀ x ∈ t.names, t.n < x ∧ x ≤ t.n + sp.room
  held : s.held = if sp.rcv.ord then t.names else sortI t.names
  told : s.told = if sp.rcv.tld then sortI ((t.held.filter (·.2)).map (·.1)) else []
section
variable {sp : Spec} {s : PSt} {t : LSt} {p last : Int}
theorem Sim.perm (h : Sim sp s t) : s.held.Perm t.names := by
  rw [h.held]
  split
  · exact List.Perm.refl _
  · exact sortI_perm _
theorem Sim.sort (h : Sim sp s t) : sortI s.held = sortI t.names := sortI_eq h.perm
theorem Sim.toldIff (h : Sim sp s t) (ht : sp.rcv.tld = true) {e : Int × Bool} (he : e ∈ t.held) : e.2 = true ↔ e.1 ∈ s.told := by
  rw [h.told, if_pos ht, mem_sortI, List.mem_map]
  constructor
  · intro q; exact ⟨e, List.mem_filter.mpr ⟨he, q⟩, rfl⟩
  · rintro ⟨e', h1, h2⟩
    obtain ⟨h3, h4⟩ := List.mem_filter.mp h1
    obtain ⟨i, hi⟩ := List.mem_iff_getElem?.mp he
    obtain ⟨j, hj⟩ := List.mem_iff_getElem?.mp h3
    have hi2 : t.names[i]? = some e.1 := by rw [List.getElem?_map, hi]; rfl
    have hj2 : t.names[j]? = some e.1 := by rw [List.getElem?_map, hj]; exact congrArg some h2
    have : i = j := (List.getElem?_inj (List.getElem?_eq_some_iff.mp hi2).1 h.nd).mp (hi2.trans hj2.symm)
    subst this
    rw [hi] at hj
    cases hj
    exact h4
theorem Sim.fit (h : Sim sp s t) {w : Sel} (hw : w ∈ sp.sel) : Fit w t.held s := by
  refine ⟨h.perm, fun e => ?_, fun e => ?_⟩
  · subst e
    have : sp.rcv.ord = true := List.contains_iff_mem.mpr hw
    rw [h.held, if_pos this]
  · subst e
    have : sp.rcv.tld = true := by
      show (sp.sel.contains .untold || _) = true
      rw [List.contains_iff_mem.mpr hw]; rfl
    exact fun e he => h.toldIff this he
theorem picks_go (h : Sim sp s t) : ∀ (ws : List Sel) (lp : List Blk × List Blk), (∀ w ∈ ws, w ∈ sp.sel) → Blks lp.1 t.names → ws.foldl (pickStep s last) lp = ws.foldl (lpickStep t.held last) lp
  | [], _, _, _ => rfl
  | w :: ws, lp, hw, hB => by
    rw [List.foldl_cons, List.foldl_cons]
    have e := word_eq (last := last) w h.nd hB (h.fit (hw w List.mem_cons_self))
    have e2 : pickStep s last lp w = lpickStep t.held last lp w := by
      unfold pickStep lpickStep
      rw [e]
      cases lp.1.foldl (bestStep w t.held last) none <;> rfl
    rw [e2]
    refine picks_go h ws _ (fun v hv => hw v (List.mem_cons_of_mem _ hv)) ?_
    unfold lpickStep
    split
    · exact hB
    · exact hB.filter _
theorem picked_eq (h : Sim sp s t) : pickedM sp.rcv s last = lpickedM sp.sel t last := by
  unfold pickedM lpickedM
  rw [blocks_eq h.perm h.nd]
  exact congrArg (·.2) (picks_go h sp.sel (lblocksM t.names, []) (fun w hw => hw) (blks_all h.nd))
theorem bw1 (x : Int) (bs : List Blk) : (blockWith [x] bs).isSome = !((bs.filter fun b => inB x b).isEmpty) := by
  unfold blockWith
  rw [List.findSome?_cons]
  induction bs with
  | nil => rfl
  | cons b bs ih =>
    rw [List.find?_cons, List.filter_cons]
    cases inB x b
    · simpa using ih
    · rfl
theorem filter_map_fst (l : List (Int × Bool)) (q : Int → Bool) : (l.filter fun e => q e.1).map (·.1) = (l.map (·.1)).filter q := by
  rw [List.filter_map]; rfl
theorem reply_sim (h : Sim sp s t) : (replyM sp.rcv s last).1 = (lreplyM sp.sel t last).1 ∧ Sim sp (replyM sp.rcv s last).2 (lreplyM sp.sel t last).2 := by
  have hp := picked_eq (last := last) h
  refine ⟨hp, ?_⟩
  have hn : (lreplyM sp.sel t last).2.names = t.names := by
    show (t.held.map _).map _ = _
    rw [List.map_map]; rfl
  refine ⟨h.n, by rw [hn]; exact h.nd, by rw [hn]; exact h.rg, by rw [hn]; exact h.held, ?_⟩
  show (if sp.rcv.tld = true then (sortI s.held).filter (fun e => s.told.contains e || (blockWith [e] (pickedM sp.rcv s last)).isSome) else s.told) = _
  by_cases ht : sp.rcv.tld = true
  · rw [if_pos ht, if_pos ht, hp]
    show _ = sortI (((t.held.map fun e => (e.1, e.2 || !(((lpickedM sp.sel t last).filter fun b => inB e.1 b).isEmpty))).filter (·.2)).map (·.1))
    rw [List.filter_map, List.map_map]
    have e1 : ((fun x : Int × Bool => x.2) ∘ fun e : Int × Bool => (e.1, e.2 || !(((lpickedM sp.sel t last).filter fun b => inB e.1 b).isEmpty))) = fun e => e.2 || !(((lpickedM sp.sel t last).filter fun b => inB e.1 b).isEmpty) := rfl
    have e2 : ((fun x : Int × Bool => x.1) ∘ fun e : Int × Bool => (e.1, e.2 || !(((lpickedM sp.sel t last).filter fun b => inB e.1 b).isEmpty))) = fun e => e.1 := rfl
    rw [e1, e2]
    have e3 : t.held.filter (fun e => e.2 || !(((lpickedM sp.sel t last).filter fun b => inB e.1 b).isEmpty)) = t.held.filter (fun e => (fun x => s.told.contains x || (blockWith [x] (lpickedM sp.sel t last)).isSome) e.1) := by
      refine List.filter_congr fun e he => ?_
      dsimp only
      rw [bw1]
      congr 1
      rw [Bool.eq_iff_iff, List.contains_iff_mem]
      exact h.toldIff ht he
    rw [e3]
    have e4 := filter_map_fst t.held (fun x => s.told.contains x || (blockWith [x] (lpickedM sp.sel t last)).isSome)
    have e5 : sortI ((t.held.filter fun e => (fun x => s.told.contains x || (blockWith [x] (lpickedM sp.sel t last)).isSome) e.1).map (·.1)) = sortI (t.names.filter fun x => s.told.contains x || (blockWith [x] (lpickedM sp.sel t last)).isSome) := congrArg sortI e4
    refine Eq.trans ?_ e5.symm
    rw [sortI_filter, h.sort]
  · rw [if_neg ht, if_neg ht, h.told, if_neg ht]
/-! ### a piece comes -/
theorem up_spec {held : List Int} : ∀ (f : Nat) (v : Int), (held.filter fun e => decide (v ≤ e)).length < f → v ≤ upF f held v ∧ upF f held v ∉ held ∧ ∀ x, v ≤ x → x < upF f held v → x ∈ held
  | 0, v, h => by omega
  | f + 1, v, h => by
    unfold upF
    by_cases hv : v ∈ held
    · rw [if_pos hv]
      have hl := FB.up_less (held := held) hv
      obtain ⟨h1, h2, h3⟩ := up_spec (held := held) f (v + 1) (by omega)
      refine ⟨by omega, h2, fun x hx hx2 => ?_⟩
      by_cases he : x = v
      · subst he; exact hv
      · exact h3 x (by omega) hx2
    · rw [if_neg hv]
      exact ⟨Int.le_refl _, hv, fun x h1 h2 => by omega⟩
theorem upM_spec (held : List Int) (v : Int) : v ≤ upM held v ∧ upM held v ∉ held ∧ ∀ x, v ≤ x → x < upM held v → x ∈ held :=
  up_spec _ v (Nat.lt_succ_of_le (List.length_filter_le _ _))
theorem lup_cases (ns : List Int) (v : Int) : (v ∈ ns ∧ lup ns v = v + 1) ∨ (v ∉ ns ∧ lup ns v = v) := by
  unfold lup
  by_cases h : v ∈ ns
  · rw [if_pos h]; exact .inl ⟨h, rfl⟩
  · rw [if_neg h]; exact .inr ⟨h, rfl⟩
theorem lup_spec {ns : List Int} {v hi : Int} (h : ∀ x ∈ ns, x < v + 3) : v ≤ lup ns (lup ns (lup ns v)) ∧ lup ns (lup ns (lup ns v)) ∉ ns ∧ (∀ x, v ≤ x → x < lup ns (lup ns (lup ns v)) → x ∈ ns) ∧ lup ns (lup ns (lup ns v)) ≤ v + 3 := by
  rcases lup_cases ns v with ⟨a1, a2⟩ | ⟨a1, a2⟩
  · rw [a2]
    rcases lup_cases ns (v + 1) with ⟨b1, b2⟩ | ⟨b1, b2⟩
    · rw [b2]
      rcases lup_cases ns (v + 1 + 1) with ⟨c1, c2⟩ | ⟨c1, c2⟩
      · rw [c2]
        refine ⟨by omega, fun z => by have := h _ z; omega, fun x h1 h2 => ?_, by omega⟩
        have : x = v ∨ x = v + 1 ∨ x = v + 1 + 1 := by omega
        rcases this with rfl | rfl | rfl <;> assumption
      · rw [c2]
        refine ⟨by omega, c1, fun x h1 h2 => ?_, by omega⟩
        have : x = v ∨ x = v + 1 := by omega
        rcases this with rfl | rfl <;> assumption
    · rw [b2, b2]
      refine ⟨by omega, b1, fun x h1 h2 => ?_, by omega⟩
      have : x = v := by omega
      subst this; assumption
  · rw [a2, a2, a2]
    exact ⟨Int.le_refl _, a1, fun x h1 h2 => by omega, by omega⟩
theorem up_eq {held ns : List Int} {v : Int} (hp : ∀ x, x ∈ held ↔ x ∈ ns) (h : ∀ x ∈ ns, x < v + 3) : upM held v = lup ns (lup ns (lup ns v)) := by
  obtain ⟨a1, a2, a3⟩ := upM_spec held v
  obtain ⟨b1, b2, b3, _⟩ := lup_spec (hi := 0) h
  rcases Int.lt_trichotomy (upM held v) (lup ns (lup ns (lup ns v))) with q | q | q
  · exact absurd ((hp _).mpr (b3 _ a1 q)) a2
  · exact q
  · exact absurd ((hp _).mp (a3 _ b1 q)) b2
theorem filter_ff (l : List (Int × Bool)) (q : Int → Bool) : ((l.filter fun e => q e.1).filter (·.2)).map (·.1) = ((l.filter (·.2)).map (·.1)).filter q := by
  rw [← filter_map_fst, List.filter_filter, List.filter_filter]
  congr 1
  refine List.filter_congr fun e _ => Bool.and_comm _ _
/-- both without the pieces that q throws out -/
theorem Sim.cut (h : Sim sp s t) (q : Int → Bool) (m : Int) (hr : ∀ x ∈ t.names, q x = true → m < x ∧ x ≤ m + sp.room) : Sim sp ⟨m, s.held.filter q, s.told.filter q⟩ ⟨m, t.held.filter fun e => q e.1⟩ := by
  have hn : LSt.names ⟨m, t.held.filter fun e => q e.1⟩ = t.names.filter q := filter_map_fst _ _
  refine ⟨rfl, by rw [hn]; exact h.nd.filter _, ?_, ?_, ?_⟩
  · rw [hn]
    intro x hx
    obtain ⟨h1, h2⟩ := List.mem_filter.mp hx
    exact hr x h1 h2
  · rw [hn]
    show s.held.filter q = _
    rw [h.held]
    split
    · rfl
    · rw [sortI_filter]
  · show s.told.filter q = if sp.rcv.tld = true then sortI (((t.held.filter fun e => q e.1).filter (·.2)).map (·.1)) else []
    rw [h.told]
    split
    · rw [filter_ff, sortI_filter]
    · rfl
theorem take_sim (h : Sim sp s t) (hr : sp.room ≤ 3) : Sim sp (takeM sp.rcv s p) (ltakeM sp.room t p) := by
  unfold takeM ltakeM
  dsimp only
  rw [h.n]
  by_cases h1 : p = t.n
  · rw [if_pos h1, if_pos h1]
    have e : upM s.held (t.n + 1) = lup t.names (lup t.names (lup t.names (t.n + 1))) := up_eq (fun x => h.perm.mem_iff) fun x hx => by
      have := (h.rg x hx).2
      omega
    rw [e]
    obtain ⟨b1, b2, b3, b4⟩ := lup_spec (ns := t.names) (v := t.n + 1) (hi := 0) fun x hx => by
      have := (h.rg x hx).2
      omega
    refine h.cut (fun x => decide (lup t.names (lup t.names (lup t.names (t.n + 1))) < x)) _ fun x hx hq => ?_
    have := (h.rg x hx).2
    have := of_decide_eq_true hq
    omega
  · rw [if_neg h1, if_neg h1]
    have hm : p ∉ s.held ↔ p ∉ t.names := not_congr h.perm.mem_iff
    by_cases h2 : (t.n < p ∧ p ≤ t.n + sp.room) ∧ p ∉ t.names
    · rw [if_pos (show (t.n < p ∧ p ≤ t.n + sp.rcv.room) ∧ p ∉ s.held from ⟨h2.1, hm.mpr h2.2⟩), if_pos h2]
      have hn : LSt.names ⟨t.n, t.held ++ [(p, false)]⟩ = t.names ++ [p] := by
        show (t.held ++ [(p, false)]).map _ = _
        rw [List.map_append]; rfl
      refine ⟨rfl, ?_, ?_, ?_, ?_⟩
      · rw [hn, List.nodup_append]
        exact ⟨h.nd, by simp, fun a ha b hb => by simp only [List.mem_singleton] at hb; subst hb; intro z; subst z; exact h2.2 ha⟩
      · rw [hn]
        intro x hx
        rcases List.mem_append.mp hx with hx | hx
        · exact h.rg x hx
        · simp only [List.mem_singleton] at hx; subst hx; exact h2.1
      · rw [hn]
        show (if sp.rcv.ord = true then s.held ++ [p] else sortI (s.held ++ [p])) = _
        rw [h.held]
        split
        · rename_i ho
          rfl
        · exact sortI_eq ((sortI_perm _).append_right _)
      · show s.told = if sp.rcv.tld = true then sortI (((t.held ++ [(p, false)]).filter (·.2)).map (·.1)) else []
        rw [List.filter_append, h.told]
        simp
    · rw [if_neg (show ¬ ((t.n < p ∧ p ≤ t.n + sp.rcv.room) ∧ p ∉ s.held) from fun z => h2 ⟨z.1, hm.mp z.2⟩), if_neg h2]
      exact h
theorem drop_sim (h : Sim sp s t) : Sim sp (if s.held.contains p then withoutM s p else s) ⟨t.n, t.held.filter fun x => !decide (x.1 = p)⟩ := by
  have h1 := h.cut (fun x => !decide (x = p)) t.n fun x hx _ => h.rg x hx
  split
  · have e : withoutM s p = ⟨t.n, s.held.filter (fun x => !decide (x = p)), s.told.filter (fun x => !decide (x = p))⟩ := by unfold withoutM; rw [h.n]
    rw [e]; exact h1
  · rename_i hc
    have hp : p ∉ t.names := fun z => hc (List.contains_iff_mem.mpr (h.perm.mem_iff.mpr z))
    have e : t.held.filter (fun x => !decide (x.1 = p)) = t.held := List.filter_eq_self.mpr fun x hx => by
      have : x.1 ≠ p := fun z => hp (List.mem_map.mpr ⟨x, hx, z⟩)
      simp [this]
    rw [e]
    exact h
theorem low_sim (h : Sim sp s t) (c : Int) : Sim sp (lowM s c) (llow t c) := by
  have hn : (llow t c).names = t.names.map (· - c) := by
    show (t.held.map _).map _ = (t.held.map _).map _
    rw [List.map_map, List.map_map]; rfl
  have hs : ∀ l : List Int, sortI (l.map (· - c)) = (sortI l).map (· - c) := fun l => by
    have e : (fun x : Int => x - c) = (fun x : Int => x + -c) := by funext x; omega
    rw [e]; exact sortI_add (-c) l
  refine ⟨by show s.n - c = t.n - c; rw [h.n], ?_, ?_, ?_, ?_⟩
  · rw [hn]
    exact List.Pairwise.map _ (fun a b hab => by show a - c ≠ b - c; omega) h.nd
  · rw [hn]
    intro x hx
    obtain ⟨y, hy, rfl⟩ := List.mem_map.mp hx
    have := h.rg y hy
    show t.n - c < y - c ∧ y - c ≤ t.n - c + sp.room
    omega
  · rw [hn]
    show s.held.map (· - c) = _
    rw [h.held]
    split
    · rfl
    · rw [hs]
  · show s.told.map (· - c) = if sp.rcv.tld = true then sortI (((t.held.map fun e => (e.1 - c, e.2)).filter (·.2)).map (·.1)) else []
    rw [h.told]
    split
    · rw [← hs, List.filter_map, List.map_map, List.map_map]
      rfl
    · rfl
end
end FM
end

section
set_option Elab.async false
set_option linter.all false
/-! Plain: all numbers more by c. -/
namespace FM
def shB (c : Int) (b : Blk) : Blk := (b.1 + c, b.2 + c)
def shH (c : Int) (e : Int × Bool) : Int × Bool := (e.1 + c, e.2)
def sh (c : Int) (t : LSt) : LSt := ⟨t.n + c, t.held.map (shH c)⟩
def shE (c : Int) : Ev → Ev
  | .come p => .come (p + c)
  | .drop p => .drop (p + c)
  | .round => .round
def shA (c : Int) (a : Ans) : Ans := a.map fun x => (x.1 + c, x.2.map (shB c))
section
variable {c : Int} {t : LSt} {p last : Int} {sp : Spec}
theorem shB_inj {a b : Blk} (h : shB c a = shB c b) : a = b := by
  unfold shB at h
  simp only [Prod.mk.injEq] at h
  exact Prod.ext (by omega) (by omega)
theorem shA_inj {a b : Ans} (h : shA c a = shA c b) : a = b := by
  cases a with
  | none => cases b with
    | none => rfl
    | some b => cases h
  | some a => cases b with
    | none => cases h
    | some b =>
      unfold shA at h
      simp only [Option.map_some, Option.some.injEq, Prod.mk.injEq] at h
      congr 1
      exact Prod.ext (by omega) ((List.map_inj_right (fun x y => shB_inj)).mp h.2)
theorem inB_sh (p : Int) (b : Blk) : inB (p + c) (shB c b) = inB p b := by
  rw [Bool.eq_iff_iff, inB_iff, inB_iff]
  show b.1 + c ≤ p + c ∧ p + c < b.2 + c ↔ _
  omega
theorem names_sh (t : LSt) : (sh c t).names = t.names.map (· + c) := by
  show (t.held.map _).map _ = (t.held.map _).map _
  rw [List.map_map, List.map_map]; rfl
theorem mem_sh {l : List Int} {x : Int} : x + c ∈ l.map (· + c) ↔ x ∈ l := by
  rw [List.mem_map]
  constructor
  · rintro ⟨y, hy, e⟩
    have : y = x := by omega
    subst this; exact hy
  · exact fun h => ⟨x, h, rfl⟩
theorem lblk_sh (acc : List Blk) (p : Int) : lblkStep (acc.map (shB c)) (p + c) = (lblkStep acc p).map (shB c) := by
  unfold lblkStep
  rw [List.getLast?_map]
  cases acc.getLast? with
  | none => simp [shB]; omega
  | some l =>
    simp only [Option.map_some]
    by_cases h : l.2 = p
    · have h2 : (shB c l).2 = p + c := by show l.2 + c = p + c; omega
      rw [if_pos h2, if_pos h, List.map_append, List.map_dropLast]
      have : shB c (l.1, p + 1) = ((shB c l).1, p + c + 1) := Prod.ext rfl (by show p + 1 + c = p + c + 1; omega)
      rw [List.map_singleton, this]
    · have h2 : ¬ (shB c l).2 = p + c := by show ¬ l.2 + c = p + c; omega
      rw [if_neg h2, if_neg h, List.map_append]
      have : shB c (p, p + 1) = (p + c, p + c + 1) := Prod.ext rfl (by show p + 1 + c = p + c + 1; omega)
      rw [List.map_singleton, this]
theorem lblocks_sh (ns : List Int) : lblocksM (ns.map (· + c)) = (lblocksM ns).map (shB c) := by
  unfold lblocksM
  rw [sortI_add]
  have : ∀ (s : List Int) (acc : List Blk), (s.map (· + c)).foldl lblkStep (acc.map (shB c)) = (s.foldl lblkStep acc).map (shB c) := by
    intro s
    induction s with
    | nil => intro acc; rfl
    | cons p s ih =>
      intro acc
      rw [List.map_cons, List.foldl_cons, List.foldl_cons, lblk_sh]
      exact ih _
  exact this _ []
theorem inside_sh (b : Blk) (held : List (Int × Bool)) : insideM (shB c b) (held.map (shH c)) = insideM b held := by
  unfold insideM
  rw [List.length_map]
  refine List.filter_congr fun k _ => ?_
  rw [List.getElem?_map]
  cases held[k.toNat]? with
  | none => rfl
  | some e => exact inB_sh e.1 b
/-- what a worth grows by -/
def kW (c : Int) : Sel → Int
  | .new => 0
  | .late => 0
  | .untold => -c
  | .low => -c
  | .high => c
theorem utQ_sh (held : List (Int × Bool)) : FB.utQ (held.map (shH c)) = FB.utQ held := by
  funext k
  unfold FB.utQ
  rw [List.getElem?_map]
  cases held[k.toNat]? <;> rfl
theorem worth_sh (w : Sel) (b : Blk) (held : List (Int × Bool)) (last : Int) : worthM w (shB c b) (held.map (shH c)) (last + c) = (worthM w b held last).map (· + kW c w) := by
  cases w with
  | new =>
    rw [worth_new, worth_new, inB_sh]
    split <;> simp [kW]
  | late =>
    show some ((insideM (shB c b) (held.map (shH c))).foldl _ 0) = (some ((insideM b held).foldl _ 0)).map _
    rw [inside_sh]
    simp [kW]
  | untold =>
    rw [FB.worth_untold, FB.worth_untold, inside_sh, utQ_sh]
    split
    · rfl
    · show some (-(b.1 + c)) = some (-b.1 + -c)
      congr 1; omega
  | low =>
    show some (-(b.1 + c)) = some (-b.1 + -c)
    congr 1; omega
  | high => rfl
theorem best_sh (w : Sel) (held : List (Int × Bool)) (last : Int) : ∀ (left : List Blk) (bm : Option (Blk × Int)), (left.map (shB c)).foldl (bestStep w (held.map (shH c)) (last + c)) (bm.map fun z => (shB c z.1, z.2 + kW c w)) = (left.foldl (bestStep w held last) bm).map fun z => (shB c z.1, z.2 + kW c w)
  | [], bm => rfl
  | b :: left, bm => by
    rw [List.map_cons, List.foldl_cons, List.foldl_cons, ← best_sh w held last left]
    congr 1
    unfold bestStep
    rw [worth_sh]
    cases worthM w b held last with
    | none => rfl
    | some x => cases bm with
      | none => rfl
      | some z =>
        simp only [Option.map_some]
        by_cases h : x > z.2
        · have h2 : x + kW c w > z.2 + kW c w := by omega
          rw [if_pos h2, if_pos h]; rfl
        · have h2 : ¬ x + kW c w > z.2 + kW c w := by omega
          rw [if_neg h2, if_neg h]; rfl
theorem lpick_sh (held : List (Int × Bool)) (last : Int) (w : Sel) (lp : List Blk × List Blk) : lpickStep (held.map (shH c)) (last + c) (lp.1.map (shB c), lp.2.map (shB c)) w = ((lpickStep held last lp w).1.map (shB c), (lpickStep held last lp w).2.map (shB c)) := by
  unfold lpickStep
  have e := best_sh (c := c) w held last lp.1 none
  simp only [Option.map_none] at e
  dsimp only
  rw [e]
  cases lp.1.foldl (bestStep w held last) none with
  | none => rfl
  | some z =>
    simp only [Option.map_some, List.map_append, List.map_singleton]
    congr 1
    rw [List.filter_map]
    congr 1
    refine List.filter_congr fun x _ => ?_
    show (!decide (shB c x = shB c z.1)) = !decide (x = z.1)
    congr 1
    rw [Bool.eq_iff_iff]
    simp only [decide_eq_true_eq]
    exact ⟨shB_inj, fun h => by rw [h]⟩
theorem lpicks_sh (held : List (Int × Bool)) (last : Int) : ∀ (ws : List Sel) (lp : List Blk × List Blk), ws.foldl (lpickStep (held.map (shH c)) (last + c)) (lp.1.map (shB c), lp.2.map (shB c)) = ((ws.foldl (lpickStep held last) lp).1.map (shB c), (ws.foldl (lpickStep held last) lp).2.map (shB c))
  | [], _ => rfl
  | w :: ws, lp => by rw [List.foldl_cons, List.foldl_cons, lpick_sh, lpicks_sh held last ws]
theorem lpicked_sh (sel : List Sel) (t : LSt) (last : Int) : lpickedM sel (sh c t) (last + c) = (lpickedM sel t last).map (shB c) := by
  unfold lpickedM
  have e : lblocksM ((sh c t).held.map (·.1)) = (lblocksM (t.held.map (·.1))).map (shB c) := by
    have := names_sh (c := c) t
    show lblocksM (sh c t).names = _
    rw [this]; exact lblocks_sh _
  rw [e]
  exact congrArg (·.2) (lpicks_sh (c := c) t.held last sel (lblocksM (t.held.map (·.1)), []))
theorem lreply_sh (sel : List Sel) (t : LSt) (last : Int) : lreplyM sel (sh c t) (last + c) = ((lreplyM sel t last).1.map (shB c), sh c (lreplyM sel t last).2) := by
  unfold lreplyM
  rw [lpicked_sh]
  refine Prod.ext rfl ?_
  show LSt.mk _ _ = LSt.mk _ _
  congr 1
  show (t.held.map (shH c)).map _ = (t.held.map _).map (shH c)
  rw [List.map_map, List.map_map]
  refine List.map_congr_left fun e _ => ?_
  show (e.1 + c, e.2 || !(((lpickedM sel t last).map (shB c)).filter fun b => inB (e.1 + c) b).isEmpty) = (e.1 + c, e.2 || !((lpickedM sel t last).filter fun b => inB e.1 b).isEmpty)
  congr 2
  rw [List.filter_map, List.isEmpty_map]
  congr 1
  congr 1
  exact List.filter_congr fun b _ => inB_sh e.1 b
theorem lup_sh (ns : List Int) (v : Int) : lup (ns.map (· + c)) (v + c) = lup ns v + c := by
  unfold lup
  by_cases h : v ∈ ns
  · rw [if_pos (mem_sh.mpr h), if_pos h]; omega
  · rw [if_neg (fun z => h (mem_sh.mp z)), if_neg h]
theorem ltake_sh (room : Int) (t : LSt) (p : Int) : ltakeM room (sh c t) (p + c) = sh c (ltakeM room t p) := by
  unfold ltakeM
  have hn : (sh c t).held.map (·.1) = (t.held.map (·.1)).map (· + c) := names_sh t
  rw [hn]
  dsimp only
  have e0 : (sh c t).n = t.n + c := rfl
  rw [e0]
  by_cases h1 : p = t.n
  · rw [if_pos (show p + c = t.n + c by omega), if_pos h1]
    have e1 : t.n + c + 1 = t.n + 1 + c := by omega
    rw [e1, lup_sh, lup_sh, lup_sh]
    show LSt.mk _ _ = LSt.mk _ _
    congr 1
    show (t.held.map (shH c)).filter _ = (t.held.filter _).map (shH c)
    rw [List.filter_map]
    congr 1
    refine List.filter_congr fun e _ => ?_
    show decide (_ < e.1 + c) = decide (_ < e.1)
    rw [Bool.eq_iff_iff]; simp
  · rw [if_neg (show ¬ p + c = t.n + c by omega), if_neg h1]
    by_cases h2 : (t.n < p ∧ p ≤ t.n + room) ∧ p ∉ t.held.map (·.1)
    · rw [if_pos ⟨by omega, fun z => h2.2 (mem_sh.mp z)⟩, if_pos h2]
      show LSt.mk _ _ = LSt.mk _ _
      congr 1
      show t.held.map (shH c) ++ _ = (t.held ++ _).map (shH c)
      rw [List.map_append]; rfl
    · rw [if_neg (fun z => h2 ⟨by omega, fun q => z.2 (mem_sh.mpr q)⟩), if_neg h2]
theorem levent_sh (sp : Spec) (t : LSt) (l : Option Int) (e : Ev) : leventM sp (sh c t) (l.map (· + c)) (shE c e) = (sh c (leventM sp t l e).1, (leventM sp t l e).2.1.map (· + c), shA c (leventM sp t l e).2.2) := by
  rw [FB.levent_eq, FB.levent_eq]
  have hS : FB.preS sp (sh c t) (shE c e) = sh c (FB.preS sp t e) := by
    cases e with
    | come p => exact ltake_sh sp.room t p
    | drop p =>
      show LSt.mk _ _ = LSt.mk _ _
      congr 1
      show (t.held.map (shH c)).filter _ = (t.held.filter _).map (shH c)
      rw [List.filter_map]
      congr 1
      refine List.filter_congr fun x _ => ?_
      show (!decide (x.1 + c = p + c)) = !decide (x.1 = p)
      congr 1
      rw [Bool.eq_iff_iff]
      simp only [decide_eq_true_eq]
      omega
    | round => rfl
  have hL : FB.preL (l.map (· + c)) (shE c e) = (FB.preL l e).map (· + c) := by cases e <;> rfl
  have hN : FB.noAns sp (shE c e) = FB.noAns sp e := by cases e <;> rfl
  rw [hS, hL]
  unfold FB.finM
  rw [hN]
  cases FB.preL l e with
  | none => rfl
  | some y =>
    simp only [Option.map_some]
    split
    · rfl
    · rw [lreply_sh]; rfl
/-! ### a last piece that nobody holds -/
theorem cover_go {ns : List Int} : ∀ (s : List Int) (acc : List Blk), (∀ p ∈ s, p ∈ ns) → (∀ b ∈ acc, ∀ p, inB p b = true → p ∈ ns) → ∀ b ∈ s.foldl lblkStep acc, ∀ p, inB p b = true → p ∈ ns
  | [], acc, _, h => h
  | q :: s, acc, hs, h => by
    rw [List.foldl_cons]
    refine cover_go s _ (fun p hp => hs p (List.mem_cons_of_mem _ hp)) fun b hb p hp => ?_
    have hq : q ∈ ns := hs q List.mem_cons_self
    have one : inB p (q, q + 1) = true → p ∈ ns := fun z => by
      rw [inB_iff] at z
      have : p = q := by have h1 : q ≤ p := z.1; have h2 : p < q + 1 := z.2; omega
      subst this; exact hq
    unfold lblkStep at hb
    split at hb
    · rcases List.mem_append.mp hb with hb | hb
      · exact h b hb p hp
      · simp only [List.mem_singleton] at hb; subst hb; exact one hp
    · rename_i l hl
      split at hb
      · rename_i he
        rcases List.mem_append.mp hb with hb | hb
        · exact h b ((List.dropLast_sublist acc).subset hb) p hp
        · simp only [List.mem_singleton] at hb
          subst hb
          rw [inB_iff] at hp
          have h1 : l.1 ≤ p := hp.1
          have h2 : p < q + 1 := hp.2
          by_cases hpq : p < l.2
          · exact h l (List.mem_of_getLast? hl) p (inB_iff.mpr ⟨h1, hpq⟩)
          · have : p = q := by omega
            subst this; exact hq
      · rcases List.mem_append.mp hb with hb | hb
        · exact h b hb p hp
        · simp only [List.mem_singleton] at hb; subst hb; exact one hp
theorem cover {ns : List Int} {b : Blk} (hb : b ∈ lblocksM ns) {p : Int} (hp : inB p b = true) : p ∈ ns :=
  cover_go (sortI ns) [] (fun p hp => mem_sortI.mp hp) (fun b hb => by simp at hb) b hb p hp
theorem picks_last {held : List (Int × Bool)} {l1 l2 : Int} : ∀ (ws : List Sel) (lp : List Blk × List Blk), (∀ b ∈ lp.1, inB l1 b = inB l2 b) → ws.foldl (lpickStep held l1) lp = ws.foldl (lpickStep held l2) lp
  | [], _, _ => rfl
  | w :: ws, lp, h => by
    rw [List.foldl_cons, List.foldl_cons]
    have hw : ∀ (left : List Blk) (bm : Option (Blk × Int)), (∀ b ∈ left, inB l1 b = inB l2 b) → left.foldl (bestStep w held l1) bm = left.foldl (bestStep w held l2) bm := by
      intro left
      induction left with
      | nil => intro bm _; rfl
      | cons b left ih =>
        intro bm hl
        rw [List.foldl_cons, List.foldl_cons]
        have e : bestStep w held l1 bm b = bestStep w held l2 bm b := by
          have : worthM w b held l1 = worthM w b held l2 := by
            cases w with
            | new => rw [worth_new, worth_new, hl b List.mem_cons_self]
            | late => rfl
            | untold => rfl
            | low => rfl
            | high => rfl
          unfold bestStep
          rw [this]
        rw [e]
        exact ih _ fun d hd => hl d (List.mem_cons_of_mem _ hd)
    have e : lpickStep held l1 lp w = lpickStep held l2 lp w := by
      unfold lpickStep
      rw [hw lp.1 none h]
    rw [e]
    exact picks_last ws _ fun b hb => h b ((FB.lpickStep_sub).1 b hb)
theorem lreply_last (sel : List Sel) (t : LSt) {l1 l2 : Int} (h1 : l1 ∉ t.names) (h2 : l2 ∉ t.names) : lreplyM sel t l1 = lreplyM sel t l2 := by
  have e : lpickedM sel t l1 = lpickedM sel t l2 := by
    unfold lpickedM
    refine congrArg (·.2) (picks_last sel (lblocksM (t.held.map (·.1)), []) fun b hb => ?_)
    have n1 : inB l1 b = false := by
      cases q : inB l1 b with
      | false => rfl
      | true => exact absurd (cover hb q) h1
    have n2 : inB l2 b = false := by
      cases q : inB l2 b with
      | false => rfl
      | true => exact absurd (cover hb q) h2
    rw [n1, n2]
  unfold lreplyM
  rw [e]
end
end FM
end

section
set_option Elab.async false
set_option linter.all false
/-! Plain: rows that part; the law's search by layers. -/
namespace FM
section
variable {S E : Type} (evs : S → List E) (step : S → E → Option S)
/-- some row of n events parts at its last one -/
inductive Parts : Nat → S → Prop
  | here {s : S} {e : E} : e ∈ evs s → step s e = none → Parts 1 s
  | there {s q : S} {e : E} {n : Nat} : e ∈ evs s → step s e = some q → Parts n q → Parts (n + 1) s
inductive Reach (s0 : S) : Nat → S → Prop
  | zero : Reach s0 0 s0
  | succ {k : Nat} {q r : S} {e : E} : Reach s0 k q → e ∈ evs q → step q e = some r → Reach s0 (k + 1) r
def IsMin (s0 : S) (m : Nat) : Prop := Parts evs step m s0 ∧ ∀ k, Parts evs step k s0 → m ≤ k
end
section
variable {S E : Type} {evs : S → List E} {step : S → E → Option S} {s0 s : S} {k n m : Nat}
theorem Reach.parts (r : Reach evs step s0 k s) : ∀ {n : Nat}, Parts evs step n s → Parts evs step (k + n) s0 := by
  induction r with
  | zero => intro n h; rw [Nat.zero_add]; exact h
  | @succ k q r e _ he hs ih =>
    intro n h
    have := ih (.there he hs h)
    have e2 : k + 1 + n = k + (n + 1) := by omega
    rw [e2]; exact this
theorem Parts.pos (h : Parts evs step n s) : 1 ≤ n := by cases h <;> omega
theorem min_of : ∀ (k : Nat), Parts evs step k s → ∃ m, IsMin evs step s m ∧ m ≤ k := by
  intro k
  induction k using Nat.strongRecOn with
  | ind k ih =>
    intro h
    by_cases hk : ∃ j, j < k ∧ Parts evs step j s
    · obtain ⟨j, hj, hp⟩ := hk
      obtain ⟨m, h1, h2⟩ := ih j hj hp
      exact ⟨m, h1, by omega⟩
    · exact ⟨k, ⟨h, fun j hj => Nat.le_of_not_lt fun q => hk ⟨j, q, hj⟩⟩, Nat.le_refl _⟩
end
section
variable {a b : Spec} {wide : Int} {F P : LPl → Prop}
abbrev lP (a b : Spec) (wide : Int) : Nat → LPl → Prop := Parts (fun h => ltriesM h wide) (lstepM a b)
abbrev lR (a b : Spec) (wide : Int) : Nat → LPl → Prop := Reach (fun h => ltriesM h wide) (lstepM a b) lbegin
abbrev lM (a b : Spec) (wide : Int) : Nat → Prop := IsMin (fun h => ltriesM h wide) (lstepM a b) lbegin
/-- what the search may rely on: few places, and where a fresh one does not part its next ones are fresh ones -/
structure Room' (a b : Spec) (wide : Int) (F P : LPl → Prop) : Prop where
  few : ∀ l : List LPl, l.Nodup → (∀ x ∈ l, P x) → l.length < sizeMax
  sm : ∀ x, P x → smL x.s1 = true ∧ smL x.s2 = true
  fp : ∀ x, F x → P x
  out : ∀ h, F h → ∀ e ∈ ltriesM h wide, ∀ q, lstepM a b h e = some q → P q
  stay : ∀ h, F h → (∀ e ∈ ltriesM h wide, lstepM a b h e ≠ none) → ∀ e ∈ ltriesM h wide, ∀ q, lstepM a b h e = some q → F q
theorem scan_spec (R : Room' a b wide F P) {h : LPl} (hF : F h) : ∀ (es : List Ev) (seen later : List LPl), (∀ e ∈ es, e ∈ ltriesM h wide) → seen.Nodup → (∀ x ∈ seen, P x) →
    (∃ e ∈ es, lstepM a b h e = none) ∧ lscanM a b h es seen later = some none ∨
    (∀ e ∈ es, lstepM a b h e ≠ none) ∧ ∃ new, lscanM a b h es seen later = some (some (seen ++ new, later ++ new)) ∧ (seen ++ new).Nodup ∧ (∀ x ∈ seen ++ new, P x) ∧ (∀ x ∈ new, ∃ e ∈ es, lstepM a b h e = some x) ∧ ∀ e ∈ es, ∀ q, lstepM a b h e = some q → q ∈ seen ++ new
  | [], seen, later, _, hn, hP => .inr ⟨fun e he => by simp at he, [], by simp [lscanM], by simpa using hn, by simpa using hP, fun x hx => by simp at hx, fun e he => by simp at he⟩
  | e :: es, seen, later, hes, hn, hP => by
    have he := hes e List.mem_cons_self
    have hes' : ∀ e ∈ es, e ∈ ltriesM h wide := fun e' h' => hes e' (List.mem_cons_of_mem _ h')
    unfold lscanM
    cases hs : lstepM a b h e with
    | none => exact .inl ⟨⟨e, List.mem_cons_self, hs⟩, rfl⟩
    | some q =>
      dsimp only
      have hq := R.out h hF e he q hs
      by_cases hm : q ∈ seen
      · rw [if_pos hm]
        rcases scan_spec R hF es seen later hes' hn hP with ⟨⟨e', h1, h2⟩, h3⟩ | ⟨h1, new, h2, h3, h4, h5, h6⟩
        · exact .inl ⟨⟨e', List.mem_cons_of_mem _ h1, h2⟩, h3⟩
        · refine .inr ⟨fun e' he' => ?_, new, h2, h3, h4, fun x hx => let ⟨e', g1, g2⟩ := h5 x hx; ⟨e', List.mem_cons_of_mem _ g1, g2⟩, fun e' he' q' hq' => ?_⟩
          · rcases List.mem_cons.mp he' with rfl | he'
            · rw [hs]; simp
            · exact h1 e' he'
          · rcases List.mem_cons.mp he' with rfl | he'
            · rw [hs] at hq'; cases hq'
              exact List.mem_append_left _ hm
            · exact h6 e' he' q' hq'
      · rw [if_neg hm, if_pos ⟨R.few seen hn hP, R.sm q hq⟩]
        have hn2 : (seen ++ [q]).Nodup := List.nodup_append.mpr ⟨hn, by simp, fun x hx y hy => by simp only [List.mem_singleton] at hy; subst hy; intro z; subst z; exact hm hx⟩
        have hP2 : ∀ x ∈ seen ++ [q], P x := fun x hx => by
          rcases List.mem_append.mp hx with hx | hx
          · exact hP x hx
          · simp only [List.mem_singleton] at hx; subst hx; exact hq
        rcases scan_spec R hF es (seen ++ [q]) (later ++ [q]) hes' hn2 hP2 with ⟨⟨e', h1, h2⟩, h3⟩ | ⟨h1, new, h2, h3, h4, h5, h6⟩
        · exact .inl ⟨⟨e', List.mem_cons_of_mem _ h1, h2⟩, h3⟩
        · have e1 : ∀ l : List LPl, l ++ [q] ++ new = l ++ (q :: new) := fun l => by simp
          rw [e1, e1] at h2
          rw [e1] at h3 h4
          refine .inr ⟨fun e' he' => ?_, q :: new, h2, h3, h4, fun x hx => ?_, fun e' he' q' hq' => ?_⟩
          · rcases List.mem_cons.mp he' with rfl | he'
            · rw [hs]; simp
            · exact h1 e' he'
          · rcases List.mem_cons.mp hx with rfl | hx
            · exact ⟨e, List.mem_cons_self, hs⟩
            · obtain ⟨e', g1, g2⟩ := h5 x hx
              exact ⟨e', List.mem_cons_of_mem _ g1, g2⟩
          · rcases List.mem_cons.mp he' with rfl | he'
            · rw [hs] at hq'; cases hq'
              simp
            · have := h6 e' he' q' hq'
              rwa [e1] at this
theorem layer_spec (R : Room' a b wide F P) : ∀ (hs seen later : List LPl), (∀ h ∈ hs, F h) → seen.Nodup → (∀ x ∈ seen, P x) →
    (∃ h ∈ hs, ∃ e ∈ ltriesM h wide, lstepM a b h e = none) ∧ llayerM a b wide hs seen later = some none ∨
    (∀ h ∈ hs, ∀ e ∈ ltriesM h wide, lstepM a b h e ≠ none) ∧ ∃ new, llayerM a b wide hs seen later = some (some (seen ++ new, later ++ new)) ∧ (seen ++ new).Nodup ∧ (∀ x ∈ seen ++ new, P x) ∧ (∀ x ∈ new, F x ∧ ∃ h ∈ hs, ∃ e ∈ ltriesM h wide, lstepM a b h e = some x) ∧ ∀ h ∈ hs, ∀ e ∈ ltriesM h wide, ∀ q, lstepM a b h e = some q → q ∈ seen ++ new
  | [], seen, later, _, hn, hP => .inr ⟨fun e he => by simp at he, [], by simp [llayerM], by simpa using hn, by simpa using hP, fun x hx => by simp at hx, fun e he => by simp at he⟩
  | h :: hs, seen, later, hF, hn, hP => by
    have hF' : ∀ h ∈ hs, F h := fun h' hh => hF h' (List.mem_cons_of_mem _ hh)
    have hFh := hF h List.mem_cons_self
    unfold llayerM
    rcases scan_spec R hFh (ltriesM h wide) seen later (fun e he => he) hn hP with ⟨h1, h2⟩ | ⟨h1, new, h2, h3, h4, h5, h6⟩
    · rw [h2]
      exact .inl ⟨⟨h, List.mem_cons_self, h1⟩, rfl⟩
    · rw [h2]
      dsimp only
      rcases layer_spec R hs (seen ++ new) (later ++ new) hF' h3 h4 with ⟨⟨h', g1, g2⟩, g3⟩ | ⟨g1, new2, g2, g3, g4, g5, g6⟩
      · exact .inl ⟨⟨h', List.mem_cons_of_mem _ g1, g2⟩, g3⟩
      · rw [List.append_assoc, List.append_assoc] at g2
        rw [List.append_assoc] at g3 g4
        refine .inr ⟨fun h' hh => ?_, new ++ new2, g2, g3, g4, fun x hx => ?_, fun h' hh e he q hq => ?_⟩
        · rcases List.mem_cons.mp hh with rfl | hh
          · exact h1
          · exact g1 h' hh
        · rcases List.mem_append.mp hx with hx | hx
          · obtain ⟨e, k1, k2⟩ := h5 x hx
            exact ⟨R.stay h hFh h1 e k1 x k2, h, List.mem_cons_self, e, k1, k2⟩
          · obtain ⟨k0, h', k1, k2⟩ := g5 x hx
            exact ⟨k0, h', List.mem_cons_of_mem _ k1, k2⟩
        · rcases List.mem_cons.mp hh with rfl | hh
          · rw [← List.append_assoc]
            exact List.mem_append_left _ (h6 e he q hq)
          · rw [← List.append_assoc]
            exact g6 h' hh e he q hq
theorem least_spec (R : Room' a b wide F P) : ∀ (f len : Nat) (seen fresh : List LPl), 1 ≤ len → seen.Nodup → (∀ x ∈ seen, P x) → (∀ x ∈ fresh, F x) → (∀ x ∈ seen, ∃ d, d ≤ len - 1 ∧ lR a b wide d x) → (∀ x ∈ fresh, lR a b wide (len - 1) x) →
    (∀ m0, lM a b wide m0 → len ≤ m0 ∧ ∃ h ∈ fresh, lP a b wide (m0 - (len - 1)) h) → ∃ n, lleastF a b wide f len seen fresh = some n ∧ (n = 0 → ∀ m0, lM a b wide m0 → len + f ≤ m0) ∧ (n ≠ 0 → lM a b wide n)
  | 0, len, seen, fresh, h1, _, _, _, _, _, hm => ⟨0, rfl, fun _ m0 h => (hm m0 h).1, fun z => absurd rfl z⟩
  | f + 1, len, seen, fresh, h1, hn, hP, hF, hs, hf, hm => by
    unfold lleastF
    rcases layer_spec R fresh seen [] hF hn hP with ⟨⟨h, g1, e, g2, g3⟩, g4⟩ | ⟨g1, new, g2, g3, g4, g5, g6⟩
    · rw [g4]
      refine ⟨len, rfl, fun z => by omega, fun _ => ?_⟩
      have hp := (hf h g1).parts (.here g2 g3)
      have e1 : len - 1 + 1 = len := by omega
      rw [e1] at hp
      refine ⟨hp, fun k hk => ?_⟩
      obtain ⟨m0, k1, k2⟩ := min_of k hk
      have := (hm m0 k1).1
      omega
    · rw [g2]
      dsimp only
      rw [List.nil_append]
      have e1 : len + 1 - 1 = len := by omega
      have hnew : ∀ x ∈ new, lR a b wide len x := fun x hx => by
        obtain ⟨_, h, k1, e, k2, k3⟩ := g5 x hx
        have := Reach.succ (hf h k1) k2 k3
        have e2 : len - 1 + 1 = len := by omega
        rwa [e2] at this
      obtain ⟨n, r1, r2, r3⟩ := least_spec R f (len + 1) (seen ++ new) new (by omega) g3 g4 (fun x hx => (g5 x hx).1) (fun x hx => by
        rcases List.mem_append.mp hx with hx | hx
        · obtain ⟨d, k1, k2⟩ := hs x hx
          exact ⟨d, by omega, k2⟩
        · exact ⟨len, by omega, hnew x hx⟩) (fun x hx => by rw [e1]; exact hnew x hx) (fun m0 hm0 => by
        obtain ⟨k1, h, k2, k3⟩ := hm m0 hm0
        have hgt : ¬ m0 = len := fun z => by
          have e2 : m0 - (len - 1) = 1 := by omega
          rw [e2] at k3
          cases k3 with
          | here he hn => exact g1 h k2 _ he hn
          | there he hs hp => have := hp.pos; omega
        refine ⟨by omega, ?_⟩
        generalize hr : m0 - (len - 1) = r at k3
        cases k3 with
        | here he hn => exact absurd hn (g1 h k2 _ he)
        | @there _ q e n he hst hp =>
          have hq := g6 h k2 e he q hst
          have hnr : m0 - (len + 1 - 1) = n := by omega
          rw [hnr]
          rcases List.mem_append.mp hq with hq | hq
          · obtain ⟨d, d1, d2⟩ := hs q hq
            have := hm0.2 _ (d2.parts hp)
            omega
          · exact ⟨q, hq, hp⟩)
      exact ⟨n, r1, fun z m0 hm0 => by have := r2 z m0 hm0; omega, r3⟩
theorem leastM_spec {a b : Spec} {F P : LPl → Prop} (R : Room' a b (wideM a.room b.room) F P) (h0 : F lbegin) : ∃ n, lleastM a b = some n ∧ (n = 0 → ∀ m0, lM a b (wideM a.room b.room) m0 → 400 ≤ m0) ∧ (n ≠ 0 → lM a b (wideM a.room b.room) n) := by
  unfold lleastM
  refine least_spec R 399 1 [lbegin] [lbegin] (Nat.le_refl _) (by simp) (fun x hx => ?_) (fun x hx => ?_) (fun x hx => ?_) (fun x hx => ?_) fun m0 hm0 => ⟨hm0.1.pos, lbegin, by simp, hm0.1⟩
  · simp only [List.mem_singleton] at hx; subst hx; exact R.fp _ h0
  · simp only [List.mem_singleton] at hx; subst hx; exact h0
  · simp only [List.mem_singleton] at hx; subst hx; exact ⟨0, Nat.le_refl _, .zero⟩
  · simp only [List.mem_singleton] at hx; subst hx; exact .zero
end
end FM
end

section
set_option Elab.async false
set_option linter.all false
/-! Plain: the program's search by its queue. -/
namespace FM
section
variable {a b : Rcv} {F : Pl → Prop}
abbrev pStep (a b : Rcv) (pl : Pl) (e : Ev) : Option Pl := (behindM a b pl e).map (·.1)
abbrev pP (a b : Rcv) : Nat → Pl → Prop := Parts (eventsM a b) (pStep a b)
abbrev pM (a b : Rcv) : Nat → Prop := IsMin (eventsM a b) (pStep a b) startM
inductive PRun (a b : Rcv) : List (Ev × Int) → Pl → Prop
  | nil : PRun a b [] startM
  | snoc {l : List (Ev × Int)} {q q' : Pl} {e : Ev} {r : Int} : PRun a b l q → e ∈ eventsM a b q → behindM a b q e = some (q', r) → PRun a b (l ++ [(e, r)]) q'
theorem PRun.reach {l : List (Ev × Int)} {q : Pl} (h : PRun a b l q) : Reach (eventsM a b) (pStep a b) startM l.length q := by
  induction h with
  | nil => exact .zero
  | snoc _ he hb ih =>
    rw [List.length_append]
    exact .succ ih he (by show (behindM a b _ _).map _ = _; rw [hb]; rfl)
structure GoodW (a b : Rcv) (W : Ways) (D : List Nat) : Prop where
  len : D.length = W.length
  keys : (W.map (·.1)).Nodup
  first : W[0]? = some (startM, none) ∧ D[0]? = some 0
  rest : ∀ i x, 1 ≤ i → W[i]? = some x → ∃ (j : Nat) (p : Pl) (e : Ev) (r : Int) (d : Nat), x.2 = some (p, e, r) ∧ j < i ∧ (W.map (·.1))[j]? = some p ∧ e ∈ eventsM a b p ∧ behindM a b p e = some (x.1, r) ∧ D[j]? = some d ∧ D[i]? = some (d + 1)
  mono : ∀ (i j d d' : Nat), i ≤ j → D[i]? = some d → D[j]? = some d' → d ≤ d'
theorem look_at {W : Ways} (hn : (W.map (·.1)).Nodup) {i : Nat} {q : Pl} {w : Option (Pl × Ev × Int)} (h : W[i]? = some (q, w)) : W.look q = some w := by
  unfold Ways.look
  induction W generalizing i with
  | nil => simp at h
  | cons x W ih =>
    rw [List.map_cons, List.nodup_cons] at hn
    rw [List.find?_cons]
    cases i with
    | zero =>
      simp at h
      subst h
      simp
    | succ i =>
      rw [List.getElem?_cons_succ] at h
      have hne : ¬ x.1 = q := fun z => hn.1 (List.mem_map.mpr ⟨(q, w), List.mem_of_getElem? h, z.symm⟩)
      simp only [hne, decide_false]
      exact ih hn.2 h
theorem look_none {W : Ways} {q : Pl} : (W.look q).isSome = decide (q ∈ W.map (·.1)) := by
  unfold Ways.look
  induction W with
  | nil => rfl
  | cons x W ih =>
    rw [List.find?_cons]
    by_cases h : x.1 = q
    · simp [h]
    · have h2 : ¬ q = x.1 := fun z => h z.symm
      simp only [h, decide_false, List.map_cons, List.mem_cons, h2, false_or]
      exact ih
theorem path_at {W : Ways} {D : List Nat} (G : GoodW a b W D) : ∀ (i : Nat) (q : Pl) (w : Option (Pl × Ev × Int)), W[i]? = some (q, w) → ∀ f, i < f → ∃ l, pathF f W q = some l ∧ PRun a b l.reverse q ∧ D[i]? = some l.length := by
  intro i
  induction i using Nat.strongRecOn with
  | ind i ih =>
    intro q w h f hf
    obtain ⟨f, rfl⟩ : ∃ f', f = f' + 1 := ⟨f - 1, by omega⟩
    have hl := look_at G.keys h
    unfold pathF
    rw [hl]
    cases i with
    | zero =>
      rw [G.first.1] at h
      cases h
      exact ⟨[], rfl, .nil, G.first.2⟩
    | succ i =>
      obtain ⟨j, p, e, r, d, h1, h2, h3, h4, h5, h6, h7⟩ := G.rest (i + 1) _ (by omega) h
      dsimp only at h1 h5
      subst h1
      rw [List.getElem?_map] at h3
      obtain ⟨⟨p', w'⟩, h8, rfl⟩ := Option.map_eq_some_iff.mp h3
      obtain ⟨l, g1, g2, g3⟩ := ih j h2 p' w' h8 f (by omega)
      dsimp only at h4 h5 ⊢
      rw [g1]
      refine ⟨(e, r) :: l, rfl, by rw [List.reverse_cons]; exact .snoc g2 h4 h5, ?_⟩
      rw [h6] at g3
      cases g3
      exact h7
/-- what the queue may rely on -/
structure RoomP (a b : Rcv) (F : Pl → Prop) : Prop where
  few : ∀ l : List Pl, l.Nodup → (∀ x ∈ l, F x) → l.length < sizeMax
  sm : ∀ x, F x → smB x.first = true ∧ smB x.second = true
  out : ∀ h, F h → ∀ e ∈ eventsM a b h, ∀ q r, behindM a b h e = some (q, r) → F q
theorem pscan_spec (R : RoomP a b F) {pl : Pl} {k d : Nat} (hF : F pl) : ∀ (es : List Ev) (W : Ways) (D : List Nat), (∀ e ∈ es, e ∈ eventsM a b pl) → GoodW a b W D → (∀ x ∈ W, F x.1) → (W.map (·.1))[k]? = some pl → D[k]? = some d → (∀ (j d' : Nat), D[j]? = some d' → d' ≤ d + 1) →
    ∃ new, GoodW a b (W ++ new) (D ++ List.replicate new.length (d + 1)) ∧ (∀ x ∈ W ++ new, F x.1) ∧
      ((∃ e ∈ es, behindM a b pl e = none ∧ scanM a b pl es W = some (W ++ new, some e)) ∨
       ((∀ e ∈ es, behindM a b pl e ≠ none) ∧ scanM a b pl es W = some (W ++ new, none) ∧ ∀ e ∈ es, ∀ q r, behindM a b pl e = some (q, r) → q ∈ (W ++ new).map (·.1)))
  | [], W, D, _, G, hW, _, _, _ => ⟨[], by simpa using G, by simpa using hW, .inr ⟨fun e he => by simp at he, by simp [scanM], fun e he => by simp at he⟩⟩
  | e :: es, W, D, hes, G, hW, hk, hd, hle => by
    have he := hes e List.mem_cons_self
    have hes' : ∀ e ∈ es, e ∈ eventsM a b pl := fun e' h' => hes e' (List.mem_cons_of_mem _ h')
    unfold scanM
    cases hb : behindM a b pl e with
    | none => exact ⟨[], by simpa using G, by simpa using hW, .inl ⟨e, List.mem_cons_self, hb, by simp⟩⟩
    | some z =>
      obtain ⟨q, r⟩ := z
      dsimp only
      by_cases hm : (W.look q).isSome = true
      · rw [if_pos hm]
        obtain ⟨new, g1, g2, g3⟩ := pscan_spec R hF es W D hes' G hW hk hd hle
        refine ⟨new, g1, g2, ?_⟩
        rcases g3 with ⟨e', k1, k2, k3⟩ | ⟨k1, k2, k3⟩
        · exact .inl ⟨e', List.mem_cons_of_mem _ k1, k2, k3⟩
        · refine .inr ⟨fun e' he' => ?_, k2, fun e' he' q' r' hq' => ?_⟩
          · rcases List.mem_cons.mp he' with rfl | he'
            · rw [hb]; simp
            · exact k1 e' he'
          · rcases List.mem_cons.mp he' with rfl | he'
            · rw [hb] at hq'; cases hq'
              rw [look_none, decide_eq_true_eq] at hm
              rw [List.map_append]
              exact List.mem_append_left _ hm
            · exact k3 e' he' q' r' hq'
      · have hq := R.out pl hF e he q r hb
        have hfew : W.length < sizeMax := by
          have := R.few (W.map (·.1)) G.keys fun x hx => by
            obtain ⟨y, hy, rfl⟩ := List.mem_map.mp hx
            exact hW y hy
          rwa [List.length_map] at this
        rw [if_neg hm, if_pos ⟨hfew, R.sm q hq⟩]
        have hqn : q ∉ W.map (·.1) := by
          rw [look_none] at hm
          simpa using hm
        have hk2 : k < D.length := (List.getElem?_eq_some_iff.mp hd).1
        have G2 : GoodW a b (W ++ [(q, some (pl, e, r))]) (D ++ [d + 1]) := by
          have hWl : 0 < W.length := (List.getElem?_eq_some_iff.mp G.first.1).1
          refine ⟨by rw [List.length_append, List.length_append, G.len]; rfl, ?_, ⟨by rw [List.getElem?_append_left hWl]; exact G.first.1, by rw [List.getElem?_append_left (by rw [G.len]; exact hWl)]; exact G.first.2⟩, fun i x hi hx => ?_, fun i j d1 d2 hij h1 h2 => ?_⟩
          · rw [List.map_append, List.nodup_append]
            exact ⟨G.keys, by simp, fun x hx y hy => by simp only [List.map_cons, List.map_nil, List.mem_singleton] at hy; subst hy; intro z; subst z; exact hqn hx⟩
          · by_cases hlt : i < W.length
            · rw [List.getElem?_append_left hlt] at hx
              obtain ⟨j, p, e', r', d', h1, h2, h3, h4, h5, h6, h7⟩ := G.rest i x hi hx
              refine ⟨j, p, e', r', d', h1, h2, ?_, h4, h5, ?_, ?_⟩
              · rw [List.map_append, List.getElem?_append_left (by rw [List.length_map]; omega)]; exact h3
              · rw [List.getElem?_append_left (by rw [G.len]; omega)]; exact h6
              · rw [List.getElem?_append_left (by rw [G.len]; omega)]; exact h7
            · have hii : i = W.length := by
                have := (List.getElem?_eq_some_iff.mp hx).1
                rw [List.length_append] at this
                simp at this
                omega
              subst hii
              rw [List.getElem?_append_right (Nat.le_refl _), Nat.sub_self] at hx
              cases hx
              refine ⟨k, pl, e, r, d, rfl, by rw [← G.len]; exact hk2, ?_, he, hb, ?_, ?_⟩
              · rw [List.map_append, List.getElem?_append_left (by rw [List.length_map, ← G.len]; exact hk2)]; exact hk
              · rw [List.getElem?_append_left hk2]; exact hd
              · rw [List.getElem?_append_right (by rw [G.len]; exact Nat.le_refl _), G.len, Nat.sub_self]; rfl
          · by_cases hj : j < D.length
            · rw [List.getElem?_append_left hj] at h2
              rw [List.getElem?_append_left (by omega)] at h1
              exact G.mono i j d1 d2 hij h1 h2
            · have hjj : d2 = d + 1 := by
                rw [List.getElem?_append_right (by omega)] at h2
                have := (List.getElem?_eq_some_iff.mp h2).1
                simp at this
                rw [this] at h2
                cases h2; rfl
              subst hjj
              by_cases hi : i < D.length
              · rw [List.getElem?_append_left hi] at h1
                exact hle i d1 h1
              · rw [List.getElem?_append_right (by omega)] at h1
                have := (List.getElem?_eq_some_iff.mp h1).1
                simp at this
                rw [this] at h1
                cases h1; exact Nat.le_refl _
        have hW2 : ∀ x ∈ W ++ [(q, some (pl, e, r))], F x.1 := fun x hx => by
          rcases List.mem_append.mp hx with hx | hx
          · exact hW x hx
          · simp only [List.mem_singleton] at hx; subst hx; exact hq
        have hkl : k < W.length := by rw [← G.len]; exact hk2
        obtain ⟨new, g1, g2, g3⟩ := pscan_spec R hF es (W ++ [(q, some (pl, e, r))]) (D ++ [d + 1]) hes' G2 hW2 (by rw [List.map_append, List.getElem?_append_left (by rw [List.length_map]; exact hkl)]; exact hk) (by rw [List.getElem?_append_left hk2]; exact hd) (fun j d' hj => by
          by_cases hjl : j < D.length
          · rw [List.getElem?_append_left hjl] at hj; exact hle j d' hj
          · rw [List.getElem?_append_right (by omega)] at hj
            have := (List.getElem?_eq_some_iff.mp hj).1
            simp at this
            rw [this] at hj
            cases hj; exact Nat.le_refl _)
        have e1 : W ++ [(q, some (pl, e, r))] ++ new = W ++ ((q, some (pl, e, r)) :: new) := by simp
        have e2 : D ++ [d + 1] ++ List.replicate new.length (d + 1) = D ++ List.replicate ((q, some (pl, e, r)) :: new).length (d + 1) := by
          rw [List.length_cons, List.replicate_succ]; simp
        rw [e1, e2] at g1
        rw [e1] at g2 g3
        refine ⟨(q, some (pl, e, r)) :: new, g1, g2, ?_⟩
        rcases g3 with ⟨e', k1, k2, k3⟩ | ⟨k1, k2, k3⟩
        · exact .inl ⟨e', List.mem_cons_of_mem _ k1, k2, k3⟩
        · refine .inr ⟨fun e' he' => ?_, k2, fun e' he' q' r' hq' => ?_⟩
          · rcases List.mem_cons.mp he' with rfl | he'
            · rw [hb]; simp
            · exact k1 e' he'
          · rcases List.mem_cons.mp he' with rfl | he'
            · rw [hb] at hq'; cases hq'
              simp
            · exact k3 e' he' q' r' hq'
theorem part_go (R : RoomP a b F) : ∀ (f k : Nat) (W : Ways) (D : List Nat), sizeMax < f + k → k ≤ W.length → GoodW a b W D → (∀ x ∈ W, F x.1) → (∀ (j d' dk : Nat), D[j]? = some d' → D[k]? = some dk → d' ≤ dk + 1) →
    (∀ m0, pM a b m0 → ∃ (i : Nat) (x : Pl × Option (Pl × Ev × Int)) (d : Nat), k ≤ i ∧ W[i]? = some x ∧ D[i]? = some d ∧ d < m0 ∧ pP a b (m0 - d) x.1) →
    ∃ res, partF a b f k W = some res ∧ match res with
      | none => ∀ m, ¬ pM a b m
      | some row => ∃ l pl e, row = realM (l ++ [(e, 0)]) ∧ PRun a b l pl ∧ e ∈ eventsM a b pl ∧ behindM a b pl e = none ∧ pM a b (l.length + 1)
  | 0, k, W, D, hf, hk, G, hW, _, _ => by
    exfalso
    have := R.few (W.map (·.1)) G.keys fun x hx => by
      obtain ⟨y, hy, rfl⟩ := List.mem_map.mp hx
      exact hW y hy
    rw [List.length_map] at this
    omega
  | f + 1, k, W, D, hf, hk, G, hW, hle, hm => by
    unfold partF
    by_cases hkl : k < W.length
    · have hx : W[k]? = some W[k] := List.getElem?_eq_getElem hkl
      rw [hx]
      generalize hy : W[k] = y at hx
      obtain ⟨pl, w⟩ := y
      dsimp only
      have hFp : F pl := hW (pl, w) (List.mem_of_getElem? hx)
      obtain ⟨d, hd⟩ : ∃ d, D[k]? = some d := ⟨D[k]'(by rw [G.len]; exact hkl), List.getElem?_eq_getElem (by rw [G.len]; exact hkl)⟩
      have hkp : (W.map (·.1))[k]? = some pl := by rw [List.getElem?_map, hx]; rfl
      obtain ⟨new, g1, g2, g3⟩ := pscan_spec (k := k) (d := d) R hFp (eventsM a b pl) W D (fun e he => he) G hW hkp hd (fun j d' hj => hle j d' d hj hd)
      have hxn : (W ++ new)[k]? = some (pl, w) := by rw [List.getElem?_append_left hkl]; exact hx
      have hdn : (D ++ List.replicate new.length (d + 1))[k]? = some d := by rw [List.getElem?_append_left (by rw [G.len]; exact hkl)]; exact hd
      rcases g3 with ⟨e, k1, k2, k3⟩ | ⟨k1, k2, k3⟩
      · rw [k3]
        dsimp only
        obtain ⟨l, p1, p2, p3⟩ := path_at g1 k pl w hxn ((W ++ new).length + 1) (by rw [List.length_append]; omega)
        have hpath : pathM (W ++ new) pl = some l.reverse := by unfold pathM; rw [p1]; rfl
        rw [hpath]
        refine ⟨some (realM (l.reverse ++ [(e, 0)])), rfl, l.reverse, pl, e, rfl, p2, k1, k2, ?_⟩
        rw [hdn] at p3
        have hdl : d = l.length := Option.some.inj p3
        have hpart : pP a b (l.reverse.length + 1) startM := p2.reach.parts (.here k1 (by show (behindM a b pl e).map _ = none; rw [k2]; rfl))
        refine ⟨hpart, fun j hj => ?_⟩
        obtain ⟨m0, q1, q2⟩ := min_of j hj
        obtain ⟨i, x, di, r1, r2, r3, r4, r5⟩ := hm m0 q1
        have := G.mono k i d di r1 hd r3
        rw [List.length_reverse]
        omega
      · rw [k2]
        dsimp only
        refine part_go R f (k + 1) (W ++ new) (D ++ List.replicate new.length (d + 1)) (by omega) (by rw [List.length_append]; omega) g1 g2 (fun j d' dk hj hdk => ?_) fun m0 hm0 => ?_
        · have hdd : d ≤ dk := g1.mono k (k + 1) d dk (by omega) hdn hdk
          by_cases hjl : j < D.length
          · rw [List.getElem?_append_left hjl] at hj
            have := hle j d' d hj hd
            omega
          · rw [List.getElem?_append_right (by omega), List.getElem?_replicate] at hj
            split at hj
            · cases hj; omega
            · cases hj
        · obtain ⟨i, x, di, r1, r2, r3, r4, r5⟩ := hm m0 hm0
          by_cases hik : i = k
          · subst hik
            rw [hx] at r2
            cases r2
            rw [hd] at r3
            cases r3
            dsimp only at r5
            generalize hr : m0 - d = r at r5
            cases r5 with
            | @here _ e he hn =>
              have : behindM a b pl e = none := by
                have h' : (behindM a b pl e).map (·.1) = none := hn
                simpa using h'
              exact absurd this (k1 _ he)
            | @there _ q e n he hst hp =>
              have hst' : (behindM a b pl e).map (·.1) = some q := hst
              obtain ⟨⟨q', r'⟩, hb, rfl⟩ := Option.map_eq_some_iff.mp hst'
              have hmem := k3 e he q' r' hb
              obtain ⟨j, hj⟩ := List.mem_iff_getElem?.mp hmem
              rw [List.getElem?_map] at hj
              obtain ⟨x, hxj, hx1⟩ := Option.map_eq_some_iff.mp hj
              have hjl : j < (W ++ new).length := (List.getElem?_eq_some_iff.mp hxj).1
              obtain ⟨dj, hdj⟩ : ∃ dj, (D ++ List.replicate new.length (d + 1))[j]? = some dj := ⟨_, List.getElem?_eq_getElem (by rw [g1.len]; exact hjl)⟩
              obtain ⟨xq, xw⟩ := x
              dsimp only at hx1
              subst hx1
              obtain ⟨l, p1, p2, p3⟩ := path_at g1 j xq xw hxj (j + 1) (by omega)
              rw [hdj] at p3
              have hdl : dj = l.length := Option.some.inj p3
              have hmin := hm0.2 _ (p2.reach.parts hp)
              rw [List.length_reverse] at hmin
              have hub : dj ≤ d + 1 := by
                by_cases hjd : j < D.length
                · rw [List.getElem?_append_left hjd] at hdj
                  exact hle j dj d hdj hd
                · rw [List.getElem?_append_right (by omega), List.getElem?_replicate] at hdj
                  split at hdj
                  · cases hdj; exact Nat.le_refl _
                  · cases hdj
              have hjk : i + 1 ≤ j := by
                rcases Nat.lt_or_ge i j with z | z
                · exact z
                · have := g1.mono j i dj d z hdj hdn
                  omega
              have hn1 := hp.pos
              refine ⟨j, (xq, xw), dj, hjk, hxj, hdj, by omega, ?_⟩
              have : m0 - dj = n := by omega
              rw [this]
              exact hp
          · refine ⟨i, x, di, by omega, ?_, ?_, r4, r5⟩
            · rw [List.getElem?_append_left (List.getElem?_eq_some_iff.mp r2).1]; exact r2
            · rw [List.getElem?_append_left (List.getElem?_eq_some_iff.mp r3).1]; exact r3
    · rw [List.getElem?_eq_none (by omega)]
      refine ⟨none, rfl, fun m hm' => ?_⟩
      obtain ⟨i, x, d, r1, r2, _⟩ := hm m hm'
      have := (List.getElem?_eq_some_iff.mp r2).1
      omega
theorem part_spec (R : RoomP a b F) (h0 : F startM) : ∃ res, partF a b (sizeMax + 1) 0 [(startM, none)] = some res ∧ match res with
      | none => ∀ m, ¬ pM a b m
      | some row => ∃ l pl e, row = realM (l ++ [(e, 0)]) ∧ PRun a b l pl ∧ e ∈ eventsM a b pl ∧ behindM a b pl e = none ∧ pM a b (l.length + 1) := by
  refine part_go R (sizeMax + 1) 0 [(startM, none)] [0] (by omega) (by simp) ⟨rfl, by simp, ⟨rfl, rfl⟩, fun i x hi hx => ?_, fun i j d d' hij h1 h2 => ?_⟩ (fun x hx => ?_) (fun j d' dk h1 h2 => ?_) fun m0 hm0 => ⟨0, (startM, none), 0, Nat.le_refl _, rfl, rfl, hm0.1.pos, hm0.1⟩
  · have := (List.getElem?_eq_some_iff.mp hx).1
    simp at this
    omega
  · have g1 := (List.getElem?_eq_some_iff.mp h1).1
    have g2 := (List.getElem?_eq_some_iff.mp h2).1
    simp at g1 g2
    subst g1 g2
    cases h1; cases h2; exact Nat.le_refl _
  · simp only [List.mem_singleton] at hx; subst hx; exact h0
  · have g1 := (List.getElem?_eq_some_iff.mp h1).1
    simp at g1
    subst g1
    cases h1; omega
end
end FM
end

section
set_option Elab.async false
set_option linter.all false
/-! Plain: the places of both searches. -/
namespace FM
open FB (finM preS preL noAns levent_eq)
/-- what came last, in both -/
def LRel (sp : Spec) (came : Bool) (last : Int) (l : Option Int) : Prop := (came = false ∧ l = none) ∨ (came = true ∧ sp.once = true ∧ l = some last)
/-- what came last behind an event -/
def nextL (o : Bool) (e : Ev) (l : Option Int) : Option Int := match e with
  | .come p => if o then some p else none
  | .drop _ => l
  | .round => none
section
variable {sp : Spec} {s : PSt} {t : LSt} {e : Ev} {came : Bool} {last : Int} {l : Option Int}
theorem ans_sim (h : Sim sp s t) (hr : sp.room ≤ 3) (hl : LRel sp came last l) : (answeredM sp.rcv s e came last).1 = (leventM sp t l e).2.2 ∧ Sim sp (answeredM sp.rcv s e came last).2 (leventM sp t l e).1 ∧ (leventM sp t l e).2.1 = nextL sp.once e l := by
  rw [levent_eq]
  have ho : sp.rcv.once = sp.once := rfl
  cases e with
  | come p =>
    have ht := take_sim (p := p) h hr
    have hrep := reply_sim (last := p) ht
    show ((if sp.rcv.once = true then (none, takeM sp.rcv s p) else (some ((replyM sp.rcv (takeM sp.rcv s p) p).2.n, (replyM sp.rcv (takeM sp.rcv s p) p).1), (replyM sp.rcv (takeM sp.rcv s p) p).2) : Ans × PSt)).1 = (if noAns sp (.come p) = true then (ltakeM sp.room t p, some p, none) else ((lreplyM sp.sel (ltakeM sp.room t p) p).2, none, some ((lreplyM sp.sel (ltakeM sp.room t p) p).2.n, (lreplyM sp.sel (ltakeM sp.room t p) p).1)) : LSt × Option Int × Ans).2.2 ∧ _
    show _ ∧ Sim sp ((if sp.rcv.once = true then (none, takeM sp.rcv s p) else (some ((replyM sp.rcv (takeM sp.rcv s p) p).2.n, (replyM sp.rcv (takeM sp.rcv s p) p).1), (replyM sp.rcv (takeM sp.rcv s p) p).2) : Ans × PSt)).2 (if noAns sp (.come p) = true then (ltakeM sp.room t p, some p, none) else ((lreplyM sp.sel (ltakeM sp.room t p) p).2, none, some ((lreplyM sp.sel (ltakeM sp.room t p) p).2.n, (lreplyM sp.sel (ltakeM sp.room t p) p).1)) : LSt × Option Int × Ans).1 ∧ (if noAns sp (.come p) = true then (ltakeM sp.room t p, some p, none) else ((lreplyM sp.sel (ltakeM sp.room t p) p).2, none, some ((lreplyM sp.sel (ltakeM sp.room t p) p).2.n, (lreplyM sp.sel (ltakeM sp.room t p) p).1)) : LSt × Option Int × Ans).2.1 = if sp.once = true then some p else none
    rw [ho]
    cases hon : sp.once with
    | true =>
      have hna : noAns sp (.come p) = true := by unfold noAns; rw [hon]; rfl
      rw [if_pos rfl, if_pos hna, if_pos rfl]
      exact ⟨rfl, ht, rfl⟩
    | false =>
      have hna : ¬ noAns sp (.come p) = true := by unfold noAns; rw [hon]; simp [Ev.isCome]
      rw [if_neg Bool.false_ne_true, if_neg hna, if_neg Bool.false_ne_true]
      exact ⟨by rw [hrep.1, hrep.2.n], hrep.2, rfl⟩
  | drop p =>
    have hd := drop_sim (p := p) h
    have hna : noAns sp (.drop p) = true := by unfold noAns; cases sp.once <;> rfl
    cases l with
    | none => exact ⟨rfl, hd, rfl⟩
    | some y =>
      show none = (if noAns sp (.drop p) = true then _ else _ : LSt × Option Int × Ans).2.2 ∧ Sim sp _ (if noAns sp (.drop p) = true then _ else _ : LSt × Option Int × Ans).1 ∧ (if noAns sp (.drop p) = true then _ else _ : LSt × Option Int × Ans).2.1 = some y
      rw [if_pos hna]
      exact ⟨rfl, hd, rfl⟩
  | round =>
    rcases hl with ⟨rfl, rfl⟩ | ⟨rfl, hon, rfl⟩
    · show (if (!sp.rcv.once || !false) = true then (none, s) else _ : Ans × PSt).1 = none ∧ Sim sp (if (!sp.rcv.once || !false) = true then (none, s) else _ : Ans × PSt).2 t ∧ _
      rw [if_pos (by simp)]
      exact ⟨rfl, h, rfl⟩
    · have hrep := reply_sim (last := last) h
      have hna : ¬ noAns sp .round = true := by unfold noAns; rw [hon]; simp [FB.isRound]
      show (if (!sp.rcv.once || !true) = true then (none, s) else (some ((replyM sp.rcv s last).2.n, (replyM sp.rcv s last).1), (replyM sp.rcv s last).2) : Ans × PSt).1 = (if noAns sp .round = true then _ else ((lreplyM sp.sel t last).2, none, some ((lreplyM sp.sel t last).2.n, (lreplyM sp.sel t last).1)) : LSt × Option Int × Ans).2.2 ∧ Sim sp (if (!sp.rcv.once || !true) = true then (none, s) else (some ((replyM sp.rcv s last).2.n, (replyM sp.rcv s last).1), (replyM sp.rcv s last).2) : Ans × PSt).2 (if noAns sp .round = true then _ else ((lreplyM sp.sel t last).2, none, some ((lreplyM sp.sel t last).2.n, (lreplyM sp.sel t last).1)) : LSt × Option Int × Ans).1 ∧ (if noAns sp .round = true then _ else ((lreplyM sp.sel t last).2, none, some ((lreplyM sp.sel t last).2.n, (lreplyM sp.sel t last).1)) : LSt × Option Int × Ans).2.1 = none
      rw [if_neg hna, ho, hon, if_neg (by simp)]
      exact ⟨by rw [hrep.1, hrep.2.n], hrep.2, rfl⟩
end
/-- a place of the program and one of the law -/
structure Rel (a b : Spec) (pl : Pl) (h : LPl) : Prop where
  s1 : Sim a pl.first h.s1
  s2 : Sim b pl.second h.s2
  l : (pl.came = false ∧ pl.last = -1 ∧ h.l1 = none ∧ h.l2 = none) ∨ (pl.came = true ∧ h.l1 = some pl.last ∧ h.l2 = some pl.last)
  on : pl.came = true → a.once = true
  lo : 0 ≤ h.s1.n ∧ 0 ≤ h.s2.n ∧ (h.s1.n = 0 ∨ h.s2.n = 0)
  df : h.s1.n ≠ h.s2.n → pl.came = true
section
variable {a b : Spec} {pl : Pl} {h : LPl} {e : Ev}
theorem Rel.l1 (R : Rel a b pl h) : LRel a pl.came pl.last h.l1 := by
  rcases R.l with ⟨h1, _, h2, _⟩ | ⟨h1, h2, _⟩
  · exact .inl ⟨h1, h2⟩
  · exact .inr ⟨h1, R.on h1, h2⟩
theorem Rel.l2 (R : Rel a b pl h) (ho : a.once = b.once) : LRel b pl.came pl.last h.l2 := by
  rcases R.l with ⟨h1, _, _, h2⟩ | ⟨h1, _, h2⟩
  · exact .inl ⟨h1, h2⟩
  · exact .inr ⟨h1, by rw [← ho]; exact R.on h1, h2⟩
theorem Rel.l12 (R : Rel a b pl h) : h.l1 = h.l2 := by
  rcases R.l with ⟨_, _, h1, h2⟩ | ⟨_, h1, h2⟩ <;> rw [h1, h2]
theorem leventN (sp : Spec) (t : LSt) (l : Option Int) (p : Int) : (leventM sp t l (.drop p)).1.n = t.n := by
  rw [levent_eq]
  cases l with
  | none => rfl
  | some y =>
    have hna : noAns sp (.drop p) = true := by unfold noAns; cases sp.once <;> rfl
    show (if noAns sp (.drop p) = true then _ else _ : LSt × Option Int × Ans).1.n = _
    rw [if_pos hna]; rfl
theorem leventR (sp : Spec) (t : LSt) (l : Option Int) : (leventM sp t l .round).1.n = t.n := by
  rw [levent_eq]
  cases l with
  | none => rfl
  | some y =>
    show (if noAns sp .round = true then _ else _ : LSt × Option Int × Ans).1.n = _
    split <;> rfl
/-- both parts, or both go on to places that belong together -/
theorem step_rel (R : Rel a b pl h) (ho : a.once = b.once) (ha : a.room ≤ 3) (hb : b.room ≤ 3) (e : Ev) :
    (behindM a.rcv b.rcv pl e = none ∧ lstepM a b h e = none ∧ (leventM a h.s1 h.l1 e).2.2 ≠ (leventM b h.s2 h.l2 e).2.2) ∨
    ∃ q r q', behindM a.rcv b.rcv pl e = some (q, r) ∧ lstepM a b h e = some q' ∧ Rel a b q q' ∧ r = (if (leventM b h.s2 h.l2 e).1.n < (leventM a h.s1 h.l1 e).1.n then (leventM b h.s2 h.l2 e).1.n else (leventM a h.s1 h.l1 e).1.n) ∧ (leventM a h.s1 h.l1 e).2.2 = (leventM b h.s2 h.l2 e).2.2 := by
  obtain ⟨x1, x2, x3⟩ := ans_sim (e := e) R.s1 ha R.l1
  obtain ⟨y1, y2, y3⟩ := ans_sim (e := e) R.s2 hb (R.l2 ho)
  have hn1 : ∀ p, e = .drop p → (leventM a h.s1 h.l1 e).1.n = h.s1.n ∧ (leventM b h.s2 h.l2 e).1.n = h.s2.n := fun p q => by subst q; exact ⟨leventN _ _ _ _, leventN _ _ _ _⟩
  have hn2 : e = .round → (leventM a h.s1 h.l1 e).1.n = h.s1.n ∧ (leventM b h.s2 h.l2 e).1.n = h.s2.n := fun q => by subst q; exact ⟨leventR _ _ _, leventR _ _ _⟩
  -- an answer tells the next number
  have hans : ∀ (sp : Spec) (t : LSt) (l : Option Int) (z : Int × List Blk), (leventM sp t l e).2.2 = some z → z.1 = (leventM sp t l e).1.n := fun sp t l z hz => by
    rw [levent_eq] at hz ⊢
    unfold finM at hz ⊢
    split at hz
    · cases hz
    · split at hz
      · cases hz
      · rename_i hh
        rw [if_neg hh]
        cases hz; rfl
  have hbe : behindM a.rcv b.rcv pl e = if (answeredM a.rcv pl.first e pl.came pl.last).1 ≠ (answeredM b.rcv pl.second e pl.came pl.last).1 then none else
      let f := (answeredM a.rcv pl.first e pl.came pl.last).2
      let g := (answeredM b.rcv pl.second e pl.came pl.last).2
      let by_ := if g.n < f.n then g.n else f.n
      let f := lowM f by_
      let g := lowM g by_
      let came := e.isCome || (pl.came && e.isDrop)
      let last := FB.lastOf e by_ pl.last
      let known := came && (a.once && (f.held.contains last || g.held.contains last))
      some (⟨f, g, came && a.once, if known then last else -1⟩, by_) := by cases e <;> rfl
  have hls : lstepM a b h e = if (leventM a h.s1 h.l1 e).2.2 ≠ (leventM b h.s2 h.l2 e).2.2 then none else some (lplaceM (leventM a h.s1 h.l1 e) (leventM b h.s2 h.l2 e)) := rfl
  rw [hbe, hls, x1, y1]
  by_cases hne : (leventM a h.s1 h.l1 e).2.2 ≠ (leventM b h.s2 h.l2 e).2.2
  · rw [if_pos hne, if_pos hne]
    exact .inl ⟨rfl, rfl, hne⟩
  · rw [if_neg hne, if_neg hne]
    have heq : (leventM a h.s1 h.l1 e).2.2 = (leventM b h.s2 h.l2 e).2.2 := Decidable.of_not_not hne
    refine .inr ⟨_, _, _, rfl, rfl, ?_, by rw [x2.n, y2.n], heq⟩
    rw [x2.n, y2.n]
    generalize hX : answeredM a.rcv pl.first e pl.came pl.last = X at x2
    generalize hY : answeredM b.rcv pl.second e pl.came pl.last = Y at y2
    have hxa := hans a h.s1 h.l1
    have hyb := hans b h.s2 h.l2
    generalize hx : leventM a h.s1 h.l1 e = x at *
    generalize hy : leventM b h.s2 h.l2 e = y at *
    generalize hm : (if y.1.n < x.1.n then y.1.n else x.1.n) = m
    have hpl : lplaceM x y = ⟨llow x.1 m, llast x.2.1 m (x.1.names ++ y.1.names), llow y.1 m, llast y.2.1 m (x.1.names ++ y.1.names)⟩ := by rw [← hm]; rfl
    rw [hpl]
    have hm1 : m ≤ x.1.n ∧ m ≤ y.1.n ∧ (m = x.1.n ∨ m = y.1.n) := by rw [← hm]; split <;> omega
    have hheld : ∀ z : Int, ((lowM X.2 m).held.contains (z - m) || (lowM Y.2 m).held.contains (z - m)) = decide (z ∈ x.1.names ++ y.1.names) := fun z => by
      have c1 : ∀ (s : PSt) (ns : List Int), s.held.Perm ns → ((lowM s m).held.contains (z - m) = true ↔ z ∈ ns) := fun s ns hp => by
        rw [List.contains_iff_mem]
        show z - m ∈ s.held.map (· - m) ↔ _
        rw [List.mem_map, ← hp.mem_iff]
        constructor
        · rintro ⟨w, h1, h2⟩
          have : w = z := by omega
          subst this; exact h1
        · exact fun q => ⟨z, q, rfl⟩
      rw [Bool.eq_iff_iff, Bool.or_eq_true, c1 _ _ x2.perm, c1 _ _ y2.perm, decide_eq_true_eq, List.mem_append]
    refine ⟨low_sim x2 m, low_sim y2 m, ?_, fun q => (Bool.and_eq_true_iff.mp q).2, ⟨by show 0 ≤ x.1.n - m; omega, by show 0 ≤ y.1.n - m; omega, by show x.1.n - m = 0 ∨ y.1.n - m = 0; omega⟩, fun q => ?_⟩
    · dsimp only
      rw [x3, y3, ← ho]
      cases e with
      | come p =>
        cases hon : a.once with
        | false => exact .inl ⟨rfl, rfl, rfl, rfl⟩
        | true =>
          refine .inr ⟨rfl, ?_, ?_⟩
          all_goals
            show some (if p ∈ x.1.names ++ y.1.names then p - m else -1) = some (if ((true || (pl.came && false)) && (true && ((lowM X.2 m).held.contains (p - m) || (lowM Y.2 m).held.contains (p - m)))) = true then p - m else -1)
            rw [hheld]
            by_cases hp : p ∈ x.1.names ++ y.1.names
            · rw [if_pos hp, if_pos (by simp [hp])]
            · rw [if_neg hp, if_neg (by simp [hp])]
      | drop p =>
        obtain ⟨g1, g2⟩ := hn1 p rfl
        have hm0 : m = 0 := by have := R.lo; omega
        rcases R.l with ⟨h1, h2, h3, h4⟩ | ⟨h1, h3, h4⟩
        · rw [h1, h3, h4]
          exact .inl ⟨rfl, rfl, rfl, rfl⟩
        · have hon := R.on h1
          rw [h1, h3, h4, hon]
          refine .inr ⟨rfl, ?_, ?_⟩
          all_goals
            show some (if pl.last ∈ x.1.names ++ y.1.names then pl.last - m else -1) = some (if ((false || (true && true)) && (true && ((lowM X.2 m).held.contains pl.last || (lowM Y.2 m).held.contains pl.last))) = true then pl.last else -1)
            have e1 : pl.last = pl.last - m := by omega
            have := hheld pl.last
            rw [← e1] at this
            rw [this]
            by_cases hp : pl.last ∈ x.1.names ++ y.1.names
            · rw [if_pos hp, if_pos (by simp [hp])]; congr 1; omega
            · rw [if_neg hp, if_neg (by simp [hp])]
      | round =>
        refine .inl ⟨?_, ?_, rfl, rfl⟩
        · show ((false || (pl.came && false)) && a.once) = false
          simp
        · show (if ((false || (pl.came && false)) && _) = true then _ else (-1 : Int)) = -1
          rw [if_neg (by simp)]
    · -- the nexts differ: something has come
      have q' : x.1.n ≠ y.1.n := by
        intro z
        apply q
        show x.1.n - m = y.1.n - m
        omega
      show ((e.isCome || (pl.came && e.isDrop)) && a.once) = true
      -- no answers
      have hnone : x.2.2 = none := by
        cases hz : x.2.2 with
        | none => rfl
        | some z =>
          have e1 := hxa z hz
          have e2 := hyb z (by rw [← heq]; exact hz)
          omega
      cases e with
      | come p =>
        cases hon : a.once with
        | true => rfl
        | false =>
          exfalso
          rw [← hx, levent_eq] at hnone
          have hna : ¬ noAns a (.come p) = true := by unfold noAns; rw [hon]; simp [Ev.isCome]
          have : (if noAns a (.come p) = true then (preS a h.s1 (.come p), some p, none) else ((lreplyM a.sel (preS a h.s1 (.come p)) p).2, none, some ((lreplyM a.sel (preS a h.s1 (.come p)) p).2.n, (lreplyM a.sel (preS a h.s1 (.come p)) p).1)) : LSt × Option Int × Ans).2.2 = none := hnone
          rw [if_neg hna] at this
          cases this
      | drop p =>
        obtain ⟨g1, g2⟩ := hn1 p rfl
        have hc := R.df (by rw [← g1, ← g2]; exact q')
        rw [hc, R.on hc]; rfl
      | round =>
        exfalso
        obtain ⟨g1, g2⟩ := hn2 rfl
        have hc := R.df (by rw [← g1, ← g2]; exact q')
        have hon := R.on hc
        rcases R.l with ⟨h1, _⟩ | ⟨_, h3, _⟩
        · rw [hc] at h1; cases h1
        · rw [← hx, levent_eq, h3] at hnone
          have hna : ¬ noAns a .round = true := by unfold noAns; rw [hon]; simp [FB.isRound]
          have : (if noAns a .round = true then (h.s1, some pl.last, none) else ((lreplyM a.sel h.s1 pl.last).2, none, some ((lreplyM a.sel h.s1 pl.last).2.n, (lreplyM a.sel h.s1 pl.last).1)) : LSt × Option Int × Ans).2.2 = none := hnone
          rw [if_neg hna] at this
          cases this
end
end FM
end

section
set_option Elab.async false
set_option linter.all false
/-! Plain: the least lengths are one; the row found parts in real numbers. -/
namespace FM
open FB (finM preS preL noAns levent_eq lanF lan0 realF upEv)
abbrev wd (a b : Spec) : Int := wideM a.room b.room
section
variable {a b : Spec} {pl : Pl} {h : LPl} {e : Ev}
theorem mem_names (h : LPl) (p : Int) : (h.s1.held.map (·.1) ++ h.s2.held.map (·.1)).contains p = decide (p ∈ h.s1.names ∨ p ∈ h.s2.names) := by
  rw [Bool.eq_iff_iff, List.contains_iff_mem, List.mem_append, decide_eq_true_eq]
theorem ev_mem (R : Rel a b pl h) (hn : h.s1.n = h.s2.n) : e ∈ eventsM a.rcv b.rcv pl ↔ e ∈ ltriesM h (wd a b) ∧ (e = .round → pl.came = true) := by
  have hn' : ¬ pl.first.n ≠ pl.second.n := by rw [R.s1.n, R.s2.n]; exact fun z => z hn
  have hf : (rangeM (wd a b)).filter (fun p => pl.first.held.contains p || pl.second.held.contains p) = (rangeM (wd a b)).filter (fun p => (h.s1.held.map (·.1) ++ h.s2.held.map (·.1)).contains p) := by
    refine List.filter_congr fun p _ => ?_
    rw [mem_names, Bool.eq_iff_iff, Bool.or_eq_true, List.contains_iff_mem, List.contains_iff_mem, R.s1.perm.mem_iff, R.s2.perm.mem_iff, decide_eq_true_eq]
  have hev : eventsM a.rcv b.rcv pl = if pl.came then ((rangeM (wd a b)).map Ev.come ++ ((rangeM (wd a b)).filter fun p => (h.s1.held.map (·.1) ++ h.s2.held.map (·.1)).contains p).map Ev.drop) ++ [.round] else (rangeM (wd a b)).map Ev.come ++ ((rangeM (wd a b)).filter fun p => (h.s1.held.map (·.1) ++ h.s2.held.map (·.1)).contains p).map Ev.drop := by
    unfold eventsM
    rw [if_neg hn', ← hf]
    rfl
  have hlt : ltriesM h (wd a b) = ((rangeM (wd a b)).map Ev.come ++ ((rangeM (wd a b)).filter fun p => (h.s1.held.map (·.1) ++ h.s2.held.map (·.1)).contains p).map Ev.drop) ++ [.round] := rfl
  rw [hev, hlt]
  generalize hF : (rangeM (wd a b)).map Ev.come ++ ((rangeM (wd a b)).filter fun p => (h.s1.held.map (·.1) ++ h.s2.held.map (·.1)).contains p).map Ev.drop = Fs
  have hnr : Ev.round ∉ Fs := by
    rw [← hF]
    simp
  by_cases hc : pl.came = true
  · rw [if_pos hc]
    exact ⟨fun q => ⟨q, fun _ => hc⟩, fun q => q.1⟩
  · rw [if_neg hc]
    constructor
    · exact fun q => ⟨List.mem_append_left _ q, fun z => by subst z; exact absurd q hnr⟩
    · rintro ⟨q, q2⟩
      rcases List.mem_append.mp q with q | q
      · exact q
      · simp only [List.mem_singleton] at q
        exact absurd (q2 q) hc
theorem ev_far (R : Rel a b pl h) (hn : h.s1.n ≠ h.s2.n) : eventsM a.rcv b.rcv pl = [.round] := by
  unfold eventsM
  rw [if_pos (by rw [R.s1.n, R.s2.n]; exact hn)]
theorem ev_sub (R : Rel a b pl h) (he : e ∈ eventsM a.rcv b.rcv pl) : e ∈ ltriesM h (wd a b) := by
  by_cases hn : h.s1.n = h.s2.n
  · exact ((ev_mem R hn).mp he).1
  · rw [ev_far R hn] at he
    simp only [List.mem_singleton] at he
    subst he
    exact List.mem_append_right _ (by simp)
theorem low_zero (s : PSt) : lowM s 0 = s := by
  unfold lowM
  cases s
  simp
/-- the end of a round in which nothing came -/
theorem idle_round (R : Rel a b pl h) (hc : pl.came = false) : behindM a.rcv b.rcv pl .round = some (pl, 0) := by
  have e1 : answeredM a.rcv pl.first .round pl.came pl.last = (none, pl.first) := by
    show (if (!a.rcv.once || !pl.came) = true then _ else _) = _
    rw [hc, if_pos (by simp)]
  have e2 : answeredM b.rcv pl.second .round pl.came pl.last = (none, pl.second) := by
    show (if (!b.rcv.once || !pl.came) = true then _ else _) = _
    rw [hc, if_pos (by simp)]
  unfold behindM
  rw [e1, e2]
  have hlo := R.lo
  rw [← R.s1.n, ← R.s2.n] at hlo
  have hm : (if pl.second.n < pl.first.n then pl.second.n else pl.first.n) = 0 := by split <;> omega
  have hl : pl.last = -1 := by
    rcases R.l with ⟨_, h2, _⟩ | ⟨h1, _⟩
    · exact h2
    · rw [hc] at h1; cases h1
  simp only [ne_eq, not_true_eq_false, if_false, hm, low_zero]
  obtain ⟨f, g, c, l⟩ := pl
  dsimp only at hc hl
  subst hc hl
  simp [Ev.isCome]
/-- where the nexts differ the round parts -/
theorem far_round (R : Rel a b pl h) (ho : a.once = b.once) (ha : a.room ≤ 3) (hb : b.room ≤ 3) (hn : h.s1.n ≠ h.s2.n) : behindM a.rcv b.rcv pl .round = none ∧ lstepM a b h .round = none := by
  rcases step_rel R ho ha hb .round with ⟨h1, h2, _⟩ | ⟨q, r, q', h1, h2, h3, h4, h5⟩
  · exact ⟨h1, h2⟩
  · exfalso
    have hc := R.df hn
    have hon := R.on hc
    rcases R.l with ⟨k, _⟩ | ⟨_, k1, k2⟩
    · rw [hc] at k; cases k
    · rw [k1, k2, levent_eq, levent_eq] at h5
      have na : ¬ noAns a .round = true := by unfold noAns; rw [hon]; simp [FB.isRound]
      have nb : ¬ noAns b .round = true := by unfold noAns; rw [← ho, hon]; simp [FB.isRound]
      have h6 : (if noAns a .round = true then (h.s1, some pl.last, none) else ((lreplyM a.sel h.s1 pl.last).2, none, some ((lreplyM a.sel h.s1 pl.last).2.n, (lreplyM a.sel h.s1 pl.last).1)) : LSt × Option Int × Ans).2.2 = (if noAns b .round = true then (h.s2, some pl.last, none) else ((lreplyM b.sel h.s2 pl.last).2, none, some ((lreplyM b.sel h.s2 pl.last).2.n, (lreplyM b.sel h.s2 pl.last).1)) : LSt × Option Int × Ans).2.2 := h5
      rw [if_neg na, if_neg nb] at h6
      have h7 : (lreplyM a.sel h.s1 pl.last).2.n = (lreplyM b.sel h.s2 pl.last).2.n := congrArg Prod.fst (Option.some.inj h6)
      exact hn h7
theorem round_mem (h : LPl) (w : Int) : Ev.round ∈ ltriesM h w := List.mem_append_right _ (by simp)
theorem parts_pl (ho : a.once = b.once) (ha : a.room ≤ 3) (hb : b.room ≤ 3) {m : Nat} (p : pP a.rcv b.rcv m pl) : ∀ {h : LPl}, Rel a b pl h → lP a b (wd a b) m h := by
  induction p with
  | @here pl e he hn =>
    intro h R
    have hb' : behindM a.rcv b.rcv pl e = none := by
      have h' : (behindM a.rcv b.rcv pl e).map (·.1) = none := hn
      simpa using h'
    rcases step_rel R ho ha hb e with ⟨_, h2, _⟩ | ⟨q, r, q', h1, _⟩
    · exact .here (ev_sub R he) h2
    · rw [hb'] at h1; cases h1
  | @there pl q e n he hst _ ih =>
    intro h R
    have hst' : (behindM a.rcv b.rcv pl e).map (·.1) = some q := hst
    obtain ⟨⟨q0, r0⟩, h0, rfl⟩ := Option.map_eq_some_iff.mp hst'
    rcases step_rel R ho ha hb e with ⟨h1, _⟩ | ⟨q, r, q', h1, h2, h3, _⟩
    · rw [h0] at h1; cases h1
    · rw [h0] at h1; cases h1
      exact .there (ev_sub R he) h2 (ih h3)
theorem parts_lp (ho : a.once = b.once) (ha : a.room ≤ 3) (hb : b.room ≤ 3) {m : Nat} (p : lP a b (wd a b) m h) : ∀ {pl : Pl}, Rel a b pl h → ∃ k, k ≤ m ∧ pP a.rcv b.rcv k pl := by
  induction p with
  | @here h e he hn =>
    intro pl R
    by_cases hne : h.s1.n = h.s2.n
    · have hbe : behindM a.rcv b.rcv pl e = none := by
        rcases step_rel R ho ha hb e with ⟨h1, _⟩ | ⟨q, r, q', _, h2, _⟩
        · exact h1
        · rw [hn] at h2; cases h2
      refine ⟨1, Nat.le_refl _, .here ((ev_mem R hne).mpr ⟨he, fun z => ?_⟩) (by show (behindM a.rcv b.rcv pl e).map _ = none; rw [hbe]; rfl)⟩
      subst z
      cases hc : pl.came with
      | true => rfl
      | false => rw [idle_round R hc] at hbe; cases hbe
    · exact ⟨1, Nat.le_refl _, Parts.here (e := Ev.round) (by rw [ev_far R hne]; simp) (by show (behindM a.rcv b.rcv pl .round).map _ = none; rw [(far_round R ho ha hb hne).1]; rfl)⟩
  | @there h q' e n he hst hp ih =>
    intro pl R
    have hpos := hp.pos
    by_cases hne : h.s1.n = h.s2.n
    · rcases step_rel R ho ha hb e with ⟨_, h2, _⟩ | ⟨q, r, q2, h1, h2, h3, _⟩
      · rw [hst] at h2; cases h2
      · rw [hst] at h2; cases h2
        by_cases hev : e = .round ∧ pl.came = false
        · obtain ⟨rfl, hc⟩ := hev
          rw [idle_round R hc] at h1
          cases h1
          obtain ⟨k, k1, k2⟩ := ih h3
          exact ⟨k, by omega, k2⟩
        · obtain ⟨k, k1, k2⟩ := ih h3
          refine ⟨k + 1, by omega, .there ((ev_mem R hne).mpr ⟨he, fun z => ?_⟩) (by show (behindM a.rcv b.rcv pl e).map _ = _; rw [h1]; rfl) k2⟩
          cases hc : pl.came with
          | true => rfl
          | false => exact absurd ⟨z, hc⟩ hev
    · exact ⟨1, by omega, Parts.here (e := Ev.round) (by rw [ev_far R hne]; simp) (by show (behindM a.rcv b.rcv pl .round).map _ = none; rw [(far_round R ho ha hb hne).1]; rfl)⟩
theorem rel_begin (a b : Spec) : Rel a b startM lbegin := by
  have hs : ∀ sp : Spec, Sim sp ⟨0, [], []⟩ ⟨0, []⟩ := fun sp => by
    have h0 : sortI [] = [] := sortI_of .nil
    refine ⟨rfl, by simp [LSt.names], fun x hx => by simp [LSt.names] at hx, ?_, ?_⟩
    · show ([] : List Int) = if sp.rcv.ord = true then [] else sortI []
      rw [h0]; split <;> rfl
    · show ([] : List Int) = if sp.rcv.tld = true then sortI [] else []
      rw [h0]; split <;> rfl
  exact ⟨hs a, hs b, .inl ⟨rfl, rfl, rfl, rfl⟩, (fun z => by cases z), ⟨Int.le_refl _, Int.le_refl _, .inl rfl⟩, fun z => absurd rfl z⟩
theorem min_iff (ho : a.once = b.once) (ha : a.room ≤ 3) (hb : b.room ≤ 3) {m : Nat} : pM a.rcv b.rcv m ↔ lM a b (wd a b) m := by
  have R := rel_begin a b
  constructor
  · rintro ⟨h1, h2⟩
    refine ⟨parts_pl ho ha hb h1 R, fun k hk => ?_⟩
    obtain ⟨j, j1, j2⟩ := parts_lp ho ha hb hk R
    have := h2 j j2
    omega
  · rintro ⟨h1, h2⟩
    obtain ⟨j, j1, j2⟩ := parts_lp ho ha hb h1 R
    have h3 := h2 j (parts_pl ho ha hb j2 R)
    have : j = m := by omega
    subst this
    exact ⟨j2, fun k hk => h2 k (parts_pl ho ha hb hk R)⟩
/-! ### real numbers -/
theorem lev_last {sp : Spec} {t : LSt} {c : Int} {l l' : Option Int} (hl : (l' = none ∧ l = none) ∨ ∃ y z, l' = some y ∧ l = some z ∧ (y = z ∨ (y ∉ t.names ∧ z ∉ t.names))) (hon : l ≠ none → sp.once = true) :
    (leventM sp t l' e).1 = (leventM sp t l e).1 ∧ (leventM sp t l' e).2.2 = (leventM sp t l e).2.2 ∧ (leventM sp t l' e).2.1 = nextL sp.once e l' := by
  rw [levent_eq, levent_eq]
  cases e with
  | come p =>
    refine ⟨rfl, rfl, ?_⟩
    show (if noAns sp (.come p) = true then _ else _ : LSt × Option Int × Ans).2.1 = if sp.once = true then some p else none
    cases h : sp.once with
    | true => rw [if_pos (by unfold noAns; rw [h]; rfl)]; rfl
    | false => rw [if_neg (by unfold noAns; rw [h]; simp [Ev.isCome])]; rfl
  | drop p =>
    have hna : noAns sp (.drop p) = true := by unfold noAns; cases sp.once <;> rfl
    rcases hl with ⟨rfl, rfl⟩ | ⟨y, z, rfl, rfl, _⟩
    · exact ⟨rfl, rfl, rfl⟩
    · show (if noAns sp (.drop p) = true then _ else _ : LSt × Option Int × Ans).1 = (if noAns sp (.drop p) = true then _ else _ : LSt × Option Int × Ans).1 ∧ (if noAns sp (.drop p) = true then _ else _ : LSt × Option Int × Ans).2.2 = (if noAns sp (.drop p) = true then _ else _ : LSt × Option Int × Ans).2.2 ∧ (if noAns sp (.drop p) = true then _ else _ : LSt × Option Int × Ans).2.1 = some y
      rw [if_pos hna, if_pos hna]
      exact ⟨rfl, rfl, rfl⟩
  | round =>
    rcases hl with ⟨rfl, rfl⟩ | ⟨y, z, rfl, rfl, hyz⟩
    · exact ⟨rfl, rfl, rfl⟩
    · have hna : ¬ noAns sp .round = true := by unfold noAns; rw [hon (by simp)]; simp [FB.isRound]
      have hrep : lreplyM sp.sel t y = lreplyM sp.sel t z := by
        rcases hyz with rfl | ⟨h1, h2⟩
        · rfl
        · exact lreply_last sp.sel t h1 h2
      show (if noAns sp .round = true then _ else ((lreplyM sp.sel t y).2, none, some ((lreplyM sp.sel t y).2.n, (lreplyM sp.sel t y).1)) : LSt × Option Int × Ans).1 = (if noAns sp .round = true then _ else ((lreplyM sp.sel t z).2, none, some ((lreplyM sp.sel t z).2.n, (lreplyM sp.sel t z).1)) : LSt × Option Int × Ans).1 ∧ (if noAns sp .round = true then _ else ((lreplyM sp.sel t y).2, none, some ((lreplyM sp.sel t y).2.n, (lreplyM sp.sel t y).1)) : LSt × Option Int × Ans).2.2 = (if noAns sp .round = true then _ else ((lreplyM sp.sel t z).2, none, some ((lreplyM sp.sel t z).2.n, (lreplyM sp.sel t z).1)) : LSt × Option Int × Ans).2.2 ∧ (if noAns sp .round = true then _ else ((lreplyM sp.sel t y).2, none, some ((lreplyM sp.sel t y).2.n, (lreplyM sp.sel t y).1)) : LSt × Option Int × Ans).2.1 = none
      rw [if_neg hna, if_neg hna, hrep]
      exact ⟨rfl, rfl, rfl⟩
/-- what came last in real numbers, lowered -/
def LastOk (h : LPl) (l' : Option Int) : Prop := (l' = none ∧ h.l1 = none) ∨ ∃ y z, l' = some y ∧ h.l1 = some z ∧ (y = z ∨ (z = -1 ∧ y ∉ h.s1.names ∧ y ∉ h.s2.names))
structure RealInv (a b : Spec) (l : List (Ev × Int)) (pl : Pl) (h : LPl) (c : Int) (es : List Ev) (l' : Option Int) (an : List Ans) : Prop where
  rel : Rel a b pl h
  c0 : 0 ≤ c
  real : l.foldl realF ([], 0) = (es, c)
  ok : es.all Ev.ok = true
  fa : es.foldl (lanF a) lan0 = (sh c h.s1, l'.map (· + c), an)
  fb : es.foldl (lanF b) lan0 = (sh c h.s2, l'.map (· + c), an)
  last : LastOk h l'
theorem neg_out {sp : Spec} {s : PSt} {t : LSt} (S : Sim sp s t) (h0 : 0 ≤ t.n) : (-1 : Int) ∉ t.names := fun z => by
  have := (S.rg _ z).1
  omega
theorem sh_low (t : LSt) (c m : Int) : sh c t = sh (c + m) (llow t m) := by
  unfold sh llow
  show LSt.mk _ _ = LSt.mk _ _
  congr 1
  · show t.n + c = t.n - m + (c + m); omega
  · rw [List.map_map]
    refine List.map_congr_left fun e _ => ?_
    show (e.1 + c, e.2) = (e.1 - m + (c + m), e.2)
    congr 1; omega
theorem upEv_sh (e : Ev) (c : Int) : upEv e c = shE c e := by cases e <;> rfl
theorem names_low (t : LSt) (m : Int) : (llow t m).names = t.names.map (· - m) := by
  show (t.held.map _).map _ = (t.held.map _).map _
  rw [List.map_map, List.map_map]; rfl
theorem ok_ev {w c : Int} (hc : 0 ≤ c) (he : e ∈ ltriesM h w) : (shE c e).ok = true := by
  unfold ltriesM at he
  rcases List.mem_append.mp he with he | he
  · rcases List.mem_append.mp he with he | he
    · obtain ⟨p, hp, rfl⟩ := List.mem_map.mp he
      unfold rangeM at hp
      obtain ⟨i, _, rfl⟩ := List.mem_map.mp hp
      show decide (0 ≤ 0 + (i : Int) + c) = true
      exact decide_eq_true (by omega)
    · obtain ⟨p, hp, rfl⟩ := List.mem_map.mp he
      have hp := (List.mem_filter.mp hp).1
      unfold rangeM at hp
      obtain ⟨i, _, rfl⟩ := List.mem_map.mp hp
      show decide (0 ≤ 0 + (i : Int) + c) = true
      exact decide_eq_true (by omega)
  · simp only [List.mem_singleton] at he
    subst he; rfl
/-- one event in real numbers -/
theorem real_ev {l : List (Ev × Int)} {c : Int} {es : List Ev} {l' : Option Int} {an : List Ans} (I : RealInv a b l pl h c es l' an) (ho : a.once = b.once) (ha : a.room ≤ 3) (hb : b.room ≤ 3) (e : Ev) :
    lanF a (sh c h.s1, l'.map (· + c), an) (shE c e) = (sh c (leventM a h.s1 h.l1 e).1, (nextL a.once e l').map (· + c), an ++ [shA c (leventM a h.s1 h.l1 e).2.2]) ∧
    lanF b (sh c h.s2, l'.map (· + c), an) (shE c e) = (sh c (leventM b h.s2 h.l2 e).1, (nextL a.once e l').map (· + c), an ++ [shA c (leventM b h.s2 h.l2 e).2.2]) := by
  have R := I.rel
  have n1 := neg_out R.s1 R.lo.1
  have n2 := neg_out R.s2 R.lo.2.1
  have hon : h.l1 ≠ none → a.once = true := fun z => by
    rcases R.l with ⟨_, _, k, _⟩ | ⟨k, _⟩
    · exact absurd k z
    · exact R.on k
  have q1 : (l' = none ∧ h.l1 = none) ∨ ∃ y z, l' = some y ∧ h.l1 = some z ∧ (y = z ∨ (y ∉ h.s1.names ∧ z ∉ h.s1.names)) := by
    rcases I.last with k | ⟨y, z, k1, k2, k3⟩
    · exact .inl k
    · refine .inr ⟨y, z, k1, k2, ?_⟩
      rcases k3 with k3 | ⟨rfl, k4, k5⟩
      · exact .inl k3
      · exact .inr ⟨k4, n1⟩
  have q2 : (l' = none ∧ h.l2 = none) ∨ ∃ y z, l' = some y ∧ h.l2 = some z ∧ (y = z ∨ (y ∉ h.s2.names ∧ z ∉ h.s2.names)) := by
    rw [← R.l12]
    rcases I.last with k | ⟨y, z, k1, k2, k3⟩
    · exact .inl k
    · refine .inr ⟨y, z, k1, k2, ?_⟩
      rcases k3 with k3 | ⟨rfl, k4, k5⟩
      · exact .inl k3
      · exact .inr ⟨k5, n2⟩
  obtain ⟨x1, x2, x3⟩ := lev_last (e := e) (c := c) q1 hon
  obtain ⟨y1, y2, y3⟩ := lev_last (e := e) (c := c) q2 (by rw [← R.l12, ← ho]; exact hon)
  refine ⟨?_, ?_⟩
  · show ((leventM a (sh c h.s1) (l'.map (· + c)) (shE c e)).1, (leventM a (sh c h.s1) (l'.map (· + c)) (shE c e)).2.1, an ++ [(leventM a (sh c h.s1) (l'.map (· + c)) (shE c e)).2.2]) = _
    rw [levent_sh, x1, x2, x3]
  · show ((leventM b (sh c h.s2) (l'.map (· + c)) (shE c e)).1, (leventM b (sh c h.s2) (l'.map (· + c)) (shE c e)).2.1, an ++ [(leventM b (sh c h.s2) (l'.map (· + c)) (shE c e)).2.2]) = _
    rw [levent_sh, y1, y2, y3, ho]
end
end FM
end

section
set_option Elab.async false
set_option linter.all false
/-! Plain: the row found parts in real numbers (2). -/
namespace FM
open FB (finM preS preL noAns levent_eq lanF lan0 realF upEv)
theorem lup_ge (ns : List Int) (v : Int) : v ≤ lup ns v := by unfold lup; split <;> omega
theorem ltake_ge (room : Int) (t : LSt) (p : Int) : t.n ≤ (ltakeM room t p).n := by
  unfold ltakeM
  dsimp only
  split
  · have h1 := lup_ge (t.held.map (·.1)) (t.n + 1)
    have h2 := lup_ge (t.held.map (·.1)) (lup (t.held.map (·.1)) (t.n + 1))
    have h3 := lup_ge (t.held.map (·.1)) (lup (t.held.map (·.1)) (lup (t.held.map (·.1)) (t.n + 1)))
    show t.n ≤ lup _ (lup _ (lup _ (t.n + 1)))
    omega
  · split <;> exact Int.le_refl _
theorem fin_n (sp : Spec) (s : LSt) (l : Option Int) (e : Ev) : (finM sp s l e).1.n = s.n := by
  unfold finM
  split
  · rfl
  · split <;> rfl
theorem fin_names (sp : Spec) (s : LSt) (l : Option Int) (e : Ev) : (finM sp s l e).1.names = s.names := by
  unfold finM
  split
  · rfl
  · split
    · rfl
    · show ((lreplyM _ _ _).2.held).map (·.1) = s.held.map (·.1)
      unfold lreplyM
      rw [List.map_map]
      rfl
theorem lev_ge (sp : Spec) (t : LSt) (l : Option Int) (e : Ev) : t.n ≤ (leventM sp t l e).1.n := by
  rw [levent_eq, fin_n]
  cases e with
  | come p => exact ltake_ge _ _ _
  | drop p => exact Int.le_refl _
  | round => exact Int.le_refl _
theorem lev_drop_names (sp : Spec) (t : LSt) (l : Option Int) (p : Int) {x : Int} (h : x ∈ (leventM sp t l (.drop p)).1.names) : x ∈ t.names := by
  rw [levent_eq, fin_names] at h
  obtain ⟨e, he, rfl⟩ := List.mem_map.mp h
  exact List.mem_map.mpr ⟨e, (List.mem_filter.mp he).1, rfl⟩
section
variable {a b : Spec} {pl : Pl} {h : LPl} {e : Ev}
theorem lastok_of {x y : LSt} {r : Int} {v w : Option Int} (g : (v = none ∧ w = none) ∨ ∃ p z, v = some p ∧ w = some z ∧ (p = z ∨ ((z ∉ x.names ∧ z ∉ y.names) ∧ p ∉ x.names ∧ p ∉ y.names))) :
    (v.map (· - r) = none ∧ llast w r (x.names ++ y.names) = none) ∨ ∃ p z, v.map (· - r) = some p ∧ llast w r (x.names ++ y.names) = some z ∧ (p = z ∨ (z = -1 ∧ p ∉ (llow x r).names ∧ p ∉ (llow y r).names)) := by
  rcases g with ⟨rfl, rfl⟩ | ⟨p, z, rfl, rfl, g⟩
  · exact .inl ⟨rfl, rfl⟩
  · refine .inr ⟨p - r, if z ∈ x.names ++ y.names then z - r else -1, rfl, rfl, ?_⟩
    have out : ∀ t : LSt, p ∉ t.names → p - r ∉ (llow t r).names := fun t ht z => by
      rw [names_low] at z
      obtain ⟨q, hq, e⟩ := List.mem_map.mp z
      have : q = p := by omega
      subst this; exact ht hq
    by_cases hz : z ∈ x.names ++ y.names
    · rw [if_pos hz]
      rcases g with rfl | ⟨⟨g1, g2⟩, _⟩
      · exact .inl rfl
      · rcases List.mem_append.mp hz with k | k
        · exact absurd k g1
        · exact absurd k g2
    · rw [if_neg hz]
      rcases g with rfl | ⟨_, g1, g2⟩
      · exact .inr ⟨rfl, out x fun k => hz (List.mem_append_left _ k), out y fun k => hz (List.mem_append_right _ k)⟩
      · exact .inr ⟨rfl, out x g1, out y g2⟩
/-- a step in real numbers -/
theorem real_step {l : List (Ev × Int)} {c : Int} {es : List Ev} {l' : Option Int} {an : List Ans} {q : Pl} {r : Int} (I : RealInv a b l pl h c es l' an) (ho : a.once = b.once) (ha : a.room ≤ 3) (hb : b.room ≤ 3) (he : e ∈ eventsM a.rcv b.rcv pl) (hs : behindM a.rcv b.rcv pl e = some (q, r)) :
    ∃ h' es' l'' an', RealInv a b (l ++ [(e, r)]) q h' (c + r) es' l'' an' := by
  have R := I.rel
  rcases step_rel R ho ha hb e with ⟨h1, _⟩ | ⟨q0, r0, q', h1, h2, h3, h4, h5⟩
  · rw [hs] at h1; cases h1
  rw [hs] at h1
  cases h1
  obtain ⟨k1, k2⟩ := real_ev I ho ha hb e
  have hq : q' = lplaceM (leventM a h.s1 h.l1 e) (leventM b h.s2 h.l2 e) := by
    have hls : lstepM a b h e = if (leventM a h.s1 h.l1 e).2.2 ≠ (leventM b h.s2 h.l2 e).2.2 then none else some (lplaceM (leventM a h.s1 h.l1 e) (leventM b h.s2 h.l2 e)) := rfl
    rw [hls, if_neg (fun z => z h5)] at h2
    exact (Option.some.inj h2).symm
  have nx : (leventM a h.s1 h.l1 e).2.1 = nextL a.once e h.l1 := (ans_sim (e := e) R.s1 ha R.l1).2.2
  have g1 := lev_ge a h.s1 h.l1 e
  have g2 := lev_ge b h.s2 h.l2 e
  have z1 := R.lo.1
  have z2 := R.lo.2.1
  have hr0 : 0 ≤ r := by rw [h4]; split <;> omega
  have hq1 : q'.s1 = llow (leventM a h.s1 h.l1 e).1 r := by rw [hq, h4]; rfl
  have hq2 : q'.s2 = llow (leventM b h.s2 h.l2 e).1 r := by rw [hq, h4]; rfl
  have hql : q'.l1 = llast (nextL a.once e h.l1) r ((leventM a h.s1 h.l1 e).1.names ++ (leventM b h.s2 h.l2 e).1.names) := by rw [← nx, hq, h4]; rfl
  have hv : ∀ v : Option Int, v.map (· + c) = (v.map (· - r)).map (· + (c + r)) := fun v => by
    cases v with
    | none => rfl
    | some v => show some (v + c) = some (v - r + (c + r)); congr 1; omega
  refine ⟨q', es ++ [shE c e], (nextL a.once e l').map (· - r), an ++ [shA c (leventM a h.s1 h.l1 e).2.2], h3, by have := I.c0; omega, ?_, ?_, ?_, ?_, ?_⟩
  · rw [List.foldl_append, I.real]
    show (es ++ [upEv e c], c + r) = _
    rw [upEv_sh]
  · rw [List.all_append, I.ok]
    show (true && ((shE c e).ok && true)) = true
    rw [ok_ev I.c0 (ev_sub R he)]; rfl
  · rw [List.foldl_append, I.fa]
    show lanF a _ (shE c e) = _
    rw [k1, hq1, ← sh_low, hv]
  · rw [List.foldl_append, I.fb]
    show lanF b _ (shE c e) = _
    rw [k2, hq2, ← sh_low, hv, h5]
  · unfold LastOk
    rw [hq1, hq2, hql]
    refine lastok_of ?_
    cases e with
    | come p =>
      show ((if a.once = true then some p else none) = none ∧ (if a.once = true then some p else none) = none) ∨ _
      by_cases hon : a.once = true
      · exact .inr ⟨p, p, if_pos hon, if_pos hon, .inl rfl⟩
      · exact .inl ⟨if_neg hon, if_neg hon⟩
    | drop p =>
      show (l' = none ∧ h.l1 = none) ∨ ∃ y z, l' = some y ∧ h.l1 = some z ∧ _
      rcases I.last with k | ⟨y, z, k1, k2, k3⟩
      · exact .inl k
      · refine .inr ⟨y, z, k1, k2, ?_⟩
        rcases k3 with k3 | ⟨rfl, k4, k5⟩
        · exact .inl k3
        · exact .inr ⟨⟨fun z => neg_out R.s1 R.lo.1 (lev_drop_names _ _ _ _ z), fun z => neg_out R.s2 R.lo.2.1 (lev_drop_names _ _ _ _ z)⟩, fun z => k4 (lev_drop_names _ _ _ _ z), fun z => k5 (lev_drop_names _ _ _ _ z)⟩
    | round => exact .inl ⟨rfl, rfl⟩
theorem real_begin (a b : Spec) : RealInv a b [] startM lbegin 0 [] none [] :=
  ⟨rel_begin a b, Int.le_refl _, rfl, rfl, rfl, rfl, .inl ⟨rfl, rfl⟩⟩
end
end FM
end

section
set_option Elab.async false
set_option linter.all false
/-! Plain: the row found parts in real numbers (3). -/
namespace FM
open FB (finM preS preL noAns levent_eq lanF lan0 realF upEv)
theorem fin_len (sp : Spec) (s : LSt) (l : Option Int) (e : Ev) : (finM sp s l e).1.held.length = s.held.length := by
  unfold finM
  split
  · rfl
  · split
    · rfl
    · show ((lreplyM _ _ _).2.held).length = s.held.length
      unfold lreplyM
      rw [List.length_map]
theorem lev_len (sp : Spec) (t : LSt) (l : Option Int) (e : Ev) : (leventM sp t l e).1.held.length ≤ t.held.length + 1 := by
  rw [levent_eq, fin_len]
  cases e with
  | come p => exact FB.ltake_len _ _ _
  | drop p => exact Nat.le_succ_of_le (List.length_filter_le _ _)
  | round => exact Nat.le_succ _
theorem lan_held (sp : Spec) : ∀ (es : List Ev) (acc : LSt × Option Int × List Ans), (es.foldl (lanF sp) acc).1.held.length ≤ acc.1.held.length + es.length
  | [], acc => by simp
  | e :: es, acc => by
    rw [List.foldl_cons]
    have h1 := lan_held sp es (lanF sp acc e)
    have h2 : (lanF sp acc e).1.held.length ≤ acc.1.held.length + 1 := lev_len sp _ _ _
    rw [List.length_cons]
    omega
theorem few_on (sp : Spec) {es : List Ev} (h : es.length ≤ 800) : FB.FewOn sp es := fun k => by
  have h1 := lan_held sp (es.take k) lan0
  have h2 : (es.take k).length ≤ es.length := by rw [List.length_take]; exact Nat.min_le_right _ _
  have h3 : lan0.1.held.length = 0 := rfl
  omega
section
variable {a b : Spec} {pl : Pl} {e : Ev} {l : List (Ev × Int)}
theorem run_real (ho : a.once = b.once) (ha : a.room ≤ 3) (hb : b.room ≤ 3) (p : PRun a.rcv b.rcv l pl) : ∃ h c es l' an, RealInv a b l pl h c es l' an := by
  induction p with
  | nil => exact ⟨_, _, _, _, _, real_begin a b⟩
  | snoc _ he hs ih =>
    obtain ⟨h, c, es, l', an, I⟩ := ih
    obtain ⟨h', es', l'', an', I'⟩ := real_step I ho ha hb he hs
    exact ⟨h', _, es', l'', an', I'⟩
theorem realM_len (l : List (Ev × Int)) : (realM l).length = l.length := by
  rw [FB.realM_eq, FB.realF_len]; simp
/-- the row found parts -/
theorem row_parts (ho : a.once = b.once) (ha : a.room ≤ 3) (hb : b.room ≤ 3) (p : PRun a.rcv b.rcv l pl) (he : e ∈ eventsM a.rcv b.rcv pl) (hn : behindM a.rcv b.rcv pl e = none) : partedM a b (realM (l ++ [(e, 0)])) = true := by
  obtain ⟨h, c, es, l', an, I⟩ := run_real ho ha hb p
  have R := I.rel
  have hne : (leventM a h.s1 h.l1 e).2.2 ≠ (leventM b h.s2 h.l2 e).2.2 := by
    rcases step_rel R ho ha hb e with ⟨_, _, h3⟩ | ⟨q, r, q', h1, _⟩
    · exact h3
    · rw [hn] at h1; cases h1
  have hrow : realM (l ++ [(e, 0)]) = es ++ [shE c e] := by
    rw [FB.realM_eq, List.foldl_append, I.real]
    show es ++ [upEv e c] = _
    rw [upEv_sh]
  obtain ⟨k1, k2⟩ := real_ev I ho ha hb e
  rw [hrow, FB.partedM_eq a b _ (by
    rw [List.all_append, I.ok]
    show (true && ((shE c e).ok && true)) = true
    rw [ok_ev I.c0 (ev_sub R he)]; rfl) (by simp)]
  have x1 : lanswersM a (es ++ [shE c e]) = an ++ [shA c (leventM a h.s1 h.l1 e).2.2] := by
    rw [FB.lanswers_eq, List.foldl_append, I.fa]
    show (lanF a _ (shE c e)).2.2 = _
    rw [k1]
  have x2 : lanswersM b (es ++ [shE c e]) = an ++ [shA c (leventM b h.s2 h.l2 e).2.2] := by
    rw [FB.lanswers_eq, List.foldl_append, I.fb]
    show (lanF b _ (shE c e)).2.2 = _
    rw [k2]
  rw [x1, x2, List.dropLast_concat, List.dropLast_concat, List.getLast?_concat, List.getLast?_concat]
  have : ¬ some (shA c (leventM a h.s1 h.l1 e).2.2) = some (shA c (leventM b h.s2 h.l2 e).2.2) := fun z => hne (shA_inj (Option.some.inj z))
  simp [this]
/-- the program's answer and the law's answer belong together -/
theorem pair_of {F : Pl → Prop} {G P : LPl → Prop} (ho : a.once = b.once) (ha : a.room ≤ 3) (hb : b.room ≤ 3) (Rp : RoomP a.rcv b.rcv F) (f0 : F startM) (Rl : Room' a b (wd a b) G P) (g0 : G lbegin) (dep : ∀ m, lM a b (wd a b) m → m ≤ 399) : FB.PairOk a b := by
  obtain ⟨res, p1, p2⟩ := part_spec Rp f0
  obtain ⟨n, q1, q2, q3⟩ := leastM_spec Rl g0
  refine ⟨sizeMax + 1, n, res, p1, q1, ?_⟩
  cases res with
  | none =>
    dsimp only at p2 ⊢
    by_cases hn : n = 0
    · exact hn
    · exact absurd ((min_iff ho ha hb).mpr (q3 hn)) (p2 n)
  | some row =>
    dsimp only at p2 ⊢
    obtain ⟨l, pl, e, rfl, hr, he, hb', hm⟩ := p2
    have hl := (min_iff ho ha hb).mp hm
    have hd := dep _ hl
    have hn : n ≠ 0 := fun z => by
      have := q2 z _ hl
      omega
    have hln := q3 hn
    have e1 : l.length + 1 = n := Nat.le_antisymm (hl.2 _ hln.1) (hln.2 _ hl.1)
    have hlen : (realM (l ++ [(e, 0)])).length = n := by
      rw [realM_len, List.length_append]; exact e1
    refine ⟨hn, row_parts ho ha hb hr he hb', hlen, few_on a (by omega), few_on b (by omega), ?_⟩
    rw [hlen]
    exact Nat.lt_of_le_of_lt (show n ≤ 399 by omega) (by unfold PySem.sizeLine; omega)
end
end FM
end

section
set_option Elab.async false
set_option linter.all false
/-! Plain: how many places there are. -/
namespace FM
open FB (finM preS preL noAns levent_eq)
theorem nodup_len {α : Type} [DecidableEq α] : ∀ (l U : List α), l.Nodup → (∀ x ∈ l, x ∈ U) → l.length ≤ U.length
  | [], _, _, _ => Nat.zero_le _
  | x :: l, U, hn, h => by
    obtain ⟨h1, h2⟩ := List.nodup_cons.mp hn
    have hx := h x List.mem_cons_self
    have := nodup_len l (U.erase x) h2 fun y hy => (List.mem_erase_of_ne (fun z => h1 (by rw [← z]; exact hy))).mpr (h y (List.mem_cons_of_mem _ hy))
    rw [List.length_erase_of_mem hx] at this
    have hp := List.length_pos_of_mem hx
    rw [List.length_cons]
    omega
theorem nodup_mapOn {α β : Type} (f : α → β) : ∀ (l : List α), l.Nodup → (∀ x ∈ l, ∀ y ∈ l, f x = f y → x = y) → (l.map f).Nodup
  | [], _, _ => by simp
  | x :: l, hn, h => by
    obtain ⟨h1, h2⟩ := List.nodup_cons.mp hn
    rw [List.map_cons, List.nodup_cons]
    refine ⟨fun z => ?_, nodup_mapOn f l h2 fun a ha b hb => h a (List.mem_cons_of_mem _ ha) b (List.mem_cons_of_mem _ hb)⟩
    obtain ⟨y, hy, e⟩ := List.mem_map.mp z
    have := h y (List.mem_cons_of_mem _ hy) x List.mem_cons_self e
    subst this; exact h1 hy
/-- numbered places are few -/
theorem few_code {α : Type} (P : α → Prop) (f : α → Nat) (N : Nat) (hb : ∀ x, P x → f x < N) (hi : ∀ x y, P x → P y → f x = f y → x = y) (l : List α) (hn : l.Nodup) (hl : ∀ x ∈ l, P x) : l.length ≤ N := by
  have h1 := nodup_mapOn f l hn fun x hx y hy => hi x y (hl x hx) (hl y hy)
  have h2 := nodup_len (l.map f) (List.range N) h1 fun n hn => by
    obtain ⟨x, hx, rfl⟩ := List.mem_map.mp hn
    exact List.mem_range.mpr (hb x (hl x hx))
  rw [List.length_map, List.length_range] at h2
  exact h2
/-- the number of a list of pieces -/
def dig (n : Int) (e : Int × Bool) : Nat := (2 * (e.1 - n - 1) + (if e.2 then 2 else 1)).toNat
def lcode (n : Int) : List (Int × Bool) → Nat
  | [] => 0
  | e :: es => dig n e + 7 * lcode n es
theorem dig_rg {n : Int} {e : Int × Bool} (h : n < e.1 ∧ e.1 ≤ n + 3) : 1 ≤ dig n e ∧ dig n e ≤ 6 := by
  unfold dig
  split <;> omega
theorem dig_inj {n : Int} {e e' : Int × Bool} (h : n < e.1 ∧ e.1 ≤ n + 3) (h' : n < e'.1 ∧ e'.1 ≤ n + 3) (q : dig n e = dig n e') : e = e' := by
  obtain ⟨x, u⟩ := e
  obtain ⟨y, v⟩ := e'
  dsimp only at h h'
  unfold dig at q
  dsimp only at q
  cases u <;> cases v <;> simp only [if_true, if_false, Bool.false_eq_true] at q
  · exact Prod.ext (by show x = y; omega) rfl
  · omega
  · omega
  · exact Prod.ext (by show x = y; omega) rfl
theorem lcode_inj {n : Int} : ∀ (l l' : List (Int × Bool)), (∀ e ∈ l, n < e.1 ∧ e.1 ≤ n + 3) → (∀ e ∈ l', n < e.1 ∧ e.1 ≤ n + 3) → lcode n l = lcode n l' → l = l'
  | [], [], _, _, _ => rfl
  | [], e :: es, _, h, q => by
    have := dig_rg (h e List.mem_cons_self)
    unfold lcode at q; omega
  | e :: es, [], h, _, q => by
    have := dig_rg (h e List.mem_cons_self)
    unfold lcode at q; omega
  | e :: es, e' :: es', h, h', q => by
    have g := dig_rg (h e List.mem_cons_self)
    have g' := dig_rg (h' e' List.mem_cons_self)
    have q' : dig n e + 7 * lcode n es = dig n e' + 7 * lcode n es' := q
    have q1 : dig n e = dig n e' := by omega
    have q2 : lcode n es = lcode n es' := by omega
    rw [dig_inj (h e List.mem_cons_self) (h' e' List.mem_cons_self) q1, lcode_inj es es' (fun x hx => h x (List.mem_cons_of_mem _ hx)) (fun x hx => h' x (List.mem_cons_of_mem _ hx)) q2]
theorem lcode_lt {n : Int} : ∀ (l : List (Int × Bool)), (∀ e ∈ l, n < e.1 ∧ e.1 ≤ n + 3) → lcode n l < 7 ^ l.length
  | [], _ => by show 0 < 1; omega
  | e :: es, h => by
    have g := dig_rg (h e List.mem_cons_self)
    have := lcode_lt es fun x hx => h x (List.mem_cons_of_mem _ hx)
    show dig n e + 7 * lcode n es < 7 ^ (es.length + 1)
    rw [Nat.pow_succ]
    omega
section
variable {sp : Spec} {s : PSt} {t : LSt}
theorem Sim.len3 (S : Sim sp s t) (hr : sp.room ≤ 3) : t.held.length ≤ 3 := by
  have := nodup_len t.names [t.n + 1, t.n + 2, t.n + 3] S.nd fun x hx => by
    have := S.rg x hx
    have : x = t.n + 1 ∨ x = t.n + 2 ∨ x = t.n + 3 := by omega
    simpa using this
  rw [LSt.names, List.length_map] at this
  exact this
theorem Sim.len2 (S : Sim sp s t) (hr : sp.room ≤ 2) : t.held.length ≤ 2 := by
  have := nodup_len t.names [t.n + 1, t.n + 2] S.nd fun x hx => by
    have := S.rg x hx
    have : x = t.n + 1 ∨ x = t.n + 2 := by omega
    simpa using this
  rw [LSt.names, List.length_map] at this
  exact this
theorem Sim.dg (S : Sim sp s t) (hr : sp.room ≤ 3) : ∀ e ∈ t.held, t.n < e.1 ∧ e.1 ≤ t.n + 3 := fun e he => by
  have := S.rg e.1 (List.mem_map.mpr ⟨e, he, rfl⟩)
  omega
theorem Sim.c3 (S : Sim sp s t) (hr : sp.room ≤ 3) : lcode t.n t.held < 343 := by
  have h1 := lcode_lt t.held (S.dg hr)
  have h2 := Nat.pow_le_pow_right (n := 7) (by omega) (S.len3 hr)
  have h3 : 7 ^ 3 = 343 := rfl
  omega
theorem Sim.c2 (S : Sim sp s t) (hr : sp.room ≤ 2) : lcode t.n t.held < 49 := by
  have h1 := lcode_lt t.held (S.dg (by omega))
  have h2 := Nat.pow_le_pow_right (n := 7) (by omega) (S.len2 hr)
  have h3 : 7 ^ 2 = 49 := rfl
  omega
theorem sim_det {s' : PSt} (S : Sim sp s t) (S' : Sim sp s' t) : s = s' := by
  obtain ⟨n, hd, td⟩ := s
  obtain ⟨n', hd', td'⟩ := s'
  have e1 : n = n' := S.n.trans S'.n.symm
  have e2 : hd = hd' := S.held.trans S'.held.symm
  have e3 : td = td' := S.told.trans S'.told.symm
  rw [e1, e2, e3]
theorem st_code {sp' : Spec} {s' : PSt} {t' : LSt} (S : Sim sp s t) (S' : Sim sp' s' t') (hr : sp.room ≤ 3) (hr' : sp'.room ≤ 3) (hn : t.n = t'.n) (q : lcode t.n t.held = lcode t'.n t'.held) : t = t' := by
  obtain ⟨n, hd⟩ := t
  obtain ⟨n', hd'⟩ := t'
  have hn : n = n' := hn
  subst hn
  have := lcode_inj hd hd' (S.dg hr) (S'.dg hr') q
  rw [this]
theorem Sim.small (S : Sim sp s t) (hr : sp.room ≤ 3) : smL t = true ∧ smB s = true := by
  have h := S.len3 hr
  have hp := S.perm.length_eq
  have hh : t.names.length = t.held.length := by rw [LSt.names, List.length_map]
  refine ⟨decide_eq_true (by omega), ?_⟩
  have ht : s.told.length ≤ 400 := by
    rw [S.told]
    split
    · rw [(sortI_perm _).length_eq, List.length_map]
      have := List.length_filter_le (fun e : Int × Bool => e.2) t.held
      omega
    · simp
  unfold smB
  rw [Bool.and_eq_true, decide_eq_true_eq, decide_eq_true_eq]
  exact ⟨by omega, ht⟩
end
section
variable {a b : Spec} {pl pl' : Pl} {h h' : LPl}
theorem rel_det (R : Rel a b pl h) (R' : Rel a b pl' h) : pl = pl' := by
  obtain ⟨f, g, c, l⟩ := pl
  obtain ⟨f', g', c', l'⟩ := pl'
  have e1 : f = f' := sim_det R.s1 R'.s1
  have e2 : g = g' := sim_det R.s2 R'.s2
  have e3 : c = c' ∧ l = l' := by
    have r := R.l
    have r' := R'.l
    dsimp only at r r'
    rcases r with ⟨h1, h2, h3, _⟩ | ⟨h1, h2, _⟩ <;> rcases r' with ⟨k1, k2, k3, _⟩ | ⟨k1, k2, _⟩
    · exact ⟨h1.trans k1.symm, h2.trans k2.symm⟩
    · rw [h3] at k2; cases k2
    · rw [k3] at h2; cases h2
    · rw [h2] at k2; exact ⟨h1.trans k1.symm, Option.some.inj k2⟩
  rw [e1, e2, e3.1, e3.2]
/-- what came last is held or -1 -/
def LastIn (h : LPl) : Prop := ∀ z, h.l1 = some z → z = -1 ∨ z ∈ h.s1.names ∨ z ∈ h.s2.names
theorem lplace_last (x y : LSt × Option Int × Ans) : LastIn (lplaceM x y) := by
  intro z hz
  have hz' : llast x.2.1 (if y.1.n < x.1.n then y.1.n else x.1.n) (x.1.names ++ y.1.names) = some z := hz
  generalize hm : (if y.1.n < x.1.n then y.1.n else x.1.n) = m at hz'
  have e1 : (lplaceM x y).s1 = llow x.1 m := by rw [← hm]; rfl
  have e2 : (lplaceM x y).s2 = llow y.1 m := by rw [← hm]; rfl
  rw [e1, e2, names_low, names_low]
  obtain ⟨v, _, hv⟩ := Option.map_eq_some_iff.mp hz'
  by_cases hc : v ∈ x.1.names ++ y.1.names
  · rw [if_pos hc] at hv
    subst hv
    rcases List.mem_append.mp hc with hc | hc
    · exact .inr (.inl (List.mem_map.mpr ⟨v, hc, rfl⟩))
    · exact .inr (.inr (List.mem_map.mpr ⟨v, hc, rfl⟩))
  · rw [if_neg hc] at hv
    exact .inl hv.symm
/-- places with nexts up to k -/
def LN (a b : Spec) (k : Int) (h : LPl) : Prop := (h.s1.n ≤ k ∧ h.s2.n ≤ k ∧ LastIn h) ∧ ∃ pl, Rel a b pl h
/-- the number of what came last -/
def lco : Option Int → Nat
  | none => 0
  | some z => (z + 2).toNat
def pcode (h : LPl) : Nat := (((h.s1.n.toNat * 9 + h.s2.n.toNat) * 49 + lcode h.s1.n h.s1.held) * 49 + lcode h.s2.n h.s2.held) * 13 + lco h.l1
theorem lco_rg (L : LN a b 8 h) (ha : a.room ≤ 2) (hb : b.room ≤ 2) : lco h.l1 < 13 ∧ ∀ z, h.l1 = some z → -1 ≤ z := by
  obtain ⟨⟨n1, n2, li⟩, pl, R⟩ := L
  have z1 := R.lo.1
  have z2 := R.lo.2.1
  cases hl : h.l1 with
  | none => exact ⟨by show 0 < 13; omega, fun z hz => by cases hz⟩
  | some z =>
    have : -1 ≤ z ∧ z ≤ 10 := by
      rcases li z hl with k | k | k
      · omega
      · have := R.s1.rg z k; omega
      · have := R.s2.rg z k; omega
    refine ⟨by show (z + 2).toNat < 13; omega, fun z' hz => ?_⟩
    cases hz; exact this.1
theorem few_once (ha : a.room ≤ 2) (hb : b.room ≤ 2) (l : List LPl) (hn : l.Nodup) (hl : ∀ x ∈ l, LN a b 8 x) : l.length < sizeMax := by
  refine Nat.lt_of_le_of_lt (few_code (LN a b 8) pcode 2528253 (fun x L => ?_) (fun x y L L' q => ?_) l hn hl) (by unfold sizeMax; omega)
  · have c := (lco_rg L ha hb).1
    obtain ⟨⟨n1, n2, li⟩, pl, R⟩ := L
    have c1 := R.s1.c2 ha
    have c2 := R.s2.c2 hb
    have z1 := R.lo.1
    have z2 := R.lo.2.1
    unfold pcode
    omega
  · have c := lco_rg L ha hb
    have c' := lco_rg L' ha hb
    obtain ⟨⟨n1, n2, li⟩, pl, R⟩ := L
    obtain ⟨⟨n1', n2', li'⟩, pl', R'⟩ := L'
    have c1 := R.s1.c2 ha
    have c2 := R.s2.c2 hb
    have c1' := R'.s1.c2 ha
    have c2' := R'.s2.c2 hb
    have z1 := R.lo.1
    have z2 := R.lo.2.1
    have z1' := R'.lo.1
    have z2' := R'.lo.2.1
    unfold pcode at q
    have q5 : lco x.l1 = lco y.l1 := by omega
    have q4 : lcode x.s2.n x.s2.held = lcode y.s2.n y.s2.held := by omega
    have q3 : lcode x.s1.n x.s1.held = lcode y.s1.n y.s1.held := by omega
    have q2 : x.s2.n = y.s2.n := by omega
    have q1 : x.s1.n = y.s1.n := by omega
    have e1 := st_code R.s1 R'.s1 (by omega) (by omega) q1 q3
    have e2 := st_code R.s2 R'.s2 (by omega) (by omega) q2 q4
    have e3 : x.l1 = y.l1 := by
      cases hx : x.l1 with
      | none => cases hy : y.l1 with
        | none => rfl
        | some z =>
          have := c'.2 z hy
          rw [hx, hy] at q5
          have q5 : 0 = (z + 2).toNat := q5
          omega
      | some z => cases hy : y.l1 with
        | none =>
          have := c.2 z hx
          rw [hx, hy] at q5
          have q5 : (z + 2).toNat = 0 := q5
          omega
        | some z' =>
          have := c.2 z hx
          have := c'.2 z' hy
          rw [hx, hy] at q5
          have q5 : (z + 2).toNat = (z' + 2).toNat := q5
          congr 1; omega
    have e4 : x.l2 = y.l2 := by rw [← R.l12, ← R'.l12]; exact e3
    obtain ⟨s1, l1, s2, l2⟩ := x
    obtain ⟨s1', l1', s2', l2'⟩ := y
    dsimp only at e1 e2 e3 e4
    rw [e1, e2, e3, e4]
theorem each_flat (ho : a.once = false) (R : Rel a b pl h) : h.s1.n = 0 ∧ h.s2.n = 0 ∧ h.l1 = none ∧ h.l2 = none := by
  have hc : pl.came = false := by
    cases hc : pl.came with
    | false => rfl
    | true => have := R.on hc; rw [ho] at this; cases this
  have hn : h.s1.n = h.s2.n := Decidable.byContradiction fun z => by have := R.df z; rw [hc] at this; cases this
  have hl := R.lo
  rcases R.l with ⟨_, _, h1, h2⟩ | ⟨h1, _⟩
  · exact ⟨by omega, by omega, h1, h2⟩
  · rw [hc] at h1; cases h1
theorem few_each (ho : a.once = false) (ha : a.room ≤ 3) (hb : b.room ≤ 3) (l : List LPl) (hn : l.Nodup) (hl : ∀ x ∈ l, LN a b 8 x) : l.length < sizeMax := by
  refine Nat.lt_of_le_of_lt (few_code (LN a b 8) (fun h => lcode h.s1.n h.s1.held * 343 + lcode h.s2.n h.s2.held) 117649 (fun x L => ?_) (fun x y L L' q => ?_) l hn hl) (by unfold sizeMax; omega)
  · obtain ⟨_, pl, R⟩ := L
    have c1 := R.s1.c3 ha
    have c2 := R.s2.c3 hb
    omega
  · obtain ⟨_, pl, R⟩ := L
    obtain ⟨_, pl', R'⟩ := L'
    have c1 := R.s1.c3 ha
    have c2 := R.s2.c3 hb
    have c1' := R'.s1.c3 ha
    have c2' := R'.s2.c3 hb
    obtain ⟨k1, k2, k3, k4⟩ := each_flat ho R
    obtain ⟨j1, j2, j3, j4⟩ := each_flat ho R'
    have e1 := st_code R.s1 R'.s1 ha ha (by omega) (by omega)
    have e2 := st_code R.s2 R'.s2 hb hb (by omega) (by omega)
    have e3 : x.l1 = y.l1 := by rw [k3, j3]
    have e4 : x.l2 = y.l2 := by rw [k4, j4]
    obtain ⟨s1, l1, s2, l2⟩ := x
    obtain ⟨s1', l1', s2', l2'⟩ := y
    dsimp only at e1 e2 e3 e4
    rw [e1, e2, e3, e4]
end
end FM
end

section
set_option Elab.async false
set_option linter.all false
/-! Plain: both searches have room. -/
namespace FM
open FB (finM preS preL noAns levent_eq)
theorem lup_le (ns : List Int) (v : Int) : lup ns v ≤ v + 1 := by unfold lup; split <;> omega
theorem ltake_le (room : Int) (t : LSt) (p : Int) : (ltakeM room t p).n ≤ t.n + 4 := by
  unfold ltakeM
  dsimp only
  split
  · have h1 := lup_le (t.held.map (·.1)) (t.n + 1)
    have h2 := lup_le (t.held.map (·.1)) (lup (t.held.map (·.1)) (t.n + 1))
    have h3 := lup_le (t.held.map (·.1)) (lup (t.held.map (·.1)) (lup (t.held.map (·.1)) (t.n + 1)))
    show lup _ (lup _ (lup _ (t.n + 1))) ≤ _
    omega
  · have : t.n ≤ t.n + 4 := by omega
    split <;> exact this
theorem lev_le (sp : Spec) (t : LSt) (l : Option Int) (e : Ev) : (leventM sp t l e).1.n ≤ t.n + 4 := by
  rw [levent_eq, fin_n]
  have : t.n ≤ t.n + 4 := by omega
  cases e with
  | come p => exact ltake_le _ _ _
  | drop p => exact this
  | round => exact this
section
variable {a b : Spec} {pl : Pl} {h q : LPl} {e : Ev}
theorem lstep_place (hs : lstepM a b h e = some q) : q = lplaceM (leventM a h.s1 h.l1 e) (leventM b h.s2 h.l2 e) := by
  have hls : lstepM a b h e = if (leventM a h.s1 h.l1 e).2.2 ≠ (leventM b h.s2 h.l2 e).2.2 then none else some (lplaceM (leventM a h.s1 h.l1 e) (leventM b h.s2 h.l2 e)) := rfl
  rw [hls] at hs
  split at hs
  · cases hs
  · exact (Option.some.inj hs).symm
theorem rel_next (ho : a.once = b.once) (ha : a.room ≤ 3) (hb : b.room ≤ 3) (R : Rel a b pl h) (hs : lstepM a b h e = some q) : ∃ p r, behindM a.rcv b.rcv pl e = some (p, r) ∧ Rel a b p q := by
  rcases step_rel R ho ha hb e with ⟨_, h2, _⟩ | ⟨p, r, q', h1, h2, h3, _⟩
  · rw [hs] at h2; cases h2
  · rw [hs] at h2; cases h2
    exact ⟨p, r, h1, h3⟩
theorem ln_next (ho : a.once = b.once) (ha : a.room ≤ 3) (hb : b.room ≤ 3) {k : Int} (L : LN a b k h) (hs : lstepM a b h e = some q) : LN a b (k + 4) q := by
  obtain ⟨⟨n1, n2, li⟩, pl, R⟩ := L
  obtain ⟨p, r, _, R'⟩ := rel_next ho ha hb R hs
  have hq := lstep_place hs
  refine ⟨⟨?_, ?_, by rw [hq]; exact lplace_last _ _⟩, p, R'⟩
  all_goals
    have g1 := lev_le a h.s1 h.l1 e
    have g2 := lev_le b h.s2 h.l2 e
    have j1 := lev_ge a h.s1 h.l1 e
    have j2 := lev_ge b h.s2 h.l2 e
    have z1 := R.lo.1
    have z2 := R.lo.2.1
    have hm : 0 ≤ (if (leventM b h.s2 h.l2 e).1.n < (leventM a h.s1 h.l1 e).1.n then (leventM b h.s2 h.l2 e).1.n else (leventM a h.s1 h.l1 e).1.n) := by split <;> omega
    rw [hq]
  · show (leventM a h.s1 h.l1 e).1.n - (if (leventM b h.s2 h.l2 e).1.n < (leventM a h.s1 h.l1 e).1.n then (leventM b h.s2 h.l2 e).1.n else (leventM a h.s1 h.l1 e).1.n) ≤ k + 4
    omega
  · show (leventM b h.s2 h.l2 e).1.n - (if (leventM b h.s2 h.l2 e).1.n < (leventM a h.s1 h.l1 e).1.n then (leventM b h.s2 h.l2 e).1.n else (leventM a h.s1 h.l1 e).1.n) ≤ k + 4
    omega
theorem ln_zero (L : LN a b 4 h) (he : h.s1.n = h.s2.n) : LN a b 0 h := by
  obtain ⟨⟨n1, n2, li⟩, pl, R⟩ := L
  have := R.lo
  exact ⟨⟨by omega, by omega, li⟩, pl, R⟩
theorem ln_up (L : LN a b 4 h) : LN a b 8 h := by
  obtain ⟨⟨n1, n2, li⟩, pl, R⟩ := L
  exact ⟨⟨by omega, by omega, li⟩, pl, R⟩
theorem room_l (ho : a.once = b.once) (ha : a.room ≤ 3) (hb : b.room ≤ 3) (few : ∀ l : List LPl, l.Nodup → (∀ x ∈ l, LN a b 8 x) → l.length < sizeMax) : Room' a b (wd a b) (LN a b 4) (LN a b 8) := by
  refine ⟨few, fun x L => ?_, fun x L => ln_up L, fun h L e he q hs => ln_next ho ha hb L hs, fun h L hst e he q hs => ?_⟩
  · obtain ⟨_, pl, R⟩ := L
    exact ⟨(R.s1.small ha).1, (R.s2.small hb).1⟩
  · have hn : h.s1.n = h.s2.n := Decidable.byContradiction fun z => by
      obtain ⟨_, pl, R⟩ := L
      exact hst .round (round_mem h _) (far_round R ho ha hb z).2
    exact ln_next (k := 0) ho ha hb (ln_zero L hn) hs
def PN (a b : Spec) (pl : Pl) : Prop := ∃ h, Rel a b pl h ∧ LN a b 4 h
theorem room_p (ho : a.once = b.once) (ha : a.room ≤ 3) (hb : b.room ≤ 3) (few : ∀ l : List LPl, l.Nodup → (∀ x ∈ l, LN a b 8 x) → l.length < sizeMax) : RoomP a.rcv b.rcv (PN a b) := by
  refine ⟨fun l hn hl => ?_, fun x ⟨h, R, _⟩ => ⟨(R.s1.small ha).2, (R.s2.small hb).2⟩, fun pl ⟨h, R, L⟩ e he q r hs => ?_⟩
  · classical
    let f : Pl → LPl := fun x => if hx : PN a b x then Classical.choose hx else lbegin
    have hf : ∀ x, PN a b x → Rel a b x (f x) ∧ LN a b 4 (f x) := fun x hx => by
      have : f x = Classical.choose hx := dif_pos hx
      rw [this]
      exact Classical.choose_spec hx
    have h1 := nodup_mapOn f l hn fun x hx y hy q => rel_det (hf x (hl x hx)).1 (by rw [q]; exact (hf y (hl y hy)).1)
    have h2 := few (l.map f) h1 fun z hz => by
      obtain ⟨x, hx, rfl⟩ := List.mem_map.mp hz
      exact ln_up (hf x (hl x hx)).2
    rw [List.length_map] at h2
    exact h2
  · by_cases hn : h.s1.n = h.s2.n
    · rcases step_rel R ho ha hb e with ⟨h1, _⟩ | ⟨p, r', q', h1, h2, h3, _⟩
      · rw [hs] at h1; cases h1
      · rw [hs] at h1; cases h1
        exact ⟨q', h3, ln_next (k := 0) ho ha hb (ln_zero L hn) h2⟩
    · rw [ev_far R hn] at he
      simp only [List.mem_singleton] at he
      subst he
      rw [(far_round R ho ha hb hn).1] at hs
      cases hs
theorem ln_begin (a b : Spec) : LN a b 4 lbegin := ⟨⟨by show (0 : Int) ≤ 4; omega, by show (0 : Int) ≤ 4; omega, fun z hz => by cases hz⟩, startM, rel_begin a b⟩
theorem pn_begin (a b : Spec) : PN a b startM := ⟨lbegin, rel_begin a b, ln_begin a b⟩
/-- alike kinds of answering: what is left is how deep it goes -/
theorem pair_deep (ho : a.once = b.once) (ha : a.room ≤ 3) (hb : b.room ≤ 3) (hs : (a.room ≤ 2 ∧ b.room ≤ 2) ∨ a.once = false) (dep : ∀ m, lM a b (wd a b) m → m ≤ 399) : FB.PairOk a b := by
  have few : ∀ l : List LPl, l.Nodup → (∀ x ∈ l, LN a b 8 x) → l.length < sizeMax := fun l hn hl => by
    rcases hs with ⟨h1, h2⟩ | h1
    · exact few_once h1 h2 l hn hl
    · exact few_each h1 ha hb l hn hl
  exact pair_of ho ha hb (room_p ho ha hb few) (pn_begin a b) (room_l ho ha hb few) (ln_begin a b) dep
end
end FM
end

section
set_option Elab.async false
set_option linter.all false
/-! Plain: how deep: rooms alike. -/
namespace FM
open FB (finM preS preL noAns levent_eq)
section
variable {S E : Type} {evs : S → List E} {step : S → E → Option S} {s : S} {m : Nat}
theorem min_uniq {k : Nat} (h1 : IsMin evs step s m) (h2 : IsMin evs step s k) : m = k := Nat.le_antisymm (h1.2 _ h2.1) (h2.2 _ h1.1)
/-- a least row goes through as many places -/
theorem min_path (Inv : S → Prop) (hst : ∀ s e q, Inv s → e ∈ evs s → step s e = some q → Inv q) : ∀ (m : Nat) (s : S), Inv s → IsMin evs step s m → ∃ l : List S, l.length = m ∧ l.Nodup ∧ ∀ x ∈ l, Inv x ∧ ∃ k, k ≤ m ∧ IsMin evs step x k
  | 0, s, _, _ => ⟨[], rfl, by simp, fun x hx => by simp at hx⟩
  | m + 1, s, hi, hm => by
    have hm' := hm
    obtain ⟨hp, hl⟩ := hm
    cases hp with
    | here he hn => exact ⟨[s], rfl, by simp, fun x hx => by simp only [List.mem_singleton] at hx; subst hx; exact ⟨hi, 1, Nat.le_refl _, hm'⟩⟩
    | @there _ q e _ he hs hp =>
      have hq : IsMin evs step q m := ⟨hp, fun k hk => by have := hl _ (.there he hs hk); omega⟩
      obtain ⟨l, l1, l2, l3⟩ := min_path Inv hst m q (hst s e q hi he hs) hq
      refine ⟨s :: l, by rw [List.length_cons, l1], List.nodup_cons.mpr ⟨fun z => ?_, l2⟩, fun x hx => ?_⟩
      · obtain ⟨_, k, k1, k2⟩ := l3 s z
        have := min_uniq hm' k2
        omega
      · rcases List.mem_cons.mp hx with rfl | hx
        · exact ⟨hi, m + 1, Nat.le_refl _, hm'⟩
        · obtain ⟨g1, k, k1, k2⟩ := l3 x hx
          exact ⟨g1, k, by omega, k2⟩
end
section
variable {a b : Spec} {pl : Pl} {h q : LPl} {e : Ev}
/-- both sides alike -/
def Dia (a b : Spec) (h : LPl) : Prop := h.s1 = h.s2 ∧ LastIn h ∧ ∃ pl, Rel a b pl h
theorem fin_eq {sp sp' : Spec} {s : LSt} {l : Option Int} (ho : sp.once = sp'.once) (ha : (finM sp s l e).2.2 = (finM sp' s l e).2.2) : (finM sp s l e).1 = (finM sp' s l e).1 := by
  have hna : noAns sp e = noAns sp' e := by unfold noAns; rw [ho]
  unfold finM at ha ⊢
  cases l with
  | none => rfl
  | some y =>
    dsimp only at ha ⊢
    rw [hna] at ha ⊢
    by_cases hc : noAns sp' e = true
    · rw [if_pos hc, if_pos hc]
    · rw [if_neg hc, if_neg hc] at ha
      rw [if_neg hc, if_neg hc]
      have ha' : some ((lreplyM sp.sel s y).2.n, (lreplyM sp.sel s y).1) = some ((lreplyM sp'.sel s y).2.n, (lreplyM sp'.sel s y).1) := ha
      have h1 := Option.some.inj ha'
      have h2 := congrArg Prod.snd h1
      have h2' : lpickedM sp.sel s y = lpickedM sp'.sel s y := h2
      show (lreplyM sp.sel s y).2 = (lreplyM sp'.sel s y).2
      unfold lreplyM
      rw [h2']
theorem dia_next (ho : a.once = b.once) (hr : a.room = b.room) (ha : a.room ≤ 3) (hb : b.room ≤ 3) (D : Dia a b h) (hs : lstepM a b h e = some q) : Dia a b q := by
  obtain ⟨d1, d2, pl, R⟩ := D
  obtain ⟨p, r, _, R'⟩ := rel_next ho ha hb R hs
  have hq := lstep_place hs
  have hans : (leventM a h.s1 h.l1 e).2.2 = (leventM b h.s2 h.l2 e).2.2 := by
    rcases step_rel R ho ha hb e with ⟨_, h2, _⟩ | ⟨_, _, _, _, _, _, _, h5⟩
    · rw [hs] at h2; cases h2
    · exact h5
  refine ⟨?_, by rw [hq]; exact lplace_last _ _, p, R'⟩
  have hp : preS b h.s1 e = preS a h.s1 e := by
    cases e with
    | come p => show ltakeM b.room _ _ = ltakeM a.room _ _; rw [hr]
    | drop p => rfl
    | round => rfl
  have hst : (leventM a h.s1 h.l1 e).1 = (leventM b h.s2 h.l2 e).1 := by
    rw [← d1, ← R.l12, levent_eq, levent_eq, hp] at hans
    rw [← d1, ← R.l12, levent_eq, levent_eq, hp]
    exact fin_eq ho hans
  rw [hq]
  show llow _ _ = llow _ _
  rw [hst]
theorem dia_zero (D : Dia a b h) : h.s1.n = 0 := by
  obtain ⟨d1, _, pl, R⟩ := D
  have := R.lo
  rw [← d1] at this
  omega
theorem dia_ext {x y : LPl} (D : Dia a b x) (D' : Dia a b y) (ha : a.room ≤ 3) (q : lcode x.s1.n x.s1.held = lcode y.s1.n y.s1.held) (e3 : x.l1 = y.l1) : x = y := by
  have k1 := dia_zero D
  have k2 := dia_zero D'
  obtain ⟨d1, _, pl, R⟩ := D
  obtain ⟨d1', _, pl', R'⟩ := D'
  have e1 := st_code R.s1 R'.s1 ha ha (by omega) q
  have e2 : x.s2 = y.s2 := by rw [← d1, ← d1', e1]
  have e4 : x.l2 = y.l2 := by rw [← R.l12, ← R'.l12, e3]
  obtain ⟨s1, l1, s2, l2⟩ := x
  obtain ⟨s1', l1', s2', l2'⟩ := y
  dsimp only at e1 e2 e3 e4
  rw [e1, e2, e3, e4]
theorem dia_lco (D : Dia a b h) (ha : a.room ≤ 2) : lco h.l1 < 5 ∧ ∀ z, h.l1 = some z → -1 ≤ z := by
  have k1 := dia_zero D
  obtain ⟨d1, li, pl, R⟩ := D
  cases hl : h.l1 with
  | none => exact ⟨by show 0 < 5; omega, fun z hz => by cases hz⟩
  | some z =>
    have : -1 ≤ z ∧ z ≤ 2 := by
      rcases li z hl with k | k | k
      · omega
      · have := R.s1.rg z k; omega
      · rw [← d1] at k; have := R.s1.rg z k; omega
    refine ⟨by show (z + 2).toNat < 5; omega, fun z' hz => ?_⟩
    cases hz; exact this.1
theorem dia_begin (a b : Spec) : Dia a b lbegin := ⟨rfl, (fun z hz => by cases hz), startM, rel_begin a b⟩
theorem deep_alike (ho : a.once = b.once) (hr : a.room = b.room) (ha : a.room ≤ 3) (hs : a.room ≤ 2 ∨ a.once = false) {m : Nat} (hm : lM a b (wd a b) m) : m ≤ 399 := by
  have hb : b.room ≤ 3 := by omega
  obtain ⟨l, l1, l2, l3⟩ := min_path (Dia a b) (fun s e q D _ hs => dia_next ho hr ha hb D hs) m lbegin (dia_begin a b) hm
  rcases hs with hs | hs
  · have := few_code (Dia a b) (fun h => lcode h.s1.n h.s1.held * 5 + lco h.l1) 245 (fun x D => ?_) (fun x y D D' q => ?_) l l2 fun x hx => (l3 x hx).1
    · omega
    · have c := (dia_lco D hs).1
      obtain ⟨d1, _, pl, R⟩ := D
      have c1 := R.s1.c2 hs
      show lcode x.s1.n x.s1.held * 5 + lco x.l1 < 245
      omega
    · have c := dia_lco D hs
      have c' := dia_lco D' hs
      have q' : lcode x.s1.n x.s1.held * 5 + lco x.l1 = lcode y.s1.n y.s1.held * 5 + lco y.l1 := q
      have q5 : lco x.l1 = lco y.l1 := by omega
      refine dia_ext D D' ha (by omega) ?_
      cases hx : x.l1 with
      | none => cases hy : y.l1 with
        | none => rfl
        | some z =>
          have := c'.2 z hy
          rw [hx, hy] at q5
          have q5 : 0 = (z + 2).toNat := q5
          omega
      | some z => cases hy : y.l1 with
        | none =>
          have := c.2 z hx
          rw [hx, hy] at q5
          have q5 : (z + 2).toNat = 0 := q5
          omega
        | some z' =>
          have := c.2 z hx
          have := c'.2 z' hy
          rw [hx, hy] at q5
          have q5 : (z + 2).toNat = (z' + 2).toNat := q5
          congr 1; omega
  · have := few_code (Dia a b) (fun h => lcode h.s1.n h.s1.held) 343 (fun x D => ?_) (fun x y D D' q => ?_) l l2 fun x hx => (l3 x hx).1
    · omega
    · obtain ⟨d1, _, pl, R⟩ := D
      exact R.s1.c3 ha
    · have q' : lcode x.s1.n x.s1.held = lcode y.s1.n y.s1.held := q
      refine dia_ext D D' ha q' ?_
      obtain ⟨_, _, pl, R⟩ := D
      obtain ⟨_, _, pl', R'⟩ := D'
      rw [(each_flat hs R).2.2.1, (each_flat hs R').2.2.1]
end
end FM
end

section
set_option Elab.async false
set_option linter.all false
/-! Plain: how deep: rooms unlike. -/
namespace FM
open FB (finM preS preL noAns levent_eq)
/-! ### the other way round -/
def swp (h : LPl) : LPl := ⟨h.s2, h.l2, h.s1, h.l1⟩
theorem llast_congr (l : Option Int) (m : Int) {ns ns' : List Int} (h : ∀ x, x ∈ ns ↔ x ∈ ns') : llast l m ns = llast l m ns' := by
  unfold llast
  cases l with
  | none => rfl
  | some v =>
    show some (if v ∈ ns then v - m else -1) = some (if v ∈ ns' then v - m else -1)
    by_cases hv : v ∈ ns
    · rw [if_pos hv, if_pos ((h v).mp hv)]
    · rw [if_neg hv, if_neg fun z => hv ((h v).mpr z)]
theorem lplace_swp (x y : LSt × Option Int × Ans) : lplaceM y x = swp (lplaceM x y) := by
  have hm : (if x.1.n < y.1.n then x.1.n else y.1.n) = if y.1.n < x.1.n then y.1.n else x.1.n := by split <;> split <;> omega
  have hns : ∀ v : Int, v ∈ y.1.names ++ x.1.names ↔ v ∈ x.1.names ++ y.1.names := fun v => by rw [List.mem_append, List.mem_append]; exact or_comm
  have e1 : lplaceM y x = ⟨llow y.1 (if x.1.n < y.1.n then x.1.n else y.1.n), llast y.2.1 (if x.1.n < y.1.n then x.1.n else y.1.n) (y.1.names ++ x.1.names), llow x.1 (if x.1.n < y.1.n then x.1.n else y.1.n), llast x.2.1 (if x.1.n < y.1.n then x.1.n else y.1.n) (y.1.names ++ x.1.names)⟩ := rfl
  rw [e1, hm, llast_congr y.2.1 _ hns, llast_congr x.2.1 _ hns]
  rfl
theorem lstep_def (a b : Spec) (h : LPl) (e : Ev) : lstepM a b h e = if (leventM a h.s1 h.l1 e).2.2 ≠ (leventM b h.s2 h.l2 e).2.2 then none else some (lplaceM (leventM a h.s1 h.l1 e) (leventM b h.s2 h.l2 e)) := rfl
section
variable {a b : Spec} {pl : Pl} {h q : LPl} {e : Ev}
theorem lstep_swp : lstepM b a (swp h) e = (lstepM a b h e).map swp := by
  rw [lstep_def, lstep_def]
  show (if (leventM b h.s2 h.l2 e).2.2 ≠ (leventM a h.s1 h.l1 e).2.2 then none else some (lplaceM (leventM b h.s2 h.l2 e) (leventM a h.s1 h.l1 e))) = _
  by_cases hc : (leventM a h.s1 h.l1 e).2.2 = (leventM b h.s2 h.l2 e).2.2
  · rw [if_neg (fun z => z hc.symm), if_neg (fun z => z hc), lplace_swp]
    rfl
  · rw [if_pos (fun z => hc z.symm), if_pos hc]
    rfl
theorem ltries_swp {w : Int} (he : e ∈ ltriesM h w) : e ∈ ltriesM (swp h) w := by
  unfold ltriesM at he ⊢
  rcases List.mem_append.mp he with he | he
  · refine List.mem_append_left _ ?_
    rcases List.mem_append.mp he with he | he
    · exact List.mem_append_left _ he
    · refine List.mem_append_right _ ?_
      obtain ⟨p, hp, rfl⟩ := List.mem_map.mp he
      obtain ⟨h1, h2⟩ := List.mem_filter.mp hp
      refine List.mem_map.mpr ⟨p, List.mem_filter.mpr ⟨h1, ?_⟩, rfl⟩
      rw [List.contains_iff_mem, List.mem_append] at h2 ⊢
      exact h2.symm
  · exact List.mem_append_right _ he
theorem lP_swp {w : Int} {k : Nat} (p : lP a b w k h) : lP b a w k (swp h) := by
  induction p with
  | here he hn => exact .here (ltries_swp he) (by rw [lstep_swp, hn]; rfl)
  | there he hs _ ih => exact .there (ltries_swp he) (by rw [lstep_swp, hs]; rfl) ih
end
/-! ### a reply that picks something -/
theorem lblocks_nil : lblocksM [] = [] := by
  unfold lblocksM
  rw [sortI_of .nil]; rfl
theorem picks_nil (held : List (Int × Bool)) (l : Int) : ∀ (ws : List Sel), ws.foldl (lpickStep held l) ([], []) = ([], [])
  | [] => rfl
  | w :: ws => by
    rw [List.foldl_cons]
    exact picks_nil held l ws
theorem lpicked_nil (sel : List Sel) (n l : Int) : lpickedM sel ⟨n, []⟩ l = [] := by
  show (sel.foldl (lpickStep [] l) (lblocksM [], [])).2 = []
  rw [lblocks_nil, picks_nil]
theorem picks_keep (held : List (Int × Bool)) (l : Int) : ∀ (ws : List Sel) (lp : List Blk × List Blk), lp.2 ≠ [] → (ws.foldl (lpickStep held l) lp).2 ≠ []
  | [], _, h => h
  | w :: ws, lp, h => by
    rw [List.foldl_cons]
    refine picks_keep held l ws _ ?_
    unfold lpickStep
    split
    · exact h
    · simp
theorem worth_one (w : Sel) (p : Int) : ∃ x, worthM w (p, p + 1) [(p, false)] p = some x := by
  cases w with
  | new => exact ⟨0, by
    have h : inB p (p, p + 1) = true := inB_iff.mpr ⟨Int.le_refl _, by show p < p + 1; omega⟩
    rw [worth_new, h]; rfl⟩
  | late => exact ⟨_, rfl⟩
  | low => exact ⟨_, rfl⟩
  | high => exact ⟨_, rfl⟩
  | untold =>
    refine ⟨-p, ?_⟩
    rw [FB.worth_untold, if_neg]
    intro z
    have h0 : (0 : Int) ∈ (insideM (p, p + 1) [(p, false)]).filter (FB.utQ [(p, false)]) := List.mem_filter.mpr ⟨mem_inside.mpr ⟨Int.le_refl _, (p, false), rfl, inB_iff.mpr ⟨Int.le_refl _, by show p < p + 1; omega⟩⟩, rfl⟩
    rw [z] at h0
    simp at h0
theorem lpicked_one {sel : List Sel} (hs : sel ≠ []) (n p : Int) : lpickedM sel ⟨n, [(p, false)]⟩ p ≠ [] := by
  have hb : lblocksM [p] = [(p, p + 1)] := by
    unfold lblocksM
    rw [sortI_of (by simp)]; rfl
  show (sel.foldl (lpickStep [(p, false)] p) (lblocksM [p], [])).2 ≠ []
  rw [hb]
  cases sel with
  | nil => exact absurd rfl hs
  | cons w ws =>
    rw [List.foldl_cons]
    refine picks_keep _ _ ws _ ?_
    obtain ⟨x, hx⟩ := worth_one w p
    have : lpickStep [(p, false)] p ([(p, p + 1)], []) w = ([(p, p + 1)].filter (fun e => !decide (e = (p, p + 1))), [] ++ [(p, p + 1)]) := by
      unfold lpickStep
      have hf : [(p, p + 1)].foldl (bestStep w [(p, false)] p) none = some ((p, p + 1), x) := by
        show bestStep w [(p, false)] p none (p, p + 1) = _
        unfold bestStep
        rw [hx]
      dsimp only
      rw [hf]
    rw [this]
    simp
/-! ### the first piece -/
theorem come_yes {room p : Int} (h1 : 1 ≤ p) (h2 : p ≤ room) : ltakeM room ⟨0, []⟩ p = ⟨0, [(p, false)]⟩ := by
  unfold ltakeM
  dsimp only
  rw [if_neg (by omega), if_pos ⟨by omega, by simp⟩]
  rfl
theorem come_no {room p : Int} (h1 : 1 ≤ p) (h2 : room < p) : ltakeM room ⟨0, []⟩ p = ⟨0, []⟩ := by
  unfold ltakeM
  dsimp only
  rw [if_neg (by omega), if_neg (by omega)]
theorem come_mem (h : LPl) {w p : Int} (h1 : 0 ≤ p) (h2 : p < w) : Ev.come p ∈ ltriesM h w := by
  unfold ltriesM
  refine List.mem_append_left _ (List.mem_append_left _ (List.mem_map.mpr ⟨p, ?_, rfl⟩))
  have hw : w = (w.toNat : Int) := by omega
  rw [hw]
  exact FB.mem_rangeM.mpr ⟨h1, by omega⟩
theorem low_zeroL (t : LSt) : llow t 0 = t := by
  obtain ⟨n, hd⟩ := t
  unfold llow
  simp
section
variable {a b : Spec}
theorem lev_come_each (sp : Spec) (t : LSt) (l : Option Int) (p : Int) (ho : sp.once = false) : leventM sp t l (.come p) = ((lreplyM sp.sel (ltakeM sp.room t p) p).2, none, some ((ltakeM sp.room t p).n, lpickedM sp.sel (ltakeM sp.room t p) p)) := by
  rw [levent_eq]
  have hna : ¬ noAns sp (.come p) = true := by unfold noAns; rw [ho]; simp [Ev.isCome]
  show (if noAns sp (.come p) = true then _ else _ : LSt × Option Int × Ans) = _
  rw [if_neg hna]
  rfl
theorem lev_come_once (sp : Spec) (t : LSt) (l : Option Int) (p : Int) (ho : sp.once = true) : leventM sp t l (.come p) = (ltakeM sp.room t p, some p, none) := by
  rw [levent_eq]
  have hna : noAns sp (.come p) = true := by unfold noAns; rw [ho]; rfl
  show (if noAns sp (.come p) = true then _ else _ : LSt × Option Int × Ans) = _
  rw [if_pos hna]
  rfl
theorem lev_round_once (sp : Spec) (t : LSt) (p : Int) (ho : sp.once = true) : leventM sp t (some p) .round = ((lreplyM sp.sel t p).2, none, some (t.n, lpickedM sp.sel t p)) := by
  rw [levent_eq]
  have hna : ¬ noAns sp .round = true := by unfold noAns; rw [ho]; simp [FB.isRound]
  show (if noAns sp .round = true then _ else _ : LSt × Option Int × Ans) = _
  rw [if_neg hna]
  rfl
/-- a first piece that is answered unlike -/
theorem first_parts (ho : a.once = b.once) {p w : Int} {ta tb : LSt} (h1 : 1 ≤ p) (h2 : p < w) (ea : ltakeM a.room ⟨0, []⟩ p = ta) (eb : ltakeM b.room ⟨0, []⟩ p = tb) (na : ta.n = 0) (nb : tb.n = 0) (hm : p ∈ ta.names ++ tb.names) (hp : lpickedM a.sel ta p ≠ lpickedM b.sel tb p) : ∃ k, k ≤ 2 ∧ lP a b w k lbegin := by
  have hz : some (ta.n, lpickedM a.sel ta p) ≠ some (tb.n, lpickedM b.sel tb p) := fun z => hp (Prod.mk.inj (Option.some.inj z)).2
  cases hon : a.once with
  | false =>
    have hob : b.once = false := by rw [← ho]; exact hon
    refine ⟨1, by omega, Parts.here (e := Ev.come p) (come_mem _ (by omega) h2) ?_⟩
    rw [lstep_def]
    show (if (leventM a ⟨0, []⟩ none (.come p)).2.2 ≠ (leventM b ⟨0, []⟩ none (.come p)).2.2 then none else _) = none
    rw [lev_come_each a _ _ _ hon, lev_come_each b _ _ _ hob, ea, eb]
    exact if_pos hz
  | true =>
    have hob : b.once = true := by rw [← ho]; exact hon
    have hs : lstepM a b lbegin (.come p) = some ⟨ta, some p, tb, some p⟩ := by
      rw [lstep_def]
      show (if (leventM a ⟨0, []⟩ none (.come p)).2.2 ≠ (leventM b ⟨0, []⟩ none (.come p)).2.2 then none else some (lplaceM (leventM a ⟨0, []⟩ none (.come p)) (leventM b ⟨0, []⟩ none (.come p)))) = _
      rw [lev_come_once a _ _ _ hon, lev_come_once b _ _ _ hob, ea, eb, if_neg (by simp)]
      have e1 : lplaceM (ta, some p, none) (tb, some p, none) = ⟨llow ta (if tb.n < ta.n then tb.n else ta.n), some (if p ∈ ta.names ++ tb.names then p - (if tb.n < ta.n then tb.n else ta.n) else -1), llow tb (if tb.n < ta.n then tb.n else ta.n), some (if p ∈ ta.names ++ tb.names then p - (if tb.n < ta.n then tb.n else ta.n) else -1)⟩ := rfl
      have e2 : (if tb.n < ta.n then tb.n else ta.n) = 0 := by split <;> omega
      have e3 : p - 0 = p := by omega
      rw [e1, e2, if_pos hm, low_zeroL, low_zeroL, e3]
    refine ⟨2, by omega, .there (come_mem _ (by omega) h2) hs (Parts.here (e := Ev.round) (round_mem _ _) ?_)⟩
    rw [lstep_def]
    show (if (leventM a ta (some p) .round).2.2 ≠ (leventM b tb (some p) .round).2.2 then none else _) = none
    rw [lev_round_once a _ _ hon, lev_round_once b _ _ hob]
    exact if_pos hz
end
end FM
end

section
set_option Elab.async false
set_option linter.all false
/-! Plain: how deep: rooms unlike, nothing picked; once unlike; the law. -/
namespace FM
open FB (finM preS preL noAns levent_eq)
/-- never picks -/
def Sil (sp : Spec) (t : LSt) : Prop := sp.sel = [] ∨ (sp.room ≤ 0 ∧ t.held = [])
theorem sil_pick {sp : Spec} {t : LSt} (S : Sil sp t) (l : Int) : lpickedM sp.sel t l = [] := by
  rcases S with h | ⟨_, h⟩
  · rw [h]; rfl
  · obtain ⟨n, hd⟩ := t
    have h : hd = [] := h
    subst h
    exact lpicked_nil _ _ _
theorem sil_reply {sp : Spec} {t : LSt} (S : Sil sp t) (l : Int) : (lreplyM sp.sel t l).2 = t := by
  have := sil_pick S l
  unfold lreplyM
  rw [this]
  obtain ⟨n, hd⟩ := t
  show LSt.mk n (hd.map fun e => (e.1, e.2 || !(([] : List Blk).filter fun b => inB e.1 b).isEmpty)) = LSt.mk n hd
  congr 1
  have : (fun e : Int × Bool => (e.1, e.2 || !(([] : List Blk).filter fun b => inB e.1 b).isEmpty)) = id := by
    funext e
    obtain ⟨x, u⟩ := e
    show (x, u || false) = (x, u)
    rw [Bool.or_false]
  rw [this, List.map_id]
theorem sil_take {sp : Spec} {t : LSt} (S : Sil sp t) (p : Int) : Sil sp (ltakeM sp.room t p) := by
  rcases S with h | ⟨h1, h2⟩
  · exact .inl h
  · refine .inr ⟨h1, ?_⟩
    unfold ltakeM
    dsimp only
    rw [h2]
    split
    · rfl
    · split
      · omega
      · exact h2
/-- a row of pieces that moves the nexts apart -/
def runs (r1 r2 : Int) : List Int → LSt → LSt → Bool
  | [], _, _ => false
  | p :: ps, t1, t2 => if (ltakeM r1 t1 p).n = (ltakeM r2 t2 p).n then decide ((ltakeM r1 t1 p).n = 0) && runs r1 r2 ps (ltakeM r1 t1 p) (ltakeM r2 t2 p) else true
section
variable {a b : Spec}
theorem sil_come {sp : Spec} {t : LSt} (S : Sil sp t) (l : Option Int) (p : Int) : (leventM sp t l (.come p)).1 = ltakeM sp.room t p ∧ (leventM sp t l (.come p)).2.2 = if sp.once then none else some ((ltakeM sp.room t p).n, []) := by
  have S' := sil_take S p
  cases ho : sp.once with
  | false =>
    rw [lev_come_each sp _ _ _ ho]
    refine ⟨sil_reply S' p, ?_⟩
    show some (_, lpickedM sp.sel (ltakeM sp.room t p) p) = some (_, [])
    rw [sil_pick S' p]
  | true =>
    rw [lev_come_once sp _ _ _ ho]
    exact ⟨rfl, rfl⟩
theorem sil_run (ho : a.once = b.once) (ha : a.room ≤ 3) (hb : b.room ≤ 3) (w : Int) : ∀ (ps : List Int) (h : LPl), (∃ pl, Rel a b pl h) → Sil a h.s1 → Sil b h.s2 → (∀ p ∈ ps, 0 ≤ p ∧ p < w) → runs a.room b.room ps h.s1 h.s2 = true → ∃ k, k ≤ ps.length + 1 ∧ lP a b w k h
  | [], h, _, _, _, _, q => by cases q
  | p :: ps, h, ⟨pl, R⟩, S1, S2, hps, q => by
    have hp := hps p List.mem_cons_self
    obtain ⟨x1, x2⟩ := sil_come S1 h.l1 p
    obtain ⟨y1, y2⟩ := sil_come S2 h.l2 p
    unfold runs at q
    by_cases he : (ltakeM a.room h.s1 p).n = (ltakeM b.room h.s2 p).n
    · rw [if_pos he, Bool.and_eq_true, decide_eq_true_eq] at q
      obtain ⟨q1, q2⟩ := q
      have hs : lstepM a b h (.come p) = some (lplaceM (leventM a h.s1 h.l1 (.come p)) (leventM b h.s2 h.l2 (.come p))) := by
        rw [lstep_def, if_neg]
        rw [x2, y2, he, ho]
        exact fun z => z rfl
      have e2 : (if (leventM b h.s2 h.l2 (.come p)).1.n < (leventM a h.s1 h.l1 (.come p)).1.n then (leventM b h.s2 h.l2 (.come p)).1.n else (leventM a h.s1 h.l1 (.come p)).1.n) = 0 := by
        rw [x1, y1, ← he, q1]; rfl
      have f1 : (lplaceM (leventM a h.s1 h.l1 (.come p)) (leventM b h.s2 h.l2 (.come p))).s1 = ltakeM a.room h.s1 p := by
        show llow _ (if _ then _ else _) = _
        rw [e2, low_zeroL, x1]
      have f2 : (lplaceM (leventM a h.s1 h.l1 (.come p)) (leventM b h.s2 h.l2 (.come p))).s2 = ltakeM b.room h.s2 p := by
        show llow _ (if _ then _ else _) = _
        rw [e2, low_zeroL, y1]
      obtain ⟨pl', r, _, R'⟩ := rel_next ho ha hb R hs
      obtain ⟨k, k1, k2⟩ := sil_run ho ha hb w ps _ ⟨pl', R'⟩ (by rw [f1]; exact sil_take S1 p) (by rw [f2]; exact sil_take S2 p) (fun p' h' => hps p' (List.mem_cons_of_mem _ h')) (by rw [f1, f2]; exact q2)
      refine ⟨k + 1, by rw [List.length_cons]; omega, .there (come_mem _ hp.1 hp.2) hs k2⟩
    · cases hon : a.once with
      | false =>
        refine ⟨1, by omega, Parts.here (e := Ev.come p) (come_mem _ hp.1 hp.2) ?_⟩
        rw [lstep_def, if_pos]
        rw [x2, y2, ← ho, hon]
        exact fun z => he (Prod.mk.inj (Option.some.inj z)).1
      | true =>
        have hs : lstepM a b h (.come p) = some (lplaceM (leventM a h.s1 h.l1 (.come p)) (leventM b h.s2 h.l2 (.come p))) := by
          rw [lstep_def, if_neg]
          rw [x2, y2, ← ho, hon]
          exact fun z => z rfl
        obtain ⟨pl', r, _, R'⟩ := rel_next ho ha hb R hs
        refine ⟨2, by rw [List.length_cons]; omega, .there (come_mem _ hp.1 hp.2) hs (Parts.here (e := Ev.round) (round_mem _ _) (far_round R' ho ha hb ?_).2)⟩
        show (leventM a h.s1 h.l1 (.come p)).1.n - _ ≠ (leventM b h.s2 h.l2 (.come p)).1.n - _
        rw [x1, y1]
        omega
theorem deep_less (ho : a.once = b.once) (h0 : 0 ≤ a.room) (hr : a.room < b.room) (hb : b.room ≤ 3) : ∃ k, k ≤ 5 ∧ lP a b (wd a b) k lbegin := by
  have hw : wd a b = b.room + 2 := by
    show (if b.room > a.room then b.room else a.room) + 2 = _
    rw [if_pos hr]
  have ha : a.room ≤ 3 := by omega
  by_cases hsb : b.sel = []
  · by_cases hsa : a.sel = [] ∨ a.room ≤ 0
    · have S1 : Sil a lbegin.s1 := by
        rcases hsa with h | h
        · exact .inl h
        · exact .inr ⟨h, rfl⟩
      have S2 : Sil b lbegin.s2 := .inl hsb
      have go : ∀ ps : List Int, ps.length ≤ 4 → (∀ p ∈ ps, 0 ≤ p ∧ p < wd a b) → runs a.room b.room ps ⟨0, []⟩ ⟨0, []⟩ = true → ∃ k, k ≤ 5 ∧ lP a b (wd a b) k lbegin := fun ps h1 h2 h3 => by
        obtain ⟨k, k1, k2⟩ := sil_run ho ha hb (wd a b) ps lbegin ⟨startM, rel_begin a b⟩ S1 S2 h2 h3
        exact ⟨k, by omega, k2⟩
      have hcase : (a.room = 0 ∧ b.room = 1) ∨ (a.room = 0 ∧ b.room = 2) ∨ (a.room = 0 ∧ b.room = 3) ∨ (a.room = 1 ∧ b.room = 2) ∨ (a.room = 1 ∧ b.room = 3) ∨ (a.room = 2 ∧ b.room = 3) := by omega
      rcases hcase with ⟨u, v⟩ | ⟨u, v⟩ | ⟨u, v⟩ | ⟨u, v⟩ | ⟨u, v⟩ | ⟨u, v⟩
      · exact go [1, 0] (by decide) (by rw [hw, v]; decide) (by rw [u, v]; decide)
      · exact go [1, 0] (by decide) (by rw [hw, v]; decide) (by rw [u, v]; decide)
      · exact go [1, 0] (by decide) (by rw [hw, v]; decide) (by rw [u, v]; decide)
      · exact go [2, 1, 0] (by decide) (by rw [hw, v]; decide) (by rw [u, v]; decide)
      · exact go [2, 1, 0] (by decide) (by rw [hw, v]; decide) (by rw [u, v]; decide)
      · exact go [3, 2, 1, 0] (by decide) (by rw [hw, v]; decide) (by rw [u, v]; decide)
    · have hsa1 : a.sel ≠ [] := fun z => hsa (.inl z)
      have hra : 1 ≤ a.room := by
        have : ¬ a.room ≤ 0 := fun z => hsa (.inr z)
        omega
      obtain ⟨k, k1, k2⟩ := first_parts (w := wd a b) ho (p := 1) (Int.le_refl _) (by rw [hw]; omega) (come_yes (Int.le_refl _) hra) (come_yes (Int.le_refl _) (by omega : (1 : Int) ≤ b.room)) rfl rfl (by simp [LSt.names]) (by rw [hsb]; exact lpicked_one hsa1 0 1)
      exact ⟨k, by omega, k2⟩
  · obtain ⟨k, k1, k2⟩ := first_parts (w := wd a b) ho (p := a.room + 1) (by omega) (by rw [hw]; omega) (come_no (by omega) (by omega)) (come_yes (by omega) (by omega : a.room + 1 ≤ b.room)) rfl rfl (by simp [LSt.names]) (by rw [lpicked_nil]; exact fun z => lpicked_one hsb 0 _ z.symm)
    exact ⟨k, by omega, k2⟩
theorem deep_unlike (ho : a.once = b.once) (ha0 : 0 ≤ a.room) (hb0 : 0 ≤ b.room) (ha : a.room ≤ 3) (hb : b.room ≤ 3) (hr : a.room ≠ b.room) {m : Nat} (hm : lM a b (wd a b) m) : m ≤ 399 := by
  by_cases h : a.room < b.room
  · obtain ⟨k, k1, k2⟩ := deep_less ho ha0 h hb
    have := hm.2 k k2
    omega
  · obtain ⟨k, k1, k2⟩ := deep_less ho.symm hb0 (by omega : b.room < a.room) ha
    have hw : wd b a = wd a b := by
      show (if a.room > b.room then a.room else b.room) + 2 = (if b.room > a.room then b.room else a.room) + 2
      rw [if_pos (by omega), if_neg (by omega)]
    rw [hw] at k2
    have := hm.2 k (lP_swp k2)
    omega
end
end FM
end

section
set_option Elab.async false
set_option linter.all false
/-! Plain: kinds of answering unlike; the whole plain law. -/
namespace FM
open FB (finM preS preL noAns levent_eq)
section
variable {a b : Spec}
theorem first_mem {w : Int} (h : 0 < w) : ∃ l, rangeM w = 0 :: l := by
  unfold rangeM
  obtain ⟨k, hk⟩ : ∃ k, w.toNat = k + 1 := ⟨w.toNat - 1, by omega⟩
  rw [hk, List.range_succ_eq_map]
  exact ⟨_, rfl⟩
theorem wd_pos (ha : 0 ≤ a.room) (hb : 0 ≤ b.room) : 0 < wideM a.room b.room := by
  unfold wideM
  split <;> omega
theorem lev_first (hu : a.once ≠ b.once) : (leventM a ⟨0, []⟩ none (.come 0)).2.2 ≠ (leventM b ⟨0, []⟩ none (.come 0)).2.2 := by
  cases h1 : a.once with
  | false => cases h2 : b.once with
    | false => exact absurd (h1.trans h2.symm) hu
    | true =>
      rw [lev_come_each a _ _ _ h1, lev_come_once b _ _ _ h2]
      exact fun z => by cases z
  | true => cases h2 : b.once with
    | true => exact absurd (h1.trans h2.symm) hu
    | false =>
      rw [lev_come_once a _ _ _ h1, lev_come_each b _ _ _ h2]
      exact fun z => by cases z
theorem ans_each (r : Rcv) (s : PSt) (p : Int) (c : Bool) (l : Int) (h : r.once = false) : (answeredM r s (.come p) c l).1 = some ((replyM r (takeM r s p) p).2.n, (replyM r (takeM r s p) p).1) := by
  show (if r.once = true then (none, takeM r s p) else (some ((replyM r (takeM r s p) p).2.n, (replyM r (takeM r s p) p).1), (replyM r (takeM r s p) p).2) : Ans × PSt).1 = _
  rw [h]; rfl
theorem ans_once (r : Rcv) (s : PSt) (p : Int) (c : Bool) (l : Int) (h : r.once = true) : (answeredM r s (.come p) c l).1 = none := by
  show (if r.once = true then (none, takeM r s p) else (some ((replyM r (takeM r s p) p).2.n, (replyM r (takeM r s p) p).1), (replyM r (takeM r s p) p).2) : Ans × PSt).1 = _
  rw [h]; rfl
theorem behind_first (hu : a.once ≠ b.once) (pl : Pl) : behindM a.rcv b.rcv pl (.come 0) = none := by
  have h : (answeredM a.rcv pl.first (.come 0) pl.came pl.last).1 ≠ (answeredM b.rcv pl.second (.come 0) pl.came pl.last).1 := by
    cases h1 : a.once with
    | false => cases h2 : b.once with
      | false => exact absurd (h1.trans h2.symm) hu
      | true =>
        rw [ans_each a.rcv _ _ _ _ h1, ans_once b.rcv _ _ _ _ h2]
        exact fun z => by cases z
    | true => cases h2 : b.once with
      | true => exact absurd (h1.trans h2.symm) hu
      | false =>
        rw [ans_once a.rcv _ _ _ _ h1, ans_each b.rcv _ _ _ _ h2]
        exact fun z => by cases z
  unfold behindM
  dsimp only
  exact if_pos h
theorem pair_once (hu : a.once ≠ b.once) (ha : 0 ≤ a.room) (hb : 0 ≤ b.room) : FB.PairOk a b := by
  obtain ⟨l, hl⟩ := first_mem (wd_pos ha hb)
  refine ⟨1, 1, some [.come 0], ?_, ?_, by omega, ?_, rfl, few_on a (by decide), few_on b (by decide), by unfold PySem.sizeLine; decide⟩
  · have he : ∃ es, eventsM a.rcv b.rcv startM = .come 0 :: es := by
      unfold eventsM
      rw [if_neg (by intro z; exact z rfl)]
      have : rangeM (wideM a.rcv.room b.rcv.room) = 0 :: l := hl
      dsimp only
      rw [this]
      exact ⟨_, rfl⟩
    obtain ⟨es, he⟩ := he
    have hs : scanM a.rcv b.rcv startM (eventsM a.rcv b.rcv startM) [(startM, none)] = some ([(startM, none)], some (.come 0)) := by
      rw [he]
      unfold scanM
      rw [behind_first hu]
    have hp : pathM [(startM, none)] startM = some [] := by
      have : Ways.look [(startM, none)] startM = some none := by
        unfold Ways.look
        rw [List.find?_cons_of_pos (by simp)]
        rfl
      unfold pathM
      show (pathF 2 [(startM, none)] startM).map List.reverse = some []
      unfold pathF
      rw [this]
      rfl
    show (match ([(startM, none)] : Ways)[0]? with | none => some none | some (pl, _) => match scanM a.rcv b.rcv pl (eventsM a.rcv b.rcv pl) [(startM, none)] with | none => none | some (W', some e) => (pathM W' pl).map fun l => some (realM (l ++ [(e, 0)])) | some (W', none) => partF a.rcv b.rcv 0 1 W') = some (some [.come 0])
    show (match scanM a.rcv b.rcv startM (eventsM a.rcv b.rcv startM) [(startM, none)] with | none => none | some (W', some e) => (pathM W' startM).map fun l => some (realM (l ++ [(e, 0)])) | some (W', none) => partF a.rcv b.rcv 0 1 W') = some (some [.come 0])
    rw [hs]
    show (pathM [(startM, none)] startM).map _ = _
    rw [hp]
    rfl
  · have he : ∃ es, ltriesM lbegin (wideM a.room b.room) = .come 0 :: es := by
      unfold ltriesM
      rw [hl]
      exact ⟨_, rfl⟩
    obtain ⟨es, he⟩ := he
    have hn : lstepM a b lbegin (.come 0) = none := by
      rw [lstep_def]
      exact if_pos (lev_first hu)
    have hs : lscanM a b lbegin (ltriesM lbegin (wideM a.room b.room)) [lbegin] [] = some none := by
      rw [he]
      unfold lscanM
      rw [hn]
    have hy : llayerM a b (wideM a.room b.room) [lbegin] [lbegin] [] = some none := by
      unfold llayerM
      rw [hs]
    unfold lleastM lleastF
    rw [hy]
  · rw [FB.partedM_eq a b _ (by rfl) (by simp)]
    have e1 : ∀ sp : Spec, lanswersM sp [.come 0] = [(leventM sp ⟨0, []⟩ none (.come 0)).2.2] := fun sp => rfl
    rw [e1, e1]
    have := lev_first hu
    rw [Bool.and_eq_true]
    refine ⟨decide_eq_true rfl, ?_⟩
    rw [Bool.not_eq_true', decide_eq_false_iff_not]
    intro z
    have z' : some (leventM a ⟨0, []⟩ none (.come 0)).2.2 = some (leventM b ⟨0, []⟩ none (.come 0)).2.2 := z
    exact this (Option.some.inj z')
end
end FM
theorem FB.pair_law (a b : FM.Spec) (h : FB.OkPair a b) : FB.PairOk a b := by
  obtain ⟨⟨⟨a0, a1⟩, _, _⟩, ⟨⟨b0, b1⟩, _, _⟩, hk⟩ := h
  by_cases ho : a.once = b.once
  · have hk' : (a.room ≤ 2 ∧ b.room ≤ 2) ∨ a.once = false := by
      rcases hk with ⟨⟨⟨_, k1⟩, _⟩, ⟨⟨_, k2⟩, _⟩⟩ | ⟨k, _⟩
      · exact .inl ⟨k1, k2⟩
      · exact .inr k
    refine FM.pair_deep ho a1 b1 hk' fun m hm => ?_
    by_cases hr : a.room = b.room
    · exact FM.deep_alike ho hr a1 (hk'.imp (·.1) id) hm
    · exact FM.deep_unlike ho a0 b0 a1 b1 hr hm
  · exact FM.pair_once ho a0 b0
end

section
set_option Elab.async false
open PySem PySem.W PyProof.Rows
set_option maxRecDepth 100000 in
set_option maxHeartbeats 0 in
open_top k71head for PySem.Challenge.rw_fewblocks_k71_whole_receivers_alike_or_p
end

section
set_option Elab.async false
open PySem PySem.W PyProof.Rows
set_option maxRecDepth 100000
set_option maxHeartbeats 0
theorem PySem.Challenge.cw_fewblocks_k71_whole_receivers_alike_or_p_holds : PySem.Challenge.rw_fewblocks_k71_whole_receivers_alike_or_p.Holds :=
  k71head (by
  k_fill
  refine L2.walk_ofK (l := PySem.Challenge.rw_fewblocks_k71_whole_receivers_alike_or_p) (n := 63) (k := 9) (x := "_law_script") (CX := L2.CX0) (sp := FB.spLaw) rfl (by decide) rfl ⟨rfl, by decide, by decide⟩ (fun w h Y => PySem.W.kIn_of Y) ?F (fun K H a ns hl hO hS => ⟨a, ns, rfl, FB.sqF_of hO hS, hl, fun _ => rfl⟩) (fun _ _ _ _ z => z)
  case F =>
    intro w mg fa h KX G hmg
    refine' FB.all_mk KX G hmg FB.pair_law ?T ?AI ?M_take ?M_reply ?M_without ?P_room ?P_once ?A_is_integer ?A_is_number ?A_merged ?A_blocks_of ?A_block_with ?A_wanted ?A_lowered_holding ?A_answered ?A_place_behind ?A_events_in ?A_real_events ?A_steps_to ?A_check_receiver ?A_receivers_part ?A_check_selectors ?A_check_promises ?A_L_number ?A_L_purse ?A_L_pick ?A_L_blocks ?A_L_take ?A_L_worth ?A_L_reply ?A_L_event ?A_L_answers ?A_L_are_events ?A_L_parted ?A_L_words ?A_L_promises ?A_L_spec ?A_L_near ?A_L_made ?A_L_place ?A_L_tries ?A_L_least ?A_L_pair_right ?A_L_right ?A_law
    (case T =>
      refine' FB.txat KX G ?n_isinstance ?n_int ?n_bool ?n_tuple ?n_sorted ?n_max ?n_min ?n_len ?n_range ?n_enumerate ?n_abs ?n_all ?n_divmod ?aC ?pg ?hd ?po ?sa ?m_own_room ?m_own_selectors ?m_own_promises ?m_is_once ?m_remembers_order ?m_remembers_told ?gI ?gR ?gS ?iC ?iG ?iT ?iM ?aS ?lS
      (case n_isinstance => first | k_is | fail "NO n_isinstance")
      (case n_int => first | k_is | fail "NO n_int")
      (case n_bool => first | k_is | fail "NO n_bool")
      (case n_tuple => first | k_is | fail "NO n_tuple")
      (case n_sorted => first | k_is | fail "NO n_sorted")
      (case n_max => first | k_is | fail "NO n_max")
      (case n_min => first | k_is | fail "NO n_min")
      (case n_len => first | k_is | fail "NO n_len")
      (case n_range => first | k_is | fail "NO n_range")
      (case n_enumerate => first | k_is | fail "NO n_enumerate")
      (case n_abs => first | k_is | fail "NO n_abs")
      (case n_all => first | k_is | fail "NO n_all")
      (case n_divmod => first | k_is | fail "NO n_divmod")
      (case aC => first | k_is | fail "NO aC")
      (case pg => first | k_is | fail "NO pg")
      (case hd => first | k_is | fail "NO hd")
      (case po => first | k_is | fail "NO po")
      (case sa => first | k_is | fail "NO sa")
      (case m_own_room => first | k_is | fail "NO m_own_room")
      (case m_own_selectors => first | k_is | fail "NO m_own_selectors")
      (case m_own_promises => first | k_is | fail "NO m_own_promises")
      (case m_is_once => first | k_is | fail "NO m_is_once")
      (case m_remembers_order => first | k_is | fail "NO m_remembers_order")
      (case m_remembers_told => first | k_is | fail "NO m_remembers_told")
      (case gI => first | k_is | fail "NO gI")
      (case gR => first | k_is | fail "NO gR")
      (case gS => first | k_is | fail "NO gS")
      (case iC => first | k_is | fail "NO iC")
      (case iG => first | k_is | fail "NO iG")
      (case iT => first | k_is | fail "NO iT")
      (case iM => first | k_is | fail "NO iM")
      (case aS => first | k_is | fail "NO aS")
      (case lS => first | k_is | fail "NO lS"))
    (case AI =>
      refine' FB.initat ?m ?i ?n ?kc ?l ?c ?k ?t
      (case m => first | k_is | fail "NO AI m")
      (case i => first | k_is | fail "NO AI i")
      (case n => first | k_is | fail "NO AI n")
      (case kc => first | k_is | fail "NO AI kc")
      (case l => first | k_is | fail "NO AI l")
      (case c => first | k_is | fail "NO AI c")
      (case k => first | k_is | fail "NO AI k")
      (case t => first | k_is | fail "NO AI t"))
    (case M_take =>
      refine' FB.mtat ?a ?i ?l ?c ?k
      (case a => first | k_is | fail "NO take a")
      (case i => first | k_is | fail "NO take i")
      (case l => first | k_is | fail "NO take l")
      (case c => first | k_is | fail "NO take c")
      (case k => first | k_is | fail "NO take k"))
    (case M_reply =>
      refine' FB.mtat ?a ?i ?l ?c ?k
      (case a => first | k_is | fail "NO reply a")
      (case i => first | k_is | fail "NO reply i")
      (case l => first | k_is | fail "NO reply l")
      (case c => first | k_is | fail "NO reply c")
      (case k => first | k_is | fail "NO reply k"))
    (case M_without =>
      refine' FB.mtat ?a ?i ?l ?c ?k
      (case a => first | k_is | fail "NO without a")
      (case i => first | k_is | fail "NO without i")
      (case l => first | k_is | fail "NO without l")
      (case c => first | k_is | fail "NO without c")
      (case k => first | k_is | fail "NO without k"))
    (case P_room =>
      refine' FB.propat ?b1 ?b2 ?b3 ?b4 ?l ?c ?k
      (case b1 => first | k_is | fail "NO room b1")
      (case b2 => first | k_is | fail "NO room b2")
      (case b3 => first | k_is | fail "NO room b3")
      (case b4 => first | k_is | fail "NO room b4")
      (case l => first | k_is | fail "NO room l")
      (case c => first | k_is | fail "NO room c")
      (case k => first | k_is | fail "NO room k"))
    (case P_once =>
      refine' FB.propat ?b1 ?b2 ?b3 ?b4 ?l ?c ?k
      (case b1 => first | k_is | fail "NO once b1")
      (case b2 => first | k_is | fail "NO once b2")
      (case b3 => first | k_is | fail "NO once b3")
      (case b4 => first | k_is | fail "NO once b4")
      (case l => first | k_is | fail "NO once l")
      (case c => first | k_is | fail "NO once c")
      (case k => first | k_is | fail "NO once k"))
    (case A_is_integer =>
      refine' FB.fnat KX G ?a ?l ?c ?k
      (case a => first | k_is | fail "NO is_integer a")
      (case l => first | k_is | fail "NO is_integer l")
      (case c => first | k_is | fail "NO is_integer c")
      (case k => first | k_is | fail "NO is_integer k"))
    (case A_is_number =>
      refine' FB.fnat KX G ?a ?l ?c ?k
      (case a => first | k_is | fail "NO is_number a")
      (case l => first | k_is | fail "NO is_number l")
      (case c => first | k_is | fail "NO is_number c")
      (case k => first | k_is | fail "NO is_number k"))
    (case A_merged =>
      refine' FB.fnat KX G ?a ?l ?c ?k
      (case a => first | k_is | fail "NO merged a")
      (case l => first | k_is | fail "NO merged l")
      (case c => first | k_is | fail "NO merged c")
      (case k => first | k_is | fail "NO merged k"))
    (case A_blocks_of =>
      refine' FB.fnat KX G ?a ?l ?c ?k
      (case a => first | k_is | fail "NO blocks_of a")
      (case l => first | k_is | fail "NO blocks_of l")
      (case c => first | k_is | fail "NO blocks_of c")
      (case k => first | k_is | fail "NO blocks_of k"))
    (case A_block_with =>
      refine' FB.fnat KX G ?a ?l ?c ?k
      (case a => first | k_is | fail "NO block_with a")
      (case l => first | k_is | fail "NO block_with l")
      (case c => first | k_is | fail "NO block_with c")
      (case k => first | k_is | fail "NO block_with k"))
    (case A_wanted =>
      refine' FB.fnat KX G ?a ?l ?c ?k
      (case a => first | k_is | fail "NO wanted a")
      (case l => first | k_is | fail "NO wanted l")
      (case c => first | k_is | fail "NO wanted c")
      (case k => first | k_is | fail "NO wanted k"))
    (case A_lowered_holding =>
      refine' FB.fnat KX G ?a ?l ?c ?k
      (case a => first | k_is | fail "NO lowered_holding a")
      (case l => first | k_is | fail "NO lowered_holding l")
      (case c => first | k_is | fail "NO lowered_holding c")
      (case k => first | k_is | fail "NO lowered_holding k"))
    (case A_answered =>
      refine' FB.fnat KX G ?a ?l ?c ?k
      (case a => first | k_is | fail "NO answered a")
      (case l => first | k_is | fail "NO answered l")
      (case c => first | k_is | fail "NO answered c")
      (case k => first | k_is | fail "NO answered k"))
    (case A_place_behind =>
      refine' FB.fnat KX G ?a ?l ?c ?k
      (case a => first | k_is | fail "NO place_behind a")
      (case l => first | k_is | fail "NO place_behind l")
      (case c => first | k_is | fail "NO place_behind c")
      (case k => first | k_is | fail "NO place_behind k"))
    (case A_events_in =>
      refine' FB.fnat KX G ?a ?l ?c ?k
      (case a => first | k_is | fail "NO events_in a")
      (case l => first | k_is | fail "NO events_in l")
      (case c => first | k_is | fail "NO events_in c")
      (case k => first | k_is | fail "NO events_in k"))
    (case A_real_events =>
      refine' FB.fnat KX G ?a ?l ?c ?k
      (case a => first | k_is | fail "NO real_events a")
      (case l => first | k_is | fail "NO real_events l")
      (case c => first | k_is | fail "NO real_events c")
      (case k => first | k_is | fail "NO real_events k"))
    (case A_steps_to =>
      refine' FB.fnat KX G ?a ?l ?c ?k
      (case a => first | k_is | fail "NO steps_to a")
      (case l => first | k_is | fail "NO steps_to l")
      (case c => first | k_is | fail "NO steps_to c")
      (case k => first | k_is | fail "NO steps_to k"))
    (case A_check_receiver =>
      refine' FB.fnat KX G ?a ?l ?c ?k
      (case a => first | k_is | fail "NO check_receiver a")
      (case l => first | k_is | fail "NO check_receiver l")
      (case c => first | k_is | fail "NO check_receiver c")
      (case k => first | k_is | fail "NO check_receiver k"))
    (case A_receivers_part =>
      refine' FB.fnat KX G ?a ?l ?c ?k
      (case a => first | k_is | fail "NO receivers_part a")
      (case l => first | k_is | fail "NO receivers_part l")
      (case c => first | k_is | fail "NO receivers_part c")
      (case k => first | k_is | fail "NO receivers_part k"))
    (case A_check_selectors =>
      refine' FB.fnat KX G ?a ?l ?c ?k
      (case a => first | k_is | fail "NO check_selectors a")
      (case l => first | k_is | fail "NO check_selectors l")
      (case c => first | k_is | fail "NO check_selectors c")
      (case k => first | k_is | fail "NO check_selectors k"))
    (case A_check_promises =>
      refine' FB.fnat KX G ?a ?l ?c ?k
      (case a => first | k_is | fail "NO check_promises a")
      (case l => first | k_is | fail "NO check_promises l")
      (case c => first | k_is | fail "NO check_promises c")
      (case k => first | k_is | fail "NO check_promises k"))
    (case A_L_number =>
      refine' FB.fnat KX G ?a ?l ?c ?k
      (case a => first | k_is | fail "NO L_number a")
      (case l => first | k_is | fail "NO L_number l")
      (case c => first | k_is | fail "NO L_number c")
      (case k => first | k_is | fail "NO L_number k"))
    (case A_L_purse =>
      refine' FB.fnat KX G ?a ?l ?c ?k
      (case a => first | k_is | fail "NO L_purse a")
      (case l => first | k_is | fail "NO L_purse l")
      (case c => first | k_is | fail "NO L_purse c")
      (case k => first | k_is | fail "NO L_purse k"))
    (case A_L_pick =>
      refine' FB.fnat KX G ?a ?l ?c ?k
      (case a => first | k_is | fail "NO L_pick a")
      (case l => first | k_is | fail "NO L_pick l")
      (case c => first | k_is | fail "NO L_pick c")
      (case k => first | k_is | fail "NO L_pick k"))
    (case A_L_blocks =>
      refine' FB.fnat KX G ?a ?l ?c ?k
      (case a => first | k_is | fail "NO L_blocks a")
      (case l => first | k_is | fail "NO L_blocks l")
      (case c => first | k_is | fail "NO L_blocks c")
      (case k => first | k_is | fail "NO L_blocks k"))
    (case A_L_take =>
      refine' FB.fnat KX G ?a ?l ?c ?k
      (case a => first | k_is | fail "NO L_take a")
      (case l => first | k_is | fail "NO L_take l")
      (case c => first | k_is | fail "NO L_take c")
      (case k => first | k_is | fail "NO L_take k"))
    (case A_L_worth =>
      refine' FB.fnat KX G ?a ?l ?c ?k
      (case a => first | k_is | fail "NO L_worth a")
      (case l => first | k_is | fail "NO L_worth l")
      (case c => first | k_is | fail "NO L_worth c")
      (case k => first | k_is | fail "NO L_worth k"))
    (case A_L_reply =>
      refine' FB.fnat KX G ?a ?l ?c ?k
      (case a => first | k_is | fail "NO L_reply a")
      (case l => first | k_is | fail "NO L_reply l")
      (case c => first | k_is | fail "NO L_reply c")
      (case k => first | k_is | fail "NO L_reply k"))
    (case A_L_event =>
      refine' FB.fnat KX G ?a ?l ?c ?k
      (case a => first | k_is | fail "NO L_event a")
      (case l => first | k_is | fail "NO L_event l")
      (case c => first | k_is | fail "NO L_event c")
      (case k => first | k_is | fail "NO L_event k"))
    (case A_L_answers =>
      refine' FB.fnat KX G ?a ?l ?c ?k
      (case a => first | k_is | fail "NO L_answers a")
      (case l => first | k_is | fail "NO L_answers l")
      (case c => first | k_is | fail "NO L_answers c")
      (case k => first | k_is | fail "NO L_answers k"))
    (case A_L_are_events =>
      refine' FB.fnat KX G ?a ?l ?c ?k
      (case a => first | k_is | fail "NO L_are_events a")
      (case l => first | k_is | fail "NO L_are_events l")
      (case c => first | k_is | fail "NO L_are_events c")
      (case k => first | k_is | fail "NO L_are_events k"))
    (case A_L_parted =>
      refine' FB.fnat KX G ?a ?l ?c ?k
      (case a => first | k_is | fail "NO L_parted a")
      (case l => first | k_is | fail "NO L_parted l")
      (case c => first | k_is | fail "NO L_parted c")
      (case k => first | k_is | fail "NO L_parted k"))
    (case A_L_words =>
      refine' FB.fnat KX G ?a ?l ?c ?k
      (case a => first | k_is | fail "NO L_words a")
      (case l => first | k_is | fail "NO L_words l")
      (case c => first | k_is | fail "NO L_words c")
      (case k => first | k_is | fail "NO L_words k"))
    (case A_L_promises =>
      refine' FB.fnat KX G ?a ?l ?c ?k
      (case a => first | k_is | fail "NO L_promises a")
      (case l => first | k_is | fail "NO L_promises l")
      (case c => first | k_is | fail "NO L_promises c")
      (case k => first | k_is | fail "NO L_promises k"))
    (case A_L_spec =>
      refine' FB.fnat KX G ?a ?l ?c ?k
      (case a => first | k_is | fail "NO L_spec a")
      (case l => first | k_is | fail "NO L_spec l")
      (case c => first | k_is | fail "NO L_spec c")
      (case k => first | k_is | fail "NO L_spec k"))
    (case A_L_near =>
      refine' FB.fnat KX G ?a ?l ?c ?k
      (case a => first | k_is | fail "NO L_near a")
      (case l => first | k_is | fail "NO L_near l")
      (case c => first | k_is | fail "NO L_near c")
      (case k => first | k_is | fail "NO L_near k"))
    (case A_L_made =>
      refine' FB.fnat KX G ?a ?l ?c ?k
      (case a => first | k_is | fail "NO L_made a")
      (case l => first | k_is | fail "NO L_made l")
      (case c => first | k_is | fail "NO L_made c")
      (case k => first | k_is | fail "NO L_made k"))
    (case A_L_place =>
      refine' FB.fnat KX G ?a ?l ?c ?k
      (case a => first | k_is | fail "NO L_place a")
      (case l => first | k_is | fail "NO L_place l")
      (case c => first | k_is | fail "NO L_place c")
      (case k => first | k_is | fail "NO L_place k"))
    (case A_L_tries =>
      refine' FB.fnat KX G ?a ?l ?c ?k
      (case a => first | k_is | fail "NO L_tries a")
      (case l => first | k_is | fail "NO L_tries l")
      (case c => first | k_is | fail "NO L_tries c")
      (case k => first | k_is | fail "NO L_tries k"))
    (case A_L_least =>
      refine' FB.fnat KX G ?a ?l ?c ?k
      (case a => first | k_is | fail "NO L_least a")
      (case l => first | k_is | fail "NO L_least l")
      (case c => first | k_is | fail "NO L_least c")
      (case k => first | k_is | fail "NO L_least k"))
    (case A_L_pair_right =>
      refine' FB.fnat KX G ?a ?l ?c ?k
      (case a => first | k_is | fail "NO L_pair_right a")
      (case l => first | k_is | fail "NO L_pair_right l")
      (case c => first | k_is | fail "NO L_pair_right c")
      (case k => first | k_is | fail "NO L_pair_right k"))
    (case A_L_right =>
      refine' FB.fnat KX G ?a ?l ?c ?k
      (case a => first | k_is | fail "NO L_right a")
      (case l => first | k_is | fail "NO L_right l")
      (case c => first | k_is | fail "NO L_right c")
      (case k => first | k_is | fail "NO L_right k"))
    (case A_law =>
      refine' FB.fnat KX G ?a ?l ?c ?k
      (case a => first | k_is | fail "NO law a")
      (case l => first | k_is | fail "NO law l")
      (case c => first | k_is | fail "NO law c")
      (case k => first | k_is | fail "NO law k")))
end
