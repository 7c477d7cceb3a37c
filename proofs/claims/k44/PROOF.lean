import PyProof.Rows.All
import HandS.Nested
import Wide.All
import OpenK.AllK
import Wide.FinOn
import HandS.ForMost
import HandS.IsInst
import HandS.More
import KE.KDictKeyed
import HandS.Defaults
import HandS.Style
import HandS.Rev
import HandS.Zip
import KE.GoesEnum
import HandS.TupAny
import HandS.Deep
import HandS.SortKw
import HandS.EndBits
import PyProof.Rows.TupTab
import PyProof.Rows.TupDisplay
import HandS.Exc
import HandS.ExcOwn
import HandS.ExcIs
import HandS.Small
import HandS.WordsExc
import HandS.DictComp
import HandS.Codes
import HandS.DeepEq
import HandS.Conv
import KE.DataEq
import HandS.TryMany
import PySem.Challenge.RW_figurewheel_k44_first_of
set_option Elab.async false
set_option linter.all false
/-! what the code objects of nested defs and lambdas are named, by the place of these (for a law without them: nothing) -/
namespace Fw
open PySem
def nm0 : Nat → Nat → Str := fun _ _ => Str.empty
end Fw

set_option Elab.async false
set_option linter.all false
set_option maxRecDepth 100000
set_option maxHeartbeats 4000000
namespace Fw
open PySem L2
/-! ### data -/
inductive Da where
  | non | bl (b : Bool) | int (i : Int) | str (s : Str)
  | tup (l : List Da) | lst (l : List Da) | dic (t : Bool) (ks vs : List Da) | scr (ns : List Int) | obj (a : Addr) | ptr (a : Addr) (d : Da) | fn (φ : Hp → Addr → Prop)
mutual
def Da.imm : Da → Bool
  | .tup l => Da.imms l
  | .lst _ => false
  | .dic _ _ _ => false
  | .scr _ => false
  | .ptr _ _ => false
  | .fn _ => false
  | .non => true
  | .bl _ => true
  | .int _ => true
  | .str _ => true
  | .obj _ => true
def Da.imms : List Da → Bool
  | [] => true
  | d :: l => d.imm && Da.imms l
end
theorem imms_map {α : Type} (e : α → Da) (h : ∀ x, (e x).imm = true) : ∀ l : List α, Da.imms (l.map e) = true
  | [] => rfl
  | x :: l => by
    show ((e x).imm && Da.imms (l.map e)) = true
    rw [h x, imms_map e h l]; rfl
/-! ### heaps grow -/
abbrev TabI (H : Hp) (a : Addr) : Prop := NdefX.TabN H a nm0
section
/-- all but the tables of code objects stays; these grow, each code object named as its place tells -/
structure Ex (H H' : Hp) : Prop where
  at_ : ∀ a o, H a = some o → (∀ ps, o ≠ .tbl ps) → H' a = some o
  tb : ∀ a ps, H a = some (.tbl ps) → ∃ ps', H' a = some (.tbl ps')
  nm : ∀ a, TabI H a → TabI H' a
theorem Ex.refl (H : Hp) : Ex H H := ⟨fun _ _ h _ => h, fun _ ps h => ⟨ps, h⟩, fun _ h => h⟩
theorem Ex.trans {H H1 H2 : Hp} (a : Ex H H1) (b : Ex H1 H2) : Ex H H2 := ⟨fun x o h n => b.at_ x o (a.at_ x o h n) n, fun x ps h => by
  obtain ⟨ps', h'⟩ := a.tb x ps h
  exact b.tb x ps' h', fun x h => b.nm x (a.nm x h)⟩
theorem Ex.of {H H' : Hp} (e : ∀ a o, H a = some o → H' a = some o) : Ex H H' := ⟨fun a o h _ => e a o h, fun a ps h => ⟨ps, e a _ h⟩, fun a h => h.ext e⟩
theorem Ex.new {H : Hp} {p : Addr} {o : HO} (h : H p = none) : Ex H (upd H p o) := Ex.of fun a u e => by
  rw [upd_ne (ne_of_none e h)]; exact e
theorem Ex.back {H H' : Hp} {p : Addr} (e : Ex H H') (h : H' p = none) : H p = none := by
  cases h1 : H p with
  | none => rfl
  | some o =>
    by_cases n : ∀ ps, o ≠ .tbl ps
    · rw [e.at_ p o h1 n] at h; cases h
    · have ⟨ps, hp⟩ : ∃ ps, o = .tbl ps := Classical.byContradiction fun z => n fun ps q => z ⟨ps, q⟩
      subst hp
      obtain ⟨ps', h2⟩ := e.tb p ps h1
      rw [h2] at h; cases h
theorem Ex.has {H H' : Hp} {p : Addr} {u : HO} (e : Ex H H') (h : H p = some u) : ∃ u', H' p = some u' := by
  cases h1 : H' p with
  | some o => exact ⟨o, rfl⟩
  | none => rw [e.back h1] at h; cases h
theorem Ex.lst {H H' : Hp} {a : Addr} {xs : List V} (e : Ex H H') (h : H a = some (.lst xs)) : H' a = some (.lst xs) := e.at_ _ _ h fun _ z => nomatch z
theorem Ex.tup {H H' : Hp} {a : Addr} {xs : List V} (e : Ex H H') (h : H a = some (.tup xs)) : H' a = some (.tup xs) := e.at_ _ _ h fun _ z => nomatch z
theorem Ex.dK {H H' : Hp} {a : Addr} {xs : List (Key × V)} (e : Ex H H') (h : H a = some (.dK xs)) : H' a = some (.dK xs) := e.at_ _ _ h fun _ z => nomatch z
theorem Ex.frz {H H' : Hp} {a : Addr} {o : Obj} {u : HO} (e : Ex H H') (h : H a = some (.frz o u)) : H' a = some (.frz o u) := e.at_ _ _ h fun _ z => nomatch z
theorem Ex.ext {H H' : Hp} {a : Addr} {φ : Heap → Prop} (e : Ex H H') (h : H a = some (.ext φ)) : H' a = some (.ext φ) := e.at_ _ _ h fun _ z => nomatch z
end
/-! ### dicts by whole numbers, tuples of these, tuples of such tuples .. -/
mutual
/-- the value is the key (no texts in it) -/
inductive NIs (H : Hp) : V → NestedKey → Prop
  | num (i : Int) : NIs H (.int i) (.num i)
  | tup {a : Addr} {xs : List V} {ks : List NestedKey} : H a = some (.tup xs) → NIss H xs ks → NIs H (.ref a) (.tup ks)
inductive NIss (H : Hp) : List V → List NestedKey → Prop
  | nil : NIss H [] []
  | cons {v : V} {vs : List V} {k : NestedKey} {ks : List NestedKey} : NIs H v k → NIss H vs ks → NIss H (v :: vs) (k :: ks)
end
mutual
theorem NIs.stay {H H' : Hp} (e : ∀ a xs, H a = some (.tup xs) → H' a = some (.tup xs)) : ∀ {v : V} {k : NestedKey}, NIs H v k → NIs H' v k
  | _, _, .num i => .num i
  | _, _, .tup h t => .tup (e _ _ h) (NIss.stay e t)
theorem NIss.stay {H H' : Hp} (e : ∀ a xs, H a = some (.tup xs) → H' a = some (.tup xs)) : ∀ {v : List V} {k : List NestedKey}, NIss H v k → NIss H' v k
  | _, _, .nil => .nil
  | _, _, .cons h t => .cons (NIs.stay e h) (NIss.stay e t)
end
abbrev NKV := List (NestedKey × Addr × V)
/-- the dict at a: keys, where their tuples stand, values -/
def dNφ (a : Addr) (kvs : NKV) (h : Heap) : Prop := ∃ (w : World) (xs : List (NestedKey × Addr × Value)), Paired (fun (p : NestedKey × Addr × V) (q : NestedKey × Addr × Value) => p.1 = q.1 ∧ p.2.1 = q.2.1 ∧ L2.RelV p.2.2 q.2.2) kvs xs ∧ xs.length ≤ sizeLine ∧ (a == sysModules) = false ∧
  ∃ o es ep, h.get? a = some o ∧ o.ExactDict ∧ o.data = .dict es ep ∧ es.toList = xs.map (fun x => (⟨x.1.hash w, .ref x.2.1, x.2.2⟩ : DictEntry)) ∧ (xs.map (·.1)).Nodup
def dN (a : Addr) (kvs : NKV) : HO := .ext (dNφ a kvs)
def KeysOk (H : Hp) (kvs : NKV) : Prop := ∀ p, p ∈ kvs → NIs H (.ref p.2.1) p.1 ∧ p.1.depth ≤ 8
theorem KeysOk.stay {H H' : Hp} {kvs : NKV} (e : ∀ a xs, H a = some (.tup xs) → H' a = some (.tup xs)) (k : KeysOk H kvs) : KeysOk H' kvs := fun p hp => ⟨(k p hp).1.stay e, (k p hp).2⟩
section
theorem ex_rd {H H' : Hp} {a : Addr} {u : HO} (e : Ex H H') (h : Rd H a u) (n : ∀ ps, u ≠ .tbl ps := by intro _ z; cases z) : Rd H' a u := by
  rcases h with h | ⟨o, h⟩
  · exact .inl (e.at_ _ _ h n)
  · exact .inr ⟨o, e.frz h⟩
theorem ex_l {K : PySem.W.Frag} {H H' : Hp} {a : Addr} {xs : List V} (e : Ex H H') (h : SqL K H a xs) : SqL K H' a xs := by
  rcases h with h | h
  · exact .inl (ex_rd e h)
  · exact .inr h
theorem ex_t {K : PySem.W.Frag} {H H' : Hp} {a : Addr} {xs : List V} (e : Ex H H') (h : SqT K H a xs) : SqT K H' a xs := by
  rcases h with h | h
  · exact .inl (ex_rd e h)
  · exact .inr h
/-! ### dicts: keys ints and texts, or tuples of these -/
def keyD : Key → Da
  | .inl i => .int i
  | .inr x => .str x
mutual
def nkD : NestedKey → Da
  | .none => .non
  | .num i => .int i
  | .text x => .str x
  | .tup ks => .tup (nkDs ks)
def nkDs : List NestedKey → List Da
  | [] => []
  | k :: ks => nkD k :: nkDs ks
end
theorem nkDs_map : ∀ ks : List NestedKey, nkDs ks = ks.map nkD
  | [] => by rw [nkDs]; rfl
  | k :: ks => by rw [nkDs, nkDs_map ks]; rfl
/-- what the dict at a holds: keys ints and texts (false), tuples of ints and of such tuples (true) -/
def DAt (H : Hp) (a : Addr) (t : Bool) (ks : List Da) (xs : List V) : Prop :=
  (t = false ∧ ∃ kvs : List (Key × V), H a = some (.dK kvs) ∧ ks = kvs.map (fun p => keyD p.1) ∧ xs = kvs.map (·.2)) ∨
  (t = true ∧ ∃ kvs : NKV, H a = some (dN a kvs) ∧ ks = kvs.map (fun p => nkD p.1) ∧ xs = kvs.map (·.2.2) ∧ KeysOk H kvs)
theorem DAt.mono {H H' : Hp} {a : Addr} {t : Bool} {ks : List Da} {xs : List V} (e : Ex H H') (h : DAt H a t ks xs) : DAt H' a t ks xs := by
  rcases h with ⟨z, kvs, h, q⟩ | ⟨z, kvs, h, q1, q2, k⟩
  · exact .inl ⟨z, kvs, e.dK h, q⟩
  · exact .inr ⟨z, kvs, e.ext h, q1, q2, k.stay fun _ _ h => e.tup h⟩
/-! ### what a value stands for: read (Sh), owned with the places of its lists and dicts (Own) -/
mutual
inductive Sh (K : PySem.W.Frag) (H : Hp) : V → Da → Prop
  | non : Sh K H .non .non
  | bl (b : Bool) : Sh K H (.bl b) (.bl b)
  | int (i : Int) : Sh K H (.int i) (.int i)
  | str (s : Str) : Sh K H (.str s) (.str s)
  | obj (a : Addr) : Sh K H (.ref a) (.obj a)
  | ptr {a : Addr} {d : Da} : Sh K H (.ref a) d → Sh K H (.ref a) (.ptr a d)
  | fn {a : Addr} {φ : Hp → Addr → Prop} : φ H a → (∀ H1 H2, Ex H1 H2 → φ H1 a → φ H2 a) → Sh K H (.ref a) (.fn φ)
  | tup {a : Addr} {xs : List V} {ds : List Da} : H a = some (.tup xs) → Shs K H xs ds → Sh K H (.ref a) (.tup ds)
  | lst {a : Addr} {xs : List V} {ds : List Da} : Rd H a (.lst xs) → Shs K H xs ds → Sh K H (.ref a) (.lst ds)
  | scr {a : Addr} {ns : List Int} : SqL K H a (ns.map V.int) → Sh K H (.ref a) (.scr ns)
  | dic {a : Addr} {t : Bool} {ks : List Da} {xs : List V} {ds : List Da} : DAt H a t ks xs → Shs K H xs ds → Sh K H (.ref a) (.dic t ks ds)
inductive Shs (K : PySem.W.Frag) (H : Hp) : List V → List Da → Prop
  | nil : Shs K H [] []
  | cons {v : V} {vs : List V} {d : Da} {ds : List Da} : Sh K H v d → Shs K H vs ds → Shs K H (v :: vs) (d :: ds)
end
mutual
inductive Own (K : PySem.W.Frag) (H : Hp) : V → Da → List Addr → Prop
  | non : Own K H .non .non []
  | bl (b : Bool) : Own K H (.bl b) (.bl b) []
  | int (i : Int) : Own K H (.int i) (.int i) []
  | str (s : Str) : Own K H (.str s) (.str s) []
  | obj (a : Addr) : Own K H (.ref a) (.obj a) []
  | tup {a : Addr} {xs : List V} {ds : List Da} {F : List Addr} : H a = some (.tup xs) → Owns K H xs ds F → Own K H (.ref a) (.tup ds) F
  | lst {a : Addr} {xs : List V} {ds : List Da} {F : List Addr} : H a = some (.lst xs) → Owns K H xs ds F → Own K H (.ref a) (.lst ds) (a :: F)
  | dic {a : Addr} {t : Bool} {ks : List Da} {xs : List V} {ds : List Da} {F : List Addr} : DAt H a t ks xs → Owns K H xs ds F → Own K H (.ref a) (.dic t ks ds) (a :: F)
inductive Owns (K : PySem.W.Frag) (H : Hp) : List V → List Da → List Addr → Prop
  | nil : Owns K H [] [] []
  | cons {v : V} {vs : List V} {d : Da} {ds : List Da} {F G : List Addr} : Own K H v d F → Owns K H vs ds G → Owns K H (v :: vs) (d :: ds) (F ++ G)
end
section
variable {K : PySem.W.Frag} {H H' : Hp}
mutual
theorem Sh.mono (e : Ex H H') : ∀ {v : V} {d : Da}, Sh K H v d → Sh K H' v d
  | _, _, .non => .non
  | _, _, .bl b => .bl b
  | _, _, .int i => .int i
  | _, _, .str s => .str s
  | _, _, .obj s => .obj s
  | _, _, .ptr h => .ptr (Sh.mono e h)
  | _, _, .fn h k => .fn (k _ _ e h) k
  | _, _, .tup h t => .tup (e.tup h) (Shs.mono e t)
  | _, _, .lst h t => .lst (ex_rd e h) (Shs.mono e t)
  | _, _, .scr h => .scr (ex_l e h)
  | _, _, .dic h t => .dic (h.mono e) (Shs.mono e t)
theorem Shs.mono (e : Ex H H') : ∀ {v : List V} {d : List Da}, Shs K H v d → Shs K H' v d
  | _, _, .nil => .nil
  | _, _, .cons h t => .cons (Sh.mono e h) (Shs.mono e t)
end
mutual
theorem Own.mono (e : Ex H H') : ∀ {v : V} {d : Da} {F : List Addr}, Own K H v d F → Own K H' v d F
  | _, _, _, .non => .non
  | _, _, _, .bl b => .bl b
  | _, _, _, .int i => .int i
  | _, _, _, .str s => .str s
  | _, _, _, .obj s => .obj s
  | _, _, _, .tup h t => .tup (e.tup h) (Owns.mono e t)
  | _, _, _, .lst h t => .lst (e.lst h) (Owns.mono e t)
  | _, _, _, .dic h t => .dic (h.mono e) (Owns.mono e t)
theorem Owns.mono (e : Ex H H') : ∀ {v : List V} {d : List Da} {F : List Addr}, Owns K H v d F → Owns K H' v d F
  | _, _, _, .nil => .nil
  | _, _, _, .cons h t => .cons (Own.mono e h) (Owns.mono e t)
end
mutual
theorem Own.sh : ∀ {v : V} {d : Da} {F : List Addr}, Own K H v d F → Sh K H v d
  | _, _, _, .non => .non
  | _, _, _, .bl b => .bl b
  | _, _, _, .int i => .int i
  | _, _, _, .str s => .str s
  | _, _, _, .obj s => .obj s
  | _, _, _, .tup h t => .tup h (Owns.sh t)
  | _, _, _, .lst h t => .lst (.inl h) (Owns.sh t)
  | _, _, _, .dic h t => .dic h (Owns.sh t)
theorem Owns.sh : ∀ {v : List V} {d : List Da} {F : List Addr}, Owns K H v d F → Shs K H v d
  | _, _, _, .nil => .nil
  | _, _, _, .cons h t => .cons (Own.sh h) (Owns.sh t)
end
mutual
theorem Sh.own : ∀ {v : V} {d : Da}, Sh K H v d → d.imm = true → Own K H v d []
  | _, _, .non, _ => .non
  | _, _, .bl b, _ => .bl b
  | _, _, .int i, _ => .int i
  | _, _, .str s, _ => .str s
  | _, _, .obj s, _ => .obj s
  | _, _, .tup h t, i => .tup h (Shs.own t i)
  | _, _, .lst _ _, i => Bool.noConfusion (show false = true from i)
  | _, _, .dic _ _, i => Bool.noConfusion (show false = true from i)
  | _, _, .scr _, i => Bool.noConfusion (show false = true from i)
  | _, _, .ptr _, i => Bool.noConfusion (show false = true from i)
  | _, _, .fn _ _, i => Bool.noConfusion (show false = true from i)
theorem Shs.own : ∀ {v : List V} {d : List Da}, Shs K H v d → Da.imms d = true → Owns K H v d []
  | _, _, .nil, _ => .nil
  | _, _, .cons (d := d) (ds := ds) h t, i => by
    have i' : (d.imm && Da.imms ds) = true := i
    rw [Bool.and_eq_true] at i'
    exact Owns.cons (F := []) (G := []) (Sh.own h i'.1) (Shs.own t i'.2)
end
/-- nothing but lists and dicts change -/
structure NoTup (H : Hp) (p : Addr) : Prop where
  tup : ∀ xs, ¬ Rd H p (.tup xs)
  tbl : ∀ ps, H p ≠ some (.tbl ps)
  code : ∀ q, H p ≠ some (LamX.CodeO p q)
theorem noTup_lst {p : Addr} {xs : List V} (h : H p = some (.lst xs)) : NoTup H p where
  tup := fun ys r => by
    rcases r with r | ⟨o, r⟩
    · rw [h] at r; cases r
    · rw [h] at r; cases r
  tbl := fun ps r => by rw [h] at r; cases r
  code := fun q r => by rw [h] at r; exact nomatch r
theorem noTup_dK {p : Addr} {kvs : List (Key × V)} (h : H p = some (.dK kvs)) : NoTup H p where
  tup := fun ys r => by
    rcases r with r | ⟨o, r⟩
    · rw [h] at r; cases r
    · rw [h] at r; cases r
  tbl := fun ps r => by rw [h] at r; cases r
  code := fun q r => by rw [h] at r; exact nomatch r
theorem dN_code {p : Addr} {kvs : NKV} {q : Str} : dN p kvs ≠ LamX.CodeO p q := fun z => by
  have z' := congrFun (HO.ext.inj z) ⟨Array.replicate (p + 1) { cls := .none, data := .fields #[.none, .str q 0] }, {}⟩
  have hg : (⟨Array.replicate (p + 1) { cls := .none, data := .fields #[.none, .str q 0] }, {}⟩ : Heap).get? p = some { cls := .none, data := .fields #[.none, .str q 0] } := by
    unfold Heap.get?
    rw [Array.getElem?_replicate, if_pos (Nat.lt_succ_self p)]
  have hc := z'.mpr ⟨_, _, _, hg, rfl, rfl⟩
  obtain ⟨_, _, _, _, _, o, es, ep, h1, _, h2, _⟩ := hc
  rw [hg] at h1
  cases h1
  cases h2
theorem noTup_dN {p : Addr} {kvs : NKV} (h : H p = some (dN p kvs)) : NoTup H p where
  tup := fun ys r => by
    rcases r with r | ⟨o, r⟩
    · rw [h] at r; exact nomatch r
    · rw [h] at r; exact nomatch r
  tbl := fun ps r => by rw [h] at r; exact nomatch r
  code := fun q r => by
    rw [h] at r
    exact dN_code (Option.some.inj r)
theorem noTup_new {p : Addr} (h : H p = none) : NoTup H p where
  tup := fun ys r => by
    rcases r with r | ⟨o, r⟩
    · rw [h] at r; cases r
    · rw [h] at r; cases r
  tbl := fun ps r => by rw [h] at r; cases r
  code := fun q r => by rw [h] at r; cases r
theorem Ex.mut {p : Addr} {o : HO} (e : Ex H H') (h : H p = none) (n : NoTup H' p) : Ex H (upd H' p o) where
  at_ := fun a u ha k => by
    rw [upd_ne (ne_of_none ha h)]; exact e.at_ a u ha k
  tb := fun a ps ha => by
    rw [upd_ne (ne_of_none ha h)]; exact e.tb a ps ha
  nm := fun a ha => by
    obtain ⟨ps, h1, h2, h3⟩ := e.nm a ha
    refine ⟨ps, ?_, h2, fun pos cv hc => ?_⟩
    · rw [upd_ne (fun z => n.tbl ps (by subst z; exact h1))]; exact h1
    · obtain ⟨c, e1, e2⟩ := h3 pos cv hc
      refine ⟨c, e1, ?_⟩
      rw [upd_ne (fun z => n.code (nm0 pos.line pos.col) (by subst z; exact e2))]; exact e2
theorem sqT_upd {p a : Addr} {o : HO} {xs : List V} (n : NoTup H p) (h : SqT K H a xs) : SqT K (upd H p o) a xs := by
  rcases h with h | h
  · have q : a ≠ p := fun e => n.tup xs (e ▸ h)
    rcases h with h | ⟨ob, h⟩
    · exact .inl (.inl (by rw [upd_ne q]; exact h))
    · exact .inl (.inr ⟨ob, by rw [upd_ne q]; exact h⟩)
  · exact .inr h
theorem NoTup.keep {p : Addr} {o : HO} (n : NoTup H p) : ∀ a xs, H a = some (.tup xs) → upd H p o a = some (.tup xs) := fun a xs h => by
  rw [upd_ne (fun z => n.tup xs (.inl (by rw [← z]; exact h)))]; exact h
theorem DAt.upd {p a : Addr} {o : HO} {t : Bool} {ks : List Da} {xs : List V} (n : a ≠ p) (m : NoTup H p) (h : DAt H a t ks xs) : DAt (upd H p o) a t ks xs := by
  rcases h with ⟨z, kvs, h, q⟩ | ⟨z, kvs, h, q1, q2, k⟩
  · exact .inl ⟨z, kvs, by rw [upd_ne n]; exact h, q⟩
  · exact .inr ⟨z, kvs, by rw [upd_ne n]; exact h, q1, q2, k.stay m.keep⟩
theorem NoTup.ne {p a : Addr} {xs : List V} (n : NoTup H p) (h : H a = some (.tup xs)) : a ≠ p := fun e => n.tup xs (.inl (by rw [← e]; exact h))
theorem ne_head {p a : Addr} {F : List Addr} (m : p ∉ a :: F) : a ≠ p := fun e => m (by rw [e]; exact List.mem_cons_self)
mutual
theorem Own.upd {p : Addr} {o : HO} (n : NoTup H p) : ∀ {v : V} {d : Da} {F : List Addr}, Own K H v d F → p ∉ F → Own K (upd H p o) v d F
  | _, _, _, .non, _ => .non
  | _, _, _, .bl b, _ => .bl b
  | _, _, _, .int i, _ => .int i
  | _, _, _, .str s, _ => .str s
  | _, _, _, .obj s, _ => .obj s
  | _, _, _, .tup h t, m => .tup (by rw [upd_ne (n.ne h)]; exact h) (Owns.upd n t m)
  | _, _, _, .lst h t, m => .lst (by rw [upd_ne (ne_head m)]; exact h) (Owns.upd n t fun z => m (List.mem_cons_of_mem _ z))
  | _, _, _, .dic h t, m => .dic (h.upd (ne_head m) n) (Owns.upd n t fun z => m (List.mem_cons_of_mem _ z))
theorem Owns.upd {p : Addr} {o : HO} (n : NoTup H p) : ∀ {v : List V} {d : List Da} {F : List Addr}, Owns K H v d F → p ∉ F → Owns K (upd H p o) v d F
  | _, _, _, .nil, _ => .nil
  | _, _, _, .cons h t, m => .cons (Own.upd n h fun z => m (List.mem_append_left _ z)) (Owns.upd n t fun z => m (List.mem_append_right _ z))
end
theorem DAt.there {a : Addr} {t : Bool} {ks : List Da} {xs : List V} (h : DAt H a t ks xs) : ∃ o, H a = some o := by
  rcases h with ⟨z, kvs, h, q⟩ | ⟨z, kvs, h, q⟩
  · exact ⟨_, h⟩
  · exact ⟨_, h⟩
mutual
theorem Own.there : ∀ {v : V} {d : Da} {F : List Addr}, Own K H v d F → ∀ a, a ∈ F → ∃ o, H a = some o
  | _, _, _, .non, _, m => nomatch m
  | _, _, _, .bl b, _, m => nomatch m
  | _, _, _, .int i, _, m => nomatch m
  | _, _, _, .str s, _, m => nomatch m
  | _, _, _, .obj s, _, m => nomatch m
  | _, _, _, .tup h t, a, m => Owns.there t a m
  | _, _, _, .lst h t, a, m => (List.mem_cons.mp m).elim (fun e => ⟨_, e ▸ h⟩) (fun z => Owns.there t a z)
  | _, _, _, .dic h t, a, m => (List.mem_cons.mp m).elim (fun e => e ▸ h.there) (fun z => Owns.there t a z)
theorem Owns.there : ∀ {v : List V} {d : List Da} {F : List Addr}, Owns K H v d F → ∀ a, a ∈ F → ∃ o, H a = some o
  | _, _, _, .nil, _, m => nomatch m
  | _, _, _, .cons h t, a, m => (List.mem_append.mp m).elim (fun z => Own.there h a z) (fun z => Owns.there t a z)
end
theorem Own.int_inv {v : V} {i : Int} {F : List Addr} (h : Own K H v (.int i) F) : v = .int i ∧ F = [] := by cases h; exact ⟨rfl, rfl⟩
theorem Sh.int_inv {v : V} {i : Int} (h : Sh K H v (.int i)) : v = .int i := by cases h; rfl
theorem Sh.bl_inv {v : V} {i : Bool} (h : Sh K H v (.bl i)) : v = .bl i := by cases h; rfl
theorem Sh.obj_inv {v : V} {a : Addr} (h : Sh K H v (.obj a)) : v = .ref a := by cases h; rfl
theorem Sh.ptr_inv {v : V} {a : Addr} {d : Da} (h : Sh K H v (.ptr a d)) : v = .ref a ∧ Sh K H v d := by cases h with | ptr h => exact ⟨rfl, h⟩
theorem Sh.str_inv {v : V} {i : Str} (h : Sh K H v (.str i)) : v = .str i := by cases h; rfl
theorem Sh.non_inv {v : V} (h : Sh K H v .non) : v = .non := by cases h; rfl
theorem Sh.lst_inv {v : V} {ds : List Da} (h : Sh K H v (.lst ds)) : ∃ a xs, v = .ref a ∧ Rd H a (.lst xs) ∧ Shs K H xs ds := by cases h with | lst a b => exact ⟨_, _, rfl, a, b⟩
theorem Sh.scr_inv {v : V} {ns : List Int} (h : Sh K H v (.scr ns)) : ∃ a, v = .ref a ∧ SqL K H a (ns.map V.int) := by cases h with | scr a => exact ⟨_, rfl, a⟩
theorem Sh.tup_inv {v : V} {ds : List Da} (h : Sh K H v (.tup ds)) : ∃ a xs, v = .ref a ∧ SqT K H a xs ∧ Shs K H xs ds := by cases h with | tup a b => exact ⟨_, _, rfl, .of a, b⟩
theorem Sh.tup_inv2 {v : V} {ds : List Da} (h : Sh K H v (.tup ds)) : ∃ a xs, v = .ref a ∧ H a = some (.tup xs) ∧ Shs K H xs ds := by cases h with | tup a b => exact ⟨_, _, rfl, a, b⟩
theorem Sh.dic_inv {v : V} {t : Bool} {ks ds : List Da} (h : Sh K H v (.dic t ks ds)) : ∃ a xs, v = .ref a ∧ DAt H a t ks xs ∧ Shs K H xs ds := by cases h with | dic a b => exact ⟨_, _, rfl, a, b⟩
theorem Own.lst_inv {v : V} {ds : List Da} {F : List Addr} (h : Own K H v (.lst ds) F) : ∃ a xs G, v = .ref a ∧ F = a :: G ∧ H a = some (.lst xs) ∧ Owns K H xs ds G := by cases h with | lst a b => exact ⟨_, _, _, rfl, rfl, a, b⟩
theorem Own.dic_inv {v : V} {t : Bool} {ks ds : List Da} {F : List Addr} (h : Own K H v (.dic t ks ds) F) : ∃ a xs G, v = .ref a ∧ F = a :: G ∧ DAt H a t ks xs ∧ Owns K H xs ds G := by cases h with | dic a b => exact ⟨_, _, _, rfl, rfl, a, b⟩
theorem Own.tup_inv {v : V} {ds : List Da} {F : List Addr} (h : Own K H v (.tup ds) F) : ∃ a xs, v = .ref a ∧ SqT K H a xs ∧ Owns K H xs ds F := by cases h with | tup a b => exact ⟨_, _, rfl, .of a, b⟩
theorem Own.tup_inv2 {v : V} {ds : List Da} {F : List Addr} (h : Own K H v (.tup ds) F) : ∃ a xs, v = .ref a ∧ H a = some (.tup xs) ∧ Owns K H xs ds F := by cases h with | tup a b => exact ⟨_, _, rfl, a, b⟩
theorem Shs.length : ∀ {vs : List V} {ds : List Da}, Shs K H vs ds → vs.length = ds.length
  | _, _, .nil => rfl
  | _, _, .cons _ t => by simp only [List.length_cons, Shs.length t]
theorem Owns.length : ∀ {vs : List V} {ds : List Da} {F : List Addr}, Owns K H vs ds F → vs.length = ds.length
  | _, _, _, .nil => rfl
  | _, _, _, .cons _ t => by simp only [List.length_cons, Owns.length t]
theorem Shs.get : ∀ {vs : List V} {ds : List Da} {i : Nat} {d : Da}, Shs K H vs ds → ds[i]? = some d → ∃ v, vs[i]? = some v ∧ Sh K H v d
  | _, _, _, _, .nil, e => by simp at e
  | _, _, 0, _, .cons h _, e => by simp at e; subst e; exact ⟨_, rfl, h⟩
  | _, _, i + 1, _, .cons _ t, e => by
    obtain ⟨v, h1, h2⟩ := Shs.get (i := i) t (by simpa using e)
    exact ⟨v, by simpa using h1, h2⟩
theorem Shs.getV : ∀ {vs : List V} {ds : List Da} {i : Nat} {v : V}, Shs K H vs ds → vs[i]? = some v → ∃ d, ds[i]? = some d ∧ Sh K H v d
  | _, _, _, _, .nil, e => by simp at e
  | _, _, 0, _, .cons h _, e => by simp at e; subst e; exact ⟨_, rfl, h⟩
  | _, _, i + 1, _, .cons _ t, e => by
    obtain ⟨v, h1, h2⟩ := Shs.getV (i := i) t (by simpa using e)
    exact ⟨v, by simpa using h1, h2⟩
theorem Shs.append : ∀ {vs ws : List V} {ds es : List Da}, Shs K H vs ds → Shs K H ws es → Shs K H (vs ++ ws) (ds ++ es)
  | _, _, _, _, .nil, s => s
  | _, _, _, _, .cons h t, s => .cons h (Shs.append t s)
theorem Owns.append : ∀ {vs ws : List V} {ds es : List Da} {F G : List Addr}, Owns K H vs ds F → Owns K H ws es G → Owns K H (vs ++ ws) (ds ++ es) (F ++ G)
  | _, _, _, _, _, _, .nil, s => s
  | _, _, _, _, _, _, .cons h t, s => by
    rw [List.append_assoc]
    exact .cons h (Owns.append t s)
theorem Shs.ints : ∀ {ns : List Int} {vs : List V}, Shs K H vs (ns.map Da.int) → vs = ns.map V.int
  | [], _, .nil => rfl
  | n :: ns, _, .cons h t => by rw [h.int_inv, Shs.ints t]; rfl
theorem Shs.strs : ∀ {ns : List Str} {vs : List V}, Shs K H vs (ns.map Da.str) → vs = ns.map V.str
  | [], _, .nil => rfl
  | n :: ns, _, .cons h t => by rw [h.str_inv, Shs.strs t]; rfl
theorem shs_ints : ∀ ns : List Int, Shs K H (ns.map V.int) (ns.map Da.int)
  | [] => .nil
  | n :: ns => .cons (.int n) (shs_ints ns)
theorem shs_strs : ∀ ns : List Str, Shs K H (ns.map V.str) (ns.map Da.str)
  | [] => .nil
  | n :: ns => .cons (.str n) (shs_strs ns)
theorem owns_ints : ∀ ns : List Int, Owns K H (ns.map V.int) (ns.map Da.int) []
  | [] => .nil
  | n :: ns => Owns.cons (F := []) (G := []) (.int n) (owns_ints ns)
theorem owns_strs : ∀ ns : List Str, Owns K H (ns.map V.str) (ns.map Da.str) []
  | [] => .nil
  | n :: ns => Owns.cons (F := []) (G := []) (.str n) (owns_strs ns)
theorem Shs.take : ∀ {vs : List V} {ds : List Da} (n : Nat), Shs K H vs ds → Shs K H (vs.take n) (ds.take n)
  | _, _, 0, _ => .nil
  | _, _, _ + 1, .nil => .nil
  | _, _, n + 1, .cons h t => .cons h (Shs.take n t)
theorem Shs.drop : ∀ {vs : List V} {ds : List Da} (n : Nat), Shs K H vs ds → Shs K H (vs.drop n) (ds.drop n)
  | _, _, 0, r => r
  | _, _, _ + 1, .nil => .nil
  | _, _, n + 1, .cons _ t => Shs.drop n t
end
/-! ### states -/
abbrev Sd := Option (Bool × Da)
abbrev ow (d : Da) : Sd := some (true, d)
abbrev sh (d : Da) : Sd := some (false, d)
abbrev no : Sd := none
inductive SlotOk (K : PySem.W.Frag) (B H : Hp) : Sd → Option V → List Addr → Prop
  | no {o : Option V} : SlotOk K B H none o []
  | ow {v : V} {d : Da} {F : List Addr} : Own K H v d F → (∀ a, a ∈ F → B a = none) → SlotOk K B H (some (true, d)) (some v) F
  | sh {v : V} {d : Da} : Sh K B v d → SlotOk K B H (some (false, d)) (some v) []
inductive Slots (K : PySem.W.Frag) (B H : Hp) : List Sd → St → List Addr → Prop
  | nil : Slots K B H [] [] []
  | cons {s : Sd} {o : Option V} {ρ : List Sd} {σ : St} {F G : List Addr} : SlotOk K B H s o F → Slots K B H ρ σ G → Slots K B H (s :: ρ) (o :: σ) (F ++ G)
def Sta (K : PySem.W.Frag) (B0 : Hp) (ρ : List Sd) (σ : St) (H : Hp) : Prop :=
  ∃ (B : Hp) (F : List Addr), Ex B0 B ∧ Ex B H ∧ Slots K B H ρ σ F ∧ F.Nodup
/-- what an expression reads -/
def Rs (K : PySem.W.Frag) (H : Hp) (ρ : List Sd) (σ : St) : Prop := ρ.length = σ.length ∧ ∀ (i : Nat) (b : Bool) (d : Da), ρ[i]? = some (some (b, d)) → ∃ v, σ[i]? = some (some v) ∧ Sh K H v d
section
variable {K : PySem.W.Frag} {B B' B0 H H' : Hp} {s t : Sd} {o : Option V} {ρ ρ1 ρ2 : List Sd} {σ σ1 σ2 : St} {F G : List Addr}
theorem SlotOk.ex (e : Ex H H') (h : SlotOk K B H s o F) : SlotOk K B H' s o F := by
  cases h with
  | no => exact .no
  | ow a b => exact .ow (a.mono e) b
  | sh a => exact .sh a
theorem Slots.ex (e : Ex H H') : ∀ {ρ : List Sd} {σ : St} {F : List Addr}, Slots K B H ρ σ F → Slots K B H' ρ σ F
  | _, _, _, .nil => .nil
  | _, _, _, .cons h t => .cons (h.ex e) (Slots.ex e t)
theorem Sta.ex (e : Ex H H') (h : Sta K B0 ρ σ H) : Sta K B0 ρ σ H' := by
  obtain ⟨B, F, a, b, c, d⟩ := h
  exact ⟨B, F, a, b.trans e, c.ex e, d⟩
theorem Sta.base (h : Sta K B0 ρ σ H) : Ex B0 H := by
  obtain ⟨B, F, a, b, c, d⟩ := h
  exact a.trans b
theorem SlotOk.rs {b : Bool} {d : Da} (e : Ex B H) (h : SlotOk K B H (some (b, d)) o F) : ∃ v, o = some v ∧ Sh K H v d := by
  cases h with
  | ow a b => exact ⟨_, rfl, a.sh⟩
  | sh a => exact ⟨_, rfl, a.mono e⟩
theorem Slots.length : ∀ {ρ : List Sd} {σ : St} {F : List Addr}, Slots K B H ρ σ F → ρ.length = σ.length
  | _, _, _, .nil => rfl
  | _, _, _, .cons _ t => by simp only [List.length_cons, Slots.length t]
theorem Slots.rs0 (e : Ex B H) : ∀ {ρ : List Sd} {σ : St} {F : List Addr}, Slots K B H ρ σ F → ∀ (i : Nat) (b : Bool) (d : Da), ρ[i]? = some (some (b, d)) → ∃ v, σ[i]? = some (some v) ∧ Sh K H v d
  | _, _, _, .nil => fun i b d h => by simp at h
  | _, _, _, .cons h t => fun i b d q => by
    cases i with
    | zero =>
      simp at q
      subst q
      obtain ⟨v, rfl, z⟩ := h.rs e
      exact ⟨v, rfl, z⟩
    | succ i =>
      obtain ⟨v, z1, z2⟩ := Slots.rs0 e t i b d (by simpa using q)
      exact ⟨v, by simpa using z1, z2⟩
theorem Slots.rs (e : Ex B H) {ρ : List Sd} {σ : St} {F : List Addr} (h : Slots K B H ρ σ F) : Rs K H ρ σ := ⟨h.length, h.rs0 e⟩
theorem Sta.rs (h : Sta K B0 ρ σ H) : Rs K H ρ σ := by
  obtain ⟨B, F, a, b, c, d⟩ := h
  exact c.rs b
theorem Rs.mono (e : Ex H H') (h : Rs K H ρ σ) : Rs K H' ρ σ := ⟨h.1, fun i b d q => by
  obtain ⟨v, z1, z2⟩ := h.2 i b d q
  exact ⟨v, z1, z2.mono e⟩⟩
theorem Sta.length (h : Sta K B0 ρ σ H) : ρ.length = σ.length := by
  obtain ⟨B, F, a, b, c, d⟩ := h
  exact c.length
theorem Slots.split : ∀ {ρ1 ρ2 : List Sd} {σ1 σ2 : St} {F : List Addr}, ρ1.length = σ1.length → Slots K B H (ρ1 ++ ρ2) (σ1 ++ σ2) F → ∃ F1 F2, F = F1 ++ F2 ∧ Slots K B H ρ1 σ1 F1 ∧ Slots K B H ρ2 σ2 F2
  | [], _, [], _, F, _, h => ⟨[], F, rfl, .nil, h⟩
  | s :: ρ1, _, o :: σ1, _, _, l, .cons h t => by
    obtain ⟨F1, F2, rfl, a, b⟩ := Slots.split (ρ1 := ρ1) (σ1 := σ1) (by simpa using l) t
    exact ⟨_, F2, by rw [List.append_assoc], .cons h a, b⟩
theorem Slots.join : ∀ {ρ1 ρ2 : List Sd} {σ1 σ2 : St} {F1 F2 : List Addr}, Slots K B H ρ1 σ1 F1 → Slots K B H ρ2 σ2 F2 → Slots K B H (ρ1 ++ ρ2) (σ1 ++ σ2) (F1 ++ F2)
  | _, _, _, _, _, _, .nil, s => s
  | _, _, _, _, _, _, .cons h t, s => by rw [List.append_assoc]; exact .cons h (Slots.join t s)
/-- the slot i taken out and another put in -/
theorem Slots.out : ∀ {ρ : List Sd} {σ : St} {F : List Addr} {i : Nat} {s : Sd} {o : Option V}, Slots K B H ρ σ F → ρ[i]? = some s → σ[i]? = some o →
    ∃ F1 F2 F3, F = F1 ++ (F2 ++ F3) ∧ SlotOk K B H s o F2 ∧ ∀ {s' : Sd} {o' : Option V} {F' : List Addr}, SlotOk K B H s' o' F' → Slots K B H (ρ.set i s') (σ.set i o') (F1 ++ (F' ++ F3))
  | _, _, _, _, _, _, .nil, e, _ => by simp at e
  | _, _, _, 0, _, _, .cons (F := F) (G := G) h t, e, e' => by
    simp at e e'
    subst e; subst e'
    exact ⟨[], F, G, rfl, h, fun {s' o' F'} h' => Slots.cons (F := F') (G := G) h' t⟩
  | _, _, _, i + 1, _, _, .cons (F := F) (G := G) h t, e, e' => by
    obtain ⟨F1, F2, F3, rfl, a, b⟩ := Slots.out (i := i) t (by simpa using e) (by simpa using e')
    exact ⟨F ++ F1, F2, F3, by rw [List.append_assoc], a, fun h' => by rw [List.append_assoc]; exact .cons h (b h')⟩
end
end
end Fw

set_option Elab.async false
set_option linter.all false
set_option maxRecDepth 100000
set_option maxHeartbeats 4000000
namespace Fw
open PySem L2
section
variable {K : PySem.W.Frag} {B B' B0 H H' : Hp} {s t : Sd} {o : Option V} {ρ ρ1 ρ2 ρ' φ : List Sd} {σ σ1 σ2 τ : L2.St} {F G : List Addr} {v : V} {d : Da}
/-! ### more of states -/
mutual
theorem Own.noTup : ∀ {v : V} {d : Da} {F : List Addr}, Own K H v d F → ∀ a, a ∈ F → NoTup H a
  | _, _, _, .non, _, m => nomatch m
  | _, _, _, .bl b, _, m => nomatch m
  | _, _, _, .int i, _, m => nomatch m
  | _, _, _, .str s, _, m => nomatch m
  | _, _, _, .obj s, _, m => nomatch m
  | _, _, _, .tup h t, a, m => Owns.noTup t a m
  | _, _, _, .lst h t, a, m => (List.mem_cons.mp m).elim (fun e => e ▸ noTup_lst h) (fun z => Owns.noTup t a z)
  | _, _, _, .dic h t, a, m => (List.mem_cons.mp m).elim (fun e => by
      subst e
      rcases h with ⟨z, kvs, h, _⟩ | ⟨z, kvs, h, _⟩
      · exact noTup_dK h
      · exact noTup_dN h) (fun z => Owns.noTup t a z)
theorem Owns.noTup : ∀ {v : List V} {d : List Da} {F : List Addr}, Owns K H v d F → ∀ a, a ∈ F → NoTup H a
  | _, _, _, .nil, _, m => nomatch m
  | _, _, _, .cons h t, a, m => (List.mem_append.mp m).elim (fun z => Own.noTup h a z) (fun z => Owns.noTup t a z)
end
theorem SlotOk.there (h : SlotOk K B H s o F) : ∀ a, a ∈ F → (∃ u, H a = some u) ∧ B a = none ∧ NoTup H a := by
  intro a m
  cases h with
  | no => cases m
  | ow x y => exact ⟨x.there a m, y a m, x.noTup a m⟩
  | sh x => cases m
theorem Slots.there : ∀ {ρ : List Sd} {σ : L2.St} {F : List Addr}, Slots K B H ρ σ F → ∀ a, a ∈ F → (∃ u, H a = some u) ∧ B a = none ∧ NoTup H a
  | _, _, _, .nil, _, m => nomatch m
  | _, _, _, .cons h t, a, m => (List.mem_append.mp m).elim (fun z => h.there a z) (fun z => Slots.there t a z)
/-- a new value in front -/
theorem Sta.push (h : Sta K B0 ρ σ H) (e : Ex H H') (w : Own K H' v d F) (f : ∀ a, a ∈ F → H a = none) (n : F.Nodup) : Sta K B0 (ow d :: ρ) (some v :: σ) H' := by
  obtain ⟨B, G, e1, e2, sl, nd⟩ := h
  refine ⟨B, F ++ G, e1, e2.trans e, .cons (.ow w fun a m => e2.back (f a m)) (sl.ex e), ?_⟩
  refine List.nodup_append.mpr ⟨n, nd, fun a ha b hb eq => ?_⟩
  obtain ⟨u, hu⟩ := (sl.there b hb).1
  rw [← eq, f a ha] at hu
  cases hu
theorem Sta.pop (h : Sta K B0 (s :: ρ) (o :: σ) H) : Sta K B0 ρ σ H := by
  obtain ⟨B, G, e1, e2, sl, nd⟩ := h
  cases sl with
  | cons a b => exact ⟨B, _, e1, e2, b, (List.nodup_append.mp nd).2.1⟩
theorem Sta.drop (l : φ.length = τ.length) (h : Sta K B0 (φ ++ ρ) (τ ++ σ) H) : Sta K B0 ρ σ H := by
  obtain ⟨B, G, e1, e2, sl, nd⟩ := h
  obtain ⟨F1, F2, rfl, a, b⟩ := sl.split l
  exact ⟨B, _, e1, e2, b, (List.nodup_append.mp nd).2.1⟩
theorem set_self {α : Type} : ∀ {l : List α} {i : Nat} {x : α}, l[i]? = some x → l.set i x = l
  | [], _, _, h => by simp at h
  | y :: l, 0, x, h => by simp at h; subst h; rfl
  | y :: l, i + 1, x, h => by
    show y :: l.set i x = y :: l
    rw [set_self (by simpa using h)]
/-- a slot moved to the front -/
theorem Sta.move {i : Nat} (h : Sta K B0 ρ σ H) (hi : ρ[i]? = some (some (true, d))) : ∃ v, σ[i]? = some (some v) ∧ Sta K B0 (ow d :: ρ.set i none) (some v :: σ) H := by
  obtain ⟨B, G, e1, e2, sl, nd⟩ := h
  obtain ⟨v, hv, _⟩ := (sl.rs e2).2 i true d hi
  refine ⟨v, hv, ?_⟩
  obtain ⟨F1, F2, F3, rfl, a, b⟩ := sl.out hi hv
  have b' := b (s' := none) (o' := some v) .no
  rw [set_self hv] at b'
  refine ⟨B, F2 ++ (F1 ++ ([] ++ F3)), e1, e2, .cons a b', ?_⟩
  refine (List.Perm.nodup_iff ?_).mp nd
  rw [List.nil_append, ← List.append_assoc, ← List.append_assoc]
  exact List.Perm.append_right F3 List.perm_append_comm
/-- the front put into a slot -/
theorem Sta.put {i : Nat} (h : Sta K B0 (s :: ρ) (o :: σ) H) (hi : i < ρ.length) : Sta K B0 (ρ.set i s) (σ.set i o) H := by
  obtain ⟨B, G, e1, e2, sl, nd⟩ := h
  cases sl with
  | @cons _ _ _ _ F G' a b =>
    have hl := b.length
    obtain ⟨F1, F2, F3, rfl, c, k⟩ := b.out (i := i) (List.getElem?_eq_getElem hi) (List.getElem?_eq_getElem (by omega))
    refine ⟨B, F1 ++ (F ++ F3), e1, e2, k a, ?_⟩
    have nd' : (F ++ (F1 ++ F3)).Nodup := by
      refine List.Nodup.sublist ?_ nd
      exact List.Sublist.append_left (List.Sublist.append_left (List.sublist_append_right F2 F3) F1) F
    refine (List.Perm.nodup_iff ?_).mp nd'
    rw [← List.append_assoc, ← List.append_assoc]
    exact List.Perm.append_right F3 List.perm_append_comm
theorem get_app {α : Type} {l m : List α} {n i : Nat} (hl : l.length = n) : (l ++ m)[n + i]? = m[i]? := by
  subst hl
  rw [List.getElem?_append_right (Nat.le_add_right _ _), Nat.add_sub_cancel_left]
theorem set_app {α : Type} {l m : List α} {n i : Nat} {x : α} (hl : l.length = n) : (l ++ m).set (n + i) x = l ++ m.set i x := by
  subst hl
  rw [List.set_append_right _ _ (Nat.le_add_right _ _), Nat.add_sub_cancel_left]
theorem Sta.moveF {i : Nat} (l : φ.length = τ.length) (h : Sta K B0 (φ ++ ρ) (τ ++ σ) H) (hi : ρ[i]? = some (some (true, d))) :
    ∃ v, σ[i]? = some (some v) ∧ Sta K B0 (ow d :: (φ ++ ρ.set i none)) (some v :: (τ ++ σ)) H := by
  obtain ⟨v, hv, q⟩ := h.move (i := φ.length + i) (d := d) (by rw [get_app rfl]; exact hi)
  rw [get_app l.symm] at hv
  rw [set_app rfl] at q
  exact ⟨v, hv, q⟩
theorem Sta.putF {i : Nat} (l : φ.length = τ.length) (h : Sta K B0 (s :: (φ ++ ρ)) (o :: (τ ++ σ)) H) (hi : i < ρ.length) : Sta K B0 (φ ++ ρ.set i s) (τ ++ σ.set i o) H := by
  have q := h.put (i := φ.length + i) (by rw [List.length_append]; omega)
  rw [set_app rfl, set_app l.symm] at q
  exact q
/-- a slot forgotten -/
theorem Sta.forget {i : Nat} (h : Sta K B0 ρ σ H) : Sta K B0 (ρ.set i none) σ H := by
  by_cases hi : i < ρ.length
  · obtain ⟨B, G, e1, e2, sl, nd⟩ := h
    have hl := sl.length
    have hv : σ[i]? = some σ[i] := List.getElem?_eq_getElem (by omega)
    obtain ⟨F1, F2, F3, rfl, c, k⟩ := sl.out (i := i) (List.getElem?_eq_getElem hi) hv
    have k' := k (s' := none) (o' := σ[i]) .no
    rw [set_self hv] at k'
    refine ⟨B, _, e1, e2, k', List.Nodup.sublist ?_ nd⟩
    exact List.Sublist.append_left (List.Sublist.append_right (List.nil_sublist F2) F3) F1
  · rw [List.set_eq_of_length_le (by omega)]; exact h
theorem Sta.forgetF {i : Nat} (h : Sta K B0 (φ ++ ρ) (τ ++ σ) H) : Sta K B0 (φ ++ ρ.set i none) (τ ++ σ) H := by
  have q := h.forget (i := φ.length + i)
  rw [set_app rfl] at q
  exact q
/-! ### owned things frozen -/
open Classical in
noncomputable def fz (B H : Hp) (F : List Addr) : Hp := fun b => if b ∈ F ∨ ∃ xs, Rd H b (.tup xs) then H b else B b
theorem fz_in {a : Addr} (h : a ∈ F) : fz B H F a = H a := by unfold fz; rw [if_pos (.inl h)]
theorem fz_tup {a : Addr} {xs : List V} (h : Rd H a (.tup xs)) : fz B H F a = H a := by unfold fz; rw [if_pos (.inr ⟨xs, h⟩)]
theorem fz_out {a : Addr} (h : a ∉ F) (n : NoTup H a) : fz B H F a = B a := by
  unfold fz; rw [if_neg]; rintro (z | ⟨xs, z⟩)
  · exact h z
  · exact n.tup xs z
theorem fz_old (e : Ex B H) (f : ∀ a, a ∈ F → B a = none) {a : Addr} {u : HO} (h : B a = some u) (n : ∀ ps, u ≠ .tbl ps) : fz B H F a = some u := by
  unfold fz; split
  · exact e.at_ a u h n
  · exact h
theorem fz_oldT (e : Ex B H) (f : ∀ a, a ∈ F → B a = none) {a : Addr} {ps : Array Value} (h : B a = some (.tbl ps)) : fz B H F a = some (.tbl ps) := by
  unfold fz; rw [if_neg]
  · exact h
  · rintro (z | ⟨xs, z⟩)
    · rw [f a z] at h; cases h
    · obtain ⟨ps', h'⟩ := e.tb a ps h
      rcases z with z | ⟨o, z⟩
      · rw [h'] at z; cases z
      · rw [h'] at z; cases z
theorem fz_up (e : Ex B H) (f : ∀ a, a ∈ F → B a = none) : Ex B (fz B H F) where
  at_ := fun a u h n => fz_old e f h n
  tb := fun a ps h => ⟨ps, fz_oldT e f h⟩
  nm := fun a ⟨ps, h1, h2, h3⟩ => ⟨ps, fz_oldT e f h1, h2, fun pos cv hc => by
    obtain ⟨c, e1, e2⟩ := h3 pos cv hc
    exact ⟨c, e1, fz_old e f e2 fun ps => LamX.codeO_ne ps⟩⟩
theorem fz_to (e : Ex B H) (n : ∀ a, a ∈ F → NoTup H a) : Ex (fz B H F) H where
  at_ := fun a u h k => by
    unfold fz at h; split at h
    · exact h
    · exact e.at_ a u h k
  tb := fun a ps h => by
    unfold fz at h; split at h
    · exact ⟨ps, h⟩
    · exact e.tb a ps h
  nm := fun a ⟨ps, h1, h2, h3⟩ => by
    by_cases c : a ∈ F ∨ ∃ xs, Rd H a (.tup xs)
    · have h1' : H a = some (.tbl ps) := by unfold fz at h1; rw [if_pos c] at h1; exact h1
      rcases c with c | ⟨xs, z⟩
      · exact absurd h1' ((n a c).tbl ps)
      · rcases z with z | ⟨o, z⟩
        · rw [h1'] at z; cases z
        · rw [h1'] at z; cases z
    · have h1' : B a = some (.tbl ps) := by unfold fz at h1; rw [if_neg c] at h1; exact h1
      refine e.nm a ⟨ps, h1', h2, fun pos cv hc => ?_⟩
      obtain ⟨c, e1, e2⟩ := h3 pos cv hc
      refine ⟨c, e1, ?_⟩
      unfold fz at e2; split at e2
      · rename_i q
        rcases q with q | ⟨xs, z⟩
        · exact absurd e2 ((n c q).code _)
        · rcases z with z | ⟨o, z⟩
          · rw [e2] at z; exact nomatch z
          · rw [e2] at z; exact nomatch z
      · exact e2
theorem fz_sqT {a : Addr} {xs : List V} (h : SqT K H a xs) : SqT K (fz B H F) a xs := by
  rcases h with h | h
  · refine .inl ?_
    have q := fz_tup (B := B) (F := F) h
    rcases h with h | ⟨ob, h⟩
    · exact .inl (q.trans h)
    · exact .inr ⟨ob, q.trans h⟩
  · exact .inr h
theorem fz_keep : ∀ a xs, H a = some (.tup xs) → fz B H F a = some (.tup xs) := fun a xs h => (fz_tup (.inl h)).trans h
theorem fz_dat {a : Addr} {t : Bool} {ks : List Da} {xs : List V} (m : a ∈ F) (h : DAt H a t ks xs) : DAt (fz B H F) a t ks xs := by
  rcases h with ⟨z, kvs, h, q⟩ | ⟨z, kvs, h, q1, q2, k⟩
  · exact .inl ⟨z, kvs, (fz_in m).trans h, q⟩
  · exact .inr ⟨z, kvs, (fz_in m).trans h, q1, q2, k.stay fz_keep⟩
mutual
theorem Own.fz : ∀ {v : V} {d : Da} {G : List Addr}, Own K H v d G → (∀ a, a ∈ G → a ∈ F) → Sh K (Fw.fz B H F) v d
  | _, _, _, .non, _ => .non
  | _, _, _, .bl b, _ => .bl b
  | _, _, _, .int i, _ => .int i
  | _, _, _, .str s, _ => .str s
  | _, _, _, .obj s, _ => .obj s
  | _, _, _, .tup h t, m => .tup ((fz_tup (.inl h)).trans h) (Owns.fz t m)
  | _, _, _, .lst h t, m => .lst (.inl ((fz_in (m _ List.mem_cons_self)).trans h)) (Owns.fz t fun a z => m a (List.mem_cons_of_mem _ z))
  | _, _, _, .dic h t, m => .dic (fz_dat (m _ List.mem_cons_self) h) (Owns.fz t fun a z => m a (List.mem_cons_of_mem _ z))
theorem Owns.fz : ∀ {v : List V} {d : List Da} {G : List Addr}, Owns K H v d G → (∀ a, a ∈ G → a ∈ F) → Shs K (Fw.fz B H F) v d
  | _, _, _, .nil, _ => .nil
  | _, _, _, .cons h t, m => .cons (Own.fz h fun a z => m a (List.mem_append_left _ z)) (Owns.fz t fun a z => m a (List.mem_append_right _ z))
end
theorem Slots.fz (e : Ex B H) (f : ∀ a, a ∈ F → B a = none) : ∀ {ρ : List Sd} {σ : L2.St} {G : List Addr}, Slots K B H ρ σ G → (∀ a, a ∈ G → a ∉ F) → Slots K (Fw.fz B H F) H ρ σ G
  | _, _, _, .nil, _ => .nil
  | _, _, _, .cons h t, m => .cons (by
      cases h with
      | no => exact .no
      | ow a b => exact .ow a fun x hx => (fz_out (m x (List.mem_append_left _ hx)) (a.noTup x hx)).trans (b x hx)
      | sh a => exact .sh (a.mono (fz_up e f))) (Slots.fz e f t fun a z => m a (List.mem_append_right _ z))
theorem Sta.freeze (h : Sta K B0 (ow d :: ρ) (o :: σ) H) : Sta K B0 (sh d :: ρ) (o :: σ) H := by
  obtain ⟨B, G, e1, e2, sl, nd⟩ := h
  cases sl with
  | @cons _ _ _ _ F G' a b =>
    obtain ⟨n1, n2, n3⟩ := List.nodup_append.mp nd
    cases a with
    | ow w f =>
      refine ⟨Fw.fz B H F, [] ++ G', e1.trans (fz_up e2 f), fz_to e2 (fun a z => w.noTup a z), .cons (.sh (w.fz fun a z => z)) (b.fz e2 f fun a z m => n3 a m a z rfl), n2⟩
theorem Sta.shDup {i : Nat} (h : Sta K B0 ρ σ H) (hi : ρ[i]? = some (some (false, d))) : ∃ v, σ[i]? = some (some v) ∧ Sta K B0 (sh d :: ρ) (some v :: σ) H := by
  obtain ⟨B, G, e1, e2, sl, nd⟩ := h
  obtain ⟨v, hv, _⟩ := (sl.rs e2).2 i false d hi
  obtain ⟨F1, F2, F3, rfl, a, b⟩ := sl.out hi hv
  cases a with
  | sh a => exact ⟨v, hv, B, _, e1, e2, .cons (F := []) (.sh a) sl, nd⟩
/-- a slot frozen where it stands -/
theorem Sta.freezeAt {i : Nat} (h : Sta K B0 ρ σ H) (hi : ρ[i]? = some (some (true, d))) : Sta K B0 (ρ.set i (sh d)) σ H := by
  obtain ⟨v, hv, q⟩ := h.move hi
  have hl : i < (ρ.set i none).length := by
    rw [List.length_set]
    exact (List.getElem?_eq_some_iff.mp hi).1
  have z := (q.freeze).put (i := i) hl
  rw [List.set_set, set_self hv] at z
  exact z
theorem Sta.freezeAtF {i : Nat} (h : Sta K B0 (φ ++ ρ) (τ ++ σ) H) (hi : ρ[i]? = some (some (true, d))) : Sta K B0 (φ ++ ρ.set i (sh d)) (τ ++ σ) H := by
  have q := h.freezeAt (i := φ.length + i) (d := d) (by rw [get_app rfl]; exact hi)
  rw [set_app rfl] at q
  exact q
/-- of a shared tuple, its items -/
theorem Sta.shItem {i : Nat} {ds : List Da} {v : V} (h : Sta K B0 (sh (.tup ds) :: ρ) (some v :: σ) H) (hd : ds[i]? = some d) :
    ∃ a xs x, v = .ref a ∧ SqT K H a xs ∧ xs.length = ds.length ∧ xs[i]? = some x ∧ Sta K B0 (sh d :: ρ) (some x :: σ) H := by
  obtain ⟨B, G, e1, e2, sl, nd⟩ := h
  cases sl with
  | cons a b =>
    cases a with
    | sh a =>
      obtain ⟨p, xs, rfl, h1, h2⟩ := a.tup_inv
      obtain ⟨x, hx, hs⟩ := h2.get hd
      exact ⟨p, xs, x, rfl, ex_t e2 h1, h2.length, hx, B, _, e1, e2, .cons (.sh hs) b, nd⟩
theorem Sta.shItemL {i : Nat} {ds : List Da} {v : V} (h : Sta K B0 (sh (.lst ds) :: ρ) (some v :: σ) H) (hd : ds[i]? = some d) :
    ∃ a xs x, v = .ref a ∧ SqL K H a xs ∧ xs.length = ds.length ∧ xs[i]? = some x ∧ Sta K B0 (sh d :: ρ) (some x :: σ) H := by
  obtain ⟨B, G, e1, e2, sl, nd⟩ := h
  cases sl with
  | cons a b =>
    cases a with
    | sh a =>
      obtain ⟨p, xs, rfl, h1, h2⟩ := a.lst_inv
      obtain ⟨x, hx, hs⟩ := h2.get hd
      exact ⟨p, xs, x, rfl, ex_l e2 (.inl h1), h2.length, hx, B, _, e1, e2, .cons (.sh hs) b, nd⟩
theorem Slots.rew : ∀ {ρ : List Sd} {σ : L2.St} {F : List Addr} {i : Nat} {s : Sd} {o : Option V}, Slots K B H ρ σ F → ρ[i]? = some s → σ[i]? = some o →
    ∃ F1 F2 F3, F = F1 ++ (F2 ++ F3) ∧ SlotOk K B H s o F2 ∧ ∀ {p : Addr} {u : HO}, NoTup H p → p ∉ F1 → p ∉ F3 → ∀ {s' : Sd} {F' : List Addr}, SlotOk K B (upd H p u) s' o F' → Slots K B (upd H p u) (ρ.set i s') σ (F1 ++ (F' ++ F3)) := by
  intro ρ σ F i s o h
  have one : ∀ {s : Sd} {o : Option V} {F : List Addr} {p : Addr} {u : HO}, NoTup H p → SlotOk K B H s o F → p ∉ F → SlotOk K B (upd H p u) s o F := by
    intro s o F p u n h m
    cases h with
    | no => exact .no
    | ow a b => exact .ow (a.upd n m) b
    | sh a => exact .sh a
  have all : ∀ {p : Addr} {u : HO} {ρ : List Sd} {σ : L2.St} {F : List Addr}, NoTup H p → Slots K B H ρ σ F → p ∉ F → Slots K B (upd H p u) ρ σ F := by
    intro p u ρ σ F n h
    induction h with
    | nil => intro _; exact .nil
    | cons h t ih => intro m; exact .cons (one n h fun z => m (List.mem_append_left _ z)) (ih fun z => m (List.mem_append_right _ z))
  induction h generalizing i with
  | nil => intro e _; simp at e
  | @cons s0 o0 ρ0 σ0 Fa Fb h t ih =>
    intro e e'
    cases i with
    | zero =>
      simp at e e'
      subst e; subst e'
      exact ⟨[], Fa, Fb, rfl, h, fun {p u} n _ m {s' F'} h' => Slots.cons (F := F') (G := Fb) h' (all n t m)⟩
    | succ i =>
      obtain ⟨F1, F2, F3, rfl, a, b⟩ := ih (i := i) (by simpa using e) (by simpa using e')
      refine ⟨Fa ++ F1, F2, F3, by rw [List.append_assoc], a, fun {p u} n m1 m2 {s' F'} h' => ?_⟩
      rw [List.append_assoc]
      exact .cons (one n h fun z => m1 (List.mem_append_left _ z)) (b n (fun z => m1 (List.mem_append_right _ z)) m2 h')
theorem nodup_rew {F1 C1 G C3 G' : List Addr} {p : Addr} (nd : (F1 ++ (C1 ++ ((p :: G) ++ C3))).Nodup) (gn : G'.Nodup) (sub : ∀ a, a ∈ G' → a ∈ G ∨ a ∈ F1) : (C1 ++ ((p :: G') ++ C3)).Nodup := by
  obtain ⟨n1, n2, n3⟩ := List.nodup_append.mp nd
  obtain ⟨m1, m2, m3⟩ := List.nodup_append.mp n2
  obtain ⟨q1, q2, q3⟩ := List.nodup_append.mp m2
  obtain ⟨r1, r2⟩ := List.nodup_cons.mp q1
  have inM : ∀ a, a ∈ p :: G → a ∈ C1 ++ ((p :: G) ++ C3) := fun a h => List.mem_append_right _ (List.mem_append_left _ h)
  refine List.nodup_append.mpr ⟨m1, List.nodup_append.mpr ⟨List.nodup_cons.mpr ⟨fun z => ?_, gn⟩, q2, fun a ha b hb e => ?_⟩, fun a ha b hb e => ?_⟩
  · rcases sub p z with z | z
    · exact r1 z
    · exact n3 p z p (inM p List.mem_cons_self) rfl
  · subst e
    rcases List.mem_cons.mp ha with rfl | ha
    · exact q3 a List.mem_cons_self a hb rfl
    · rcases sub a ha with z | z
      · exact q3 a (List.mem_cons_of_mem _ z) a hb rfl
      · exact n3 a z a (List.mem_append_right _ (List.mem_append_right _ hb)) rfl
  · subst e
    rcases List.mem_append.mp hb with hb | hb
    · rcases List.mem_cons.mp hb with rfl | hb
      · exact m3 a ha a (List.mem_append_left _ List.mem_cons_self) rfl
      · rcases sub a hb with z | z
        · exact m3 a ha a (List.mem_append_left _ (List.mem_cons_of_mem _ z)) rfl
        · exact n3 a z a (List.mem_append_left _ ha) rfl
    · exact m3 a ha a (List.mem_append_right _ hb) rfl
/-- an owned list rewritten, with what stands in front -/
theorem Sta.rewL {i : Nat} {ds : List Da} (h : Sta K B0 (s :: ρ) (o :: σ) H) (hi : ρ[i]? = some (some (true, .lst ds))) :
    ∃ p xs G F1 B, σ[i]? = some (some (.ref p)) ∧ H p = some (.lst xs) ∧ Owns K H xs ds G ∧ SlotOk K B H s o F1 ∧ Ex B H ∧ (F1 ++ G).Nodup ∧ p ∉ G ∧ p ∉ F1 ∧
      ∀ xs' ds' G', Owns K H xs' ds' G' → (∀ a, a ∈ G' → a ∈ G ∨ a ∈ F1) → G'.Nodup → Sta K B0 (ρ.set i (ow (.lst ds'))) σ (upd H p (.lst xs')) := by
  obtain ⟨B, G0, e1, e2, sl, nd⟩ := h
  cases sl with
  | @cons _ _ _ _ F1 G1 a b =>
    obtain ⟨w0, hv, _⟩ := (b.rs e2).2 i true _ hi
    obtain ⟨C1, C2, C3, rfl, c, k⟩ := b.rew hi hv
    cases c with
    | ow w f =>
      obtain ⟨p, xs, G, rfl, rfl, hp, ws⟩ := w.lst_inv
      have nd' := nd
      obtain ⟨n1, n2, n3⟩ := List.nodup_append.mp nd
      obtain ⟨m1, m2, m3⟩ := List.nodup_append.mp n2
      obtain ⟨q1, q2, q3⟩ := List.nodup_append.mp m2
      obtain ⟨r1, r2⟩ := List.nodup_cons.mp q1
      have pF : p ∉ F1 := fun z => n3 p z p (List.mem_append_right _ (List.mem_append_left _ List.mem_cons_self)) rfl
      refine ⟨p, xs, G, F1, B, hv, hp, ws, a, e2, ?_, r1, pF, fun xs' ds' G' wn sub gn => ?_⟩
      · exact List.nodup_append.mpr ⟨n1, r2, fun x hx y hy e => n3 x hx y (List.mem_append_right _ (List.mem_append_left _ (List.mem_cons_of_mem _ hy))) e⟩
      · have nt := noTup_lst hp
        have pG : p ∉ G' := fun z => (sub p z).elim r1 pF
        have p1 : p ∉ C1 := fun z => m3 p z p (List.mem_append_left _ List.mem_cons_self) rfl
        have p3 : p ∉ C3 := fun z => q3 p List.mem_cons_self p z rfl
        have fB : ∀ x, x ∈ p :: G' → B x = none := fun x hx => by
          rcases List.mem_cons.mp hx with rfl | hx
          · exact f _ List.mem_cons_self
          · rcases sub x hx with z | z
            · exact f _ (List.mem_cons_of_mem _ z)
            · exact (a.there x z).2.1
        exact ⟨B, C1 ++ ((p :: G') ++ C3), e1, e2.mut (f p List.mem_cons_self) nt, k nt p1 p3 (.ow (.lst upd_same (wn.upd nt pG)) fB), nodup_rew nd' gn sub⟩
/-- an owned dict rewritten -/
theorem Sta.rewD {i : Nat} {t : Bool} {ks ds : List Da} (h : Sta K B0 (s :: ρ) (o :: σ) H) (hi : ρ[i]? = some (some (true, .dic t ks ds))) :
    ∃ p xs G F1 B, σ[i]? = some (some (.ref p)) ∧ DAt H p t ks xs ∧ Owns K H xs ds G ∧ SlotOk K B H s o F1 ∧ Ex B H ∧ (F1 ++ G).Nodup ∧ p ∉ G ∧ p ∉ F1 ∧
      ∀ u ks' xs' ds' G', DAt (upd H p u) p t ks' xs' → Owns K H xs' ds' G' → (∀ a, a ∈ G' → a ∈ G ∨ a ∈ F1) → G'.Nodup → Sta K B0 (ρ.set i (ow (.dic t ks' ds'))) σ (upd H p u) := by
  obtain ⟨B, G0, e1, e2, sl, nd⟩ := h
  cases sl with
  | @cons _ _ _ _ F1 G1 a b =>
    obtain ⟨w0, hv, _⟩ := (b.rs e2).2 i true _ hi
    obtain ⟨C1, C2, C3, rfl, c, k⟩ := b.rew hi hv
    cases c with
    | ow w f =>
      have nt0 := fun a z => w.noTup a z
      obtain ⟨p, xs, G, rfl, rfl, hp, ws⟩ := w.dic_inv
      have nd' := nd
      obtain ⟨n1, n2, n3⟩ := List.nodup_append.mp nd
      obtain ⟨m1, m2, m3⟩ := List.nodup_append.mp n2
      obtain ⟨q1, q2, q3⟩ := List.nodup_append.mp m2
      obtain ⟨r1, r2⟩ := List.nodup_cons.mp q1
      have pF : p ∉ F1 := fun z => n3 p z p (List.mem_append_right _ (List.mem_append_left _ List.mem_cons_self)) rfl
      refine ⟨p, xs, G, F1, B, hv, hp, ws, a, e2, ?_, r1, pF, fun u ks' xs' ds' G' wd wn sub gn => ?_⟩
      · exact List.nodup_append.mpr ⟨n1, r2, fun x hx y hy e => n3 x hx y (List.mem_append_right _ (List.mem_append_left _ (List.mem_cons_of_mem _ hy))) e⟩
      · have nt := nt0 p List.mem_cons_self
        have pG : p ∉ G' := fun z => (sub p z).elim r1 pF
        have p1 : p ∉ C1 := fun z => m3 p z p (List.mem_append_left _ List.mem_cons_self) rfl
        have p3 : p ∉ C3 := fun z => q3 p List.mem_cons_self p z rfl
        have fB : ∀ x, x ∈ p :: G' → B x = none := fun x hx => by
          rcases List.mem_cons.mp hx with rfl | hx
          · exact f _ List.mem_cons_self
          · rcases sub x hx with z | z
            · exact f _ (List.mem_cons_of_mem _ z)
            · exact (a.there x z).2.1
        exact ⟨B, C1 ++ ((p :: G') ++ C3), e1, e2.mut (f p List.mem_cons_self) nt, k nt p1 p3 (.ow (.dic wd (wn.upd nt pG)) fB), nodup_rew nd' gn sub⟩
end
end Fw

set_option Elab.async false
set_option linter.all false
set_option maxRecDepth 100000
set_option maxHeartbeats 4000000
namespace Fw
open PySem L2
/-! ### what evaluates to what -/
section
variable (K : PySem.W.Frag) (B0 : Hp)
/-- to a value that stands for d -/
def EvB (te : TE) (ρ : List Sd) (d : Da) : Prop := ∀ σ H (Q : VK), Rs K H ρ σ → (∀ v H', Ex H H' → Sh K H' v d → Q v H') → te σ H Q
/-- to a new value -/
def EvF (te : TE) (ρ : List Sd) (d : Da) : Prop := ∀ σ H (Q : VK), Rs K H ρ σ → (∀ v H' F, Ex H H' → Own K H' v d F → (∀ a, a ∈ F → H a = none) → F.Nodup → Q v H') → te σ H Q
def EvT (t : TT) (ρ : List Sd) (b : Bool) : Prop := ∀ σ H (Q : Bool → Hp → Prop), Rs K H ρ σ → (∀ H', Ex H H' → Q b H') → t σ H Q
def EvA (t : TA) (ρ : List Sd) (ds : List Da) : Prop := ∀ σ H (Q : List V → Hp → Prop), Rs K H ρ σ → (∀ vs H', Ex H H' → Shs K H' vs ds → Q vs H') → t σ H Q
def EvAF (t : TA) (ρ : List Sd) (ds : List Da) : Prop := ∀ σ H (Q : List V → Hp → Prop), Rs K H ρ σ → (∀ vs H' F, Ex H H' → Owns K H' vs ds F → (∀ a, a ∈ F → H a = none) → F.Nodup → Q vs H') → t σ H Q
/-- to a value that is the state's own no more -/
def EvM (te : TE) (ρ : List Sd) (d : Da) (ρ' : List Sd) : Prop := ∀ (φ : List Sd) (τ σ : L2.St) H (Q : VK), φ.length = τ.length → Sta K B0 (φ ++ ρ) (τ ++ σ) H →
  (∀ v H', Ex H H' → Sta K B0 (ow d :: (φ ++ ρ')) (some v :: (τ ++ σ)) H' → Q v H') → te σ H Q
/-- to a value that nobody changes -/
def EvS (te : TE) (ρ : List Sd) (d : Da) (ρ' : List Sd) : Prop := ∀ (φ : List Sd) (τ σ : L2.St) H (Q : VK), φ.length = τ.length → Sta K B0 (φ ++ ρ) (τ ++ σ) H →
  (∀ v H', Ex H H' → Sta K B0 (sh d :: (φ ++ ρ')) (some v :: (τ ++ σ)) H' → Q v H') → te σ H Q
/-- arguments, all the state's own no more -/
def EvAM (t : TA) (ρ : List Sd) (ds : List Da) (ρ' : List Sd) : Prop := ∀ (φ : List Sd) (τ σ : L2.St) H (Q : List V → Hp → Prop), φ.length = τ.length → Sta K B0 (φ ++ ρ) (τ ++ σ) H →
  (∀ vs H', Ex H H' → vs.length = ds.length → Sta K B0 (ds.map ow ++ (φ ++ ρ')) (vs.map some ++ (τ ++ σ)) H' → Q vs H') → t σ H Q
end
section
variable {K : PySem.W.Frag} {B0 : Hp} {ρ ρ' ρ2 : List Sd} {te ta tb tc : TE} {t u : TT} {d d1 d2 : Da} {b c : Bool} {i j : Int}
theorem Rs.f {H : Hp} {φ : List Sd} {τ σ : L2.St} (l : φ.length = τ.length) (h : Sta K B0 (φ ++ ρ) (τ ++ σ) H) : Rs K H ρ σ := (h.drop l).rs
theorem EvB.f (h : EvB K te ρ d) (i : d.imm = true) : EvF K te ρ d := fun σ H Q r q => h σ H Q r fun v H' e s => q v H' [] e (s.own i) (fun _ z => nomatch z) List.nodup_nil
theorem EvF.g (h : EvF K te ρ d) : EvB K te ρ d := fun σ H Q r q => h σ H Q r fun v H' F e s _ _ => q v H' e s.sh
theorem EvF.m (h : EvF K te ρ d) : EvM K B0 te ρ d ρ := fun φ τ σ H Q l s q => h σ H Q (Rs.f l s) fun v H' F e w f n => q v H' e (s.push e w f n)
theorem EvM.s (h : EvM K B0 te ρ d ρ') : EvS K B0 te ρ d ρ' := fun φ τ σ H Q l s q => h φ τ σ H Q l s fun v H' e z => q v H' e z.freeze
theorem EvB.m (h : EvB K te ρ d) (i : d.imm = true) : EvM K B0 te ρ d ρ := (h.f i).m
theorem EvB.s (h : EvB K te ρ d) (i : d.imm = true) : EvS K B0 te ρ d ρ := (h.f i).m.s
theorem EvF.s (h : EvF K te ρ d) : EvS K B0 te ρ d ρ := h.m.s
theorem EvB.is (h : EvB K te ρ d) (e : d = d1) : EvB K te ρ d1 := e ▸ h
theorem EvF.is (h : EvF K te ρ d) (e : d = d1) : EvF K te ρ d1 := e ▸ h
theorem EvT.is (h : EvT K t ρ b) (e : b = c) : EvT K t ρ c := e ▸ h
theorem ev_var {k : Nat} {w : Bool} (h : ρ[k]? = some (some (w, d))) : EvB K (tVar k) ρ d := fun σ H Q r q => by
  obtain ⟨v, hv, s⟩ := r.2 k w d h
  exact ⟨v, hv, q v H (Ex.refl H) s⟩
theorem ev_move {k : Nat} (h : ρ[k]? = some (some (true, d))) : EvM K B0 (tVar k) ρ d (ρ.set k none) := fun φ τ σ H Q l s q => by
  obtain ⟨v, hv, z⟩ := s.moveF l h
  exact ⟨v, hv, q v H (Ex.refl H) z⟩
theorem ev_shv {k : Nat} (h : ρ[k]? = some (some (false, d))) : EvS K B0 (tVar k) ρ d ρ := fun φ τ σ H Q l s q => by
  obtain ⟨v, hv, z⟩ := s.shDup (i := φ.length + k) (d := d) (by rw [get_app rfl]; exact h)
  rw [get_app l.symm] at hv
  exact ⟨v, hv, q v H (Ex.refl H) z⟩
/-- an owned variable, frozen from now on -/
theorem ev_frz {k : Nat} (h : ρ[k]? = some (some (true, d))) : EvS K B0 (tVar k) ρ d (ρ.set k (sh d)) := fun φ τ σ H Q l s q => by
  have z := s.freezeAtF (φ := φ) h
  obtain ⟨v, hv, z⟩ := z.shDup (i := φ.length + k) (d := d) (by rw [get_app rfl, List.getElem?_set_self (List.getElem?_eq_some_iff.mp h).1])
  rw [get_app l.symm] at hv
  exact ⟨v, hv, q v H (Ex.refl H) z⟩
theorem ev_int : EvB K (tC (.int i)) ρ (.int i) := fun σ H Q _ q => q _ H (Ex.refl H) (.int i)
theorem ev_str {x : Str} : EvB K (tC (.str x)) ρ (.str x) := fun σ H Q _ q => q _ H (Ex.refl H) (.str x)
theorem ev_bl : EvB K (tC (.bl b)) ρ (.bl b) := fun σ H Q _ q => q _ H (Ex.refl H) (.bl b)
theorem ev_non : EvB K (tC .non) ρ .non := fun σ H Q _ q => q _ H (Ex.refl H) .non
/-! ### whole numbers -/
theorem ev_2 {r : R2} (ha : EvB K ta ρ d1) (hb : EvB K tb ρ d2) (h : ∀ x y H (Q : VK), Sh K H x d1 → Sh K H y d2 → (∀ v H', Ex H H' → Sh K H' v d → Q v H') → r x y H Q) : EvB K (tOp r ta tb) ρ d := fun σ H Q rs q =>
  ha σ H _ rs fun x H1 e1 s1 => hb σ H1 _ (rs.mono e1) fun y H2 e2 s2 => h x y H2 Q (s1.mono e2) s2 fun v H' e s => q v H' ((e1.trans e2).trans e) s
theorem ev_2F {r : R2} (ha : EvB K ta ρ d1) (hb : EvB K tb ρ d2) (h : ∀ x y H (Q : VK), Sh K H x d1 → Sh K H y d2 → (∀ v H' F, Ex H H' → Own K H' v d F → (∀ a, a ∈ F → H a = none) → F.Nodup → Q v H') → r x y H Q) : EvF K (tOp r ta tb) ρ d := fun σ H Q rs q =>
  ha σ H _ rs fun x H1 e1 s1 => hb σ H1 _ (rs.mono e1) fun y H2 e2 s2 => h x y H2 Q (s1.mono e2) s2 fun v H' F e s f n => q v H' F ((e1.trans e2).trans e) s (fun a m => (e1.trans e2).back (f a m)) n
theorem ev_I0 {g : Int → Int → Int} (ha : EvB K ta ρ (.int i)) (hb : EvB K tb ρ (.int j)) : EvB K (tOp (rI0 fun i j => .int (g i j)) ta tb) ρ (.int (g i j)) :=
  ev_2 ha hb fun x y H Q s1 s2 q => ⟨i, j, s1.int_inv, s2.int_inv, q _ H (Ex.refl H) (.int _)⟩
theorem ev_I {C : Int → Int → Prop} {g : Int → Int → Int} (ha : EvB K ta ρ (.int i)) (hb : EvB K tb ρ (.int j)) (hc : C i j) : EvB K (tOp (rI C fun i j => .int (g i j)) ta tb) ρ (.int (g i j)) :=
  ev_2 ha hb fun x y H Q s1 s2 q => ⟨i, j, s1.int_inv, s2.int_inv, hc, q _ H (Ex.refl H) (.int _)⟩
theorem ev_add (ha : EvB K ta ρ (.int i)) (hb : EvB K tb ρ (.int j)) : EvB K (tOp (rI0 fun i j => .int (i + j)) ta tb) ρ (.int (i + j)) := ev_I0 ha hb
theorem ev_sub (ha : EvB K ta ρ (.int i)) (hb : EvB K tb ρ (.int j)) : EvB K (tOp (rI0 fun i j => .int (i - j)) ta tb) ρ (.int (i - j)) := ev_I0 ha hb
theorem ev_mul (ha : EvB K ta ρ (.int i)) (hb : EvB K tb ρ (.int j)) (hc : CMul i j) : EvB K (tOp (rI CMul fun i j => .int (i * j)) ta tb) ρ (.int (i * j)) := ev_I ha hb hc
theorem ev_div (ha : EvB K ta ρ (.int i)) (hb : EvB K tb ρ (.int j)) (hc : CDiv i j) : EvB K (tOp (rI CDiv fun i j => .int (i / j)) ta tb) ρ (.int (i / j)) := ev_I ha hb hc
theorem ev_mod (ha : EvB K ta ρ (.int i)) (hb : EvB K tb ρ (.int j)) (hc : 0 < j) : EvB K (tOp (rI (fun _ j => 0 < j) fun i j => .int (i % j)) ta tb) ρ (.int (i % j)) := ev_I ha hb hc
theorem ev_pow (ha : EvB K ta ρ (.int i)) (hb : EvB K tb ρ (.int j)) (hc : CPow i j) : EvB K (tOp (rI CPow fun i j => .int (i ^ j.toNat)) ta tb) ρ (.int (i ^ j.toNat)) := ev_I ha hb hc
theorem ev_neg (ha : EvB K ta ρ (.int i)) : EvB K (tUn (rU fun i => .int (-i)) ta) ρ (.int (-i)) := fun σ H Q rs q => ha σ H _ rs fun x H1 e1 s1 => ⟨i, s1.int_inv, q _ H1 e1 (.int _)⟩
/-! ### comparisons -/
theorem ev_C0 {g : Int → Int → Bool} (ha : EvB K ta ρ (.int i)) (hb : EvB K tb ρ (.int j)) : EvB K (tOp (rI0 fun i j => .bl (g i j)) ta tb) ρ (.bl (g i j)) :=
  ev_2 ha hb fun x y H Q s1 s2 q => ⟨i, j, s1.int_inv, s2.int_inv, q _ H (Ex.refl H) (.bl _)⟩
theorem dV_int : decide (V.int i = V.int j) = decide (i = j) := by
  by_cases e : i = j
  · subst e; simp
  · rw [decide_eq_false e, decide_eq_false (fun q => e (V.int.inj q))]
theorem dV_str {x y : Str} : decide (V.str x = V.str y) = decide (x = y) := by
  by_cases e : x = y
  · subst e; simp
  · rw [decide_eq_false e, decide_eq_false (fun q => e (V.str.inj q))]
theorem dV_bl {x y : Bool} : decide (V.bl x = V.bl y) = decide (x = y) := by cases x <;> cases y <;> rfl
theorem ev_eqI (ha : EvB K ta ρ (.int i)) (hb : EvB K tb ρ (.int j)) : EvB K (tOp rEq ta tb) ρ (.bl (decide (i = j))) :=
  ev_2 ha hb fun x y H Q s1 s2 q => by rw [s1.int_inv, s2.int_inv]; exact ⟨rfl, by rw [dV_int]; exact q _ H (Ex.refl H) (.bl _)⟩
theorem ev_neI (ha : EvB K ta ρ (.int i)) (hb : EvB K tb ρ (.int j)) : EvB K (tOp rNe ta tb) ρ (.bl (!decide (i = j))) :=
  ev_2 ha hb fun x y H Q s1 s2 q => by rw [s1.int_inv, s2.int_inv]; exact ⟨rfl, by rw [dV_int]; exact q _ H (Ex.refl H) (.bl _)⟩
theorem ev_eqS {x y : Str} (ha : EvB K ta ρ (.str x)) (hb : EvB K tb ρ (.str y)) : EvB K (tOp rEq ta tb) ρ (.bl (decide (x = y))) :=
  ev_2 ha hb fun v w H Q s1 s2 q => by rw [s1.str_inv, s2.str_inv]; exact ⟨rfl, by rw [dV_str]; exact q _ H (Ex.refl H) (.bl _)⟩
theorem ev_neS {x y : Str} (ha : EvB K ta ρ (.str x)) (hb : EvB K tb ρ (.str y)) : EvB K (tOp rNe ta tb) ρ (.bl (!decide (x = y))) :=
  ev_2 ha hb fun v w H Q s1 s2 q => by rw [s1.str_inv, s2.str_inv]; exact ⟨rfl, by rw [dV_str]; exact q _ H (Ex.refl H) (.bl _)⟩
theorem ev_eqL {x y : Bool} (ha : EvB K ta ρ (.bl x)) (hb : EvB K tb ρ (.bl y)) : EvB K (tOp rEq ta tb) ρ (.bl (decide (x = y))) :=
  ev_2 ha hb fun v w H Q s1 s2 q => by rw [s1.bl_inv, s2.bl_inv]; exact ⟨rfl, by rw [dV_bl]; exact q _ H (Ex.refl H) (.bl _)⟩
/-! ### tests -/
theorem et_test (h : EvB K te ρ (.bl b)) : EvT K (tTest te) ρ b := fun σ H Q rs q => h σ H _ rs fun v H1 e s => ⟨b, s.bl_inv, q H1 e⟩
theorem et_B (h : EvB K te ρ (.bl b)) : EvT K (tB te) ρ b := fun σ H Q rs q => h σ H _ rs fun v H1 e s => ⟨b, s.bl_inv, q H1 e⟩
theorem et_not (h : EvT K t ρ b) : EvT K (tNot t) ρ (!b) := fun σ H Q rs q => h σ H _ rs fun H1 e => q H1 e
theorem et_and (h1 : EvT K t ρ b) (h2 : b = true → EvT K u ρ c) : EvT K (tAnd t u) ρ (b && c) := fun σ H Q rs q => h1 σ H _ rs fun H1 e => by
  cases b with
  | true => exact h2 rfl σ H1 Q (rs.mono e) fun H2 e2 => q H2 (e.trans e2)
  | false => exact q H1 e
theorem et_or (h1 : EvT K t ρ b) (h2 : b = false → EvT K u ρ c) : EvT K (tOr t u) ρ (b || c) := fun σ H Q rs q => h1 σ H _ rs fun H1 e => by
  cases b with
  | false => exact h2 rfl σ H1 Q (rs.mono e) fun H2 e2 => q H2 (e.trans e2)
  | true => exact q H1 e
theorem ev_andV (h1 : EvB K ta ρ (.bl b)) (h2 : b = true → EvB K tb ρ (.bl c)) : EvB K (tAndV ta tb) ρ (.bl (b && c)) := fun σ H Q rs q => h1 σ H _ rs fun v H1 e s => ⟨b, s.bl_inv, by
  cases b with
  | true => exact h2 rfl σ H1 Q (rs.mono e) fun v H2 e2 s2 => q v H2 (e.trans e2) s2
  | false => exact q _ H1 e (.bl _)⟩
theorem ev_orV (h1 : EvB K ta ρ (.bl b)) (h2 : b = false → EvB K tb ρ (.bl c)) : EvB K (tOrV ta tb) ρ (.bl (b || c)) := fun σ H Q rs q => h1 σ H _ rs fun v H1 e s => ⟨b, s.bl_inv, by
  cases b with
  | false => exact h2 rfl σ H1 Q (rs.mono e) fun v H2 e2 s2 => q v H2 (e.trans e2) s2
  | true => exact q _ H1 e (.bl _)⟩
theorem ev_notV (h1 : EvB K ta ρ (.bl b)) : EvB K (tNotV ta) ρ (.bl (!b)) := fun σ H Q rs q => h1 σ H _ rs fun v H1 e s => ⟨b, s.bl_inv, q _ H1 e (.bl _)⟩
theorem ev_if (h : EvT K t ρ b) (h1 : b = true → EvB K ta ρ d) (h2 : b = false → EvB K tb ρ d) : EvB K (tIf t ta tb) ρ d := fun σ H Q rs q => h σ H _ rs fun H1 e => by
  cases b with
  | true => exact h1 rfl σ H1 Q (rs.mono e) fun v H2 e2 s2 => q v H2 (e.trans e2) s2
  | false => exact h2 rfl σ H1 Q (rs.mono e) fun v H2 e2 s2 => q v H2 (e.trans e2) s2
theorem et_tru {k : Bool} (h : EvB K te ρ d) (ht : ∀ v H, Sh K H v d → TruV K v H k) : EvT K (fun σ H Q => te σ H fun x H' => ∃ k, TruV K x H' k ∧ Q k H') ρ k := fun σ H Q rs q =>
  h σ H _ rs fun v H1 e s => ⟨k, ht v H1 s, q H1 e⟩
/-! ### items -/
theorem ixN_lt {n : Nat} {i : Int} {k : Nat} (h : ixN n i = some k) : k < n := (ixN_seq h).2.1
theorem atI_sh {H : Hp} {xs : List V} {ds : List Da} (s : Shs K H xs ds) (h : atI ds i = some d) : ∃ v, atI xs i = some v ∧ Sh K H v d := by
  unfold atI at h ⊢
  rw [s.length]
  cases e : ixN ds.length i with
  | none => rw [e] at h; cases h
  | some k =>
    rw [e] at h
    obtain ⟨v, h1, h2⟩ := s.get (i := k) h
    exact ⟨v, h1, h2⟩
theorem ev_ixL {ds : List Da} (ha : EvB K ta ρ (.lst ds)) (hb : EvB K tb ρ (.int i)) (h : atI ds i = some d) : EvB K (tOp (rIx K) ta tb) ρ d :=
  ev_2 ha hb fun x y H Q s1 s2 q => by
    obtain ⟨a, xs, rfl, h1, h2⟩ := s1.lst_inv
    obtain ⟨v, hv, hs⟩ := atI_sh h2 h
    exact .inl ⟨a, xs, i, v, rfl, s2.int_inv, .inl h1, hv, q v H (Ex.refl H) hs⟩
theorem ev_ixT {ds : List Da} (ha : EvB K ta ρ (.tup ds)) (hb : EvB K tb ρ (.int i)) (h : atI ds i = some d) : EvB K (tOp (rIx K) ta tb) ρ d :=
  ev_2 ha hb fun x y H Q s1 s2 q => by
    obtain ⟨a, xs, rfl, h1, h2⟩ := s1.tup_inv
    obtain ⟨v, hv, hs⟩ := atI_sh h2 h
    exact .inr (.inl ⟨a, xs, i, v, rfl, s2.int_inv, h1, hv, q v H (Ex.refl H) hs⟩)
theorem ev_ixS {z : Str} {c : Nat} (ha : EvB K ta ρ (.str z)) (hb : EvB K tb ρ (.int i)) (hl : z.length ≤ sizeLine) (h : atI z.cps.toList i = some c) : EvB K (tOp (rIx K) ta tb) ρ (.str ⟨#[c]⟩) :=
  ev_2 ha hb fun x y H Q s1 s2 q => .inr (.inr ⟨z, i, c, s1.str_inv, s2.int_inv, hl, h, q _ H (Ex.refl H) (.str _)⟩)
theorem atI_nat' {α : Type} {xs : List α} {k : Nat} {v : α} (e : i = (k : Int)) (h : xs[k]? = some v) : atI xs i = some v := by subst e; exact atI_nat h
theorem atI_map {α : Type} {xs : List α} {f : α → Da} {k : Nat} {v : α} (e : i = (k : Int)) (h : xs[k]? = some v) : atI (xs.map f) i = some (f v) := atI_nat' e (by rw [List.getElem?_map, h]; rfl)
/-- a shared tuple's item, a shared list's -/
theorem evs_ixT {ds : List Da} {k : Nat} (ha : EvS K B0 ta ρ (.tup ds) ρ') (hb : ∀ ρ, EvB K tb ρ (.int i)) (e : i = (k : Int)) (h : ds[k]? = some d) : EvS K B0 (tOp (rIx K) ta tb) ρ d ρ' := fun φ τ σ H Q l s q =>
  ha φ τ σ H _ l s fun x H1 e1 s1 => hb ρ' σ H1 _ ((s1.pop).drop l).rs fun y H2 e2 s2 => by
    obtain ⟨a, xs, z, rfl, h1, hl, hz, s3⟩ := (s1.ex e2).shItem h
    exact .inr (.inl ⟨a, xs, i, z, rfl, s2.int_inv, h1, by subst e; exact atI_nat hz, q z H2 (e1.trans e2) s3⟩)
theorem evs_ixL {ds : List Da} {k : Nat} (ha : EvS K B0 ta ρ (.lst ds) ρ') (hb : ∀ ρ, EvB K tb ρ (.int i)) (e : i = (k : Int)) (h : ds[k]? = some d) : EvS K B0 (tOp (rIx K) ta tb) ρ d ρ' := fun φ τ σ H Q l s q =>
  ha φ τ σ H _ l s fun x H1 e1 s1 => hb ρ' σ H1 _ ((s1.pop).drop l).rs fun y H2 e2 s2 => by
    obtain ⟨a, xs, z, rfl, h1, hl, hz, s3⟩ := (s1.ex e2).shItemL h
    exact .inl ⟨a, xs, i, z, rfl, s2.int_inv, h1, by subst e; exact atI_nat hz, q z H2 (e1.trans e2) s3⟩
/-! ### arguments, displays -/
theorem ea_nil : EvA K tNil ρ [] := fun σ H Q _ q => q [] H (Ex.refl H) .nil
theorem ea_cons {tr : TA} {ds : List Da} (h : EvB K ta ρ d) (hr : EvA K tr ρ ds) : EvA K (tCons ta tr) ρ (d :: ds) := fun σ H Q rs q =>
  h σ H _ rs fun x H1 e1 s1 => hr σ H1 _ (rs.mono e1) fun vs H2 e2 s2 => q (x :: vs) H2 (e1.trans e2) (.cons (s1.mono e2) s2)
theorem eaf_nil : EvAF K tNil ρ [] := fun σ H Q _ q => q [] H [] (Ex.refl H) .nil (fun _ z => nomatch z) List.nodup_nil
theorem eaf_cons {tr : TA} {ds : List Da} (h : EvF K ta ρ d) (hr : EvAF K tr ρ ds) : EvAF K (tCons ta tr) ρ (d :: ds) := fun σ H Q rs q =>
  h σ H _ rs fun x H1 F1 e1 s1 f1 n1 => hr σ H1 _ (rs.mono e1) fun vs H2 F2 e2 s2 f2 n2 => q (x :: vs) H2 (F1 ++ F2) (e1.trans e2) (.cons (s1.mono e2) s2)
    (fun a m => (List.mem_append.mp m).elim (f1 a) fun z => e1.back (f2 a z)) (List.nodup_append.mpr ⟨n1, n2, fun a ha b hb e => by
      obtain ⟨u, hu⟩ := s1.there a ha
      rw [e, f2 b hb] at hu
      cases hu⟩)
theorem ef_tup {t : TA} {ds : List Da} (h : EvAF K t ρ ds) (hl : ds.length ≤ 100000) : EvF K (tTup t) ρ (.tup ds) := fun σ H Q rs q =>
  h σ H _ rs fun vs H1 F e s f n => ⟨by rw [s.length]; exact Nat.le_trans hl (by decide), fun p hp => q _ _ F (e.trans (.new hp)) (.tup upd_same (s.mono (.new hp))) f n⟩
theorem not_in {H : Hp} {vs : List V} {ds : List Da} {F : List Addr} {p : Addr} (s : Owns K H vs ds F) (hp : H p = none) (z : p ∈ F) : False := by
  obtain ⟨u, hu⟩ := s.there p z
  rw [hp] at hu
  cases hu
theorem ef_lst {t : TA} {ds : List Da} (h : EvAF K t ρ ds) (hl : ds.length ≤ 100000) : EvF K (tLst t) ρ (.lst ds) := fun σ H Q rs q =>
  h σ H _ rs fun vs H1 F e s f n => ⟨by rw [s.length]; exact Nat.le_trans hl (by decide), fun p hp => q _ _ (p :: F) (e.trans (.new hp)) (.lst upd_same (s.mono (.new hp)))
    (fun a m => (List.mem_cons.mp m).elim (fun z => z ▸ e.back hp) (f a)) (List.nodup_cons.mpr ⟨fun z => not_in s hp z, n⟩)⟩
/-! ### calls of one's own -/
/-- the promise of a def that changes nothing: from what its arguments stand for to what is told -/
def spF (K : PySem.W.Frag) (G : List Da → Da → Prop) : Sp := fun vs H Q _ => ∃ ds d, Shs K H vs ds ∧ G ds d ∧ ∀ v H' F, Ex H H' → Own K H' v d F → (∀ a, a ∈ F → H a = none) → F.Nodup → Q v H'
theorem ev_call {G : List Da → Da → Prop} {E : XK} {t : TA} {ds : List Da} (h : EvA K t ρ ds) (g : G ds d) : EvF K (tCall (spF K G) [] E t) ρ d := fun σ H Q rs q =>
  h σ H _ rs fun vs H1 e s => ⟨ds, d, by rw [List.append_nil]; exact s, g, fun v H' F e2 w f n => q v H' F (e.trans e2) w (fun a m => e.back (f a m)) n⟩
theorem Shs.const {H : Hp} : ∀ {dvs : List V} {dds : List Da}, (∀ H, Shs K H dvs dds) → Shs K H dvs dds := fun h => h H
theorem ev_callD {G : List Da → Da → Prop} {E : XK} {t : TA} {ds dds : List Da} {dvs : List V} (h : EvA K t ρ ds) (hd : ∀ H, Shs K H dvs dds) (g : G (ds ++ dds) d) : EvF K (tCall (spF K G) dvs E t) ρ d := fun σ H Q rs q =>
  h σ H _ rs fun vs H1 e s => ⟨ds ++ dds, d, s.append (hd H1), g, fun v H' F e2 w f n => q v H' F (e.trans e2) w (fun a m => e.back (f a m)) n⟩
/-! ### built-in calls -/
abbrev rLenV (K : PySem.W.Frag) : List V → Hp → VK → Prop := fun xs H Q => ∃ x n, xs = [x] ∧ LenV K x H n ∧ Q (.int n) H
abbrev rListOf (K : PySem.W.Frag) : List V → Hp → VK → Prop := fun xs H Q => ∃ p ys, xs = [.ref p] ∧ (SqL K H p ys ∨ SqT K H p ys) ∧ ∀ l, H l = none → Q (.ref l) (upd H l (.lst ys))
abbrev rTupOf (K : PySem.W.Frag) : List V → Hp → VK → Prop := fun xs H Q => ∃ p ys, xs = [.ref p] ∧ ((SqL K H p ys ∧ ∀ l, H l = none → Q (.ref l) (upd H l (.tup ys))) ∨ (SqT K H p ys ∧ Q (.ref p) H))
theorem ev_len {t : TE} {ds : List Da} (h : EvB K t ρ (.lst ds)) : EvB K (tCB (rLenV K) (tCons t tNil)) ρ (.int ds.length) := fun σ H Q rs q =>
  h σ H _ rs fun v H1 e s => by
    obtain ⟨a, xs, rfl, h1, h2⟩ := s.lst_inv
    exact ⟨_, _, rfl, .inl ⟨xs, .inl h1, rfl⟩, by rw [h2.length]; exact q _ H1 e (.int _)⟩
theorem ev_lenT {t : TE} {ds : List Da} (h : EvB K t ρ (.tup ds)) : EvB K (tCB (rLenV K) (tCons t tNil)) ρ (.int ds.length) := fun σ H Q rs q =>
  h σ H _ rs fun v H1 e s => by
    obtain ⟨a, xs, rfl, h1, h2⟩ := s.tup_inv
    exact ⟨_, _, rfl, .inr ⟨xs, h1, rfl⟩, by rw [h2.length]; exact q _ H1 e (.int _)⟩
theorem ev_lenS {t : TE} {z : Str} (h : EvB K t ρ (.str z)) (hl : z.length ≤ sizeLine) : EvB K (tCB (rLenV K) (tCons t tNil)) ρ (.int z.length) := fun σ H Q rs q =>
  h σ H _ rs fun v H1 e s => by
    cases s
    exact ⟨_, _, rfl, ⟨hl, rfl⟩, q _ H1 e (.int _)⟩
/-- a new list, tuple of the items -/
theorem own_lst {H : Hp} {p : Addr} {xs : List V} {ds : List Da} (s : Shs K H xs ds) (im : Da.imms ds = true) (hp : H p = none) : Own K (upd H p (.lst xs)) (.ref p) (.lst ds) [p] := .lst upd_same ((s.own im).mono (.new hp))
theorem own_tup {H : Hp} {p : Addr} {xs : List V} {ds : List Da} (s : Shs K H xs ds) (im : Da.imms ds = true) (hp : H p = none) : Own K (upd H p (.tup xs)) (.ref p) (.tup ds) [] := .tup upd_same ((s.own im).mono (.new hp))
theorem nodup_one {p : Addr} : [p].Nodup := List.nodup_cons.mpr ⟨(fun z => nomatch z), List.nodup_nil⟩
theorem one_none {H : Hp} {p : Addr} (hp : H p = none) : ∀ a, a ∈ [p] → H a = none := fun a m => by rw [List.mem_singleton.mp m]; exact hp
theorem ef_listL {t : TE} {ds : List Da} (h : EvB K t ρ (.lst ds)) (im : Da.imms ds = true) : EvF K (tCB (rListOf K) (tCons t tNil)) ρ (.lst ds) := fun σ H Q rs q =>
  h σ H _ rs fun v H1 e s => by
    obtain ⟨a, xs, rfl, h1, h2⟩ := s.lst_inv
    exact ⟨a, xs, rfl, .inl (.inl h1), fun l hl => q _ _ [l] (e.trans (.new hl)) (own_lst h2 im hl) (fun a m => e.back (one_none hl a m)) (nodup_one)⟩
theorem ef_listT {t : TE} {ds : List Da} (h : EvB K t ρ (.tup ds)) (im : Da.imms ds = true) : EvF K (tCB (rListOf K) (tCons t tNil)) ρ (.lst ds) := fun σ H Q rs q =>
  h σ H _ rs fun v H1 e s => by
    obtain ⟨a, xs, rfl, h1, h2⟩ := s.tup_inv
    exact ⟨a, xs, rfl, .inr h1, fun l hl => q _ _ [l] (e.trans (.new hl)) (own_lst h2 im hl) (fun a m => e.back (one_none hl a m)) (nodup_one)⟩
theorem ef_tupL {t : TE} {ds : List Da} (h : EvB K t ρ (.lst ds)) (im : Da.imms ds = true) : EvF K (tCB (rTupOf K) (tCons t tNil)) ρ (.tup ds) := fun σ H Q rs q =>
  h σ H _ rs fun v H1 e s => by
    obtain ⟨a, xs, rfl, h1, h2⟩ := s.lst_inv
    exact ⟨a, xs, rfl, .inl ⟨.inl h1, fun l hl => q _ _ [] (e.trans (.new hl)) (own_tup h2 im hl) (fun a m => nomatch m) List.nodup_nil⟩⟩
theorem ef_tupT {t : TE} {ds : List Da} (h : EvB K t ρ (.tup ds)) : EvB K (tCB (rTupOf K) (tCons t tNil)) ρ (.tup ds) := fun σ H Q rs q =>
  h σ H _ rs fun v H1 e s => by
    obtain ⟨a, xs, rfl, h1, h2⟩ := s.tup_inv2
    exact ⟨a, xs, rfl, .inr ⟨.of h1, q _ H1 e (.tup h1 h2)⟩⟩
theorem ef_divmod {ta tb : TE} (ha : EvB K ta ρ (.int i)) (hb : EvB K tb ρ (.int j)) (hc : CDiv i j) : EvF K (tCB (fun xs H Q => ∃ i j, xs = [.int i, .int j] ∧ CDiv i j ∧ ∀ p, H p = none → Q (.ref p) (upd H p (.tup [.int (i / j), .int (i % j)]))) (tCons ta (tCons tb tNil))) ρ (.tup [.int (i / j), .int (i % j)]) := fun σ H Q rs q =>
  (ea_cons ha (ea_cons hb ea_nil)) σ H _ rs fun vs H1 e s => by
    cases s with
    | cons s1 s2 =>
      cases s2 with
      | cons s2 s3 =>
        cases s3
        cases s1; cases s2
        exact ⟨i, j, rfl, hc, fun p hp => q _ _ [] (e.trans (.new hp)) (own_tup (.cons (.int _) (.cons (.int _) .nil)) rfl hp) (fun a m => nomatch m) List.nodup_nil⟩
/-! ### the script -/
theorem ev_ixScr {ns : List Int} {k : Nat} {n : Int} (ha : EvB K ta ρ (.scr ns)) (hb : EvB K tb ρ (.int i)) (e : i = (k : Int)) (h : ns[k]? = some n) : EvB K (tOp (rIx K) ta tb) ρ (.int n) :=
  ev_2 ha hb fun x y H Q s1 s2 q => by
    obtain ⟨a, rfl, h1⟩ := s1.scr_inv
    exact .inl ⟨a, _, i, .int n, rfl, s2.int_inv, h1, atI_nat' e (by rw [List.getElem?_map, h]; rfl), q _ H (Ex.refl H) (.int n)⟩
theorem ev_lenScr {t : TE} {ns : List Int} (h : EvB K t ρ (.scr ns)) : EvB K (tCB (rLenV K) (tCons t tNil)) ρ (.int ns.length) := fun σ H Q rs q =>
  h σ H _ rs fun v H1 e s => by
    obtain ⟨a, rfl, h1⟩ := s.scr_inv
    exact ⟨_, _, rfl, .inl ⟨_, h1, rfl⟩, by rw [List.length_map]; exact q _ H1 e (.int _)⟩
end
/-! ### lists joined, repeated, cut -/
section
variable {X : Cx} {pins : List (Addr × Obj)} {σ : L2.St} {H : Hp} {s : Shared}
theorem lstR (I : Inv X pins σ H s) {l : Addr} {xs : List V} (hH : Rd H l (.lst xs)) : xs.length ≤ sizeLine ∧ ∃ (its : List Value) (n : Nat), Vals xs its ∧ xs.length = its.length ∧ s.heap.get? l = some { cls := .type "list", data := .seq its.toArray n } := by
  obtain ⟨z, its, n, r, e⟩ := hH.ok I.hok
  exact ⟨z, its, n, r, r.length, e⟩
/-- xs + ys, lists that are read -/
def rCatR : R2 := fun x y H Q => ∃ l b xs zs, x = .ref l ∧ y = .ref b ∧ Rd H l (.lst xs) ∧ Rd H b (.lst zs) ∧ xs.length + zs.length ≤ sizeLine ∧ ∀ p, H p = none → Q (.ref p) (upd H p (.lst (xs ++ zs)))
theorem op_catR : OpR X (binaryOp .Add) rCatR := by
  intro pins s σ H x y v u Q I rx ry h
  obtain ⟨l, b, xs, zs, rfl, rfl, hH, hB, hz, q⟩ := h
  cases rx
  cases ry
  obtain ⟨z, its, n, r, hl, e⟩ := lstR I hH
  obtain ⟨z2, its2, n2, r2, hl2, e2⟩ := lstR I hB
  refine PySem.P.add_list e e2 ?_ (by rw [List.size_toArray, List.size_toArray]; omega)
  have ea : its.toArray ++ its2.toArray = (its ++ its2).toArray := by simp
  rw [ea]
  exact ⟨.ref _, _, I.lnew (t' := s.toks) (r.append r2) (by rw [List.length_append]; omega), rfl, q _ I.fresh⟩
end
section
variable {K : PySem.W.Frag} {B0 : Hp} {ρ ρ' ρ2 : List Sd} {te ta tb tc : TE} {t u : TT} {d d1 d2 : Da} {i j : Int}
theorem imms_app {ds es : List Da} (h : Da.imms ds = true) (g : Da.imms es = true) : Da.imms (ds ++ es) = true := by
  induction ds with
  | nil => exact g
  | cons d l ih =>
    have h' : (d.imm && Da.imms l) = true := h
    rw [Bool.and_eq_true] at h'
    show (d.imm && Da.imms (l ++ es)) = true
    rw [h'.1, ih h'.2]; rfl
theorem ef_cat {ds es : List Da} (ha : EvB K ta ρ (.lst ds)) (hb : EvB K tb ρ (.lst es)) (im : Da.imms ds = true) (im2 : Da.imms es = true) (hl : ds.length + es.length ≤ 100000) : EvF K (tOp rCatR ta tb) ρ (.lst (ds ++ es)) :=
  ev_2F ha hb fun x y H Q s1 s2 q => by
    obtain ⟨a, xs, rfl, h1, h2⟩ := s1.lst_inv
    obtain ⟨b, ys, rfl, h3, h4⟩ := s2.lst_inv
    exact ⟨a, b, xs, ys, rfl, rfl, h1, h3, by rw [h2.length, h4.length]; exact Nat.le_trans hl (by decide), fun p hp => q _ _ [p] (.new hp) (own_lst (h2.append h4) (imms_app im im2) hp) (one_none hp) nodup_one⟩
theorem imms_rep {d : Da} (h : d.imm = true) : ∀ n : Nat, Da.imms (List.replicate n d) = true
  | 0 => rfl
  | n + 1 => by
    show (d.imm && Da.imms (List.replicate n d)) = true
    rw [h, imms_rep h n]; rfl
theorem shs_rep {H : Hp} {v : V} {d : Da} (h : Sh K H v d) : ∀ n : Nat, Shs K H (List.replicate n v) (List.replicate n d)
  | 0 => .nil
  | n + 1 => .cons h (shs_rep h n)
theorem flat_rep {α : Type} (x : α) : ∀ n : Nat, (List.replicate n [x]).flatten = List.replicate n x
  | 0 => rfl
  | n + 1 => by
    rw [List.replicate_succ, List.flatten_cons, flat_rep x n]; rfl
/-- [x] * n -/
theorem ef_rep (ha : EvF K ta ρ (.lst [d])) (hb : EvB K tb ρ (.int i)) (im : d.imm = true) (h1 : -(2 ^ 63) ≤ i) (h2 : i ≤ 100000) : EvF K (tOp rRep ta tb) ρ (.lst (List.replicate i.toNat d)) := fun σ H Q rs q =>
  ha σ H _ rs fun x H1 F1 e1 s1 f1 n1 => hb σ H1 _ (rs.mono e1) fun y H2 e2 s2 => by
    obtain ⟨a, xs, G1, rfl, rfl, h3, h4⟩ := s1.lst_inv
    cases h4 with
    | @cons v vs _ _ _ _ o1 o2 =>
      cases o2
      have hi := s2.int_inv
      refine ⟨a, i, [v], rfl, hi, e2.lst h3, h1, by omega, ?_, fun p hp => ?_⟩
      · show 1 * i.toNat ≤ sizeLine
        have : (100000 : Nat) ≤ sizeLine := by decide
        omega
      · have e3 := (e1.trans e2).trans (Ex.new (o := .lst (List.replicate i.toNat [v]).flatten) hp)
        refine q _ _ [p] e3 ?_ (fun a m => (e1.trans e2).back (one_none hp a m)) nodup_one
        rw [flat_rep]
        exact own_lst (shs_rep (o1.sh.mono e2) _) (imms_rep im _) hp
end
end Fw

set_option Elab.async false
set_option linter.all false
set_option maxRecDepth 100000
set_option maxHeartbeats 4000000
namespace Fw
open PySem L2
/-! ### statements: from states to states -/
structure Po where
  nx : List Sd → Prop
  rt : Da → Prop
  bk : List Sd → Prop := fun _ => False
  ct : List Sd → Prop := fun _ => False
def J (K : PySem.W.Frag) (B0 : Hp) (ts : TS) (ρ : List Sd) (P : Po) : Prop := ∀ (φ : List Sd) (τ : L2.St) (D : Ends) (σ : L2.St) (H : Hp), φ.length = τ.length →
  (∀ ρ' σ' H', P.nx ρ' → Sta K B0 (φ ++ ρ') (τ ++ σ') H' → D.nx σ' H') →
  (∀ d v H', P.rt d → Sta K B0 (ow d :: φ) (some v :: τ) H' → D.rt v H') →
  (∀ ρ' σ' H', P.bk ρ' → Sta K B0 (φ ++ ρ') (τ ++ σ') H' → D.bk σ' H') →
  (∀ ρ' σ' H', P.ct ρ' → Sta K B0 (φ ++ ρ') (τ ++ σ') H' → D.ct σ' H') →
  Sta K B0 (φ ++ ρ) (τ ++ σ) H → ts D σ H
section
variable {K : PySem.W.Frag} {B0 : Hp} {ρ ρ' ρ1 ρ2 : List Sd} {te ta tb tc : TE} {t u : TT} {d d1 d2 : Da} {b c : Bool} {i j : Int} {P P' : Po} {ts t1 t2 : TS}
theorem J.mono (h : J K B0 ts ρ P) (h1 : ∀ r, P.nx r → P'.nx r) (h2 : ∀ d, P.rt d → P'.rt d) (h3 : ∀ r, P.bk r → P'.bk r) (h4 : ∀ r, P.ct r → P'.ct r) : J K B0 ts ρ P' := fun φ τ D σ H l n r bk ct s =>
  h φ τ D σ H l (fun ρ' σ' H' q => n ρ' σ' H' (h1 _ q)) (fun d v H' q => r d v H' (h2 _ q)) (fun ρ' σ' H' q => bk ρ' σ' H' (h3 _ q)) (fun ρ' σ' H' q => ct ρ' σ' H' (h4 _ q)) s
theorem j_seq (h : J K B0 t1 ρ { P with nx := fun ρ' => J K B0 t2 ρ' P }) : J K B0 (tSeq t1 t2) ρ P := fun φ τ D σ H l n r bk ct s =>
  h φ τ { D with nx := t2 D } σ H l (fun ρ' σ' H' q z => q φ τ D σ' H' l n r bk ct z) r bk ct s
theorem j_next (h : P.nx ρ) : J K B0 tNext ρ P := fun φ τ D σ H l n r bk ct s => n ρ σ H h s
theorem j_break (h : P.bk ρ) : J K B0 tBreak ρ P := fun φ τ D σ H l n r bk ct s => bk ρ σ H h s
theorem j_cont (h : P.ct ρ) : J K B0 tCont ρ P := fun φ τ D σ H l n r bk ct s => ct ρ σ H h s
/-- x = e -/
theorem j_asg {k : Nat} (h : EvM K B0 te ρ d ρ1) (hk : k < ρ1.length) (q : P.nx (ρ1.set k (ow d))) : J K B0 (tAsg te (gName k)) ρ P := fun φ τ D σ H l n r bk ct s =>
  h φ τ σ H _ l s fun v H1 e z => n _ _ _ q (z.putF l hk)
/-- x = e, e shared -/
theorem j_asgS {k : Nat} (h : EvS K B0 te ρ d ρ1) (hk : k < ρ1.length) (q : P.nx (ρ1.set k (sh d))) : J K B0 (tAsg te (gName k)) ρ P := fun φ τ D σ H l n r bk ct s =>
  h φ τ σ H _ l s fun v H1 e z => n _ _ _ q (z.putF l hk)
theorem j_drop (h : EvB K te ρ d) (q : P.nx ρ) : J K B0 (tDrop te) ρ P := fun φ τ D σ H l n r bk ct s =>
  h σ H _ (Rs.f l s) fun v H1 e z => n _ _ _ q (s.ex e)
theorem Sta.front {v : V} {H : Hp} {φ : List Sd} {τ σ : L2.St} (l : φ.length = τ.length) (s : Sta K B0 (ow d :: (φ ++ ρ)) (some v :: (τ ++ σ)) H) : Sta K B0 (ow d :: φ) (some v :: τ) H := by
  obtain ⟨B, F, e1, e2, sl, nd⟩ := s
  have sl' : Slots K B H ((ow d :: φ) ++ ρ) ((some v :: τ) ++ σ) F := sl
  obtain ⟨F1, F2, rfl, a, b⟩ := sl'.split (by simp only [List.length_cons, l])
  exact ⟨B, F1, e1, e2, a, (List.nodup_append.mp nd).1⟩
theorem j_ret (h : EvM K B0 te ρ d ρ1) (q : P.rt d) : J K B0 (tRet te) ρ P := fun φ τ D σ H l n r bk ct s =>
  h φ τ σ H _ l s fun v H1 e z => r d v H1 q (Sta.front (φ := φ) (τ := τ) l z)
theorem j_if (h : EvT K t ρ b) (h1 : b = true → J K B0 t1 ρ P) (h2 : b = false → J K B0 t2 ρ P) : J K B0 (tIfS t t1 t2) ρ P := fun φ τ D σ H l n r bk ct s =>
  h σ H _ (Rs.f l s) fun H1 e => by
    cases b with
    | true => exact h1 rfl φ τ D σ H1 l n r bk ct (s.ex e)
    | false => exact h2 rfl φ τ D σ H1 l n r bk ct (s.ex e)
theorem j_ifP {c : Prop} [Decidable c] (h : EvT K t ρ (decide c)) (h1 : c → J K B0 t1 ρ P) (h2 : ¬ c → J K B0 t2 ρ P) : J K B0 (tIfS t t1 t2) ρ P :=
  j_if h (fun e => h1 (of_decide_eq_true e)) (fun e => h2 (of_decide_eq_false e))
theorem j_yes (h : EvT K t ρ b) (e : b = true) (h1 : J K B0 t1 ρ P) : J K B0 (tIfS t t1 t2) ρ P := j_if h (fun _ => h1) (fun z => by rw [e] at z; cases z)
theorem j_no (h : EvT K t ρ b) (e : b = false) (h2 : J K B0 t2 ρ P) : J K B0 (tIfS t t1 t2) ρ P := j_if h (fun z => by rw [e] at z; cases z) (fun _ => h2)
/-! ### a, b = a tuple -/
def setAll (ρ : List Sd) : List Nat → List Sd → List Sd
  | k :: ks, s :: ss => setAll (ρ.set k s) ks ss
  | _, _ => ρ
def setV (σ : L2.St) : List Nat → List V → L2.St
  | k :: ks, v :: vs => setV (σ.set k (some v)) ks vs
  | _, _ => σ
def gNs : List Nat → TGs
  | [] => gNil
  | k :: ks => gCons (gName k) (gNs ks)
theorem gNs_ok : ∀ {ks : List Nat} {vs : List V} {σ : L2.St} {H : Hp} {Q : L2.St → Hp → Prop}, vs.length = ks.length → Q (setV σ ks vs) H → gNs ks vs σ H Q
  | [], [], _, _, _, _, q => ⟨rfl, q⟩
  | k :: ks, v :: vs, σ, H, Q, l, q => ⟨v, vs, rfl, gNs_ok (ks := ks) (by simpa using l) q⟩
theorem setAll_len : ∀ {ρ : List Sd} {ks : List Nat} {ss : List Sd}, (setAll ρ ks ss).length = ρ.length
  | _, [], ss => by cases ss <;> rfl
  | _, _ :: _, [] => rfl
  | ρ, k :: ks, s :: ss => by
    show (setAll (ρ.set k s) ks ss).length = _
    rw [setAll_len (ρ := ρ.set k s), List.length_set]
/-- the values in front, put into slots -/
theorem Sta.putAll {H : Hp} {φ : List Sd} {τ : L2.St} (l : φ.length = τ.length) : ∀ {ks : List Nat} {ss : List Sd} {vs : List V} {ρ : List Sd} {σ : L2.St}, vs.length = ss.length → ss.length = ks.length → (∀ k, k ∈ ks → k < ρ.length) →
    Sta K B0 (ss ++ (φ ++ ρ)) (vs.map some ++ (τ ++ σ)) H → Sta K B0 (φ ++ setAll ρ ks ss) (τ ++ setV σ ks vs) H
  | [], [], [], ρ, σ, _, _, _, s => s
  | k :: ks, s0 :: ss, v :: vs, ρ, σ, l1, l2, hk, s => by
    refine Sta.putAll (ks := ks) (ss := ss) (vs := vs) l (by simpa using l1) (by simpa using l2) (fun k' m => by rw [List.length_set]; exact hk k' (List.mem_cons_of_mem _ m)) ?_
    have s' : Sta K B0 (s0 :: ((ss ++ φ) ++ ρ)) (some v :: ((vs.map some ++ τ) ++ σ)) H := by
      rw [List.append_assoc, List.append_assoc]
      exact s
    have z := s'.putF (φ := ss ++ φ) (τ := vs.map some ++ τ) (i := k) (by
      rw [List.length_append, List.length_append, List.length_map, l]
      have : vs.length = ss.length := by simpa using l1
      rw [this]) (hk k List.mem_cons_self)
    rw [List.append_assoc, List.append_assoc] at z
    exact z
theorem Slots.ofOwns {B H : Hp} : ∀ {vs : List V} {ds : List Da} {F : List Addr}, Owns K H vs ds F → (∀ a, a ∈ F → B a = none) → Slots K B H (ds.map ow) (vs.map some) F
  | _, _, _, .nil, _ => .nil
  | _, _, _, .cons h t, f => .cons (.ow h fun a m => f a (List.mem_append_left _ m)) (Slots.ofOwns t fun a m => f a (List.mem_append_right _ m))
theorem Slots.ofShs {B H : Hp} : ∀ {vs : List V} {ds : List Da}, Shs K B vs ds → Slots K B H (ds.map sh) (vs.map some) []
  | _, _, .nil => .nil
  | _, _, .cons h t => Slots.cons (F := []) (G := []) (.sh h) (Slots.ofShs t)
theorem j_asgT {ks : List Nat} {ds : List Da} {n : Nat} (h : EvM K B0 te ρ (.tup ds) ρ1) (hn : ds.length = n) (hl : n = ks.length) (hk : ∀ k, k ∈ ks → k < ρ1.length) (q : P.nx (setAll ρ1 ks (ds.map ow))) : J K B0 (tAsg te (gTup K n (gNs ks))) ρ P := fun φ τ D σ H l nx r bk ct s =>
  h φ τ σ H _ l s fun v H1 e z => by
    obtain ⟨B, F, e1, e2, sl, nd⟩ := z
    cases sl with
    | cons a b =>
      cases a with
      | ow a f =>
        obtain ⟨p, xs, rfl, h1, h2⟩ := a.tup_inv
        refine ⟨p, xs, rfl, h1, h2.length.trans hn, gNs_ok (by rw [h2.length, hn, hl]) ?_⟩
        refine nx _ _ _ q (Sta.putAll (ss := ds.map ow) l (by rw [List.length_map]; exact h2.length) (by rw [List.length_map, hn, hl]) hk ?_)
        exact ⟨B, _, e1, e2, (Slots.ofOwns h2 f).join b, nd⟩
theorem j_asgTS {ks : List Nat} {ds : List Da} {n : Nat} (h : EvS K B0 te ρ (.tup ds) ρ1) (hn : ds.length = n) (hl : n = ks.length) (hk : ∀ k, k ∈ ks → k < ρ1.length) (q : P.nx (setAll ρ1 ks (ds.map sh))) : J K B0 (tAsg te (gTup K n (gNs ks))) ρ P := fun φ τ D σ H l nx r bk ct s =>
  h φ τ σ H _ l s fun v H1 e z => by
    obtain ⟨B, F, e1, e2, sl, nd⟩ := z
    cases sl with
    | cons a b =>
      cases a with
      | sh a =>
        obtain ⟨p, xs, rfl, h1, h2⟩ := a.tup_inv
        refine ⟨p, xs, rfl, ex_t e2 h1, h2.length.trans hn, gNs_ok (by rw [h2.length, hn, hl]) ?_⟩
        refine nx _ _ _ q (Sta.putAll (ss := ds.map sh) l (by rw [List.length_map]; exact h2.length) (by rw [List.length_map, hn, hl]) hk ?_)
        exact ⟨B, _, e1, e2, (Slots.ofShs h2).join b, nd⟩
/-! ### lists changed -/
theorem EvB.int {H : Hp} {σ : L2.St} {Q : VK} (h : EvB K te ρ (.int i)) (rs : Rs K H ρ σ) (q : ∀ H', Ex H H' → Q (.int i) H') : te σ H Q := h σ H Q rs fun v H' e s => by rw [s.int_inv]; exact q H' e
/-- xs.append(e) -/
theorem j_append {k : Nat} {ds : List Da} (h : EvM K B0 te ρ d ρ1) (hρ : ρ[k]? = some (some (true, .lst ds))) (hk : ρ1[k]? = some (some (true, .lst ds))) (hl : ds.length < 100000) (q : P.nx (ρ1.set k (ow (.lst (ds ++ [d]))))) : J K B0 (tDrop (tBM K "list" rAppend (tVar k) (tCons te tNil))) ρ P := fun φ τ D σ H l nx r bk ct s => by
  obtain ⟨B, F, e1, e2, sl, nd⟩ := id s
  obtain ⟨w0, hw0, _⟩ := (s.drop l).rs.2 k true _ hρ
  have ty : ∃ p xs, w0 = .ref p ∧ H p = some (.lst xs) := by
    obtain ⟨p, xs, G, F1, B, hv, hp, _⟩ := (Sta.push (d := .non) (v := .non) (F := []) s (Ex.refl H) .non (fun _ z => nomatch z) List.nodup_nil).rewL (i := φ.length + k) (ds := ds) (by rw [get_app rfl]; exact hρ)
    rw [get_app l.symm, hw0] at hv
    cases hv
    exact ⟨p, xs, rfl, hp⟩
  obtain ⟨p0, xs0, rfl, hp0⟩ := ty
  refine ⟨.ref p0, hw0, .inl ⟨rfl, xs0, .of hp0⟩, ?_⟩
  refine h φ τ σ H _ l s fun v H1 e z => ?_
  obtain ⟨p, xs, G, F1, B1, hv, hp, ws, a, eB, nd1, pG, pF, k1⟩ := z.rewL (i := φ.length + k) (ds := ds) (by rw [get_app rfl]; exact hk)
  rw [get_app l.symm, hw0] at hv
  cases hv
  cases a with
  | ow w1 f1 =>
    refine ⟨p0, xs, v, rfl, rfl, hp, by rw [ws.length]; exact Nat.lt_of_lt_of_le hl (by decide), ?_⟩
    have q2 := k1 (xs ++ [v]) (ds ++ [d]) (G ++ (F1 ++ [])) (ws.append (.cons w1 .nil)) (fun a m => by
      rw [List.append_nil] at m
      exact List.mem_append.mp m) (by
        rw [List.append_nil]
        obtain ⟨m1, m2, m3⟩ := List.nodup_append.mp nd1
        exact List.nodup_append.mpr ⟨m2, m1, fun x hx y hy e => m3 y hy x hx e.symm⟩)
    rw [set_app rfl] at q2
    exact nx _ _ _ q q2
/-- xs.insert(0, e) -/
theorem j_insert0 {k : Nat} {ds : List Da} (h : EvB K te ρ d) (im : d.imm = true) (hk : ρ[k]? = some (some (true, .lst ds))) (hl : ds.length < 100000) (q : P.nx (ρ.set k (ow (.lst (d :: ds))))) {tb : TE} (hb : EvB K tb ρ (.int 0))
    {R : V → List V → Hp → VK → Prop} (hR : ∀ (l : Addr) (xs : List V) (y : V) (H : Hp) (Q : VK), H l = some (.lst xs) → xs.length < sizeLine → Q .non (upd H l (.lst (y :: xs))) → R (.ref l) [.int 0, y] H Q) :
    J K B0 (tDrop (tBM K "list" R (tVar k) (tCons tb (tCons te tNil)))) ρ P := fun φ τ D σ H l nx r bk ct s => by
  have s0 := Sta.push (d := .non) (v := .non) (F := []) s (Ex.refl H) .non (fun _ z => nomatch z) List.nodup_nil
  obtain ⟨p, xs, G, F1, B, hv, hp, _⟩ := s0.rewL (i := φ.length + k) (ds := ds) (by rw [get_app rfl]; exact hk)
  rw [get_app l.symm] at hv
  refine ⟨.ref p, hv, .inl ⟨rfl, xs, .of hp⟩, ?_⟩
  refine hb.int (Rs.f l s) fun H1 e1 => ?_
  refine h σ H1 _ ((Rs.f l s).mono e1) fun v H2 e2 sv => ?_
  have s2 := Sta.push (s.ex (e1.trans e2)) (Ex.refl H2) (sv.own im) (fun _ z => nomatch z) List.nodup_nil
  obtain ⟨p', xs', G', F1', B1, hv', hp', ws, a, eB, nd1, pG, pF, k1⟩ := s2.rewL (i := φ.length + k) (ds := ds) (by rw [get_app rfl]; exact hk)
  rw [get_app l.symm, hv] at hv'
  cases hv'
  refine hR p xs' v H2 _ hp' (by rw [ws.length]; exact Nat.lt_of_lt_of_le hl (by decide)) ?_
  have q2 := k1 (v :: xs') (d :: ds) ([] ++ G') (.cons (sv.own im) ws) (fun a m => .inl m) (List.nodup_append.mp nd1).2.1
  rw [set_app rfl] at q2
  exact nx _ _ _ q q2
def wipeS (ρ : List Sd) : List Nat → List Sd
  | [] => ρ
  | v :: vs => (wipeS ρ vs).set v none
theorem Sta.wipeF {H : Hp} {φ : List Sd} {τ σ : L2.St} (h : Sta K B0 (φ ++ ρ) (τ ++ σ) H) : ∀ ks : List Nat, Sta K B0 (φ ++ wipeS ρ ks) (τ ++ σ) H
  | [] => h
  | k :: ks => Sta.forgetF (Sta.wipeF h ks)
/-! ### loops -/
/-- while -/
theorem j_while (ks : List Nat) {β : Type} (R : β → List Sd) (Iv : β → Prop) (μ : β → Nat) (b0 : β) (hρ : ρ = R b0) (h0 : Iv b0)
    (hs : ∀ b, Iv b → ∃ c, EvT K t (R b) c ∧ (c = true → J K B0 ts (R b) { nx := fun ρ' => ∃ b', wipeS ρ' ks = R b' ∧ Iv b' ∧ μ b' < μ b, rt := P.rt, bk := P.nx, ct := fun ρ' => ∃ b', wipeS ρ' ks = R b' ∧ Iv b' ∧ μ b' < μ b }) ∧ (c = false → P.nx (R b))) :
    J K B0 (tWhile t ts) ρ P := fun φ τ D σ H l nx r bk ct s => by
  subst hρ
  refine ⟨fun m σ' H' => ∃ b, m = μ b ∧ Iv b ∧ Sta K B0 (φ ++ R b) (τ ++ σ') H', ⟨_, b0, rfl, h0, s⟩, ?_⟩
  rintro m σ1 H1 ⟨b, rfl, ib, s1⟩
  obtain ⟨c, hc, hy, hn⟩ := hs b ib
  refine hc σ1 H1 _ (Rs.f l s1) fun H2 e2 => ?_
  cases c with
  | true =>
    refine ⟨fun σ' H' => ∃ b', Iv b' ∧ μ b' < μ b ∧ Sta K B0 (φ ++ R b') (τ ++ σ') H', fun σ' H' ⟨b', i', m', s'⟩ => ⟨μ b', m', b', rfl, i', s'⟩, ?_⟩
    refine hy rfl φ τ _ σ1 H2 l ?_ r ?_ ?_ (s1.ex e2)
    · rintro ρ' σ' H' ⟨b', eb, i', m'⟩ s'
      exact ⟨b', i', m', eb ▸ s'.wipeF ks⟩
    · intro ρ' σ' H' q s'
      exact nx ρ' σ' H' q s'
    · rintro ρ' σ' H' ⟨b', eb, i', m'⟩ s'
      exact ⟨b', i', m', eb ▸ s'.wipeF ks⟩
  | false => exact nx _ _ _ (hn rfl) (s1.ex e2)
/-- for x in a list; x forgotten behind a turn -/
theorem j_for (ks : List Nat) {α : Type} (xs : List α) (e : α → Da) {tl : TE} {k : Nat} (h : EvS K B0 tl ρ (.lst (xs.map e)) ρ1) (W : Nat → List Sd → Prop) (h0 : W 0 (ρ1.set k none)) (hk : ∀ i ρ, W i ρ → k < ρ.length)
    (hs : ∀ (i : Nat) x ρ', xs[i]? = some x → W i ρ' → J K B0 ts (ρ'.set k (sh (e x))) { nx := fun ρ2 => W (i + 1) (wipeS (ρ2.set k none) ks), rt := P.rt, bk := P.nx, ct := fun ρ2 => W (i + 1) (wipeS (ρ2.set k none) ks) })
    (hd : ∀ ρ', W xs.length ρ' → P.nx ρ') : J K B0 (tFor (iList K tl) (gName k) ts) ρ P := fun φ τ D σ H l nx r bk ct s =>
  h φ τ σ H _ l s fun v H1 e1 z => by
    have read : ∀ {ρ' : List Sd} {σ' : L2.St} {v : V} {H' : Hp}, Sta K B0 (sh (.lst (xs.map e)) :: (φ ++ ρ')) (some v :: (τ ++ σ')) H' → ∃ a vs, v = .ref a ∧ SqL K H' a vs ∧ vs.length = xs.length ∧
        ∀ (i : Nat) (x : α), xs[i]? = some x → ∃ y, vs[i]? = some y ∧ Sta K B0 (sh (e x) :: ((sh (.lst (xs.map e)) :: φ) ++ ρ')) (some y :: ((some v :: τ) ++ σ')) H' := by
      rintro ρ' σ' v H' ⟨B, F, e1, e2, sl, nd⟩
      cases sl with
      | cons p1 p2 =>
        cases p1 with
        | sh p1 =>
          obtain ⟨a, vs, rfl, hr, hss⟩ := id p1.lst_inv
          refine ⟨a, vs, rfl, .inl (ex_rd e2 hr), by rw [hss.length, List.length_map], fun i x hx => ?_⟩
          obtain ⟨y, hy, sy⟩ := hss.get (i := i) (d := e x) (by rw [List.getElem?_map, hx]; rfl)
          exact ⟨y, hy, B, _, e1, e2, .cons (.sh sy) (.cons (.sh p1) p2), nd⟩
    obtain ⟨a, vs0, rfl, hr, _, _⟩ := read z
    refine ⟨a, rfl, ⟨vs0, hr⟩, ?_⟩
    refine ⟨fun i m σ' H' => m = xs.length - i ∧ i ≤ xs.length ∧ ∃ ρ', W i ρ' ∧ Sta K B0 (sh (.lst (xs.map e)) :: (φ ++ ρ')) (some (.ref a) :: (τ ++ σ')) H', ⟨xs.length, by simp, Nat.zero_le _, _, h0, ?_⟩, ?_⟩
    · exact Sta.forgetF (φ := sh (.lst (xs.map e)) :: φ) (τ := some (.ref a) :: τ) z
    · rintro i m σ' H' ⟨rfl, hi, ρ', w, s'⟩
      obtain ⟨a', vs, ea, hq, hl, hx⟩ := read s'
      cases ea
      by_cases hlt : i < xs.length
      · obtain ⟨y, hy, sy2⟩ := hx i xs[i] (List.getElem?_eq_getElem hlt)
        refine .inr ⟨⟨vs, y, hq, hy⟩, fun σ2 H2 => ∃ ρ2, W (i + 1) ρ2 ∧ Sta K B0 (sh (.lst (xs.map e)) :: (φ ++ ρ2)) (some (.ref a) :: (τ ++ σ2)) H2, fun σ2 H2 ⟨ρ2, w2, s2⟩ => ⟨xs.length - (i + 1), by omega, rfl, hlt, ρ2, w2, s2⟩, fun x' H2 hyl => ?_⟩
        obtain ⟨eH, fy⟩ := hyl
        subst eH
        have ex : x' = y := Option.some.inj ((fy _ hq).symm.trans hy)
        subst ex
        have sp := sy2.putF (φ := sh (.lst (xs.map e)) :: φ) (τ := some (.ref a) :: τ) (i := k) (by simp only [List.length_cons, l]) (hk _ _ w)
        refine hs i xs[i] ρ' (List.getElem?_eq_getElem hlt) w (sh (.lst (xs.map e)) :: φ) (some (.ref a) :: τ) _ _ H2 (by simp only [List.length_cons, l]) ?_ ?_ ?_ ?_ sp
        · intro ρ2 σ2 H3 q s2
          exact ⟨_, q, Sta.wipeF (φ := sh (.lst (xs.map e)) :: φ) (τ := some (.ref a) :: τ) (Sta.forgetF (φ := sh (.lst (xs.map e)) :: φ) (τ := some (.ref a) :: τ) s2) ks⟩
        · intro d v H3 q s2
          refine r d v H3 q ?_
          obtain ⟨B, F, e1, e2, sl, nd⟩ := s2
          cases sl with
          | cons p1 p2 =>
            cases p2 with
            | cons p3 p4 =>
              cases p3 with
              | sh p3 => exact ⟨B, _, e1, e2, .cons p1 p4, nd⟩
        · intro ρ2 σ2 H3 q s2
          exact nx ρ2 σ2 H3 q (Sta.pop s2)
        · intro ρ2 σ2 H3 q s2
          exact ⟨_, q, Sta.wipeF (φ := sh (.lst (xs.map e)) :: φ) (τ := some (.ref a) :: τ) (Sta.forgetF (φ := sh (.lst (xs.map e)) :: φ) (τ := some (.ref a) :: τ) s2) ks⟩
      · have ei : i = xs.length := by omega
        subst ei
        exact .inl ⟨⟨vs, hq, by omega⟩, nx _ _ _ (hd _ w) (Sta.pop s')⟩
/-- over a tuple -/
theorem j_forT (ks : List Nat) {α : Type} (xs : List α) (e : α → Da) {tl : TE} {k : Nat} (h : EvS K B0 tl ρ (.tup (xs.map e)) ρ1) (W : Nat → List Sd → Prop) (h0 : W 0 (ρ1.set k none)) (hk : ∀ i ρ, W i ρ → k < ρ.length)
    (hs : ∀ (i : Nat) x ρ', xs[i]? = some x → W i ρ' → J K B0 ts (ρ'.set k (sh (e x))) { nx := fun ρ2 => W (i + 1) (wipeS (ρ2.set k none) ks), rt := P.rt, bk := P.nx, ct := fun ρ2 => W (i + 1) (wipeS (ρ2.set k none) ks) })
    (hd : ∀ ρ', W xs.length ρ' → P.nx ρ') : J K B0 (tFor (iTup K tl) (gName k) ts) ρ P := fun φ τ D σ H l nx r bk ct s =>
  h φ τ σ H _ l s fun v H1 e1 z => by
    have read : ∀ {ρ' : List Sd} {σ' : L2.St} {v : V} {H' : Hp}, Sta K B0 (sh (.tup (xs.map e)) :: (φ ++ ρ')) (some v :: (τ ++ σ')) H' → ∃ a vs, v = .ref a ∧ SqT K H' a vs ∧ vs.length = xs.length ∧
        ∀ (i : Nat) (x : α), xs[i]? = some x → ∃ y, vs[i]? = some y ∧ Sta K B0 (sh (e x) :: ((sh (.tup (xs.map e)) :: φ) ++ ρ')) (some y :: ((some v :: τ) ++ σ')) H' := by
      rintro ρ' σ' v H' ⟨B, F, e1, e2, sl, nd⟩
      cases sl with
      | cons p1 p2 =>
        cases p1 with
        | sh p1 =>
          obtain ⟨a, vs, rfl, hr, hss⟩ := id p1.tup_inv
          refine ⟨a, vs, rfl, ex_t e2 hr, by rw [hss.length, List.length_map], fun i x hx => ?_⟩
          obtain ⟨y, hy, sy⟩ := hss.get (i := i) (d := e x) (by rw [List.getElem?_map, hx]; rfl)
          exact ⟨y, hy, B, _, e1, e2, .cons (.sh sy) (.cons (.sh p1) p2), nd⟩
    obtain ⟨a, vs0, rfl, hr, _, _⟩ := read z
    refine ⟨a, rfl, ⟨vs0, hr⟩, ?_⟩
    refine ⟨fun i m σ' H' => m = xs.length - i ∧ i ≤ xs.length ∧ ∃ ρ', W i ρ' ∧ Sta K B0 (sh (.tup (xs.map e)) :: (φ ++ ρ')) (some (.ref a) :: (τ ++ σ')) H', ⟨xs.length, by simp, Nat.zero_le _, _, h0, ?_⟩, ?_⟩
    · exact Sta.forgetF (φ := sh (.tup (xs.map e)) :: φ) (τ := some (.ref a) :: τ) z
    · rintro i m σ' H' ⟨rfl, hi, ρ', w, s'⟩
      obtain ⟨a', vs, ea, hq, hl, hx⟩ := read s'
      cases ea
      by_cases hlt : i < xs.length
      · obtain ⟨y, hy, sy2⟩ := hx i xs[i] (List.getElem?_eq_getElem hlt)
        refine .inr ⟨⟨vs, y, hq, hy⟩, fun σ2 H2 => ∃ ρ2, W (i + 1) ρ2 ∧ Sta K B0 (sh (.tup (xs.map e)) :: (φ ++ ρ2)) (some (.ref a) :: (τ ++ σ2)) H2, fun σ2 H2 ⟨ρ2, w2, s2⟩ => ⟨xs.length - (i + 1), by omega, rfl, hlt, ρ2, w2, s2⟩, fun x' H2 hyl => ?_⟩
        obtain ⟨eH, fy⟩ := hyl
        subst eH
        have ex : x' = y := Option.some.inj ((fy _ hq).symm.trans hy)
        subst ex
        have sp := sy2.putF (φ := sh (.tup (xs.map e)) :: φ) (τ := some (.ref a) :: τ) (i := k) (by simp only [List.length_cons, l]) (hk _ _ w)
        refine hs i xs[i] ρ' (List.getElem?_eq_getElem hlt) w (sh (.tup (xs.map e)) :: φ) (some (.ref a) :: τ) _ _ H2 (by simp only [List.length_cons, l]) ?_ ?_ ?_ ?_ sp
        · intro ρ2 σ2 H3 q s2
          exact ⟨_, q, Sta.wipeF (φ := sh (.tup (xs.map e)) :: φ) (τ := some (.ref a) :: τ) (Sta.forgetF (φ := sh (.tup (xs.map e)) :: φ) (τ := some (.ref a) :: τ) s2) ks⟩
        · intro d v H3 q s2
          refine r d v H3 q ?_
          obtain ⟨B, F, e1, e2, sl, nd⟩ := s2
          cases sl with
          | cons p1 p2 =>
            cases p2 with
            | cons p3 p4 =>
              cases p3 with
              | sh p3 => exact ⟨B, _, e1, e2, .cons p1 p4, nd⟩
        · intro ρ2 σ2 H3 q s2
          exact nx ρ2 σ2 H3 q (Sta.pop s2)
        · intro ρ2 σ2 H3 q s2
          exact ⟨_, q, Sta.wipeF (φ := sh (.tup (xs.map e)) :: φ) (τ := some (.ref a) :: τ) (Sta.forgetF (φ := sh (.tup (xs.map e)) :: φ) (τ := some (.ref a) :: τ) s2) ks⟩
      · have ei : i = xs.length := by omega
        subst ei
        exact .inl ⟨⟨vs, hq, by omega⟩, nx _ _ _ (hd _ w) (Sta.pop s')⟩
/-- for x in range(..) -/
theorem j_range1 (ks : List Nat) {ta : TA} {n : Int} {k : Nat} (h : EvA K ta ρ [.int n]) (hn : n < 100000) (W : Nat → List Sd → Prop) (h0 : W 0 (ρ.set k none)) (hk : ∀ i ρ, W i ρ → k < ρ.length)
    (hs : ∀ (i : Nat) ρ', (i : Int) < n → W i ρ' → J K B0 ts (ρ'.set k (ow (.int i))) { nx := fun ρ2 => W (i + 1) (wipeS (ρ2.set k none) ks), rt := P.rt, bk := P.nx, ct := fun ρ2 => W (i + 1) (wipeS (ρ2.set k none) ks) })
    (hd : ∀ ρ', W n.toNat ρ' → P.nx ρ') (hlo : -100000 < n := by omega) : J K B0 (tFor (iRng1 ta) (gName k) ts) ρ P := fun φ τ D σ H l nx r bk ct s =>
  h σ H _ (Rs.f l s) fun vs H1 e1 z => by
    cases z with
    | cons z1 z2 =>
      cases z2
      have := z1.int_inv
      subst this
      refine ⟨n, rfl, by omega, by omega, ?_⟩
      refine for_range (lo := 0) (n := n.toNat) (fun i σ' H' => ∃ ρ', W i ρ' ∧ Sta K B0 (φ ++ ρ') (τ ++ σ') H') ⟨_, h0, Sta.forgetF (s.ex e1)⟩ ?_ ?_
      · rintro i σ' H' hi ⟨ρ', w, s'⟩
        rw [Int.zero_add]
        have s2 := Sta.push s' (Ex.refl H') (.int (i : Int)) (fun _ z => nomatch z) List.nodup_nil
        have s3 := s2.putF (φ := φ) (τ := τ) (i := k) l (hk _ _ w)
        refine hs i ρ' (by omega) w φ τ _ _ H' l ?_ r ?_ ?_ s3
        · intro ρ2 σ2 H3 q s4
          exact ⟨_, q, (Sta.forgetF s4).wipeF ks⟩
        · intro ρ2 σ2 H3 q s4
          exact nx ρ2 σ2 H3 q s4
        · intro ρ2 σ2 H3 q s4
          exact ⟨_, q, (Sta.forgetF s4).wipeF ks⟩
      · rintro σ' H' ⟨ρ', w, s'⟩
        exact nx _ _ _ (hd _ w) s'
/-! ### a state in the middle -/
theorem j_wipe (ks : List Nat) (h : J K B0 ts (wipeS ρ ks) P) : J K B0 ts ρ P := fun φ τ D σ H l n r bk ct s => h φ τ D σ H l n r bk ct (s.wipeF ks)
theorem j_mid (ks : List Nat) (M : List Sd) (h : J K B0 t1 ρ { P with nx := fun ρ' => wipeS ρ' ks = M }) (q : J K B0 t2 M P) : J K B0 (tSeq t1 t2) ρ P := j_seq (h.mono (fun r e => by
  have e' : wipeS r ks = M := e
  refine j_wipe ks ?_
  rw [e']; exact q) (fun _ z => z) (fun _ z => z) fun _ z => z)
/-! ### displays that take what is the state's own -/
theorem Sta.bring {A : List Sd} {α : L2.St} {H : Hp} {s0 : Sd} {o0 : Option V} {σ : L2.St} (l : A.length = α.length) (s : Sta K B0 (A ++ (s0 :: ρ)) (α ++ (o0 :: σ)) H) : Sta K B0 (s0 :: (A ++ ρ)) (o0 :: (α ++ σ)) H := by
  obtain ⟨B, F, e1, e2, sl, nd⟩ := s
  obtain ⟨F1, F2, rfl, a, b⟩ := sl.split l
  cases b with
  | @cons _ _ _ _ G1 G2 c d =>
    refine ⟨B, G1 ++ (F1 ++ G2), e1, e2, .cons c (a.join d), ?_⟩
    refine (List.Perm.nodup_iff ?_).mp nd
    rw [← List.append_assoc, ← List.append_assoc]
    exact List.Perm.append_right G2 List.perm_append_comm
theorem eam_nil : EvAM K B0 tNil ρ [] ρ := fun φ τ σ H Q l s q => q [] H (Ex.refl H) rfl s
theorem eam_cons {tr : TA} {ds : List Da} (h : EvM K B0 ta ρ d ρ1) (hr : EvAM K B0 tr ρ1 ds ρ2) : EvAM K B0 (tCons ta tr) ρ (d :: ds) ρ2 := fun φ τ σ H Q l s q =>
  h φ τ σ H _ l s fun v H1 e1 s1 => hr (ow d :: φ) (some v :: τ) σ H1 _ (by simp only [List.length_cons, l]) s1 fun vs H2 e2 lv s2 => q (v :: vs) H2 (e1.trans e2) (by simp only [List.length_cons, lv]) (by
    have s3 : Sta K B0 (ds.map ow ++ (ow d :: (φ ++ ρ2))) (vs.map some ++ (some v :: (τ ++ σ))) H2 := s2
    exact s3.bring (by rw [List.length_map, List.length_map, lv]))
theorem Slots.owns {B H : Hp} : ∀ {ds : List Da} {vs : List V} {F : List Addr}, Slots K B H (ds.map ow) (vs.map some) F → Owns K H vs ds F ∧ ∀ a, a ∈ F → B a = none
  | [], [], _, .nil => ⟨.nil, fun _ z => nomatch z⟩
  | d :: ds, v :: vs, _, .cons h t => by
    obtain ⟨a, b⟩ := Slots.owns (ds := ds) (vs := vs) t
    cases h with
    | ow w f => exact ⟨.cons w a, fun x m => (List.mem_append.mp m).elim (f x) (b x)⟩
theorem em_tup {t : TA} {ds : List Da} (h : EvAM K B0 t ρ ds ρ1) (hl : ds.length ≤ 100000) : EvM K B0 (tTup t) ρ (.tup ds) ρ1 := fun φ τ σ H Q l s q =>
  h φ τ σ H _ l s fun vs H1 e lv s1 => ⟨by rw [lv]; exact Nat.le_trans hl (by decide), fun p hp => q _ _ (e.trans (.new hp)) (by
    obtain ⟨B, F, e1, e2, sl, nd⟩ := s1.ex (Ex.new (o := .tup vs) hp)
    obtain ⟨F1, F2, rfl, a, b⟩ := sl.split (by rw [List.length_map, List.length_map, lv])
    obtain ⟨ws, f⟩ := Slots.owns a
    exact ⟨B, F1 ++ F2, e1, e2, .cons (.ow (.tup upd_same ws) f) b, nd⟩)⟩
theorem em_lst {t : TA} {ds : List Da} (h : EvAM K B0 t ρ ds ρ1) (hl : ds.length ≤ 100000) : EvM K B0 (tLst t) ρ (.lst ds) ρ1 := fun φ τ σ H Q l s q =>
  h φ τ σ H _ l s fun vs H1 e lv s1 => ⟨by rw [lv]; exact Nat.le_trans hl (by decide), fun p hp => q _ _ (e.trans (.new hp)) (by
    obtain ⟨B, F, e1, e2, sl, nd⟩ := s1
    obtain ⟨F1, F2, rfl, a, b⟩ := sl.split (by rw [List.length_map, List.length_map, lv])
    obtain ⟨ws, f⟩ := Slots.owns a
    have hn : ∀ x, x ∈ F1 ++ F2 → x ≠ p := fun x m z => by
      obtain ⟨⟨u, hu⟩, _⟩ := sl.there x m
      rw [z, hp] at hu; cases hu
    refine ⟨B, (p :: F1) ++ F2, e1, e2.trans (.new hp), .cons (.ow (.lst upd_same (ws.mono (.new hp))) fun x m => ?_) (b.ex (.new hp)), ?_⟩
    · rcases List.mem_cons.mp m with rfl | m
      · exact e2.back hp
      · exact f x m
    · exact List.nodup_cons.mpr ⟨fun z => hn p z rfl, nd⟩)⟩
/-! ### an item put anew -/
theorem Owns.imm_nil {H : Hp} : ∀ {vs : List V} {ds : List Da} {F : List Addr}, Owns K H vs ds F → Da.imms ds = true → F = []
  | _, _, _, .nil, _ => rfl
  | _, _, _, .cons (d := d) (ds := ds) (F := F) (G := G) h t, i => by
    have i' : (d.imm && Da.imms ds) = true := i
    rw [Bool.and_eq_true] at i'
    have hF : F = [] := by
      cases h with
      | non => rfl
      | bl _ => rfl
      | int _ => rfl
      | str _ => rfl
      | obj _ => rfl
      | tup _ ts => exact Owns.imm_nil ts i'.1
      | lst _ _ => exact Bool.noConfusion (show false = true from i'.1)
      | dic _ _ => exact Bool.noConfusion (show false = true from i'.1)
    rw [hF, Owns.imm_nil t i'.2]; rfl
theorem imms_set : ∀ {ds : List Da} {n : Nat} {d : Da}, Da.imms ds = true → d.imm = true → Da.imms (ds.set n d) = true
  | [], _, _, _, _ => rfl
  | x :: ds, 0, d, h, g => by
    have h' : (x.imm && Da.imms ds) = true := h
    rw [Bool.and_eq_true] at h'
    show (d.imm && Da.imms ds) = true
    rw [g, h'.2]; rfl
  | x :: ds, n + 1, d, h, g => by
    have h' : (x.imm && Da.imms ds) = true := h
    rw [Bool.and_eq_true] at h'
    show (x.imm && Da.imms (ds.set n d)) = true
    rw [h'.1, imms_set h'.2 g]; rfl
theorem Shs.setA {H : Hp} : ∀ {vs : List V} {ds : List Da} {v : V} {d : Da} (n : Nat), Shs K H vs ds → Sh K H v d → Shs K H (vs.set n v) (ds.set n d)
  | _, _, _, _, _, .nil, _ => .nil
  | _, _, _, _, 0, .cons _ t, g => .cons g t
  | _, _, _, _, n + 1, .cons h t, g => .cons h (Shs.setA n t g)
/-- xs[i] = e, xs of plain things -/
theorem j_setL {k n : Nat} {ds : List Da} {ti : TE} (h : EvB K te ρ d) (im : d.imm = true) (ims : Da.imms ds = true) (hk : ρ[k]? = some (some (true, .lst ds))) (hi : EvB K ti ρ (.int i)) (e : i = (n : Int)) (hn : n < ds.length) (q : P.nx (ρ.set k (ow (.lst (ds.set n d))))) :
    J K B0 (tAsg te (gSub (tVar k) ti rSetL)) ρ P := fun φ τ D σ H l nx r bk ct s => by
  refine h σ H _ (Rs.f l s) fun v H1 e1 sv => ?_
  have s2 := Sta.push (s.ex e1) (Ex.refl H1) (sv.own im) (fun _ z => nomatch z) List.nodup_nil
  obtain ⟨p, xs, G, F1, B, hv, hp, _⟩ := s2.rewL (i := φ.length + k) (ds := ds) (by rw [get_app rfl]; exact hk)
  rw [get_app l.symm] at hv
  refine ⟨.ref p, hv, ?_⟩
  refine hi.int ((Rs.f l s).mono e1) fun H2 e2 => ?_
  have s3 := Sta.push (s.ex (e1.trans e2)) (Ex.refl H2) ((sv.mono e2).own im) (fun _ z => nomatch z) List.nodup_nil
  obtain ⟨p', xs', G', F1', B1, hv', hp', ws, a, eB, nd1, pG, pF, k1⟩ := s3.rewL (i := φ.length + k) (ds := ds) (by rw [get_app rfl]; exact hk)
  rw [get_app l.symm, hv] at hv'
  cases hv'
  have hl : xs'.length = ds.length := ws.length
  refine ⟨p, xs', i, n, rfl, rfl, hp', ?_, ?_⟩
  · subst e
    unfold ixN
    rw [if_pos (by omega), if_pos (by omega)]
    rfl
  · have q2 := k1 (xs'.set n v) (ds.set n d) [] ((ws.sh.setA n (sv.mono e2)).own (imms_set ims im)) (fun a m => nomatch m) List.nodup_nil
    rw [set_app rfl] at q2
    exact nx _ _ _ q q2
theorem noTup_own {H : Hp} {v : V} {d : Da} {F : List Addr} (w : Own K H v d F) {a : Addr} (m : a ∈ F) : NoTup H a := w.noTup a m
/-- in a list of lists of plain things, one of these rewritten -/
theorem Owns.inner {H : Hp} : ∀ {vs : List V} {ds : List Da} {G : List Addr} {n : Nat} {es : List Da}, Owns K H vs ds G → ds[n]? = some (.lst es) → G.Nodup →
    ∃ q ys, vs[n]? = some (.ref q) ∧ H q = some (.lst ys) ∧ Shs K H ys es ∧ q ∈ G ∧ ∀ ys' es', Shs K H ys' es' → Da.imms es' = true → ∃ G', Owns K (L2.upd H q (.lst ys')) vs (ds.set n (.lst es')) G' ∧ (∀ a, a ∈ G' → a ∈ G) ∧ G'.Nodup
  | _, _, _, _, _, .nil, e, _ => by simp at e
  | _, _, _, 0, es, .cons (F := F) (G := G) h t, e, nd => by
    simp at e
    subst e
    obtain ⟨q, ys, F2, rfl, rfl, hq, ws⟩ := h.lst_inv
    obtain ⟨n1, n2, n3⟩ := List.nodup_append.mp nd
    refine ⟨q, ys, rfl, hq, ws.sh, List.mem_append_left _ List.mem_cons_self, fun ys' es' s im => ?_⟩
    have nt := noTup_lst hq
    have qG : q ∉ G := fun z => n3 q List.mem_cons_self q z rfl
    refine ⟨[q] ++ G, .cons (.lst upd_same ((s.own im).upd nt fun z => nomatch z)) (t.upd nt qG), fun a m => ?_, List.nodup_append.mpr ⟨nodup_one, n2, fun a ha b hb z => by
      rw [List.mem_singleton.mp ha] at z
      exact qG (z ▸ hb)⟩⟩
    rcases List.mem_append.mp m with m | m
    · rw [List.mem_singleton.mp m]; exact List.mem_append_left _ List.mem_cons_self
    · exact List.mem_append_right _ m
  | _, _, _, n + 1, es, .cons (F := F) (G := G) h t, e, nd => by
    obtain ⟨n1, n2, n3⟩ := List.nodup_append.mp nd
    obtain ⟨q, ys, h1, h2, h3, h4, k⟩ := Owns.inner (n := n) t (by simpa using e) n2
    refine ⟨q, ys, by simpa using h1, h2, h3, List.mem_append_right _ h4, fun ys' es' s im => ?_⟩
    obtain ⟨G', a, b, c⟩ := k ys' es' s im
    have nt := noTup_lst h2
    have qF : q ∉ F := fun z => n3 q z q h4 rfl
    refine ⟨F ++ G', .cons (h.upd nt qF) a, fun x m => ?_, List.nodup_append.mpr ⟨n1, c, fun x hx y hy z => n3 x hx y (b y hy) z⟩⟩
    rcases List.mem_append.mp m with m | m
    · exact List.mem_append_left _ m
    · exact List.mem_append_right _ (b x m)
theorem Sta.rewLL {k n : Nat} {ds es : List Da} {H : Hp} {σ : L2.St} (h : Sta K B0 ρ σ H) (hi : ρ[k]? = some (some (true, .lst ds))) (hn : ds[n]? = some (.lst es)) :
    ∃ p q xs ys, σ[k]? = some (some (.ref p)) ∧ H p = some (.lst xs) ∧ xs[n]? = some (.ref q) ∧ xs.length = ds.length ∧ H q = some (.lst ys) ∧ Shs K H ys es ∧
      ∀ ys' es', Shs K H ys' es' → Da.imms es' = true → Sta K B0 (ρ.set k (ow (.lst (ds.set n (.lst es'))))) σ (upd H q (.lst ys')) := by
  obtain ⟨B, G0, e1, e2, sl, nd⟩ := h
  obtain ⟨w0, hv, _⟩ := (sl.rs e2).2 k true _ hi
  obtain ⟨C1, C2, C3, rfl, c, kk⟩ := sl.rew hi hv
  cases c with
  | ow w f =>
    obtain ⟨p, xs, G, rfl, rfl, hp, ws⟩ := w.lst_inv
    obtain ⟨m1, m2, m3⟩ := List.nodup_append.mp nd
    obtain ⟨q1, q2, q3⟩ := List.nodup_append.mp m2
    obtain ⟨r1, r2⟩ := List.nodup_cons.mp q1
    obtain ⟨q, ys, h1, h2, h3, h4, k2⟩ := ws.inner hn r2
    refine ⟨p, q, xs, ys, hv, hp, h1, ws.length, h2, h3, fun ys' es' s im => ?_⟩
    obtain ⟨G', a, b, c⟩ := k2 ys' es' s im
    have nt := noTup_lst h2
    have pq : p ≠ q := fun z => r1 (z ▸ h4)
    have hin : q ∈ p :: G := List.mem_cons_of_mem _ h4
    have n1 : q ∉ C1 := fun z => m3 q z q (List.mem_append_left _ hin) rfl
    have n3 : q ∉ C3 := fun z => q3 q hin q z rfl
    refine ⟨B, C1 ++ ((p :: G') ++ C3), e1, e2.mut (f q hin) nt, kk nt n1 n3 (.ow (.lst (by rw [upd_ne pq]; exact hp) a) fun x m => ?_), ?_⟩
    · rcases List.mem_cons.mp m with rfl | m
      · exact f _ List.mem_cons_self
      · exact f _ (List.mem_cons_of_mem _ (b x m))
    · exact nodup_rew (F1 := []) (G := G) nd c fun x m => .inl (b x m)
/-- xs[i][j] = e -/
theorem j_setLL {k n m : Nat} {ds es : List Da} {ti tj : TE} (h : EvB K te ρ d) (im : d.imm = true) (hk : ρ[k]? = some (some (true, .lst ds))) (hi : EvB K ti ρ (.int i)) (e : i = (n : Int)) (hj : EvB K tj ρ (.int j)) (e' : j = (m : Int))
    (hn : ds[n]? = some (.lst es)) (hm : m < es.length) (ims : Da.imms es = true) (q : P.nx (ρ.set k (ow (.lst (ds.set n (.lst (es.set m d))))))) :
    J K B0 (tAsg te (gSub (tOp (rIx K) (tVar k) ti) tj rSetL)) ρ P := fun φ τ D σ H l nx r bk ct s => by
  refine h σ H _ (Rs.f l s) fun v H1 e1 sv => ?_
  have hkF : (φ ++ ρ)[φ.length + k]? = some (some (true, .lst ds)) := by rw [get_app rfl]; exact hk
  obtain ⟨p, p2, xs, ys, hv, _⟩ := (s.ex e1).rewLL hkF hn
  rw [get_app l.symm] at hv
  refine ⟨.ref p, hv, ?_⟩
  refine hi.int ((Rs.f l s).mono e1) fun H2 e2 => ?_
  obtain ⟨p', q2, xs2, ys2, hv2, hp2, hx2, hl2, _⟩ := (s.ex (e1.trans e2)).rewLL hkF hn
  rw [get_app l.symm, hv] at hv2
  cases hv2
  refine .inl ⟨p, xs2, i, .ref q2, rfl, rfl, .of hp2, atI_nat' e hx2, ?_⟩
  refine hj.int ((Rs.f l s).mono (e1.trans e2)) fun H3 e3 => ?_
  obtain ⟨p', q3, xs3, ys3, hv3, hp3, hx3, hl3, hq3, sy3, k3⟩ := (s.ex ((e1.trans e2).trans e3)).rewLL hkF hn
  rw [get_app l.symm, hv] at hv3
  cases hv3
  have := e3.lst hp2
  rw [hp3] at this
  cases this
  rw [hx2] at hx3
  cases hx3
  refine ⟨q2, ys3, j, m, rfl, rfl, hq3, ?_, ?_⟩
  · subst e'
    unfold ixN
    rw [sy3.length, if_pos (by omega), if_pos (by omega)]
    rfl
  · have z := k3 (ys3.set m v) (es.set m d) (sy3.setA m (sv.mono (e2.trans e3))) (imms_set ims im)
    rw [set_app rfl] at z
    exact nx _ _ _ q z
theorem insert0_ok (l : Addr) (xs : List V) (y : V) (H : Hp) (Q : VK) (h : H l = some (.lst xs)) (hz : xs.length < sizeLine) (q : Q .non (upd H l (.lst (y :: xs)))) :
    (fun (x : V) (vs : List V) (H : Hp) (Q : VK) => ∃ (l : Addr) (xs : List V) (i : Int) (y : V), x = .ref l ∧ vs = [.int i, y] ∧ H l = some (.lst xs) ∧ xs.length < sizeLine ∧ 0 ≤ i ∧ i < 2 ^ 63 ∧
    Q .non (upd H l (.lst (xs.take i.toNat ++ [y] ++ xs.drop i.toNat)))) (.ref l) [.int 0, y] H Q := ⟨l, xs, 0, y, rfl, rfl, h, hz, by decide, by decide, q⟩
/-! ### a def's body -/
theorem slots_none {B H : Hp} : ∀ n : Nat, Slots K B H (List.replicate n no) (List.replicate n none) []
  | 0 => .nil
  | n + 1 => Slots.cons (F := []) (G := []) .no (slots_none n)
theorem body_of {N : List Str} {vs : List V} {ds : List Da} {H : Hp} {Q : VK} {d : Da} (hs : Shs K H vs ds) (k : ∀ v H' F, Ex H H' → Own K H' v d F → (∀ a, a ∈ F → H a = none) → F.Nodup → Q v H')
    (j : J K H ts (ds.map sh ++ List.replicate (N.length - ds.length) no) { nx := fun _ => d = .non, rt := fun d' => d' = d }) : ts { nx := fun _ H' => Q .non H', rt := Q } (start N vs) H := by
  refine j [] [] _ _ H rfl (fun ρ' σ' H' e s => ?_) (fun d' v H' e s => ?_) (fun _ _ _ z => z.elim) (fun _ _ _ z => z.elim) ?_
  · subst e
    exact k _ _ [] s.base .non (fun _ z => nomatch z) List.nodup_nil
  · subst e
    obtain ⟨B, F, e1, e2, sl, nd⟩ := s
    cases sl with
    | cons a b =>
      cases b
      cases a with
      | ow w f =>
        rw [List.append_nil] at nd
        exact k v H' _ (e1.trans e2) w (fun a m => e1.back (f a m)) nd
  · refine ⟨H, [], Ex.refl H, Ex.refl H, ?_, List.nodup_nil⟩
    show Slots K H H _ (vs.map some ++ List.replicate (N.length - vs.length) none) []
    rw [hs.length]
    exact Slots.join (ρ1 := ds.map sh) (σ1 := vs.map some) (F1 := []) (F2 := []) (Slots.ofShs hs) (slots_none _)
end
end Fw

set_option Elab.async false
set_option linter.all false
set_option maxRecDepth 100000
set_option maxHeartbeats 4000000
namespace Fw
open PySem L2
/-! ### comprehensions -/
theorem wipeS_len (ρ : List Sd) : ∀ vs : List Nat, (wipeS ρ vs).length = ρ.length
  | [] => rfl
  | v :: vs => by unfold wipeS; rw [List.length_set, wipeS_len ρ vs]
theorem wipe_get {σ : L2.St} {i : Nat} : ∀ {vs : List Nat}, (L2.wipe σ vs)[i]? = if i ∈ vs then (if i < σ.length then some none else none) else σ[i]?
  | [] => by simp [L2.wipe]
  | v :: vs => by
    unfold L2.wipe
    by_cases e : v = i
    · subst e
      rw [if_pos List.mem_cons_self]
      by_cases hl : v < σ.length
      · rw [if_pos hl, List.getElem?_set_self (by rw [L2.wipe_length]; exact hl)]
      · rw [if_neg hl, List.getElem?_eq_none (by rw [List.length_set, L2.wipe_length]; omega)]
    · rw [List.getElem?_set_ne e, wipe_get (vs := vs)]
      by_cases m : i ∈ vs
      · rw [if_pos m, if_pos (List.mem_cons_of_mem _ m)]
      · rw [if_neg m, if_neg (fun z => (List.mem_cons.mp z).elim (fun q => e q.symm) m)]
theorem wipeS_get {ρ : List Sd} {i : Nat} {b : Bool} {d : Da} : ∀ {vs : List Nat}, (wipeS ρ vs)[i]? = some (some (b, d)) → i ∉ vs ∧ ρ[i]? = some (some (b, d))
  | [], h => ⟨(fun z => nomatch z), h⟩
  | v :: vs, h => by
    unfold wipeS at h
    by_cases e : v = i
    · subst e
      by_cases hl : v < (wipeS ρ vs).length
      · rw [List.getElem?_set_self hl] at h; cases h
      · rw [List.getElem?_eq_none (by rw [List.length_set]; omega)] at h; cases h
    · rw [List.getElem?_set_ne e] at h
      obtain ⟨h1, h2⟩ := wipeS_get h
      exact ⟨fun z => (List.mem_cons.mp z).elim (fun q => e q.symm) h1, h2⟩
theorem wipe_turn {σ : L2.St} {vs : List Nat} {j : Nat} {x : V} (m : j ∈ vs) : L2.wipe ((L2.wipe σ vs).set j (some x)) vs = L2.wipe σ vs := by
  refine List.ext_getElem? fun i => ?_
  rw [wipe_get, wipe_get]
  by_cases h : i ∈ vs
  · rw [if_pos h, if_pos h, List.length_set, L2.wipe_length]
  · rw [if_neg h, if_neg h, List.getElem?_set_ne (fun (e : j = i) => h (by rw [← e]; exact m)), wipe_get, if_neg h]
section
variable {K : PySem.W.Frag} {H H' : Hp} {ρ : List Sd} {σ : L2.St}
theorem Rs.turn {vs : List Nat} {j : Nat} {x : V} {d : Da} (h : Rs K H ρ σ) (m : j ∈ vs) (e : Ex H H') (s : Sh K H' x d) : Rs K H' ((wipeS ρ vs).set j (sh d)) ((L2.wipe σ vs).set j (some x)) := by
  refine ⟨by rw [List.length_set, List.length_set, wipeS_len, L2.wipe_length, h.1], fun i b d' q => ?_⟩
  by_cases ej : j = i
  · subst ej
    by_cases hl : j < (wipeS ρ vs).length
    · rw [List.getElem?_set_self hl] at q
      cases q
      exact ⟨x, by rw [List.getElem?_set_self (by rw [L2.wipe_length, ← h.1, ← wipeS_len ρ vs]; exact hl)], s⟩
    · rw [List.getElem?_eq_none (by rw [List.length_set]; omega)] at q; cases q
  · rw [List.getElem?_set_ne ej] at q
    obtain ⟨h1, h2⟩ := wipeS_get q
    obtain ⟨v, z1, z2⟩ := h.2 i b d' h2
    exact ⟨v, by rw [List.getElem?_set_ne ej, wipe_get, if_neg h1]; exact z1, z2.mono e⟩
/-- what a comprehension has made behind i turns -/
def Made (K : PySem.W.Frag) (H1 : Hp) (D : Addr) (ds : List Da) (H' : Hp) : Prop := H1 D = none ∧ Ex H1 H' ∧ ∃ acc F, H' D = some (.lst acc) ∧ Owns K H' acc ds F ∧ F.Nodup ∧ ∀ a, a ∈ F → H1 a = none ∧ a ≠ D
theorem Made.nil {D : Addr} (h : H D = none) : Made K H D [] (upd H D (.lst [])) := ⟨h, .new h, [], [], upd_same, .nil, List.nodup_nil, fun _ z => nomatch z⟩
theorem Made.turn {D : Addr} {ds : List Da} {d : Da} {te : TE} {tt : TT} {σ2 : L2.St} {ρ2 : List Sd} {b : Bool} {H' : Hp} {P1 : Hp → Prop} (m : Made K H D ds H') (hl : ds.length < 100000) (rs : ∀ H3, Ex H' H3 → Rs K H3 ρ2 σ2)
    (ht : EvT K tt ρ2 b) (he : b = true → EvF K te ρ2 d) (k1 : b = true → ∀ H3, Made K H D (ds ++ [d]) H3 → P1 H3) (k0 : b = false → ∀ H3, Made K H D ds H3 → P1 H3) :
    tt σ2 H' fun b H3 => if b = true then te σ2 H3 fun y H4 => ∃ acc, H4 D = some (.lst acc) ∧ acc.length < sizeLine ∧ P1 (upd H4 D (.lst (acc ++ [y]))) else P1 H3 := by
  obtain ⟨h1, h2, acc, F, h3, h4, h5, h6⟩ := m
  refine ht σ2 H' _ (rs H' (Ex.refl H')) fun H3 e3 => ?_
  cases b with
  | false => exact k0 rfl H3 ⟨h1, h2.trans e3, acc, F, e3.lst h3, h4.mono e3, h5, h6⟩
  | true =>
    refine he rfl σ2 H3 _ (rs H3 e3) fun y H4 Fy e4 w f n => ?_
    have hD4 : H4 D = some (.lst acc) := e4.lst (e3.lst h3)
    refine ⟨acc, hD4, by rw [h4.length]; exact Nat.lt_trans hl (by decide), k1 rfl _ ⟨h1, Ex.mut ((h2.trans e3).trans e4) h1 (noTup_lst hD4), acc ++ [y], F ++ (Fy ++ []), upd_same, ?_, ?_, ?_⟩⟩
    · have nt := noTup_lst hD4
      refine Owns.append ((h4.mono (e3.trans e4)).upd nt fun z => (h6 D z).2 rfl) (.cons (w.upd nt fun z => ?_) .nil)
      have := f D z
      rw [e3.lst h3] at this
      cases this
    · rw [List.append_nil]
      refine List.nodup_append.mpr ⟨h5, n, fun a ha b hb e => ?_⟩
      obtain ⟨u, hu⟩ := h4.there a ha
      have := f b hb
      obtain ⟨u', hu'⟩ := e3.has hu
      rw [← e, hu'] at this
      cases this
    · intro a ha
      rw [List.append_nil] at ha
      rcases List.mem_append.mp ha with ha | ha
      · exact h6 a ha
      · refine ⟨(h2.trans e3).back (f a ha), fun e => ?_⟩
        have := f a ha
        rw [e, e3.lst h3] at this
        cases this
theorem Made.own {D : Addr} {ds : List Da} (m : Made K H D ds H') : ∃ F, Own K H' (.ref D) (.lst ds) F ∧ (∀ a, a ∈ F → H a = none) ∧ F.Nodup := by
  obtain ⟨h1, h2, acc, F, h3, h4, h5, h6⟩ := m
  exact ⟨D :: F, .lst h3 h4, fun a ha => (List.mem_cons.mp ha).elim (fun e => e ▸ h1) fun z => (h6 a z).1, List.nodup_cons.mpr ⟨fun z => (h6 D z).2 rfl, h5⟩⟩
theorem take_next {α : Type} {xs : List α} {i : Nat} {x : α} (h : xs[i]? = some x) : xs.take (i + 1) = xs.take i ++ [x] := by
  rw [List.take_add_one, h]; rfl
variable {tl te : TE} {tt : TT}
theorem ef_lcF {α : Type} (xs : List α) (e g : α → Da) (p : α → Bool) {j : Nat} {vs : List Nat} (h : EvB K tl ρ (.lst (xs.map e))) (m : j ∈ vs) (hl : xs.length ≤ 100000)
    (ht : ∀ x, x ∈ xs → EvT K tt ((wipeS ρ vs).set j (sh (e x))) (p x)) (he : ∀ x, x ∈ xs → p x = true → EvF K te ((wipeS ρ vs).set j (sh (e x))) (g x)) : EvF K (tLc (iList K tl) (gName j) tt te vs) ρ (.lst ((xs.filter p).map g)) := fun σ H Q rs q =>
  h σ H _ rs fun v H1 e1 s => by
    obtain ⟨a, ys, rfl, hr, hs⟩ := s.lst_inv
    refine ⟨a, rfl, ⟨ys, .inl hr⟩, fun D hD => ?_⟩
    have lys : ys.length = xs.length := by rw [hs.length, List.length_map]
    refine lc_list (xs := ys) (fun i H' => Made K H1 D (((xs.take i).filter p).map g) H') (Made.nil hD) (fun i H' _ m' => .inl (ex_rd m'.2.1 hr)) (fun i x H' hx m' => ⟨wipe_turn m, ?_⟩) (fun H' m' => ?_)
    · obtain ⟨d, hd, sx⟩ := hs.getV hx
      rw [List.getElem?_map] at hd
      cases hz : xs[i]? with
      | none => rw [hz] at hd; cases hd
      | some z =>
        rw [hz] at hd
        have hd' : e z = d := Option.some.inj hd
        subst hd'
        have zm : z ∈ xs := List.mem_of_getElem? hz
        refine Made.turn (ρ2 := (wipeS ρ vs).set j (sh (e z))) (d := g z) m' ?_ (fun H3 e3 => (rs.mono e1).turn m (m'.2.1.trans e3) (sx.mono (m'.2.1.trans e3))) (ht z zm) (he z zm) (fun hb H3 m3 => ?_) (fun hb H3 m3 => ?_)
        · rw [List.length_map]
          have := List.length_filter_le p (xs.take i)
          have := (List.getElem?_eq_some_iff.mp hz).1
          rw [List.length_take] at *
          omega
        · show Made K H1 D _ H3
          rw [take_next hz, List.filter_append, List.map_append, List.filter_cons, if_pos hb]
          exact m3
        · show Made K H1 D _ H3
          rw [take_next hz, List.filter_append, List.map_append, List.filter_cons, if_neg (by rw [hb]; decide)]
          show Made K H1 D (_ ++ []) H3
          rw [List.append_nil]
          exact m3
    · rw [lys, List.take_length] at m'
      obtain ⟨F, w, f, n⟩ := m'.own
      exact q _ _ F (e1.trans m'.2.1) w (fun a ha => e1.back (f a ha)) n
theorem filter_true {α : Type} : ∀ xs : List α, xs.filter (fun _ => true) = xs
  | [] => rfl
  | x :: xs => by rw [List.filter_cons, if_pos rfl, filter_true xs]
theorem et_yes : EvT K tYes ρ true := fun σ H Q rs q => q H (Ex.refl H)
theorem ef_lc {α : Type} (xs : List α) (e g : α → Da) {j : Nat} {vs : List Nat} (h : EvB K tl ρ (.lst (xs.map e))) (m : j ∈ vs) (hl : xs.length ≤ 100000)
    (he : ∀ x, x ∈ xs → EvF K te ((wipeS ρ vs).set j (sh (e x))) (g x)) : EvF K (tLc (iList K tl) (gName j) tYes te vs) ρ (.lst (xs.map g)) := by
  have := ef_lcF (tt := tYes) xs e g (fun _ => true) h m hl (fun _ _ => et_yes) (fun x hx _ => he x hx)
  rw [filter_true] at this
  exact this
/-- over a tuple -/
theorem ef_lcTF {α : Type} (xs : List α) (e g : α → Da) (p : α → Bool) {j : Nat} {vs : List Nat} (h : EvB K tl ρ (.tup (xs.map e))) (m : j ∈ vs) (hl : xs.length ≤ 100000)
    (ht : ∀ x, x ∈ xs → EvT K tt ((wipeS ρ vs).set j (sh (e x))) (p x)) (he : ∀ x, x ∈ xs → p x = true → EvF K te ((wipeS ρ vs).set j (sh (e x))) (g x)) : EvF K (tLc (iTup K tl) (gName j) tt te vs) ρ (.lst ((xs.filter p).map g)) := fun σ H Q rs q =>
  h σ H _ rs fun v H1 e1 s => by
    obtain ⟨a, ys, rfl, hr, hs⟩ := s.tup_inv
    refine ⟨a, rfl, ⟨ys, hr⟩, fun D hD => ?_⟩
    have lys : ys.length = xs.length := by rw [hs.length, List.length_map]
    refine lc_tup (xs := ys) (fun i H' => Made K H1 D (((xs.take i).filter p).map g) H') (Made.nil hD) (fun i H' _ m' => ex_t m'.2.1 hr) (fun i x H' hx m' => ⟨wipe_turn m, ?_⟩) (fun H' m' => ?_)
    · obtain ⟨d, hd, sx⟩ := hs.getV hx
      rw [List.getElem?_map] at hd
      cases hz : xs[i]? with
      | none => rw [hz] at hd; cases hd
      | some z =>
        rw [hz] at hd
        have hd' : e z = d := Option.some.inj hd
        subst hd'
        have zm : z ∈ xs := List.mem_of_getElem? hz
        refine Made.turn (ρ2 := (wipeS ρ vs).set j (sh (e z))) (d := g z) m' ?_ (fun H3 e3 => (rs.mono e1).turn m (m'.2.1.trans e3) (sx.mono (m'.2.1.trans e3))) (ht z zm) (he z zm) (fun hb H3 m3 => ?_) (fun hb H3 m3 => ?_)
        · rw [List.length_map]
          have := List.length_filter_le p (xs.take i)
          have := (List.getElem?_eq_some_iff.mp hz).1
          rw [List.length_take] at *
          omega
        · show Made K H1 D _ H3
          rw [take_next hz, List.filter_append, List.map_append, List.filter_cons, if_pos hb]
          exact m3
        · show Made K H1 D _ H3
          rw [take_next hz, List.filter_append, List.map_append, List.filter_cons, if_neg (by rw [hb]; decide)]
          show Made K H1 D (_ ++ []) H3
          rw [List.append_nil]
          exact m3
    · rw [lys, List.take_length] at m'
      obtain ⟨F, w, f, n⟩ := m'.own
      exact q _ _ F (e1.trans m'.2.1) w (fun a ha => e1.back (f a ha)) n
theorem ef_lcT {α : Type} (xs : List α) (e g : α → Da) {j : Nat} {vs : List Nat} (h : EvB K tl ρ (.tup (xs.map e))) (m : j ∈ vs) (hl : xs.length ≤ 100000)
    (he : ∀ x, x ∈ xs → EvF K te ((wipeS ρ vs).set j (sh (e x))) (g x)) : EvF K (tLc (iTup K tl) (gName j) tYes te vs) ρ (.lst (xs.map g)) := by
  have := ef_lcTF (tt := tYes) xs e g (fun _ => true) h m hl (fun _ _ => et_yes) (fun x hx _ => he x hx)
  rw [filter_true] at this
  exact this
/-- over range(n) -/
theorem ef_lcR {ta : TA} {n : Int} (g : Nat → Da) {j : Nat} {vs : List Nat} (h : EvA K ta ρ [.int n]) (m : j ∈ vs) (hl : n ≤ 100000)
    (he : ∀ i : Nat, (i : Int) < n → EvF K te ((wipeS ρ vs).set j (sh (.int i))) (g i)) (hlo : -100000 ≤ n := by omega) : EvF K (tLc (iRng1 ta) (gName j) tYes te vs) ρ (.lst ((List.range n.toNat).map g)) := fun σ H Q rs q =>
  h σ H _ rs fun as H1 e1 s => by
    cases s with
    | cons s1 s2 =>
      cases s2
      have := s1.int_inv
      subst this
      refine ⟨n, rfl, by omega, by omega, fun D hD => ?_⟩
      refine lc_range (lo := 0) (n := n.toNat) (fun i H' => Made K H1 D ((List.range i).map g) H') (Made.nil hD) (fun i H' hi m' => ?_) (fun H' m' => ?_)
      · rw [Int.zero_add]
        refine ⟨wipe_turn m, ?_⟩
        refine Made.turn (ρ2 := (wipeS ρ vs).set j (sh (.int i))) (d := g i) (b := true) m' (by rw [List.length_map, List.length_range]; omega) (fun H3 e3 => (rs.mono e1).turn m (m'.2.1.trans e3) (.int _)) et_yes (fun _ => he i (by omega)) (fun hb H3 m3 => ?_) (fun hb => nomatch hb)
        show Made K H1 D _ H3
        rw [List.range_succ, List.map_append]
        exact m3
      · obtain ⟨F, w, f, n⟩ := m'.own
        exact q _ _ F (e1.trans m'.2.1) w (fun a ha => e1.back (f a ha)) n
/-! ### isinstance -/
def kindD : Da → Option String
  | .non => some "NoneType"
  | .bl _ => some "bool"
  | .int _ => some "int"
  | .str _ => some "str"
  | .obj _ => none
  | .ptr _ _ => none
  | .fn _ => none
  | .tup _ => some "tuple"
  | .lst _ => some "list"
  | .scr _ => some "list"
  | .dic _ _ _ => none
theorem tyX_rdL {a : Addr} {xs : List V} (h : Rd H a (.lst xs)) : TyX K H (.ref a) (.type "list") := by
  rcases h with h | ⟨o, h⟩
  · exact .base (.lst h)
  · exact .base (.frz h)
theorem tyX_of {v : V} {d : Da} {n : String} (s : Sh K H v d) (h : kindD d = some n) : TyX K H v (.type n) := by
  cases s with
  | non => cases h; exact .base .non
  | bl b => cases h; exact .base (.bl b)
  | int b => cases h; exact .base (.int b)
  | str b => cases h; exact .base (.str b)
  | obj b => cases h
  | ptr _ => cases h
  | fn _ _ => cases h
  | tup h1 _ =>
    cases h
    exact .base (.tup h1)
  | lst h1 _ => cases h; exact tyX_rdL h1
  | scr h1 =>
    cases h
    rcases h1 with h1 | ⟨o, its, n, h1, h2, _⟩
    · exact tyX_rdL h1
    · exact .kList h1 h2
  | dic _ _ => cases h
theorem ev_isi {t : TE} {d : Da} {n m : String} {r : Bool} (h : EvB K t ρ d) (hd : kindD d = some n) (hk : kitB n m = some r) : EvB K (tCB (rIsi K) (tCons t (tCons (tC (.ty m)) tNil))) ρ (.bl r) := fun σ H Q rs q =>
  h σ H _ rs fun v H1 e s => ⟨v, .ty m, .type n, .type m, r, rfl, .ty m, tyX_of s hd, kit_ty hk, q _ H1 e (.bl r)⟩
/-! ### == of data -/
mutual
def toPy : Da → PyData
  | .non => .none
  | .bl b => .bool b
  | .int i => .int i
  | .str s => .str s
  | .obj _ => .none
  | .ptr _ _ => .none
  | .fn _ => .none
  | .tup l => .tuple (toPys l)
  | .lst l => .list (toPys l)
  | .scr ns => .list (ns.map .int)
  | .dic _ _ _ => .none
def toPys : List Da → List PyData
  | [] => []
  | d :: l => toPy d :: toPys l
end
mutual
def flD : Nat → Da → Bool
  | _, .non => true
  | _, .bl _ => true
  | _, .int _ => true
  | _, .str _ => false
  | _, .obj _ => false
  | _, .ptr _ _ => false
  | _, .fn _ => false
  | n + 1, .tup l => flDs n l
  | n + 1, .lst l => flDs n l
  | 0, .tup _ => false
  | 0, .lst _ => false
  | _, .scr _ => false
  | _, .dic _ _ _ => false
def flDs : Nat → List Da → Bool
  | _, [] => true
  | n, d :: l => flD n d && flDs n l
end
theorem flDs_map {α : Type} {n : Nat} {e : α → Da} (h : ∀ x, flD n (e x) = true) : ∀ xs : List α, flDs n (xs.map e) = true
  | [] => by unfold flDs; rfl
  | x :: xs => by
    show flDs n (e x :: xs.map e) = true
    unfold flDs
    rw [h x, flDs_map h xs]; rfl
mutual
theorem Sh.dp {n : Nat} : ∀ {v : V} {d : Da}, Sh K H v d → flD n d = true → Dp K H v (toPy d)
  | _, _, .non, _ => by unfold toPy; exact .non
  | _, _, .bl b, _ => by unfold toPy; exact .bl b
  | _, _, .int b, _ => by unfold toPy; exact .int b
  | _, _, .str b, h => by unfold flD at h; cases h
  | _, _, .obj b, h => by unfold flD at h; cases h
  | _, _, .ptr _, h => by unfold flD at h; cases h
  | _, _, .fn _ _, h => by unfold flD at h; cases h
  | _, _, .tup h1 t, h => by
    cases n with
    | zero => unfold flD at h; cases h
    | succ n => unfold flD at h; unfold toPy; exact .tup (.of h1) (Shs.dp t h)
  | _, _, .lst h1 t, h => by
    cases n with
    | zero => unfold flD at h; cases h
    | succ n => unfold flD at h; unfold toPy; exact .lst (.inl h1) (Shs.dp t h)
  | _, _, .scr _, h => by unfold flD at h; cases h
  | _, _, .dic _ _, h => by unfold flD at h; cases h
theorem Shs.dp {n : Nat} : ∀ {v : List V} {d : List Da}, Shs K H v d → flDs n d = true → DpAll K H v (toPys d)
  | _, _, .nil, _ => by unfold toPys; exact .nil
  | _, _, .cons h1 t, h => by
    unfold flDs at h
    rw [Bool.and_eq_true] at h
    unfold toPys
    exact .cons (Sh.dp h1 h.1) (Shs.dp t h.2)
end
mutual
theorem flD_lay {n : Nat} : ∀ d : Da, flD n d = true → PyData.canLay0 (toPy d) = true ∧ PyData.depth (toPy d) ≤ n
  | .non, _ => by unfold toPy PyData.canLay0 PyData.depth; exact ⟨rfl, Nat.zero_le _⟩
  | .bl _, _ => by unfold toPy PyData.canLay0 PyData.depth; exact ⟨rfl, Nat.zero_le _⟩
  | .int _, _ => by unfold toPy PyData.canLay0 PyData.depth; exact ⟨rfl, Nat.zero_le _⟩
  | .str _, h => by unfold flD at h; cases h
  | .obj _, h => by unfold flD at h; cases h
  | .ptr _ _, h => by unfold flD at h; cases h
  | .fn _, h => by unfold flD at h; cases h
  | .scr _, h => by unfold flD at h; cases h
  | .dic _ _ _, h => by unfold flD at h; cases h
  | .tup l, h => by
    cases n with
    | zero => unfold flD at h; cases h
    | succ n =>
      unfold flD at h
      obtain ⟨a, b⟩ := flDs_lay l h
      unfold toPy PyData.canLay0 PyData.depth
      exact ⟨a, Nat.succ_le_succ b⟩
  | .lst l, h => by
    cases n with
    | zero => unfold flD at h; cases h
    | succ n =>
      unfold flD at h
      obtain ⟨a, b⟩ := flDs_lay l h
      unfold toPy PyData.canLay0 PyData.depth
      exact ⟨a, Nat.succ_le_succ b⟩
theorem flDs_lay {n : Nat} : ∀ d : List Da, flDs n d = true → PyData.canLayAll0 (toPys d) = true ∧ PyData.depthAll (toPys d) ≤ n
  | [], _ => by unfold toPys PyData.canLayAll0 PyData.depthAll; exact ⟨rfl, Nat.zero_le _⟩
  | d :: l, h => by
    unfold flDs at h
    rw [Bool.and_eq_true] at h
    obtain ⟨a, b⟩ := flD_lay d h.1
    obtain ⟨a2, b2⟩ := flDs_lay l h.2
    unfold toPys PyData.canLayAll0 PyData.depthAll
    rw [a, a2]
    exact ⟨rfl, Nat.max_le.mpr ⟨b, b2⟩⟩
end
theorem flD_shaped {n : Nat} {d : Da} (h : flD n d = true) (hn : n ≤ 64) : SeqAt.shaped (toPy d) = true := by
  obtain ⟨a, b⟩ := flD_lay d h
  unfold SeqAt.shaped
  rw [a, decide_eq_true (Nat.le_trans b hn)]; rfl
def eqD (a b : Da) : Bool := PyData.eqv (toPy a) (toPy b)
variable {ta tb : TE} {d1 d2 : Da} {n m : Nat}
theorem ev_eqD (ha : EvB K ta ρ d1) (hb : EvB K tb ρ d2) (n m : Nat) (h1 : flD n d1 = true) (h2 : flD m d2 = true) (hn : n ≤ 64 := by decide) (hm : m ≤ 64 := by decide) : EvB K (tOp (rEqD K) ta tb) ρ (.bl (eqD d1 d2)) :=
  ev_2 ha hb fun x y H Q s1 s2 q => ⟨toPy d1, toPy d2, s1.dp h1, s2.dp h2, flD_shaped h1 hn, flD_shaped h2 hm, q _ H (Ex.refl H) (.bl _)⟩
theorem ev_neD (ha : EvB K ta ρ d1) (hb : EvB K tb ρ d2) (n m : Nat) (h1 : flD n d1 = true) (h2 : flD m d2 = true) (hn : n ≤ 64 := by decide) (hm : m ≤ 64 := by decide) : EvB K (tOp (rNeD K) ta tb) ρ (.bl (!eqD d1 d2)) :=
  ev_2 ha hb fun x y H Q s1 s2 q => ⟨toPy d1, toPy d2, s1.dp h1, s2.dp h2, flD_shaped h1 hn, flD_shaped h2 hm, q _ H (Ex.refl H) (.bl _)⟩
theorem eqD_self {n : Nat} {d : Da} (h : flD n d = true) : eqD d d = true := SeqAt.eqv_refl _ (flD_lay d h).1
/-- unlike things told apart -/
def Apart {α : Type} (e : α → Da) : Prop := ∀ x y, eqD (e x) (e y) = true ↔ x = y
theorem apart_int : Apart Da.int := fun x y => by
  unfold eqD toPy PyData.eqv
  exact beq_iff_eq
theorem eqv_all {α : Type} {e : α → Da} (h : Apart e) : ∀ xs ys : List α, PyData.eqvAll (toPys (xs.map e)) (toPys (ys.map e)) = true ↔ xs = ys
  | [], [] => by simp [toPys, PyData.eqvAll]
  | x :: xs, [] => by simp [toPys, PyData.eqvAll]
  | [], y :: ys => by simp [toPys, PyData.eqvAll]
  | x :: xs, y :: ys => by
    show PyData.eqvAll (toPys (e x :: xs.map e)) (toPys (e y :: ys.map e)) = true ↔ _
    unfold toPys PyData.eqvAll
    rw [Bool.and_eq_true]
    have h1 : PyData.eqv (toPy (e x)) (toPy (e y)) = true ↔ x = y := h x y
    rw [h1, eqv_all h xs ys]
    constructor
    · rintro ⟨rfl, rfl⟩; rfl
    · intro z; cases z; exact ⟨rfl, rfl⟩
theorem Apart.lst {α : Type} {e : α → Da} (h : Apart e) : Apart (fun l : List α => Da.lst (l.map e)) := fun x y => by
  unfold eqD toPy PyData.eqv
  exact eqv_all h x y
theorem Apart.tup {α : Type} {e : α → Da} (h : Apart e) : Apart (fun l : List α => Da.tup (l.map e)) := fun x y => by
  unfold eqD toPy PyData.eqv
  exact eqv_all h x y
theorem Apart.pair {α β : Type} {e : α → Da} {f : β → Da} (h : Apart e) (g : Apart f) : Apart (fun p : α × β => Da.tup [e p.1, f p.2]) := fun x y => by
  have h1 : PyData.eqv (toPy (e x.1)) (toPy (e y.1)) = true ↔ x.1 = y.1 := h _ _
  have h2 : PyData.eqv (toPy (f x.2)) (toPy (f y.2)) = true ↔ x.2 = y.2 := g _ _
  unfold eqD
  simp only [toPy, toPys, PyData.eqv, PyData.eqvAll, Bool.and_true, Bool.and_eq_true]
  rw [h1, h2]
  constructor
  · rintro ⟨a, b⟩; exact Prod.ext a b
  · rintro rfl; exact ⟨rfl, rfl⟩
theorem Apart.dec {α : Type} [DecidableEq α] {e : α → Da} (h : Apart e) (x y : α) : eqD (e x) (e y) = decide (x = y) := by
  by_cases q : x = y
  · rw [decide_eq_true q]; exact (h x y).mpr q
  · rw [decide_eq_false q]
    cases z : eqD (e x) (e y) with
    | false => rfl
    | true => exact absurd ((h x y).mp z) q
end
end Fw

set_option Elab.async false
set_option linter.all false
set_option maxRecDepth 100000
set_option maxHeartbeats 4000000
namespace Fw
open PySem L2
/-! ### typed data -/
abbrev eN (n : Nat) : Da := .int (n : Int)
abbrev eL {α : Type} (e : α → Da) (l : List α) : Da := .lst (l.map e)
abbrev eV {α : Type} (e : α → Da) (l : List α) : Da := .tup (l.map e)
abbrev eP {α β : Type} (e : α → Da) (f : β → Da) (p : α × β) : Da := .tup [e p.1, f p.2]
abbrev eP3 {α β γ : Type} (e : α → Da) (f : β → Da) (g : γ → Da) (p : α × β × γ) : Da := .tup [e p.1, f p.2.1, g p.2.2]
theorem imm_V {α : Type} {e : α → Da} (h : ∀ x, (e x).imm = true) (l : List α) : (Da.tup (l.map e)).imm = true := imms_map e h l
theorem imm_P {a b : Da} (h : a.imm = true) (g : b.imm = true) : (Da.tup [a, b]).imm = true := by
  show (a.imm && (b.imm && true)) = true
  rw [h, g]; rfl
theorem imm_P3 {a b c : Da} (h : a.imm = true) (g : b.imm = true) (k : c.imm = true) : (Da.tup [a, b, c]).imm = true := by
  show (a.imm && (b.imm && (c.imm && true))) = true
  rw [h, g, k]; rfl
theorem apart_nat : Apart eN := fun x y => by
  rw [show eqD (eN x) (eN y) = true ↔ (x : Int) = (y : Int) from apart_int _ _]
  omega
theorem getD_some {α : Type} {xs : List α} {k : Nat} (z : α) (h : k < xs.length) : xs[k]? = some (xs.getD k z) := by
  rw [List.getD_eq_getElem?_getD, List.getElem?_eq_getElem h]; rfl
/-- an item by a whole number -/
theorem at_map {α : Type} {xs : List α} {f : α → Da} {i : Int} (z : α) (h0 : 0 ≤ i) (h1 : i < xs.length) : atI (xs.map f) i = some (f (xs.getD i.toNat z)) :=
  atI_map (k := i.toNat) (by omega) (getD_some z (by omega))
theorem at_mapN {α : Type} {xs : List α} {f : α → Da} {k : Nat} (z : α) (h1 : k < xs.length) : atI (xs.map f) (k : Int) = some (f (xs.getD k z)) :=
  atI_map (k := k) rfl (getD_some z h1)
/-! ### defs that are known -/
def Known (P : Program) (w : World) (K : PySem.W.Frag) (mg : Str → Option Value) (base : Heap) (x : Str) (k : Nat) (sp : Sp) (n : Nat) (dvs : List V) : Prop :=
  ∃ (f : Addr) (fd : FuncData) (ps : List Str) (ds : List Value), mg x = some (.ref f) ∧ PySem.W.keepIn K (.ref f) = true ∧ Binds K fd ps ds ∧ Vals dvs ds ∧ ps.length = n ∧ FnOk P w K mg base CX0 k f fd ps sp
section
variable {X : Cx} {e : Expr} {es : List Expr} {x : Str} {k n : Nat} {sp : Sp} {dvs : List V} {p pos : Pos} {t : TA}
theorem pe_known (h : Known X.prog X.w X.K X.mg X.base x k sp n dvs) (hr : Room k X.A) (ha : PA X (e :: es) t) (hg : Gl X x := by rfl) (hdb : (x == ("__debug__" : Str)) = false := by decide)
    (he : starEach (e :: es) X.env = (false, eval e X.env) :: starEach es X.env := by rfl) (hpl : (backTo pos (starEach es X.env)).any (·.1) = false := by rfl) : PE X (.Call (.Name x p) (e :: es) [] pos) (tCall sp dvs E0 t) := by
  obtain ⟨f, fd, ps, ds, hm, hk, hb, hd, _, F⟩ := h
  exact pe_call F hr hg hm hk hb hd pass0 ha hdb he hpl
theorem Known.mono {P : Program} {w : World} {K : PySem.W.Frag} {mg : Str → Option Value} {base : Heap} {j : Nat} (h : Known P w K mg base x j sp n dvs) (hj : j ≤ k) : Known P w K mg base x k sp n dvs := by
  obtain ⟨f, fd, ps, ds, hm, hk, hb, hd, l, F⟩ := h
  exact ⟨f, fd, ps, ds, hm, hk, hb, hd, l, F.mono hj⟩
end
/-- a def of the text behind the top -/
def Stands (K : PySem.W.Frag) (mg : Str → Option Value) (x : Str) (st : Stmt) : Prop := ∃ f fd, Fun K x x st f fd ∧ mg x = some (.ref f)
section
variable {P : Program} {w : World} {K : PySem.W.Frag} {mg : Str → Option Value} {base : Heap}
/-- THE RULE for a def that changes nothing and raises nothing -/
theorem fnok_of {x : Str} {st : Stmt} {N ps : List Str} {k : Nat} {G : List Da → Da → Prop} {f : Addr} {fd : FuncData} (F : Fun K x x st f fd) (sc : FnScope N ps (defScope st)) (len : ∀ ds d, G ds d → ds.length = ps.length)
    (hbody : ∀ (cdv : Value) (A : Around) (outer : List Env) (s : Shared) (H : Hp) (E : XK), Room k (A.deeper (PyProof.Rows.envOfC x (defScope st) s.heap.objs.size f cdv)) →
      ∃ t, PSs (cxOf CX0 P w K mg base N x (defScope st) f cdv A outer s H E).nox (defBody st) t ∧ ∀ ds d, G ds d → J K H t (ds.map sh ++ List.replicate (N.length - ds.length) no) { nx := fun _ => d = .non, rt := fun d' => d' = d }) :
    FnOk P w K mg base CX0 (k + 1) f fd ps (spF K G) := by
  refine F.ok sc (fun vs H Q E h => ?_) (fun cdv A outer s H vs Q E hr h => ?_)
  · obtain ⟨ds, d, h1, h2, _⟩ := h
    rw [h1.length, len ds d h2]
  · obtain ⟨t, ht, hj⟩ := hbody cdv A outer s H E hr
    obtain ⟨ds, d, h1, h2, h3⟩ := h
    exact ⟨t, ht, body_of h1 h3 (hj ds d h2)⟩
theorem known_of {x : Str} {st : Stmt} {ps : List Str} {k : Nat} {sp : Sp} (S : Stands K mg x st)
    (hb : ∀ (kV doc pm : Value) (an : Option Addr) (cdv ct : Value) (us : List Value), us.length = ps.length → bindArgs (PySem.W.fnOf x x (defArgs st) (defBody st) (defScope st) .none kV doc pm an cdv ct) ⟨us, []⟩ = pure (ps.zip us))
    (h : ∀ f fd, Fun K x x st f fd → FnOk P w K mg base CX0 k f fd ps sp) : Known P w K mg base x k sp ps.length [] := by
  obtain ⟨f, fd, F, hm⟩ := S
  exact ⟨f, fd, ps, [], hm, F.kp, F.binds hb, .nil, rfl, h f fd F⟩
/-- the law's own promise -/
def lawG : List Da → Da → Prop := fun ds d => ∃ ns : List Int, ds = [.scr ns] ∧ ns.length ≤ 63 ∧ d = .bl true
theorem law_sp {n : Nat} (hn : n ≤ 63) (K : PySem.W.Frag) (H : Hp) (a : Addr) (ns : List Int) (hl : ns.length ≤ n) (_ : Only H) (hs : SqL K H a (ns.map V.int)) : spF K lawG [.ref a] H (fun v _ => v = .bl true) fun _ _ _ => False :=
  ⟨[.scr ns], .bl true, .cons (.scr hs) .nil, ⟨ns, rfl, Nat.le_trans hl hn, rfl⟩, fun v H' F e w f nd => by cases w; rfl⟩
end
end Fw

set_option Elab.async false
set_option linter.all false
set_option maxRecDepth 100000
set_option maxHeartbeats 4000000
namespace Fw
open PySem L2
/-! ### slices -/
def EvO (K : PySem.W.Frag) (t : TO) (ρ : List Sd) (o : Option Int) : Prop := ∀ σ H (Q : Option Int → Hp → Prop), Rs K H ρ σ → (∀ H', Ex H H' → Q o H') → t σ H Q
def cut {α : Type} (xs : List α) (lo hi : Option Int) : List α := (xs.drop (HT.sIx xs.length 0 lo)).take (HT.sIx xs.length xs.length hi - HT.sIx xs.length 0 lo)
theorem cut_map {α β : Type} (f : α → β) (xs : List α) (lo hi : Option Int) : cut (xs.map f) lo hi = (cut xs lo hi).map f := by
  unfold cut
  rw [List.length_map, List.map_take, List.map_drop]
theorem cut_len {α : Type} (xs : List α) (lo hi : Option Int) : (cut xs lo hi).length ≤ xs.length := by
  unfold cut
  rw [List.length_take, List.length_drop]
  omega
theorem cut_nat {α : Type} (xs : List α) (a b : Nat) : cut xs (some (a : Int)) (some (b : Int)) = (xs.drop a).take (b - a) := by
  unfold cut
  rw [HT.sIx_nat, HT.sIx_nat]
  by_cases ha : a ≤ xs.length
  · rw [Nat.min_eq_left ha]
    by_cases hb : b ≤ xs.length
    · rw [Nat.min_eq_left hb]
    · rw [Nat.min_eq_right (by omega)]
      rw [List.take_of_length_le (by rw [List.length_drop]; omega), List.take_of_length_le (by rw [List.length_drop]; omega)]
  · rw [Nat.min_eq_right (a := a) (by omega)]
    rw [List.drop_eq_nil_of_le (Nat.le_refl _), List.drop_eq_nil_of_le (by omega), List.take_nil, List.take_nil]
theorem cut_to {α : Type} (xs : List α) (b : Nat) : cut xs none (some (b : Int)) = xs.take b := by
  unfold cut
  rw [HT.sIx_nat, HT.sIx_none]
  show (xs.drop 0).take (min b xs.length - 0) = xs.take b
  rw [List.drop_zero, Nat.sub_zero]
  by_cases hb : b ≤ xs.length
  · rw [Nat.min_eq_left hb]
  · rw [Nat.min_eq_right (by omega), List.take_of_length_le (Nat.le_refl _), List.take_of_length_le (by omega)]
theorem cut_from {α : Type} (xs : List α) (a : Nat) : cut xs (some (a : Int)) none = xs.drop a := by
  unfold cut
  rw [HT.sIx_nat, HT.sIx_none]
  by_cases ha : a ≤ xs.length
  · rw [Nat.min_eq_left ha, List.take_of_length_le (by rw [List.length_drop]; omega)]
  · rw [Nat.min_eq_right (by omega), List.drop_eq_nil_of_le (Nat.le_refl _), List.drop_eq_nil_of_le (by omega), List.take_nil]
section
variable {K : PySem.W.Frag} {B0 H : Hp} {ρ : List Sd} {te ta tb tc : TE} {d d1 d2 : Da} {lo hi : Option Int} {tl th : TO} {i j k : Int}
theorem eo_none : EvO K tNoPart ρ none := fun σ H Q _ q => q H (Ex.refl H)
theorem eo_some (h : EvB K te ρ (.int i)) : EvO K (tPart te) ρ (some i) := fun σ H Q rs q => h σ H _ rs fun v H1 e s => ⟨i, s.int_inv, q H1 e⟩
theorem Shs.cut {xs : List V} {ds : List Da} (h : Shs K H xs ds) (lo hi : Option Int) : Shs K H (cutV xs lo hi) (Fw.cut ds lo hi) := by
  unfold cutV Fw.cut
  rw [h.length]
  exact (h.drop _).take _
theorem imms_take : ∀ {ds : List Da} (n : Nat), Da.imms ds = true → Da.imms (ds.take n) = true
  | _, 0, _ => rfl
  | [], _ + 1, _ => rfl
  | x :: ds, n + 1, h => by
    have h' : (x.imm && Da.imms ds) = true := h
    rw [Bool.and_eq_true] at h'
    show (x.imm && Da.imms (ds.take n)) = true
    rw [h'.1, imms_take n h'.2]; rfl
theorem imms_drop : ∀ {ds : List Da} (n : Nat), Da.imms ds = true → Da.imms (ds.drop n) = true
  | _, 0, h => h
  | [], _ + 1, _ => rfl
  | x :: ds, n + 1, h => by
    have h' : (x.imm && Da.imms ds) = true := h
    rw [Bool.and_eq_true] at h'
    exact imms_drop (ds := ds) n h'.2
theorem imms_cut {ds : List Da} (h : Da.imms ds = true) (lo hi : Option Int) : Da.imms (cut ds lo hi) = true := imms_take _ (imms_drop _ h)
theorem ef_slL {ds : List Da} (h : EvB K te ρ (.lst ds)) (hl : EvO K tl ρ lo) (hh : EvO K th ρ hi) (im : Da.imms ds = true) : EvF K (tSl (rSlL K) te tl th) ρ (.lst (cut ds lo hi)) := fun σ H Q rs q =>
  h σ H _ rs fun v H1 e1 s => hl σ H1 _ (rs.mono e1) fun H2 e2 => hh σ H2 _ (rs.mono (e1.trans e2)) fun H3 e3 => by
    obtain ⟨a, xs, rfl, h1, h2⟩ := (s.mono (e2.trans e3)).lst_inv
    exact ⟨a, xs, rfl, .inl h1, fun p hp => q _ _ [p] (((e1.trans e2).trans e3).trans (.new hp)) (own_lst (h2.cut lo hi) (imms_cut im lo hi) hp) (fun a m => ((e1.trans e2).trans e3).back (one_none hp a m)) nodup_one⟩
theorem ef_slScr {ns : List Int} (h : EvB K te ρ (.scr ns)) (hl : EvO K tl ρ lo) (hh : EvO K th ρ hi) : EvF K (tSl (rSlL K) te tl th) ρ (.lst ((cut ns lo hi).map Da.int)) := fun σ H Q rs q =>
  h σ H _ rs fun v H1 e1 s => hl σ H1 _ (rs.mono e1) fun H2 e2 => hh σ H2 _ (rs.mono (e1.trans e2)) fun H3 e3 => by
    obtain ⟨a, rfl, h1⟩ := (s.mono (e2.trans e3)).scr_inv
    have e : cutV (ns.map V.int) lo hi = (cut ns lo hi).map V.int := by
      show cut (ns.map V.int) lo hi = _
      exact cut_map _ _ _ _
    exact ⟨a, _, rfl, h1, fun p hp => q _ _ [p] (((e1.trans e2).trans e3).trans (.new hp)) (by rw [e]; exact own_lst (shs_ints _) (imms_map _ (fun _ => rfl) _) hp) (fun a m => ((e1.trans e2).trans e3).back (one_none hp a m)) nodup_one⟩
/-! ### a < b < c -/
theorem ev_chain {g g' : Int → Int → Bool} (ha : EvB K ta ρ (.int i)) (hb : EvB K tb ρ (.int j)) (hc : EvB K tc ρ (.int k)) :
    EvB K (tChain (rI0 fun i j => .bl (g i j)) (rI0 fun i j => .bl (g' i j)) ta tb tc) ρ (.bl (g i j && g' j k)) := fun σ H Q rs q => by
  refine ha σ H _ rs fun v H1 e s => hb σ H1 _ (rs.mono e) fun v2 H2 e2 s2 => ⟨i, j, s.int_inv, s2.int_inv, g i j, rfl, ?_⟩
  cases h : g i j with
  | false => exact q _ H2 (e.trans e2) (by rw [h]; exact .bl false)
  | true =>
    refine hc σ H2 _ (rs.mono (e.trans e2)) fun v3 H3 e3 s3 => ⟨j, k, s2.int_inv, s3.int_inv, ?_⟩
    exact q _ H3 ((e.trans e2).trans e3) (by rw [h]; exact .bl (g' j k))
end
theorem get_map {α : Type} {xs : List α} {f : α → Da} {n : Nat} (z : α) (h : n < xs.length) : (xs.map f)[n]? = some (f (xs.getD n z)) := by
  rw [List.getElem?_map, getD_some z h]; rfl
theorem set_map2 {α : Type} {e : α → Da} {xs : List (List α)} {n m : Nat} {v : α} : (xs.map (eL e)).set n (.lst (((xs.getD n []).map e).set m (e v))) = (xs.set n ((xs.getD n []).set m v)).map (eL e) := by
  rw [List.map_set, ← List.map_set]
/-! ### the end -/
section
variable {P : Program} {w : World} {K : PySem.W.Frag} {mg : Str → Option Value} {h : Heap} {od an : Option Addr} {sl : Array (Option Value)} {oc kV dc pm cd ct : Value} {f fa : Addr} {x a : Str} {st : Stmt} {k : Nat}
theorem stands_mk (X : K.In h) (G : h.Ns mainGlobals mg) (a1 : PySem.W.nsIn K mainGlobals x = some (some (.ref f)))
    (l1 : K.lookup f = some ⟨oc, od, .func (PySem.W.fnOf x x (defArgs st) (defBody st) (defScope st) .none kV dc pm an cd ct), sl⟩) (c1 : PySem.W.codeIn K cd x = true) (k1 : PySem.W.keepIn K (.ref f) = true) : Stands K mg x st :=
  ⟨f, _, fun_mk l1 c1 k1, PySem.W.mg_of X G a1⟩
theorem stands_use {R : Prop} (X : K.In h) (G : h.Ns mainGlobals mg) (next : Stands K mg x st → R) (a1 : PySem.W.nsIn K mainGlobals x = some (some (.ref f)))
    (l1 : K.lookup f = some ⟨oc, od, .func (PySem.W.fnOf x x (defArgs st) (defBody st) (defScope st) .none kV dc pm an cd ct), sl⟩) (c1 : PySem.W.codeIn K cd x = true) (k1 : PySem.W.keepIn K (.ref f) = true) : R := next (stands_mk X G a1 l1 c1 k1)
theorem law_mk (X : K.In h) (G : h.Ns mainGlobals mg) (hfa : mg x = some (.ref fa)) (a1 : PySem.W.nsIn K mainGlobals x = some (some (.ref f)))
    (l1 : K.lookup f = some ⟨oc, od, .func (PySem.W.fnOf x x (defArgs st) (defBody st) (defScope st) .none kV dc pm an cd ct), sl⟩) (c1 : PySem.W.codeIn K cd x = true) (k1 : PySem.W.keepIn K (.ref f) = true)
    (hb : ∀ (s : Shared) (v : Value), BindsTo s (PySem.W.fnOf x x (defArgs st) (defBody st) (defScope st) .none kV dc pm an cd ct) ⟨[v], []⟩ [(a, v)])
    (ok : ∀ base : Heap, K.In base → base.Ns mainGlobals mg → ∀ {f : Addr} {fd : FuncData}, Fun K x x st f fd → FnOk P w K mg base CX0 k f fd [a] (spF K lawG)) :
    ∃ fd : FuncData, (∀ (s : Shared) (v : Value), BindsTo s fd ⟨[v], []⟩ [(a, v)]) ∧ ∀ base : Heap, K.In base → base.Ns mainGlobals mg → FnOk P w K mg base CX0 k fa fd [a] (spF K lawG) := by
  have e := hfa.symm.trans (PySem.W.mg_of X G a1)
  cases e
  exact ⟨_, hb, fun base i g => ok base i g (fun_mk l1 c1 k1)⟩
end
end Fw

set_option Elab.async false
set_option linter.all false
set_option maxRecDepth 100000
set_option maxHeartbeats 4000000
namespace Fw
open PySem L2
/-! ### defs with defaults -/
def StandsD (K : PySem.W.Frag) (mg : Str → Option Value) (x : Str) (st : Stmt) (dvs : List V) : Prop := ∃ f fd, FunD K x x (defArgs st) (defBody st) (defScope st) dvs [] f fd ∧ mg x = some (.ref f)
section
variable {P : Program} {w : World} {K : PySem.W.Frag} {mg : Str → Option Value} {base : Heap}
theorem fnokD_of {x : Str} {st : Stmt} {N ps : List Str} {k : Nat} {dvs : List V} {G : List Da → Da → Prop} {f : Addr} {fd : FuncData} (F : FunD K x x (defArgs st) (defBody st) (defScope st) dvs [] f fd) (sc : FnScope N ps (defScope st)) (len : ∀ ds d, G ds d → ds.length = ps.length)
    (hbody : ∀ (cdv : Value) (A : Around) (outer : List Env) (s : Shared) (H : Hp) (E : XK), Room k (A.deeper (PyProof.Rows.envOfC x (defScope st) s.heap.objs.size f cdv)) →
      ∃ t, PSs (cxOf CX0 P w K mg base N x (defScope st) f cdv A outer s H E).nox (defBody st) t ∧ ∀ ds d, G ds d → J K H t (ds.map sh ++ List.replicate (N.length - ds.length) no) { nx := fun _ => d = .non, rt := fun d' => d' = d }) :
    FnOk P w K mg base CX0 (k + 1) f fd ps (spF K G) := by
  refine F.ok sc (fun vs H Q E h => ?_) (fun cdv A outer s H vs Q E hr h => ?_)
  · obtain ⟨ds, d, h1, h2, _⟩ := h
    rw [h1.length, len ds d h2]
  · obtain ⟨t, ht, hj⟩ := hbody cdv A outer s H E hr
    obtain ⟨ds, d, h1, h2, h3⟩ := h
    exact ⟨t, ht.nox, body_of h1 h3 (hj ds d h2)⟩
theorem knownD_of {x : Str} {st : Stmt} {ps : List Str} {k : Nat} {sp : Sp} {dvs : List V} (S : StandsD K mg x st dvs) (n j : Nat) (hd : dvs ≠ []) (hn : n + (dvs.length - j) = ps.length)
    (hb : ∀ (T : Addr) (kV doc pm : Value) (an : Option Addr) (cdv ct : Value) (us its : List Value), us.length = n → its.length = dvs.length →
      ∃ k, bindArgs (PySem.W.fnOf x x (defArgs st) (defBody st) (defScope st) (.ref T) kV doc pm an cdv ct) ⟨us, []⟩ = seqItems? (.ref T) >>= k ∧ k (some its.toArray) = pure (ps.zip (us ++ its.drop j)))
    (h : ∀ f fd, FunD K x x (defArgs st) (defBody st) (defScope st) dvs [] f fd → FnOk P w K mg base CX0 k f fd ps sp) : Known P w K mg base x k sp ps.length (dvs.drop j) := by
  obtain ⟨f, fd, F, hm⟩ := S
  obtain ⟨ds, r, b⟩ := F.binds1 n j hd hn hb
  exact ⟨f, fd, ps, ds, hm, F.kp, b, r, rfl, h f fd F⟩
end
section
variable {K : PySem.W.Frag} {mg : Str → Option Value} {h : Heap} {od an od2 : Option Addr} {sl sl2 : Array (Option Value)} {oc kV dc pm cd ct oc2 : Value} {f fa T : Addr} {x a : Str} {st : Stmt} {k n : Nat} {its : List Value} {dvs : List V}
theorem standsD_use {R : Prop} (X : K.In h) (G : h.Ns mainGlobals mg) (next : StandsD K mg x st dvs → R) (a1 : PySem.W.nsIn K mainGlobals x = some (some (.ref f)))
    (l1 : K.lookup f = some ⟨oc, od, .func (PySem.W.fnOf x x (defArgs st) (defBody st) (defScope st) (.ref T) kV dc pm an cd ct), sl⟩) (c1 : PySem.W.codeIn K cd x = true) (k1 : PySem.W.keepIn K (.ref f) = true)
    (lT : K.lookup T = some ⟨oc2, od2, .seq its.toArray n, sl2⟩) (hv : Vals dvs its) (hne : dvs ≠ []) : R :=
  next ⟨f, _, ⟨⟨oc, od, _, kV, dc, pm, an, cd, ct, sl, rfl, l1, c1, .inr ⟨hne, T, _, its, n, rfl, lT, rfl, hv⟩, .inl rfl⟩, k1⟩, PySem.W.mg_of X G a1⟩
theorem standsI_use {R : Prop} {i : Int} {t : Tok} (X : K.In h) (G : h.Ns mainGlobals mg) (next : StandsD K mg x st [.int i] → R) (a1 : PySem.W.nsIn K mainGlobals x = some (some (.ref f)))
    (l1 : K.lookup f = some ⟨oc, od, .func (PySem.W.fnOf x x (defArgs st) (defBody st) (defScope st) (.ref T) kV dc pm an cd ct), sl⟩) (c1 : PySem.W.codeIn K cd x = true) (k1 : PySem.W.keepIn K (.ref f) = true)
    (lT : K.lookup T = some ⟨oc2, od2, .seq #[.int i t] n, sl2⟩) : R :=
  standsD_use X G next a1 l1 c1 k1 (its := [.int i t]) lT (.cons ⟨t, rfl⟩ .nil) (by simp)
end
section
variable {X : Cx} {e : Expr} {es : List Expr} {x : Str} {k n : Nat} {sp : Sp} {dvs : List V} {p pos : Pos} {t : TA} {K : PySem.W.Frag} {ρ : List Sd} {te : TE}
/-! ### xs[::-1] -/
theorem shs_rev {H : Hp} : ∀ {xs : List V} {ds : List Da}, Shs K H xs ds → Shs K H xs.reverse ds.reverse
  | _, _, .nil => .nil
  | _, _, .cons h t => by
    rw [List.reverse_cons, List.reverse_cons]
    exact (shs_rev t).append (.cons h .nil)
theorem imms_rev : ∀ {ds : List Da}, Da.imms ds = true → Da.imms ds.reverse = true
  | [], _ => rfl
  | d :: ds, h => by
    have h' : (d.imm && Da.imms ds) = true := h
    rw [Bool.and_eq_true] at h'
    rw [List.reverse_cons]
    exact imms_app (imms_rev h'.2) (by
      show (d.imm && true) = true
      rw [h'.1]; rfl)
theorem ef_revL {ds : List Da} (h : EvB K te ρ (.lst ds)) (im : Da.imms ds = true) : EvF K (tRevL K te) ρ (.lst ds.reverse) := fun σ H Q rs q =>
  h σ H _ rs fun v H1 e s => by
    obtain ⟨a, xs, rfl, h1, h2⟩ := s.lst_inv
    exact ⟨a, xs, rfl, .inl h1, fun p hp => q _ _ [p] (e.trans (.new hp)) (own_lst (shs_rev h2) (imms_rev im) hp) (fun a m => e.back (one_none hp a m)) nodup_one⟩
/-- a plain thing that is shared may be owned -/
theorem Sta.ownAt {B0 H : Hp} {ρ : List Sd} {σ : L2.St} {i : Nat} {d : Da} (h : Sta K B0 ρ σ H) (hi : ρ[i]? = some (some (false, d))) (im : d.imm = true) : Sta K B0 (ρ.set i (ow d)) σ H := by
  obtain ⟨B, G, e1, e2, sl, nd⟩ := h
  obtain ⟨v, hv, _⟩ := (sl.rs e2).2 i false d hi
  obtain ⟨F1, F2, F3, rfl, a, b⟩ := sl.out hi hv
  cases a with
  | sh a =>
    have k := b (s' := ow d) (o' := some v) (F' := []) (.ow ((a.mono e2).own im) fun _ z => nomatch z)
    rw [set_self hv] at k
    exact ⟨B, _, e1, e2, k, nd⟩
theorem j_own {B0 : Hp} {ts : TS} {ρ : List Sd} {P : Po} {k : Nat} {d : Da} (hk : ρ[k]? = some (some (false, d))) (im : d.imm = true) (h : J K B0 ts (ρ.set k (ow d)) P) : J K B0 ts ρ P := fun φ τ D σ H l n r bk ct s =>
  h φ τ D σ H l n r bk ct (by
    have z := s.ownAt (i := φ.length + k) (d := d) (by rw [get_app rfl]; exact hk) im
    rw [set_app rfl] at z
    exact z)
end
end Fw

set_option Elab.async false
set_option linter.all false
set_option maxRecDepth 100000
set_option maxHeartbeats 4000000
namespace Fw
open PySem L2
/-! ### what a for and a comprehension walk, told once -/
section
variable {K : PySem.W.Frag} {B0 B H H' : Hp} {ρ ρ' ρ1 ρ2 : List Sd} {σ : L2.St} {te ta tb tl : TE} {t tt : TT} {ts : TS} {d d1 d2 : Da} {P : Po}
/-- the target g takes a value that stands for d: into the slots ks what stands for ds -/
def Tg (K : PySem.W.Frag) (g : TG) (ks : List Nat) (d : Da) (ds : List Da) : Prop := ∀ v B H, Ex B H → Sh K B v d → ∃ vals, vals.length = ks.length ∧ Shs K B vals ds ∧ ∀ (σ : L2.St) (Q : L2.St → Hp → Prop), Q (setV σ ks vals) H → g v σ H Q
theorem tg_name {k : Nat} : Tg K (gName k) [k] d [d] := fun v B H e s => ⟨[v], rfl, .cons s .nil, fun σ Q q => q⟩
theorem tg_tup {ks : List Nat} {n : Nat} {ds : List Da} (h : ds.length = n) (hk : n = ks.length) : Tg K (gTup K n (gNs ks)) ks (.tup ds) ds := fun v B H e s => by
  obtain ⟨a, xs, rfl, h1, h2⟩ := s.tup_inv
  exact ⟨xs, by rw [h2.length, h, hk], h2, fun σ Q q => ⟨a, xs, rfl, ex_t e h1, h2.length.trans h, gNs_ok (by rw [h2.length, h, hk]) q⟩⟩
/-- the iterator J with its target g at H: one after the other the xs, the slots ks set to e x, read in B -/
def Core (K : PySem.W.Frag) (J : It) (g : TG) (ks : List Nat) {α : Type} (xs : List α) (e : α → List Da) (B H : Hp) : Prop :=
  J.stop xs.length H ∧ ∀ i x, xs[i]? = some x → J.go i H ∧ ∀ v H', J.yld i H v H' → Ex H H' ∧ ∃ vals, vals.length = ks.length ∧ Shs K B vals (e x) ∧ ∀ (σ : L2.St) (Q : L2.St → Hp → Prop), Q (setV σ ks vals) H' → g v σ H' Q
def WkE (K : PySem.W.Frag) (ti : TI) (g : TG) (ks : List Nat) (ρ : List Sd) {α : Type} (xs : List α) (e : α → List Da) : Prop :=
  ∀ σ H (R : It → Hp → Prop), Rs K H ρ σ → (∀ J H1, Ex H H1 → (∀ H', Ex H1 H' → Core K J g ks xs e H' H') → R J H1) → ti σ H R
def WkS (K : PySem.W.Frag) (B0 : Hp) (ti : TI) (g : TG) (ks : List Nat) (ρ ρ1 : List Sd) {α : Type} (xs : List α) (e : α → List Da) : Prop :=
  ∀ (φ : List Sd) (τ σ : L2.St) H (R : It → Hp → Prop), φ.length = τ.length → Sta K B0 (φ ++ ρ) (τ ++ σ) H →
    (∀ J H1 (c : List Sd) (γ : L2.St), c.length = γ.length → Ex H H1 → Sta K B0 (c ++ (φ ++ ρ1)) (γ ++ (τ ++ σ)) H1 →
      (∀ B H' F r s, Slots K B H' (c ++ r) (γ ++ s) F → Ex B H' → Core K J g ks xs e B H') → R J H1) → ti σ H R
/-! slots set -/
theorem Rs.set {k : Nat} {v : V} (h : Rs K H ρ σ) (s : Sh K H v d) : Rs K H (ρ.set k (sh d)) (σ.set k (some v)) := by
  refine ⟨by rw [List.length_set, List.length_set, h.1], fun i b d' q => ?_⟩
  by_cases ej : k = i
  · subst ej
    by_cases hl : k < ρ.length
    · rw [List.getElem?_set_self hl] at q
      cases q
      exact ⟨v, by rw [List.getElem?_set_self (by rw [← h.1]; exact hl)], s⟩
    · rw [List.getElem?_eq_none (by rw [List.length_set]; omega)] at q; cases q
  · rw [List.getElem?_set_ne ej] at q
    rw [List.getElem?_set_ne ej]
    exact h.2 i b d' q
theorem Rs.setAll : ∀ {ks : List Nat} {ds : List Da} {vals : List V} {ρ : List Sd} {σ : L2.St}, Rs K H ρ σ → vals.length = ks.length → Shs K H vals ds → Rs K H (setAll ρ ks (ds.map sh)) (setV σ ks vals)
  | [], ds, [], _, _, h, _, _ => by
    cases ds <;> exact h
  | k :: ks, _, v :: vs, _, _, h, l, .cons s ss => Rs.setAll (ks := ks) (h.set s) (by simpa using l) ss
theorem setV_len : ∀ {σ : L2.St} {ks : List Nat} {vs : List V}, (setV σ ks vs).length = σ.length
  | _, [], vs => by cases vs <;> rfl
  | _, _ :: _, [] => rfl
  | σ, k :: ks, v :: vs => by
    show (setV (σ.set k (some v)) ks vs).length = _
    rw [setV_len (σ := σ.set k (some v)), List.length_set]
theorem setV_get {i : Nat} : ∀ {ks : List Nat} {vs : List V} {σ : L2.St}, i ∉ ks → (setV σ ks vs)[i]? = σ[i]?
  | [], vs, _, _ => by cases vs <;> rfl
  | _ :: _, [], _, _ => rfl
  | k :: ks, v :: vs, σ, m => by
    show (setV (σ.set k (some v)) ks vs)[i]? = _
    rw [setV_get (σ := σ.set k (some v)) (fun z => m (List.mem_cons_of_mem _ z)), List.getElem?_set_ne (fun e => m (by rw [e]; exact List.mem_cons_self))]
theorem wipe_turnV {vs ks : List Nat} {vals : List V} (m : ∀ k, k ∈ ks → k ∈ vs) : L2.wipe (setV (L2.wipe σ vs) ks vals) vs = L2.wipe σ vs := by
  refine List.ext_getElem? fun i => ?_
  rw [wipe_get, wipe_get]
  by_cases h : i ∈ vs
  · rw [if_pos h, if_pos h, setV_len, L2.wipe_length]
  · rw [if_neg h, if_neg h, setV_get (fun z => h (m i z)), wipe_get, if_neg h]
theorem Rs.wipe {vs : List Nat} (h : Rs K H ρ σ) : Rs K H (wipeS ρ vs) (L2.wipe σ vs) := by
  refine ⟨by rw [wipeS_len, L2.wipe_length, h.1], fun i b d' q => ?_⟩
  obtain ⟨h1, h2⟩ := wipeS_get q
  obtain ⟨v, z1, z2⟩ := h.2 i b d' h2
  exact ⟨v, by rw [wipe_get, if_neg h1]; exact z1, z2⟩
theorem Made.ex {D : Addr} {ds : List Da} {H2 : Hp} (m : Made K H D ds H') (e : Ex H' H2) : Made K H D ds H2 := by
  obtain ⟨h1, h2, acc, F, h3, h4, h5, h6⟩ := m
  exact ⟨h1, h2.trans e, acc, F, e.lst h3, h4.mono e, h5, h6⟩
/-! comprehensions -/
theorem ef_lcWF {α : Type} {ti : TI} {g : TG} {ks : List Nat} {xs : List α} {e : α → List Da} (w : WkE K ti g ks ρ xs e) (f : α → Da) (p : α → Bool) {vs : List Nat} (m : ∀ k, k ∈ ks → k ∈ vs) (hl : xs.length ≤ 100000)
    (ht : ∀ x, x ∈ xs → EvT K tt (setAll (wipeS ρ vs) ks ((e x).map sh)) (p x)) (he : ∀ x, x ∈ xs → p x = true → EvF K te (setAll (wipeS ρ vs) ks ((e x).map sh)) (f x)) : EvF K (tLc ti g tt te vs) ρ (.lst ((xs.filter p).map f)) := fun σ H Q rs q =>
  w σ H _ rs fun J H1 e1 core D hD => by
    refine ⟨fun i m H' => m = xs.length - i ∧ i ≤ xs.length ∧ Made K H1 D (((xs.take i).filter p).map f) H', ⟨xs.length, by simp, Nat.zero_le _, Made.nil hD⟩, ?_⟩
    rintro i m' H2 ⟨rfl, hi, md⟩
    obtain ⟨c1, c2⟩ := core H2 md.2.1
    by_cases hlt : i < xs.length
    · have hz : xs[i]? = some xs[i] := List.getElem?_eq_getElem hlt
      have zm : xs[i] ∈ xs := List.getElem_mem hlt
      obtain ⟨c3, c4⟩ := c2 i xs[i] hz
      refine .inr ⟨c3, fun H' => Made K H1 D (((xs.take (i + 1)).filter p).map f) H', fun H' k => ⟨xs.length - (i + 1), by omega, rfl, hlt, k⟩, fun v H3 y => ?_⟩
      obtain ⟨e3, vals, lv, sv, gq⟩ := c4 v H3 y
      refine gq _ _ ⟨wipe_turnV m, ?_⟩
      have md3 := md.ex e3
      refine Made.turn (ρ2 := setAll (wipeS ρ vs) ks ((e xs[i]).map sh)) (d := f xs[i]) md3 ?_ (fun H4 e4 => Rs.setAll ((rs.mono (e1.trans (md3.2.1.trans e4))).wipe) lv (sv.mono (e3.trans e4))) (ht _ zm) (he _ zm) (fun hb H4 m4 => ?_) (fun hb H4 m4 => ?_)
      · rw [List.length_map]
        have := List.length_filter_le p (xs.take i)
        rw [List.length_take] at *
        omega
      · show Made K H1 D _ H4
        rw [take_next hz, List.filter_append, List.map_append, List.filter_cons, if_pos hb]
        exact m4
      · show Made K H1 D _ H4
        rw [take_next hz, List.filter_append, List.map_append, List.filter_cons, if_neg (by rw [hb]; decide)]
        show Made K H1 D (_ ++ []) H4
        rw [List.append_nil]
        exact m4
    · have ei : i = xs.length := by omega
      subst ei
      rw [List.take_length] at md
      obtain ⟨F, w', f', n⟩ := md.own
      exact .inl ⟨c1, q _ _ F (e1.trans md.2.1) w' (fun a ha => e1.back (f' a ha)) n⟩
theorem ef_lcW {α : Type} {ti : TI} {g : TG} {ks : List Nat} {xs : List α} {e : α → List Da} (w : WkE K ti g ks ρ xs e) (f : α → Da) {vs : List Nat} (m : ∀ k, k ∈ ks → k ∈ vs) (hl : xs.length ≤ 100000)
    (he : ∀ x, x ∈ xs → EvF K te (setAll (wipeS ρ vs) ks ((e x).map sh)) (f x)) : EvF K (tLc ti g tYes te vs) ρ (.lst (xs.map f)) := by
  have := ef_lcWF (tt := tYes) w f (fun _ => true) m hl (fun _ _ => et_yes) (fun x hx _ => he x hx)
  rw [filter_true] at this
  exact this
/-! loops -/
theorem Sta.midDrop {s : Sd} {o : Option V} {c φ : List Sd} {γ τ : L2.St} (l : c.length = γ.length) (h : Sta K B0 (s :: (c ++ φ)) (o :: (γ ++ τ)) H) : Sta K B0 (s :: φ) (o :: τ) H := by
  obtain ⟨B, F, e1, e2, sl, nd⟩ := h
  cases sl with
  | @cons _ _ _ _ F0 G0 p1 p2 =>
    obtain ⟨F1, F2, rfl, a, b⟩ := p2.split l
    refine ⟨B, F0 ++ F2, e1, e2, .cons p1 b, ?_⟩
    obtain ⟨n1, n2, n3⟩ := List.nodup_append.mp nd
    exact List.nodup_append.mpr ⟨n1, (List.nodup_append.mp n2).2.1, fun x hx y hy => n3 x hx y (List.mem_append_right _ hy)⟩
theorem wipes_comm (ρ : List Sd) : ∀ (ks : List Nat) (s : List Sd), s.length = ks.length → wipeS (setAll ρ ks s) ks = wipeS (setAll ρ ks s) ks := fun _ _ _ => rfl
theorem j_forW (ws : List Nat) {α : Type} {ti : TI} {g : TG} {ks : List Nat} {xs : List α} {e : α → List Da} (w : WkS K B0 ti g ks ρ ρ1 xs e) (W : Nat → List Sd → Prop) (h0 : W 0 (wipeS ρ1 ks)) (hk : ∀ i ρ, W i ρ → ∀ k, k ∈ ks → k < ρ.length) (he : ∀ x, (e x).length = ks.length)
    (hs : ∀ (i : Nat) x ρ', xs[i]? = some x → W i ρ' → J K B0 ts (setAll ρ' ks ((e x).map sh)) { nx := fun ρ2 => W (i + 1) (wipeS ρ2 (ks ++ ws)), rt := P.rt, bk := fun ρ2 => P.nx ρ2, ct := fun ρ2 => W (i + 1) (wipeS ρ2 (ks ++ ws)) })
    (hd : ∀ ρ', W xs.length ρ' → P.nx ρ') : J K B0 (tFor ti g ts) ρ P := fun φ τ D σ H l nx r bk ct s =>
  w φ τ σ H _ l s fun J H1 c γ lc e1 z core => by
    have lφ : (c ++ φ).length = (γ ++ τ).length := by rw [List.length_append, List.length_append, lc, l]
    refine ⟨fun i m σ' H' => m = xs.length - i ∧ i ≤ xs.length ∧ ∃ ρ', W i ρ' ∧ Sta K B0 ((c ++ φ) ++ ρ') ((γ ++ τ) ++ σ') H', ⟨xs.length, by simp, Nat.zero_le _, _, h0, ?_⟩, ?_⟩
    · rw [← List.append_assoc, ← List.append_assoc] at z
      exact Sta.wipeF z ks
    · rintro i m σ' H' ⟨rfl, hi, ρ', wi, s'⟩
      obtain ⟨B, F, b1, b2, sl, nd⟩ := s'
      have sl' : Slots K B H' (c ++ (φ ++ ρ')) (γ ++ (τ ++ σ')) F := by
        rw [← List.append_assoc, ← List.append_assoc]; exact sl
      obtain ⟨c1, c2⟩ := core B H' F _ _ sl' b2
      by_cases hlt : i < xs.length
      · have hz : xs[i]? = some xs[i] := List.getElem?_eq_getElem hlt
        obtain ⟨c3, c4⟩ := c2 i xs[i] hz
        refine .inr ⟨c3, fun σ2 H2 => ∃ ρ2, W (i + 1) ρ2 ∧ Sta K B0 ((c ++ φ) ++ ρ2) ((γ ++ τ) ++ σ2) H2, fun σ2 H2 ⟨ρ2, w2, s2⟩ => ⟨xs.length - (i + 1), by omega, rfl, hlt, ρ2, w2, s2⟩, fun v H3 y => ?_⟩
        obtain ⟨e3, vals, lv, sv, gq⟩ := c4 v H3 y
        refine gq _ _ ?_
        have sp : Sta K B0 ((c ++ φ) ++ setAll ρ' ks ((e xs[i]).map sh)) ((γ ++ τ) ++ setV σ' ks vals) H3 := by
          refine Sta.putAll (ss := (e xs[i]).map sh) lφ (by rw [List.length_map, he, lv]) (by rw [List.length_map, he]) (hk _ _ wi) ?_
          exact ⟨B, [] ++ F, b1, b2.trans e3, (Slots.ofShs sv).join (sl.ex e3), nd⟩
        refine hs i xs[i] ρ' hz wi (c ++ φ) (γ ++ τ) _ _ H3 lφ ?_ ?_ ?_ ?_ sp
        · intro ρ2 σ2 H4 q s2
          exact ⟨_, q, s2.wipeF (ks ++ ws)⟩
        · intro d v H4 q s2
          exact r d v H4 q (Sta.midDrop lc s2)
        · intro ρ2 σ2 H4 q s2
          rw [List.append_assoc, List.append_assoc] at s2
          exact nx ρ2 σ2 H4 q (Sta.drop lc s2)
        · intro ρ2 σ2 H4 q s2
          exact ⟨_, q, s2.wipeF (ks ++ ws)⟩
      · have ei : i = xs.length := by omega
        subst ei
        refine .inl ⟨c1, nx _ _ _ (hd _ wi) ?_⟩
        have s2 : Sta K B0 ((c ++ φ) ++ ρ') ((γ ++ τ) ++ σ') H' := ⟨B, F, b1, b2, sl, nd⟩
        rw [List.append_assoc, List.append_assoc] at s2
        exact Sta.drop lc s2
end
/-! ### the walks -/
section
variable {K : PySem.W.Frag} {B0 B H H' : Hp} {ρ ρ' ρ1 ρ2 : List Sd} {σ : L2.St} {te ta tb tl : TE} {tA tB' : TA} {d d1 d2 : Da} {α β : Type} {xs : List α} {ys : List β} {e0 : α → Da} {f0 : β → Da} {e : α → List Da} {g : TG} {ks : List Nat} {a b : Addr} {vs ws : List V}
theorem shs_at (s : Shs K B vs (xs.map e0)) {i : Nat} {x : α} (h : xs[i]? = some x) : ∃ v, vs[i]? = some v ∧ Sh K B v (e0 x) := s.get (by rw [List.getElem?_map, h]; rfl)
theorem core_list (q : SqL K H a vs) (s : Shs K B vs (xs.map e0)) (eb : Ex B H) (t : ∀ x, Tg K g ks (e0 x) (e x)) : Core K (Itl K a) g ks xs e B H := by
  have l : vs.length = xs.length := by rw [s.length, List.length_map]
  refine ⟨⟨vs, q, by omega⟩, fun i x hx => ?_⟩
  obtain ⟨v, hv, sv⟩ := shs_at s hx
  refine ⟨⟨vs, v, q, hv⟩, fun v' H' y => ?_⟩
  obtain ⟨rfl, y2⟩ := y
  have := y2 vs q
  rw [hv] at this
  cases this
  obtain ⟨vals, lv, sv', gq⟩ := t x v B H' eb sv
  exact ⟨Ex.refl _, vals, lv, sv', gq⟩
theorem core_tup (q : SqT K H a vs) (s : Shs K B vs (xs.map e0)) (eb : Ex B H) (t : ∀ x, Tg K g ks (e0 x) (e x)) : Core K (Itt K a) g ks xs e B H := by
  have l : vs.length = xs.length := by rw [s.length, List.length_map]
  refine ⟨⟨vs, q, by omega⟩, fun i x hx => ?_⟩
  obtain ⟨v, hv, sv⟩ := shs_at s hx
  refine ⟨⟨vs, v, q, hv⟩, fun v' H' y => ?_⟩
  obtain ⟨rfl, y2⟩ := y
  have := y2 vs q
  rw [hv] at this
  cases this
  obtain ⟨vals, lv, sv', gq⟩ := t x v B H' eb sv
  exact ⟨Ex.refl _, vals, lv, sv', gq⟩
theorem rev_at {i : Nat} {x : α} (h : xs.reverse[i]? = some x) : i < xs.length ∧ xs[xs.length - 1 - i]? = some x := by
  have hi : i < xs.length := by
    have := (List.getElem?_eq_some_iff.mp h).1
    rw [List.length_reverse] at this
    exact this
  rw [List.getElem?_reverse hi] at h
  exact ⟨hi, h⟩
theorem core_rev (q : SqL K H a vs) (s : Shs K B vs (xs.map e0)) (eb : Ex B H) (t : ∀ x, Tg K g ks (e0 x) (e x)) {n : Nat} (hn : n = xs.length) : Core K (Itv K a n) g ks xs.reverse e B H := by
  subst hn
  have l : vs.length = xs.length := by rw [s.length, List.length_map]
  refine ⟨show xs.length ≤ xs.reverse.length by rw [List.length_reverse]; exact Nat.le_refl _, fun i x hx => ?_⟩
  obtain ⟨hi, hx⟩ := rev_at hx
  obtain ⟨v, hv, sv⟩ := shs_at s hx
  refine ⟨⟨hi, vs, v, q, hv⟩, fun v' H' y => ?_⟩
  obtain ⟨rfl, y2⟩ := y
  have := y2 vs q
  rw [hv] at this
  cases this
  obtain ⟨vals, lv, sv', gq⟩ := t x v B H' eb sv
  exact ⟨Ex.refl _, vals, lv, sv', gq⟩
theorem core_revT (q : SqT K H a vs) (s : Shs K B vs (xs.map e0)) (eb : Ex B H) (t : ∀ x, Tg K g ks (e0 x) (e x)) {n : Nat} (hn : n = xs.length) : Core K (RT.ItvT K a n) g ks xs.reverse e B H := by
  subst hn
  have l : vs.length = xs.length := by rw [s.length, List.length_map]
  refine ⟨show xs.length ≤ xs.reverse.length by rw [List.length_reverse]; exact Nat.le_refl _, fun i x hx => ?_⟩
  obtain ⟨hi, hx⟩ := rev_at hx
  obtain ⟨v, hv, sv⟩ := shs_at s hx
  refine ⟨⟨hi, vs, v, q, hv⟩, fun v' H' y => ?_⟩
  obtain ⟨rfl, y2⟩ := y
  have := y2 vs q
  rw [hv] at this
  cases this
  obtain ⟨vals, lv, sv', gq⟩ := t x v B H' eb sv
  exact ⟨Ex.refl _, vals, lv, sv', gq⟩
/-- a number and an item, in a new pair -/
theorem pair_new {k1 k2 : Nat} {x y : V} {T : Addr} (hT : H T = none) (s1 : Sh K B x d1) (s2 : Sh K B y d2) : Ex H (upd H T (.tup [x, y])) ∧ ∃ vals : List V, vals.length = [k1, k2].length ∧ Shs K B vals [d1, d2] ∧
    ∀ (σ : L2.St) (Q : L2.St → Hp → Prop), Q (setV σ [k1, k2] vals) (upd H T (.tup [x, y])) → gTup K 2 (gNs [k1, k2]) (.ref T) σ (upd H T (.tup [x, y])) Q :=
  ⟨.new hT, [x, y], rfl, .cons s1 (.cons s2 .nil), fun σ Q q => ⟨T, [x, y], rfl, .inl (.inl upd_same), rfl, gNs_ok (ks := [k1, k2]) rfl q⟩⟩
def num {α : Type} (xs : List α) : List (Nat × α) := (List.range xs.length).zip xs
theorem num_at {i : Nat} {x : Nat × α} (h : (num xs)[i]? = some x) : x.1 = i ∧ xs[i]? = some x.2 := by
  unfold num at h
  rw [List.getElem?_zip_eq_some] at h
  obtain ⟨h1, h2⟩ := h
  have := (List.getElem?_eq_some_iff.mp h1)
  obtain ⟨h3, h4⟩ := this
  rw [List.getElem_range] at h4
  exact ⟨h4.symm, h2⟩
theorem num_len : (num xs).length = xs.length := by unfold num; rw [List.length_zip, List.length_range, Nat.min_self]
theorem core_enum {k1 k2 : Nat} (q : SqL K H a vs) (s : Shs K B vs (xs.map e0)) : Core K (Ite K a) (gTup K 2 (gNs [k1, k2])) [k1, k2] (num xs) (fun p => [.int (p.1 : Nat), e0 p.2]) B H := by
  have l : vs.length = xs.length := by rw [s.length, List.length_map]
  refine ⟨⟨vs, q, by rw [num_len]; omega⟩, fun i x hx => ?_⟩
  obtain ⟨hi, hx⟩ := num_at hx
  obtain ⟨v, hv, sv⟩ := shs_at s hx
  refine ⟨⟨vs, v, q, hv⟩, fun v' H' y => ?_⟩
  obtain ⟨T, y', rfl, hT, rfl, y2⟩ := y
  have := y2 vs q
  rw [hv] at this
  cases this
  exact pair_new hT (by rw [hi]; exact .int _) sv
theorem zip_at {i : Nat} {x : α × β} (h : (xs.zip ys)[i]? = some x) : xs[i]? = some x.1 ∧ ys[i]? = some x.2 := by
  rw [List.getElem?_zip_eq_some] at h
  exact h
theorem core_zip {k1 k2 : Nat} (q : SqL K H a vs) (s : Shs K B vs (xs.map e0)) (q' : SqL K H b ws) (s' : Shs K B ws (ys.map f0)) : Core K (Itz K a b) (gTup K 2 (gNs [k1, k2])) [k1, k2] (xs.zip ys) (fun p => [e0 p.1, f0 p.2]) B H := by
  have l : vs.length = xs.length := by rw [s.length, List.length_map]
  have l' : ws.length = ys.length := by rw [s'.length, List.length_map]
  refine ⟨⟨vs, ws, q, q', by rw [List.length_zip]; omega⟩, fun i x hx => ?_⟩
  obtain ⟨hx, hy⟩ := zip_at hx
  obtain ⟨v, hv, sv⟩ := shs_at s hx
  obtain ⟨w, hw, sw⟩ := shs_at s' hy
  refine ⟨⟨vs, ws, v, w, q, q', hv, hw⟩, fun v' H' y => ?_⟩
  obtain ⟨T, y', z', rfl, hT, rfl, y2, y3⟩ := y
  have := y2 vs q
  rw [hv] at this
  cases this
  have := y3 ws q'
  rw [hw] at this
  cases this
  exact pair_new hT sv sw
theorem core_zipT {k1 k2 : Nat} (q : SqT K H a vs) (s : Shs K B vs (xs.map e0)) (q' : SqT K H b ws) (s' : Shs K B ws (ys.map f0)) : Core K (RZ.ItzT K a b) (gTup K 2 (gNs [k1, k2])) [k1, k2] (xs.zip ys) (fun p => [e0 p.1, f0 p.2]) B H := by
  have l : vs.length = xs.length := by rw [s.length, List.length_map]
  have l' : ws.length = ys.length := by rw [s'.length, List.length_map]
  refine ⟨⟨vs, ws, q, q', by rw [List.length_zip]; omega⟩, fun i x hx => ?_⟩
  obtain ⟨hx, hy⟩ := zip_at hx
  obtain ⟨v, hv, sv⟩ := shs_at s hx
  obtain ⟨w, hw, sw⟩ := shs_at s' hy
  refine ⟨⟨vs, ws, v, w, q, q', hv, hw⟩, fun v' H' y => ?_⟩
  obtain ⟨T, y', z', rfl, hT, rfl, y2, y3⟩ := y
  have := y2 vs q
  rw [hv] at this
  cases this
  have := y3 ws q'
  rw [hw] at this
  cases this
  exact pair_new hT sv sw
theorem core_range {k : Nat} {lo : Int} {n : Nat} : Core K (Itr lo n) (gName k) [k] (List.range n) (fun i => [.int (lo + (i : Nat))]) B H := by
  refine ⟨by rw [List.length_range]; exact Nat.le_refl _, fun i x hx => ?_⟩
  obtain ⟨h1, h2⟩ := List.getElem?_eq_some_iff.mp hx
  rw [List.length_range] at h1
  rw [List.getElem_range] at h2
  subst h2
  refine ⟨h1, fun v H' y => ?_⟩
  obtain ⟨rfl, rfl⟩ := y
  exact ⟨Ex.refl _, [_], rfl, .cons (.int _) .nil, fun σ Q q => q⟩
theorem core_str {k : Nat} {z : Str} : Core K (Its z) (gName k) [k] z.cps.toList (fun c => [.str ⟨#[c]⟩]) B H := by
  refine ⟨show z.cps.size ≤ z.cps.toList.length by simp, fun i x hx => ?_⟩
  have hx' : z.cps[i]? = some x := by simpa using hx
  refine ⟨(by simpa using (List.getElem?_eq_some_iff.mp hx).1 : i < z.cps.size), fun v H' y => ?_⟩
  obtain ⟨rfl, c, hc, rfl⟩ := y
  rw [hx'] at hc
  cases hc
  exact ⟨Ex.refl _, [_], rfl, .cons (.str _) .nil, fun σ Q q => q⟩
/-! in expressions -/
theorem wkE_list (h : EvB K tl ρ (.lst (xs.map e0))) (t : ∀ x, Tg K g ks (e0 x) (e x)) : WkE K (iList K tl) g ks ρ xs e := fun σ H R rs q => h σ H _ rs fun v H1 e1 s => by
  obtain ⟨a, vs, rfl, h1, h2⟩ := s.lst_inv
  exact ⟨a, rfl, ⟨vs, .inl h1⟩, q _ _ e1 fun H' e' => core_list (.inl (ex_rd e' h1)) (h2.mono e') (Ex.refl _) t⟩
theorem wkE_tup (h : EvB K tl ρ (.tup (xs.map e0))) (t : ∀ x, Tg K g ks (e0 x) (e x)) : WkE K (iTup K tl) g ks ρ xs e := fun σ H R rs q => h σ H _ rs fun v H1 e1 s => by
  obtain ⟨a, vs, rfl, h1, h2⟩ := s.tup_inv
  exact ⟨a, rfl, ⟨vs, h1⟩, q _ _ e1 fun H' e' => core_tup (ex_t e' h1) (h2.mono e') (Ex.refl _) t⟩
theorem wkE_str {k : Nat} {z : Str} (h : EvB K tl ρ (.str z)) : WkE K (iStr tl) (gName k) [k] ρ z.cps.toList (fun c => [.str ⟨#[c]⟩]) := fun σ H R rs q => h σ H _ rs fun v H1 e1 s => by
  have := s.str_inv
  subst this
  exact ⟨z, rfl, q _ _ e1 fun H' e' => core_str⟩
theorem wkE_enum {k1 k2 : Nat} (h : EvB K tl ρ (.lst (xs.map e0))) : WkE K (iEnum K (tCons tl tNil)) (gTup K 2 (gNs [k1, k2])) [k1, k2] ρ (num xs) (fun p => [.int (p.1 : Nat), e0 p.2]) := fun σ H R rs q => h σ H _ rs fun v H1 e1 s => by
  obtain ⟨a, vs, rfl, h1, h2⟩ := s.lst_inv
  exact ⟨a, vs, rfl, .inl h1, q _ _ e1 fun H' e' => core_enum (.inl (ex_rd e' h1)) (h2.mono e')⟩
theorem wkE_rev (h : EvB K tl ρ (.lst (xs.map e0))) (t : ∀ x, Tg K g ks (e0 x) (e x)) : WkE K (RT.iRevA K tl) g ks ρ xs.reverse e := fun σ H R rs q => h σ H _ rs fun v H1 e1 s => by
  obtain ⟨a, vs, rfl, h1, h2⟩ := s.lst_inv
  exact ⟨a, vs, rfl, .inl ⟨.inl h1, q _ _ e1 fun H' e' => core_rev (.inl (ex_rd e' h1)) (h2.mono e') (Ex.refl _) t (by rw [h2.length, List.length_map])⟩⟩
theorem wkE_zip {k1 k2 : Nat} (h : EvB K tl ρ (.lst (xs.map e0))) (h' : EvB K tb ρ (.lst (ys.map f0))) : WkE K (RZ.iZipA K (tCons tl (tCons tb tNil))) (gTup K 2 (gNs [k1, k2])) [k1, k2] ρ (xs.zip ys) (fun p => [e0 p.1, f0 p.2]) := fun σ H R rs q =>
  h σ H _ rs fun v H1 e1 s => h' σ H1 _ (rs.mono e1) fun v' H2 e2 s' => by
    obtain ⟨a, vs, rfl, h1, h2⟩ := s.lst_inv
    obtain ⟨b, ws, rfl, h3, h4⟩ := s'.lst_inv
    exact ⟨a, b, vs, ws, rfl, .inl ⟨.inl (ex_rd e2 h1), .inl h3, q _ _ (e1.trans e2) fun H' e' => core_zip (.inl (ex_rd (e2.trans e') h1)) (h2.mono (e2.trans e')) (.inl (ex_rd e' h3)) (h4.mono e')⟩⟩
theorem wkE_zipT {k1 k2 : Nat} (h : EvB K tl ρ (.tup (xs.map e0))) (h' : EvB K tb ρ (.tup (ys.map f0))) : WkE K (RZ.iZipA K (tCons tl (tCons tb tNil))) (gTup K 2 (gNs [k1, k2])) [k1, k2] ρ (xs.zip ys) (fun p => [e0 p.1, f0 p.2]) := fun σ H R rs q =>
  h σ H _ rs fun v H1 e1 s => h' σ H1 _ (rs.mono e1) fun v' H2 e2 s' => by
    obtain ⟨a, vs, rfl, h1, h2⟩ := s.tup_inv
    obtain ⟨b, ws, rfl, h3, h4⟩ := s'.tup_inv
    exact ⟨a, b, vs, ws, rfl, .inr ⟨ex_t e2 h1, h3, q _ _ (e1.trans e2) fun H' e' => core_zipT (ex_t (e2.trans e') h1) (h2.mono (e2.trans e')) (ex_t e' h3) (h4.mono e')⟩⟩
theorem wkE_range1 {k : Nat} {n : Int} (h : EvB K tl ρ (.int n)) (h1 : n < 100000) (h0 : -100000 < n := by omega) : WkE K (iRng1 (tCons tl tNil)) (gName k) [k] ρ (List.range n.toNat) (fun i => [.int (i : Nat)]) := fun σ H R rs q => h.int rs fun H1 e1 =>
  ⟨n, rfl, by omega, by omega, q _ _ e1 fun H' e' => by
    have := core_range (K := K) (k := k) (lo := 0) (n := n.toNat) (B := H') (H := H')
    simp only [Int.zero_add] at this
    exact this⟩
theorem wkE_range2 {k : Nat} {m n : Int} (h : EvB K tl ρ (.int m)) (h' : EvB K tb ρ (.int n)) (h0 : -100000 < m) (h1 : m < 100000) (h2 : -100000 < n) (h3 : n < 100000) : WkE K (iRng2 (tCons tl (tCons tb tNil))) (gName k) [k] ρ (List.range (n - m).toNat) (fun i => [.int (m + (i : Nat))]) := fun σ H R rs q => h.int rs fun H1 e1 => h'.int (rs.mono e1) fun H2 e2 =>
  ⟨m, n, rfl, ⟨by omega, by omega, by omega, by omega⟩, q _ _ (e1.trans e2) fun H' e' => core_range⟩
/-! in statements -/
theorem Sta.shFront {v : V} {H : Hp} {r : List Sd} {s : L2.St} {F : List Addr} (sl : Slots K B H (sh d :: r) (some v :: s) F) : Sh K B v d := by
  cases sl with
  | cons p1 p2 => cases p1 with | sh p1 => exact p1
theorem wkS_list (h : EvS K B0 tl ρ (.lst (xs.map e0)) ρ1) (t : ∀ x, Tg K g ks (e0 x) (e x)) : WkS K B0 (iList K tl) g ks ρ ρ1 xs e := fun φ τ σ H R l s q => h φ τ σ H _ l s fun v H1 e1 z => by
  obtain ⟨B, F, b1, b2, sl, nd⟩ := id z
  obtain ⟨a, vs, rfl, h1, h2⟩ := (Sta.shFront sl).lst_inv
  refine ⟨a, rfl, ⟨vs, .inl (ex_rd b2 h1)⟩, q _ _ [_] [_] rfl e1 z fun B H' F r s sl eb => ?_⟩
  obtain ⟨a', vs, ea, h1, h2⟩ := (Sta.shFront sl).lst_inv
  cases ea
  exact core_list (.inl (ex_rd eb h1)) h2 eb t
theorem wkS_tup (h : EvS K B0 tl ρ (.tup (xs.map e0)) ρ1) (t : ∀ x, Tg K g ks (e0 x) (e x)) : WkS K B0 (iTup K tl) g ks ρ ρ1 xs e := fun φ τ σ H R l s q => h φ τ σ H _ l s fun v H1 e1 z => by
  obtain ⟨B, F, b1, b2, sl, nd⟩ := id z
  obtain ⟨a, vs, rfl, h1, h2⟩ := (Sta.shFront sl).tup_inv
  refine ⟨a, rfl, ⟨vs, ex_t b2 h1⟩, q _ _ [_] [_] rfl e1 z fun B H' F r s sl eb => ?_⟩
  obtain ⟨a', vs, ea, h1, h2⟩ := (Sta.shFront sl).tup_inv
  cases ea
  exact core_tup (ex_t eb h1) h2 eb t
theorem wkS_rev (h : EvS K B0 tl ρ (.lst (xs.map e0)) ρ1) (t : ∀ x, Tg K g ks (e0 x) (e x)) : WkS K B0 (RT.iRevA K tl) g ks ρ ρ1 xs.reverse e := fun φ τ σ H R l s q => h φ τ σ H _ l s fun v H1 e1 z => by
  obtain ⟨B, F, b1, b2, sl, nd⟩ := id z
  obtain ⟨a, vs, rfl, h1, h2⟩ := (Sta.shFront sl).lst_inv
  refine ⟨a, vs, rfl, .inl ⟨.inl (ex_rd b2 h1), q _ _ [_] [_] rfl e1 z fun B H' F r s sl eb => ?_⟩⟩
  have hl := h2.length
  obtain ⟨a', vs, ea, h1, h2⟩ := (Sta.shFront sl).lst_inv
  cases ea
  exact core_rev (.inl (ex_rd eb h1)) h2 eb t (by rw [hl, List.length_map])
theorem wkS_str {k : Nat} {z : Str} (h : EvB K tl ρ (.str z)) : WkS K B0 (iStr tl) (gName k) [k] ρ ρ z.cps.toList (fun c => [.str ⟨#[c]⟩]) := fun φ τ σ H R l s q => h σ H _ (Rs.f l s) fun v H1 e1 sv => by
  have := sv.str_inv
  subst this
  exact ⟨z, rfl, q _ _ [] [] rfl e1 (s.ex e1) fun B H' F r s sl eb => core_str⟩
theorem wkS_enum {k1 k2 : Nat} (h : EvS K B0 tl ρ (.lst (xs.map e0)) ρ1) : WkS K B0 (iEnum K (tCons tl tNil)) (gTup K 2 (gNs [k1, k2])) [k1, k2] ρ ρ1 (num xs) (fun p => [.int (p.1 : Nat), e0 p.2]) := fun φ τ σ H R l s q => h φ τ σ H _ l s fun v H1 e1 z => by
  obtain ⟨B, F, b1, b2, sl, nd⟩ := id z
  obtain ⟨a, vs, rfl, h1, h2⟩ := (Sta.shFront sl).lst_inv
  refine ⟨a, vs, rfl, .inl (ex_rd b2 h1), q _ _ [_] [_] rfl e1 z fun B H' F r s sl eb => ?_⟩
  obtain ⟨a', vs, ea, h1, h2⟩ := (Sta.shFront sl).lst_inv
  cases ea
  exact core_enum (.inl (ex_rd eb h1)) h2
theorem wkS_range1 {k : Nat} {n : Int} (h : EvB K tl ρ (.int n)) (h1 : n < 100000) (h0 : -100000 < n := by omega) : WkS K B0 (iRng1 (tCons tl tNil)) (gName k) [k] ρ ρ (List.range n.toNat) (fun i => [.int (i : Nat)]) := fun φ τ σ H R l s q => h.int (Rs.f l s) fun H1 e1 =>
  ⟨n, rfl, by omega, by omega, q _ _ [] [] rfl e1 (s.ex e1) fun B H' F r s sl eb => by
    have := core_range (K := K) (k := k) (lo := 0) (n := n.toNat) (B := B) (H := H')
    simp only [Int.zero_add] at this
    exact this⟩
theorem wkS_range2 {k : Nat} {m n : Int} (h : EvB K tl ρ (.int m)) (h' : EvB K tb ρ (.int n)) (h0 : -100000 < m) (h1 : m < 100000) (h2 : -100000 < n) (h3 : n < 100000) : WkS K B0 (iRng2 (tCons tl (tCons tb tNil))) (gName k) [k] ρ ρ (List.range (n - m).toNat) (fun i => [.int (m + (i : Nat))]) := fun φ τ σ H R l s q =>
  h.int (Rs.f l s) fun H1 e1 => h'.int ((Rs.f l s).mono e1) fun H2 e2 =>
  ⟨m, n, rfl, ⟨by omega, by omega, by omega, by omega⟩, q _ _ [] [] rfl (e1.trans e2) (s.ex (e1.trans e2)) fun B H' F r s sl eb => core_range⟩
end
end Fw

set_option Elab.async false
set_option linter.all false
set_option maxRecDepth 100000
set_option maxHeartbeats 4000000
/-! enumerate(a tuple): the kit's rule is for lists alone -/
namespace Fw
open PySem PySem.Spec PyProof.Rows L2
theorem enumT_new (t : Addr) (items : Array Value) :
    Meets (Builtin.«enumerate.__new__» ⟨[.type "enumerate", .ref t], []⟩) (fun _ R s => s.heap.IsTuple t items ∧
      R (.ok (.ret (.ref (s.heap.push { cls := .type "tuple_iterator", data := .fields #[.ref t, .int 0 0] }).objs.size)))
        { s with heap := (s.heap.push { cls := .type "tuple_iterator", data := .fields #[.ref t, .int 0 0] }).push { cls := .type "enumerate", data := .fields #[.none, .bool false, .ref s.heap.objs.size, rawInt 0, .none, .none] } }) :=
  .of_wp fun prog w A R s h => by
    obtain ⟨hp, g, d, tk, os⟩ := s
    obtain ⟨h1, h⟩ := h
    have hsub := sub_enumerate
    have q1 : ∀ {A' : Around} {E : Value → Shared → Prop} {Q : Value → Shared → Prop}, Q (.ref hp.objs.size) ⟨hp.push { cls := .type "tuple_iterator", data := .fields #[.ref t, .int 0 0] }, g, d, tk, os⟩ → wpAny (model prog w) A' (pyIter (.ref t)) Q E ⟨hp, g, d, tk, os⟩ :=
      fun q => wpAny_pyIter_tuple h1 q
    wp_walk using q1
    refine wpAny_stack_any fun st => wpAny_pure ?_
    split
    · rename_i c _ _ _ _ _
      cases (c == Value.type "enumerate") <;> (wp_walk using q1; exact ⟨_, rfl, h⟩)
    · wp_walk using q1
      exact ⟨_, rfl, h⟩
theorem enumT_call {prog : Program} {w : World} {A : Around} {E : Value → Shared → Prop} {s : Shared} {t : Addr} {items : Array Value} {Q : Value → Shared → Prop} (hT : s.heap.IsTuple t items)
    (h : ∀ h', IsEnum h' (s.heap.objs.size + 1) s.heap.objs.size 0 .none → h'.IsTupleIter s.heap.objs.size t 0 → (∀ b o, s.heap.get? b = some o → h'.get? b = some o) → Q (.ref (s.heap.objs.size + 1)) { s with heap := h' }) :
    wpAny (model prog w) A (call (.type "enumerate") [.ref t]) Q E s := by
  refine callType_new F.called_enumerate (by decide) (F.typeCall_enumerate_1 _) (F.newCall_enumerate_1 _) (fun obj => F.args_object_init_2 obj _) F.entry_enumerate_new (enumT_new t items) ⟨hT, ?_⟩
  have hz : (s.heap.push { cls := .type "tuple_iterator", data := .fields #[.ref t, .int 0 0] }).objs.size = s.heap.objs.size + 1 := Heap.size_push ..
  show _ ∧ _
  rw [hz]
  have he : IsEnum ((s.heap.push { cls := .type "tuple_iterator", data := .fields #[.ref t, .int 0 0] }).push
      { cls := .type "enumerate", data := .fields #[.none, .bool false, .ref s.heap.objs.size, rawInt 0, .none, .none] }) (s.heap.objs.size + 1) s.heap.objs.size 0 .none := by
    have := Heap.get?_push_size (s.heap.push { cls := .type "tuple_iterator", data := .fields #[.ref t, .int 0 0] })
      (o := { cls := .type "enumerate", data := .fields #[.none, .bool false, .ref s.heap.objs.size, rawInt 0, .none, .none] }) rfl
    rw [hz] at this; exact this
  exact ⟨⟨_, he, rfl⟩, h _ he ⟨_, Heap.get?_push_of_some _ (Heap.get?_push_size _ rfl), rfl, rfl⟩ fun b o x => Heap.get?_push_of_some _ (Heap.get?_push_of_some _ x)⟩
def IteT (K : PySem.W.Frag) (a : Addr) : It :=
  ⟨fun i H => ∃ (xs : List V) (x : V), SqT K H a xs ∧ xs[i]? = some x, fun i H v H' => ∃ T x, v = .ref T ∧ H T = none ∧ H' = upd H T (.tup [.int (i : Nat), x]) ∧ ∀ xs, SqT K H a xs → xs[i]? = some x, fun i H => ∃ xs : List V, SqT K H a xs ∧ xs.length = i⟩
theorem turn_enumT {P : Program} {w : World} {K : PySem.W.Frag} {elts : List Expr} {kk : Nat} {tpos : Pos} (a e it : Addr) :
    Turn P w K (.Tuple elts kk tpos) (IteT K a) [e, it] e (fun i h => (∃ old, IsEnum h e it ((i : Nat) : Int) old) ∧ h.IsTupleIter it a i ∧ e ≠ it) where
  mem := by simp
  obj := fun i h st b hb => by
    obtain ⟨⟨old, he⟩, ⟨o, ho, hc, hd⟩, _⟩ := st
    have e' : b = e ∨ b = it := by simpa using hb
    rcases e' with z | z
    · rw [z]; exact ⟨_, he, fun v q => nomatch q⟩
    · rw [z]; exact ⟨o, ho, fun v q => by rw [hd] at q; cases q⟩
  keep := fun i h h' st k => let ⟨⟨old, he⟩, hi, hne⟩ := st; ⟨⟨old, k e (by simp) _ he⟩, hi.at fun o q => k it (by simp) o q, hne⟩
  item := by
    intro X hP hw hK hc i pins s σ H E I hf st hg
    subst hP hw hK
    obtain ⟨⟨old, he⟩, hit, hne⟩ := st
    obtain ⟨xs, x, hq, hx⟩ := hg
    obtain ⟨its, rv, p, hz⟩ := I.tuple hq
    obtain ⟨u, hu, ru⟩ := rv.get hx
    have pt : s.heap.IsTuple a its.toArray := p
    have hel : e < s.heap.objs.size := Heap.lt_size he
    have hil : it < s.heap.objs.size := by obtain ⟨_, q, _⟩ := hit; exact Heap.lt_size q
    have nai : a ≠ it := fun z => by
      obtain ⟨o, h1, h2, _⟩ := hit
      obtain ⟨o', h3, h4, _⟩ := pt
      rw [z, h1] at h3
      cases h3
      rw [h2] at h4
      exact absurd (Value.type.inj h4) (by decide)
    have nae : e ≠ a := fun z => by
      obtain ⟨o', h3, h4, _⟩ := pt
      rw [← z, show s.heap.get? e = _ from he] at h3
      cases h3
      exact absurd (Value.type.inj h4) (by decide)
    have hh : X.A.in1.handled = none := I.ok.hd hc
    refine wpAny_pyNext_enum_itemD (Draws.tuple hh it a nai its.toArray) he ⟨hit, pt⟩ (i := i) (by simpa using (List.getElem?_eq_some_iff.mp hu).1) hne (by simp [nae, hne]) fun x' h' tk hP ho st' hT hsz hk => ?_
    have ex : x' = u := by
      have hP' : its[i]? = some x' := by simpa using hP
      rw [hu] at hP'
      exact (Option.some.inj hP').symm
    subst ex
    refine ⟨_, rfl, wpAny_letOwnedTupleGo_enum (s := { s with heap := h', toks := tk + 1 }) ho fun h'' he' sb => ?_⟩
    have hT2 : h''.get? s.heap.objs.size = some { cls := .type "tuple", data := .seq #[.int i tk, x'] } := (sb.2 _ (Nat.ne_of_gt hel)).trans hT
    have new : ObjOk X.prog X.w (upd H s.heap.objs.size (.tup [.int (i : Nat), x])) h'' s.heap.objs.size (.tup [.int (i : Nat), x]) :=
      ⟨by show 2 ≤ sizeLine; decide, [.int i tk, x'], .cons ⟨_, rfl⟩ (.cons ru .nil), ⟨_, hT2, rfl, _, rfl⟩⟩
    have I1 : Inv X pins σ (upd H s.heap.objs.size (.tup [.int (i : Nat), x])) { s with heap := h'', toks := tk + 1 } :=
      I.turnedNew (ch := [e, it]) (fun b ob hb q => (sb.2 b (fun z => hb (by simp [z]))).trans (hk b ob (fun z => hb (by simp [z])) (fun z => hb (by simp [z])) q)) hf (Nat.le_refl _) new
    refine ⟨.ref s.heap.objs.size, _, I1, rfl, ⟨_, x, rfl, I.hok.fresh (Nat.le_refl _), rfl, fun ys hy => by rw [I.tuple_inj hy hq]; exact hx⟩, ⟨⟨x', ?_⟩, st'.1.at fun o q => (sb.2 it (Ne.symm hne)).trans q, hne⟩, fun b hb => ?_⟩
    · have e1 : ((i + 1 : Nat) : Int) = (i : Int) + 1 := by omega
      rw [e1]; exact he'
    · have hb' : b < s.heap.objs.size := by
        have e' : b = e ∨ b = it := by simpa using hb
        rcases e' with z | z
        · rw [z]; exact hel
        · rw [z]; exact hil
      rw [upd_ne (Nat.ne_of_lt hb')]
      exact (hf b hb).1
  done := by
    intro X hP hw hK hc i pins s σ H E I hf st hg
    subst hP hw hK
    obtain ⟨⟨old, he⟩, hit, hne⟩ := st
    obtain ⟨xs, hq, hx⟩ := hg
    obtain ⟨its, rv, p, hz⟩ := I.tuple hq
    have pt : s.heap.IsTuple a its.toArray := p
    obtain ⟨f0, f1, f2, f3, f4, f5⟩ := hf it (by simp)
    have hl := rv.length
    have nai : a ≠ it := fun z => by
      obtain ⟨o, h1, h2, _⟩ := hit
      obtain ⟨o', h3, h4, _⟩ := pt
      rw [z, h1] at h3
      cases h3
      rw [h2] at h4
      exact absurd (Value.type.inj h4) (by decide)
    have hh : X.A.in1.handled = none := I.ok.hd hc
    have hsz : its.toArray.size = i := by rw [← hx, hl]; simp
    subst hsz
    exact wpAny_pyNext_enum_endD (Draws.tuple hh it a nai its.toArray) he ⟨hit, pt⟩ fun h' eb => ⟨rfl, I.turned (t' := s.toks) (fun b o hb q => eb b o hb q) f0 f1 f3 f4 f5⟩
  self := fun A i s Q E st h => let ⟨⟨_, he⟩, _⟩ := st; wpAny_pyIter_enum he h
def iEnumT (K : PySem.W.Frag) (ta : TA) : TI := fun σ H R => ta σ H fun vs H1 => ∃ a xs, vs = [.ref a] ∧ SqT K H1 a xs ∧ R (IteT K a) H1
theorem pi_enumT {X : Cx} {e : Expr} {ta : TA} {p pos tpos : Pos} {elts : List Expr} {kk : Nat} (hg : Gl X "enumerate") (hm : X.mg "enumerate" = none) (ha : PA X [e] ta) (hs : starEach [e] X.env = [(false, eval e X.env)] := by rfl) :
    PI X (.Tuple elts kk tpos) (.Call (.Name "enumerate" p) [e] [] pos) (iEnumT X.K ta) := by
  refine ⟨fun pins s σ H R I h => ?_⟩
  refine Call_ (ld_blt I hg hm boot_enumerate (PyProof.Rows.callWith_type1 (thn (ha.run pos pins s σ H _ I h) fun us s1 ⟨vs, H1, I1, r1, q1⟩ => ?_) hs rfl))
  obtain ⟨a, xs, ex, hq, q⟩ := q1
  subst ex
  cases r1 with
  | cons r rr =>
    cases rr
    cases r
    obtain ⟨its, rv, p', hz⟩ := I1.tuple hq
    have pt : s1.heap.IsTuple a its.toArray := p'
    refine enumT_call pt fun h' he hit hk => wpAny_pyIter_enum he ?_
    have I2 : Inv X pins σ H1 { s1 with heap := h' } := I1.kept (t' := s1.toks) hk
    refine ⟨s1.heap.objs.size + 1, [s1.heap.objs.size + 1, s1.heap.objs.size], _, _, H1, rfl, I2, turn_enumT a (s1.heap.objs.size + 1) s1.heap.objs.size, ⟨⟨.none, he⟩, hit, Nat.succ_ne_self _⟩, fun b hb => ?_, q⟩
    have e' : b = s1.heap.objs.size + 1 ∨ b = s1.heap.objs.size := by simpa using hb
    have hle : s1.heap.objs.size ≤ b := by
      rcases e' with z | z
      · rw [z]; exact Nat.le_add_right _ _
      · rw [z]; exact Nat.le_refl _
    exact I1.fpOk hle (I1.hok.fresh hle)
section
variable {K : PySem.W.Frag} {B0 B H H' : Hp} {ρ ρ' ρ1 ρ2 : List Sd} {σ : L2.St} {te ta tb tl : TE} {α β : Type} {xs : List α} {ys : List β} {e0 : α → Da} {f0 : β → Da} {e : α → List Da} {g : TG} {ks : List Nat} {a b : Addr} {vs ws : List V}
theorem core_enumT {k1 k2 : Nat} (q : SqT K H a vs) (s : Shs K B vs (xs.map e0)) : Core K (IteT K a) (gTup K 2 (gNs [k1, k2])) [k1, k2] (num xs) (fun p => [.int (p.1 : Nat), e0 p.2]) B H := by
  have l : vs.length = xs.length := by rw [s.length, List.length_map]
  refine ⟨⟨vs, q, by rw [num_len]; omega⟩, fun i x hx => ?_⟩
  obtain ⟨hi, hx⟩ := num_at hx
  obtain ⟨v, hv, sv⟩ := shs_at s hx
  refine ⟨⟨vs, v, q, hv⟩, fun v' H' y => ?_⟩
  obtain ⟨T, y', rfl, hT, rfl, y2⟩ := y
  have := y2 vs q
  rw [hv] at this
  cases this
  exact pair_new hT (by rw [hi]; exact .int _) sv
theorem wkE_enumT {k1 k2 : Nat} (h : EvB K tl ρ (.tup (xs.map e0))) : WkE K (iEnumT K (tCons tl tNil)) (gTup K 2 (gNs [k1, k2])) [k1, k2] ρ (num xs) (fun p => [.int (p.1 : Nat), e0 p.2]) := fun σ H R rs q => h σ H _ rs fun v H1 e1 s => by
  obtain ⟨a, vs, rfl, h1, h2⟩ := s.tup_inv
  exact ⟨a, vs, rfl, h1, q _ _ e1 fun H' e' => core_enumT (ex_t e' h1) (h2.mono e')⟩
theorem wkS_enumT {k1 k2 : Nat} (h : EvS K B0 tl ρ (.tup (xs.map e0)) ρ1) : WkS K B0 (iEnumT K (tCons tl tNil)) (gTup K 2 (gNs [k1, k2])) [k1, k2] ρ ρ1 (num xs) (fun p => [.int (p.1 : Nat), e0 p.2]) := fun φ τ σ H R l s q => h φ τ σ H _ l s fun v H1 e1 z => by
  obtain ⟨B, F, b1, b2, sl, nd⟩ := id z
  obtain ⟨a, vs, rfl, h1, h2⟩ := (Sta.shFront sl).tup_inv
  refine ⟨a, vs, rfl, ex_t b2 h1, q _ _ [_] [_] rfl e1 z fun B H' F r s sl eb => ?_⟩
  obtain ⟨a', vs, ea, h1, h2⟩ := (Sta.shFront sl).tup_inv
  cases ea
  exact core_enumT (ex_t eb h1) h2
theorem wkE_revT (h : EvB K tl ρ (.tup (xs.map e0))) (t : ∀ x, Tg K g ks (e0 x) (e x)) : WkE K (RT.iRevA K tl) g ks ρ xs.reverse e := fun σ H R rs q => h σ H _ rs fun v H1 e1 s => by
  obtain ⟨a, vs, rfl, h1, h2⟩ := s.tup_inv
  exact ⟨a, vs, rfl, .inr ⟨h1, q _ _ e1 fun H' e' => core_revT (ex_t e' h1) (h2.mono e') (Ex.refl _) t (by rw [h2.length, List.length_map])⟩⟩
theorem wkS_revT (h : EvS K B0 tl ρ (.tup (xs.map e0)) ρ1) (t : ∀ x, Tg K g ks (e0 x) (e x)) : WkS K B0 (RT.iRevA K tl) g ks ρ ρ1 xs.reverse e := fun φ τ σ H R l s q => h φ τ σ H _ l s fun v H1 e1 z => by
  obtain ⟨B, F, b1, b2, sl, nd⟩ := id z
  obtain ⟨a, vs, rfl, h1, h2⟩ := (Sta.shFront sl).tup_inv
  refine ⟨a, vs, rfl, .inr ⟨ex_t b2 h1, q _ _ [_] [_] rfl e1 z fun B H' F r s sl eb => ?_⟩⟩
  have hl := h2.length
  obtain ⟨a', vs, ea, h1, h2⟩ := (Sta.shFront sl).tup_inv
  cases ea
  exact core_revT (ex_t eb h1) h2 eb t (by rw [hl, List.length_map])
end
end Fw

set_option Elab.async false
set_option linter.all false
set_option maxRecDepth 100000
set_option maxHeartbeats 4000000
/-! tuples joined and cut, all, any, sum, max, min, in, index, join -/
namespace Fw
open PySem L2
section
variable {K : PySem.W.Frag} {B0 : Hp} {ρ ρ' : List Sd} {te ta tb tc t : TE} {tl th : TO} {d d1 d2 : Da} {i j : Int} {lo hi : Option Int}
theorem ev_catA {ds es : List Da} (ha : EvB K ta ρ (.tup ds)) (hb : EvB K tb ρ (.tup es)) (hl : ds.length + es.length ≤ 100000) : EvB K (tOp (rCatA K) ta tb) ρ (.tup (ds ++ es)) :=
  ev_2 ha hb fun x y H Q s1 s2 q => by
    obtain ⟨a, xs, rfl, h1, h2⟩ := s1.tup_inv2
    obtain ⟨b, ys, rfl, h3, h4⟩ := s2.tup_inv2
    refine ⟨a, b, xs, ys, rfl, rfl, .of h1, .of h3, by rw [h2.length, h4.length]; exact Nat.le_trans hl (by decide), fun e => ?_, fun e1 e2 => ?_, fun e1 e2 p hp => ?_⟩
    · subst e
      cases h2
      exact q _ H (Ex.refl H) (.tup h3 h4)
    · subst e2
      cases h4
      rw [List.append_nil] at q
      exact q _ H (Ex.refl H) (.tup h1 h2)
    · exact q _ _ (.new hp) (.tup upd_same ((h2.append h4).mono (.new hp)))
theorem cut_all {α : Type} {xs : List α} (h : HT.sIx xs.length 0 lo = 0 ∧ HT.sIx xs.length xs.length hi = xs.length) : cut xs lo hi = xs := by
  unfold cut
  rw [h.1, h.2, List.drop_zero, Nat.sub_zero, List.take_length]
theorem ev_slA {ds : List Da} (h : EvB K te ρ (.tup ds)) (hl : EvO K tl ρ lo) (hh : EvO K th ρ hi) : EvB K (tSl (rSlA K) te tl th) ρ (.tup (cut ds lo hi)) := fun σ H Q rs q =>
  h σ H _ rs fun v H1 e1 s => hl σ H1 _ (rs.mono e1) fun H2 e2 => hh σ H2 _ (rs.mono (e1.trans e2)) fun H3 e3 => by
    obtain ⟨a, xs, rfl, h1, h2⟩ := s.tup_inv2
    have h1 := (e2.trans e3).tup h1
    have h2 := h2.mono (e2.trans e3)
    refine ⟨a, xs, rfl, .of h1, fun w => ?_, fun w p hp => q _ _ (((e1.trans e2).trans e3).trans (.new hp)) (.tup upd_same ((h2.cut lo hi).mono (.new hp)))⟩
    rw [h2.length] at w
    rw [cut_all w] at q
    exact q _ H3 ((e1.trans e2).trans e3) (.tup h1 h2)
theorem shs_bls {H : Hp} : ∀ {vs : List V} {bs : List Bool}, Shs K H vs (bs.map Da.bl) → vs = bs.map V.bl
  | _, [], .nil => rfl
  | _, b :: bs, .cons s r => by rw [s.bl_inv, shs_bls r, List.map_cons]
theorem shs_intV {H : Hp} : ∀ {vs : List V} {ns : List Int}, Shs K H vs (ns.map Da.int) → vs = ns.map V.int
  | _, [], .nil => rfl
  | _, b :: bs, .cons s r => by rw [s.int_inv, shs_intV r, List.map_cons]
theorem shs_strV {H : Hp} : ∀ {vs : List V} {ns : List Str}, Shs K H vs (ns.map Da.str) → vs = ns.map V.str
  | _, [], .nil => rfl
  | _, b :: bs, .cons s r => by rw [s.str_inv, shs_strV r, List.map_cons]
theorem ev_all {bs : List Bool} (h : EvB K t ρ (.lst (bs.map Da.bl))) : EvB K (tCB (rAll K) (tCons t tNil)) ρ (.bl (bs.all id)) := fun σ H Q rs q =>
  h σ H _ rs fun v H1 e s => by
    obtain ⟨a, xs, rfl, h1, h2⟩ := s.lst_inv
    have := shs_bls h2
    subst this
    exact ⟨a, bs, rfl, .inl h1, q _ H1 e (.bl _)⟩
theorem ev_any {bs : List Bool} (h : EvB K t ρ (.lst (bs.map Da.bl))) : EvB K (tCB (rAny K) (tCons t tNil)) ρ (.bl (bs.any id)) := fun σ H Q rs q =>
  h σ H _ rs fun v H1 e s => by
    obtain ⟨a, xs, rfl, h1, h2⟩ := s.lst_inv
    have := shs_bls h2
    subst this
    exact ⟨a, bs, rfl, .inl h1, q _ H1 e (.bl _)⟩
theorem ev_sum {ns : List Int} (h : EvB K t ρ (.lst (ns.map Da.int))) : EvB K (tCB (rSum K) (tCons t tNil)) ρ (.int ns.sum) := fun σ H Q rs q =>
  h σ H _ rs fun v H1 e s => by
    obtain ⟨a, xs, rfl, h1, h2⟩ := s.lst_inv
    have := shs_intV h2
    subst this
    exact ⟨a, ns, rfl, .inl h1, q _ H1 e (.int _)⟩
def maxL : List Int → Int
  | [] => 0
  | x :: l => l.foldl max x
def minL : List Int → Int
  | [] => 0
  | x :: l => l.foldl min x
theorem foldl_max : ∀ (l : List Int) (x : Int), (l.foldl max x = x ∨ l.foldl max x ∈ l) ∧ x ≤ l.foldl max x ∧ ∀ y, y ∈ l → y ≤ l.foldl max x
  | [], x => ⟨.inl rfl, Int.le_refl _, fun _ h => nomatch h⟩
  | z :: l, x => by
    obtain ⟨h1, h2, h3⟩ := foldl_max l (max x z)
    show (l.foldl max (max x z) = x ∨ l.foldl max (max x z) ∈ z :: l) ∧ x ≤ l.foldl max (max x z) ∧ ∀ y, y ∈ z :: l → y ≤ l.foldl max (max x z)
    generalize l.foldl max (max x z) = m at h1 h2 h3 ⊢
    refine ⟨?_, by omega, fun y hy => ?_⟩
    · rcases h1 with h1 | h1
      · by_cases hc : z ≤ x
        · left; rw [h1]; omega
        · right; rw [h1]; exact List.mem_cons.mpr (.inl (by omega))
      · right; exact List.mem_cons_of_mem _ h1
    · rcases List.mem_cons.mp hy with rfl | hy
      · omega
      · exact h3 y hy
theorem foldl_min : ∀ (l : List Int) (x : Int), (l.foldl min x = x ∨ l.foldl min x ∈ l) ∧ l.foldl min x ≤ x ∧ ∀ y, y ∈ l → l.foldl min x ≤ y
  | [], x => ⟨.inl rfl, Int.le_refl _, fun _ h => nomatch h⟩
  | z :: l, x => by
    obtain ⟨h1, h2, h3⟩ := foldl_min l (min x z)
    show (l.foldl min (min x z) = x ∨ l.foldl min (min x z) ∈ z :: l) ∧ l.foldl min (min x z) ≤ x ∧ ∀ y, y ∈ z :: l → l.foldl min (min x z) ≤ y
    generalize l.foldl min (min x z) = m at h1 h2 h3 ⊢
    refine ⟨?_, by omega, fun y hy => ?_⟩
    · rcases h1 with h1 | h1
      · by_cases hc : x ≤ z
        · left; rw [h1]; omega
        · right; rw [h1]; exact List.mem_cons.mpr (.inl (by omega))
      · right; exact List.mem_cons_of_mem _ h1
    · rcases List.mem_cons.mp hy with rfl | hy
      · omega
      · exact h3 y hy
theorem maxL_mem : ∀ {l : List Int}, l ≠ [] → maxL l ∈ l
  | [], h => absurd rfl h
  | x :: l, _ => by
    rcases (foldl_max l x).1 with h | h
    · exact List.mem_cons.mpr (.inl h)
    · exact List.mem_cons_of_mem _ h
theorem maxL_ge : ∀ {l : List Int} {y : Int}, y ∈ l → y ≤ maxL l
  | [], _, h => nomatch h
  | x :: l, y, h => by
    rcases List.mem_cons.mp h with rfl | h
    · exact (foldl_max l _).2.1
    · exact (foldl_max l _).2.2 y h
theorem minL_mem : ∀ {l : List Int}, l ≠ [] → minL l ∈ l
  | [], h => absurd rfl h
  | x :: l, _ => by
    rcases (foldl_min l x).1 with h | h
    · exact List.mem_cons.mpr (.inl h)
    · exact List.mem_cons_of_mem _ h
theorem minL_le : ∀ {l : List Int} {y : Int}, y ∈ l → minL l ≤ y
  | [], _, h => nomatch h
  | x :: l, y, h => by
    rcases List.mem_cons.mp h with rfl | h
    · exact (foldl_min l _).2.1
    · exact (foldl_min l _).2.2 y h
theorem ev_maxL {ns : List Int} (h : EvB K t ρ (.lst (ns.map Da.int))) (hn : 0 < ns.length) : EvB K (tCB (rMax K) (tCons t tNil)) ρ (.int (maxL ns)) := fun σ H Q rs q =>
  h σ H _ rs fun v H1 e s => by
    obtain ⟨a, xs, rfl, h1, h2⟩ := s.lst_inv
    have := shs_intV h2
    subst this
    refine ⟨a, ns, rfl, .inl h1, hn, fun m m1 m2 => ?_⟩
    have hm : m = maxL ns := Int.le_antisymm (maxL_ge m1) (m2 _ (maxL_mem (fun z => by rw [z] at m1; cases m1)))
    rw [hm]
    exact q _ H1 e (.int _)
theorem ev_minL {ns : List Int} (h : EvB K t ρ (.lst (ns.map Da.int))) (hn : 0 < ns.length) : EvB K (tCB (rMin K) (tCons t tNil)) ρ (.int (minL ns)) := fun σ H Q rs q =>
  h σ H _ rs fun v H1 e s => by
    obtain ⟨a, xs, rfl, h1, h2⟩ := s.lst_inv
    have := shs_intV h2
    subst this
    refine ⟨a, ns, rfl, .inl h1, hn, fun m m1 m2 => ?_⟩
    have hm : m = minL ns := Int.le_antisymm (m2 _ (minL_mem (fun z => by rw [z] at m1; cases m1))) (minL_le m1)
    rw [hm]
    exact q _ H1 e (.int _)
abbrev rMax2 : List V → Hp → VK → Prop := fun xs H Q => ∃ i j, xs = [.int i, .int j] ∧ Q (.int (if j > i then j else i)) H
abbrev rMin2 : List V → Hp → VK → Prop := fun xs H Q => ∃ i j, xs = [.int i, .int j] ∧ Q (.int (if j < i then j else i)) H
theorem ev_max2 (ha : EvB K ta ρ (.int i)) (hb : EvB K tb ρ (.int j)) : EvB K (tCB rMax2 (tCons ta (tCons tb tNil))) ρ (.int (max i j)) := fun σ H Q rs q =>
  (ea_cons ha (ea_cons hb ea_nil)) σ H _ rs fun vs H1 e s => by
    cases s with
    | cons s1 s2 =>
      cases s2 with
      | cons s2 s3 =>
        cases s3
        cases s1; cases s2
        refine ⟨i, j, rfl, ?_⟩
        have : (if j > i then j else i) = max i j := by split <;> omega
        rw [this]
        exact q _ H1 e (.int _)
theorem ev_min2 (ha : EvB K ta ρ (.int i)) (hb : EvB K tb ρ (.int j)) : EvB K (tCB rMin2 (tCons ta (tCons tb tNil))) ρ (.int (min i j)) := fun σ H Q rs q =>
  (ea_cons ha (ea_cons hb ea_nil)) σ H _ rs fun vs H1 e s => by
    cases s with
    | cons s1 s2 =>
      cases s2 with
      | cons s2 s3 =>
        cases s3
        cases s1; cases s2
        refine ⟨i, j, rfl, ?_⟩
        have : (if j < i then j else i) = min i j := by split <;> omega
        rw [this]
        exact q _ H1 e (.int _)
/-! in, index -/
theorem toPys_map : ∀ ds : List Da, toPys ds = ds.map toPy
  | [] => rfl
  | d :: ds => by show toPy d :: toPys ds = _; rw [toPys_map ds]; rfl
theorem any_in {α : Type} [DecidableEq α] {e : α → Da} (h : Apart e) (x : α) (xs : List α) : ((toPys (xs.map e)).any fun z => PyData.eqv z (toPy (e x))) = decide (x ∈ xs) := by
  rw [toPys_map, List.map_map, List.any_map]
  have hd : ∀ y, ((fun z => PyData.eqv z (toPy (e x))) ∘ (toPy ∘ e)) y = decide (y = x) := fun y => h.dec y x
  rw [Bool.eq_iff_iff, List.any_eq_true, decide_eq_true_iff]
  constructor
  · rintro ⟨y, hy, e⟩
    rw [hd y, decide_eq_true_iff] at e
    exact e ▸ hy
  · intro hx
    exact ⟨x, hx, by rw [hd x, decide_eq_true_iff]⟩
theorem ev_inD {α : Type} [DecidableEq α] (e : α → Da) (h : Apart e) {x : α} {xs : List α} (ha : EvB K ta ρ (e x)) (hb : EvB K tb ρ (.lst (xs.map e))) {n m : Nat} (h1 : flD n (e x) = true) (h2 : flD m (.lst (xs.map e)) = true) (hn : n ≤ 64 := by decide) (hm : m ≤ 64 := by decide) :
    EvB K (tOp (rInD K) ta tb) ρ (.bl (decide (x ∈ xs))) :=
  ev_2 ha hb fun v w H Q s1 s2 q => by
    refine ⟨_, _, s1.dp h1, s2.dp h2, flD_shaped h1 hn, flD_shaped h2 hm, ?_⟩
    rw [any_in h]
    exact q _ H (Ex.refl H) (.bl _)
theorem ev_notInD {α : Type} [DecidableEq α] (e : α → Da) (h : Apart e) {x : α} {xs : List α} (ha : EvB K ta ρ (e x)) (hb : EvB K tb ρ (.lst (xs.map e))) {n m : Nat} (h1 : flD n (e x) = true) (h2 : flD m (.lst (xs.map e)) = true) (hn : n ≤ 64 := by decide) (hm : m ≤ 64 := by decide) :
    EvB K (tOp (rNotInD K) ta tb) ρ (.bl (!decide (x ∈ xs))) :=
  ev_2 ha hb fun v w H Q s1 s2 q => by
    refine ⟨_, _, s1.dp h1, s2.dp h2, flD_shaped h1 hn, flD_shaped h2 hm, ?_⟩
    rw [any_in h]
    exact q _ H (Ex.refl H) (.bl _)
theorem inV_strs {x : Str} : ∀ xs : List Str, inV (.str x) (xs.map V.str) = decide (x ∈ xs) := fun xs => by
  rw [Bool.eq_iff_iff, decide_eq_true_iff]
  unfold inV
  rw [List.any_map, List.any_eq_true]
  constructor
  · rintro ⟨y, hy, e⟩
    have : (y == x) = true ∨ (x == y) = true := by first | exact .inl e | exact .inr e
    rcases this with z | z
    · exact (eq_of_beq z) ▸ hy
    · exact (eq_of_beq z) ▸ hy
  · intro hx
    exact ⟨x, hx, by first | exact beq_self_eq_true x | (show (x == x) = true; exact beq_self_eq_true x)⟩
theorem flat_strs (xs : List Str) : (xs.map V.str).all flatV = true := by
  rw [List.all_map, List.all_eq_true]
  exact fun _ _ => rfl
theorem ev_inS {x : Str} {xs : List Str} (ha : EvB K ta ρ (.str x)) (hb : EvB K tb ρ (.lst (xs.map Da.str))) : EvB K (tOp (rIn K false) ta tb) ρ (.bl (decide (x ∈ xs))) :=
  ev_2 ha hb fun v w H Q s1 s2 q => by
    obtain ⟨b, ys, rfl, h3, h4⟩ := s2.lst_inv
    have := shs_strV h4
    subst this
    rw [s1.str_inv]
    refine ⟨b, _, rfl, .inl (.inl h3), rfl, flat_strs _, ?_⟩
    rw [inV_strs]
    exact q _ H (Ex.refl H) (.bl _)
theorem ev_notInS {x : Str} {xs : List Str} (ha : EvB K ta ρ (.str x)) (hb : EvB K tb ρ (.lst (xs.map Da.str))) : EvB K (tOp (rIn K true) ta tb) ρ (.bl (!decide (x ∈ xs))) :=
  ev_2 ha hb fun v w H Q s1 s2 q => by
    obtain ⟨b, ys, rfl, h3, h4⟩ := s2.lst_inv
    have := shs_strV h4
    subst this
    rw [s1.str_inv]
    refine ⟨b, _, rfl, .inl (.inl h3), rfl, flat_strs _, ?_⟩
    rw [inV_strs]
    exact q _ H (Ex.refl H) (.bl _)
theorem ev_indexD {α : Type} [DecidableEq α] (e : α → Da) (h : Apart e) {x : α} {xs : List α} (hb : EvB K te ρ (.lst (xs.map e))) (ha : EvB K ta ρ (e x)) {n m : Nat} (h1 : flD n (e x) = true) (h2 : flD m (.lst (xs.map e)) = true) (hx : x ∈ xs) (hn : n ≤ 64 := by decide) (hm : m ≤ 64 := by decide) :
    EvB K (tBM K "list" (rIndexD K) te (tCons ta tNil)) ρ (.int (xs.idxOf x : Nat)) := fun σ H Q rs q =>
  hb σ H _ rs fun v H1 e1 s1 => by
    obtain ⟨a, ys, rfl, g1, g2⟩ := s1.lst_inv
    refine ⟨.inl ⟨rfl, ys, .inl g1⟩, ha σ H1 _ (rs.mono e1) fun w H2 e2 s2 => ?_⟩
    have hl : xs.idxOf x < xs.length := List.idxOf_lt_length_iff.mpr hx
    have hd : ∀ y, PyData.eqv (toPy (e y)) (toPy (e x)) = decide (y = x) := fun y => h.dec y x
    have ex : xs[xs.idxOf x] = x := List.getElem_idxOf hl
    refine ⟨a, w, _, _, xs.idxOf x, toPy (e x), rfl, rfl, (s1.mono e2).dp h2, s2.dp h1, flD_shaped h2 hm, flD_shaped h1 hn, ?_, ?_, fun k z hk hz => ?_, q _ H2 (e1.trans e2) (.int _)⟩
    · rw [toPys_map, List.map_map, List.getElem?_map, List.getElem?_eq_getElem hl, ex]; rfl
    · rw [hd]; exact decide_eq_true rfl
    · rw [toPys_map, List.map_map, List.getElem?_map, List.getElem?_eq_getElem (by omega)] at hz
      cases hz
      show PyData.eqv (toPy (e _)) _ = false
      rw [hd, decide_eq_false_iff_not]
      intro hc
      exact absurd hc (by
        have := List.not_of_lt_findIdx (p := (· == x)) (xs := xs) (i := k) hk
        simpa using this)
end
theorem lt_all {ks : List Nat} {n : Nat} (h : ks.all (fun k => decide (k < n)) = true) {ρ : List Sd} (e : ρ.length = n) : ∀ k, k ∈ ks → k < ρ.length := fun k m => by
  rw [e]
  exact of_decide_eq_true (List.all_eq_true.mp h k m)
section
variable {X : Cx} {x : Str} {p : Pos}
theorem pe_globI {i : Int} (hg : Gl X x) (h : ∃ t, X.mg x = some (.int i t)) (hd : (x == ("__debug__" : Str)) = false := by decide) : PE X (.Name x p) (tC (.int i)) := by
  obtain ⟨t, h⟩ := h
  exact pe_glob hg h ⟨_, rfl⟩ hd
theorem pe_globS {i : Str} (hg : Gl X x) (h : ∃ t, X.mg x = some (.str i t)) (hd : (x == ("__debug__" : Str)) = false := by decide) : PE X (.Name x p) (tC (.str i)) := by
  obtain ⟨t, h⟩ := h
  exact pe_glob hg h ⟨_, rfl⟩ hd
end
section
variable {K : PySem.W.Frag} {mg : Str → Option Value} {h : Heap} {x : Str}
theorem constI_use {R : Prop} {i : Int} {t : Tok} (X : K.In h) (G : h.Ns mainGlobals mg) (next : (∃ t, mg x = some (.int i t)) → R) (a1 : PySem.W.nsIn K mainGlobals x = some (some (.int i t))) : R := next ⟨t, PySem.W.mg_of X G a1⟩
theorem constS_use {R : Prop} {i : Str} {t : Tok} (X : K.In h) (G : h.Ns mainGlobals mg) (next : (∃ t, mg x = some (.str i t)) → R) (a1 : PySem.W.nsIn K mainGlobals x = some (some (.str i t))) : R := next ⟨t, PySem.W.mg_of X G a1⟩
end
theorem flD_two {n : Nat} {a b : Da} (h : flD n a = true) (g : flD n b = true) : flD (n + 1) (.tup [a, b]) = true := by
  show (flD n a && (flD n b && true)) = true
  rw [h, g]; rfl
theorem flD_three {n : Nat} {a b c : Da} (h : flD n a = true) (g : flD n b = true) (k : flD n c = true) : flD (n + 1) (.tup [a, b, c]) = true := by
  show (flD n a && (flD n b && (flD n c && true))) = true
  rw [h, g, k]; rfl
theorem app_one {α : Type} (e : α → Da) (xs : List α) (x : α) : xs.map e ++ [e x] = (xs ++ [x]).map e := by
  rw [List.map_append]; rfl
end Fw

set_option Elab.async false
set_option linter.all false
set_option maxRecDepth 100000
set_option maxHeartbeats 4000000
/-! max of a list of ints with a default -/
namespace Fw
open PySem PySem.Spec PyProof.Rows L2
section
variable {prog : Program} {w : World} {A : Around} {E : Value → Shared → Prop} {u : Shared}
theorem fn_kw_tree {id : String} {b : Builtin} {args : List Value} {kw : List (Str × Value)} {Q : Value → Shared → Prop} (hk : builtinKind id = none) (hp : plainId id = true) (hb : entryFor table id = some b) (ha : argsOk id ⟨args, kw⟩)
    (hc : wpAny (model prog w) A.in1 (b ⟨args, kw⟩) (fun z u' => match z with
      | .done f => (match (Except.ok f : Result) with | .ok (.ret v) => Q v u' | .ok _ => False | .error e => E e u')
      | .again c => c.quiet = true ∧ codeAny (model prog w) A c (fun r u' => match r with | .ok (.ret v) => Q v u' | .ok _ => False | .error e => E e u') u') E u) : wpAny (model prog w) A (call (.builtin id) args kw) Q E u := by
  refine wpAny_call (codeAny_call_builtin hp hb ?_)
  simp only [checkBuiltinCall, hk]
  cases hs : Manifest.signature? id with
  | none => exact wpAny_pure hc
  | some sig =>
    have h2 : Bind.checkArgs id sig ⟨args, kw⟩ = pure () := by simpa only [argsOk, hs] using ha
    simp only [h2]
    exact wpAny_pure hc
theorem ints_val {ns : List Int} {its : List Value} (h : IntsAre its ns) : ∀ (i : Nat) (v : Value), its.toArray[i]? = some v → ∃ t : Tok, v = Value.int (ns.getD i 0) t := by
  induction h with
  | nil => intro i v q; simp at q
  | cons x t h ih =>
    intro i v q
    cases i with
    | zero => simp at q; exact ⟨_, q.symm⟩
    | succ i =>
      have := ih i v (by simpa using q)
      simpa using this
abbrev KwD (d : Value) : List (Str × Value) := [("default", d)]
theorem maxd_loop {a J C : Addr} {its : Array Value} {ns : List Int} {d : Value} {R : Result → Shared → Prop}
    (W : Walks prog w A.in1 J [J, a] [J] its.size (fun i v => its[i]? = some v) (fun i h => h.IsListIter J a i ∧ h.IsList a its))
    (hv : ∀ (i : Nat) (v : Value), its[i]? = some v → ∃ t : Tok, v = Value.int (ns.getD i 0) t) (hn : ns.length = its.size) (cJ : C ≠ J) (cA : C ≠ a) :
    ∀ (k j : Nat) (u : Shared) (c : Nat) (xs : Array Value), its.size - j = k → j ≤ its.size → (u.heap.IsListIter J a j ∧ u.heap.IsList a its) → u.heap.get? C = some { cls := .type "list", dict := none, data := .seq xs c, slots := #[] } →
      ((j = 0 ∧ xs = #[]) ∨ ∃ M t, xs = #[.int M t, .int M t] ∧ M ∈ ns.take j ∧ ∀ y, y ∈ ns.take j → y ≤ M) →
      (∀ v h' tk, (∀ b o, b ≠ C → b ≠ J → u.heap.get? b = some o → h'.get? b = some o) → ((ns = [] ∧ v = d) ∨ ∃ M t, v = .int M t ∧ M ∈ ns ∧ ∀ y, y ∈ ns → y ≤ M) → R (.ok (.ret v)) { u with heap := h', toks := tk }) →
      codeAny (model prog w) A (.builtin "max.loop" ⟨[.ref J, .none, .ref C], KwD d⟩) R u := by
  have nm : (toString "max" ++ toString ".loop" : String) = "max.loop" := by decide
  intro k
  induction k with
  | zero =>
    intro j u c xs hk hj st hC inv hR
    have ej : j = its.size := by omega
    subst ej
    refine codeAny_builtin F.entry_max_loop ?_
    rw [Around.under_plainId F.plain_max_loop _]
    show wpAny _ A.in1 (seqItems? (.ref C) >>= _) _ _ u
    refine wpAny_bind <| wpAny_seqItems hC rfl ?_
    show wpAny _ A.in1 (tryCatch (pyNext (.ref J)) _ >>= _) _ _ u
    refine wpAny_bind <| wpAny_tryCatch <| W.done u _ _ st fun h' tk hm => ?_
    rcases inv with ⟨e0, rfl⟩ | ⟨M, t, rfl, hM, hle⟩
    · refine wpAny_bind <| wpAny_rule <| wpAny_pure ?_
      exact hR d h' tk (fun b o _ bJ e => hm b o (by simpa using bJ) e) (.inl ⟨List.length_eq_zero_iff.mp (by omega), rfl⟩)
    · have hC' := hm C _ (by simpa using cJ) hC
      show wpAny _ A.in1 (updateSeq C (fun _ => #[]) >>= _) _ _ _
      refine wpAny_bind <| wpAny_updateSeq hC' rfl <| wpAny_bind <| wpAny_letGo <| wpAny_pure ?_
      refine hR _ _ tk (fun b o bC bJ e => ?_) (.inr ⟨M, t, rfl, List.mem_of_mem_take hM, fun y hy => hle y (by rw [List.take_of_length_le (by omega)]; exact hy)⟩)
      rw [Heap.get?_update_other _ _ (fun z : C = b => bC z.symm)]
      exact hm b o (by simpa using bJ) e
  | succ k ih =>
    intro j u c xs hk hj st hC inv hR
    have hlt : j < its.size := by omega
    refine codeAny_builtin F.entry_max_loop ?_
    rw [Around.under_plainId F.plain_max_loop _]
    show wpAny _ A.in1 (seqItems? (.ref C) >>= _) _ _ u
    refine wpAny_bind <| wpAny_seqItems hC rfl ?_
    show wpAny _ A.in1 (tryCatch (pyNext (.ref J)) _ >>= _) _ _ u
    refine wpAny_bind <| wpAny_tryCatch <| W.item j u _ _ hlt st fun v h' tk hP st' hm => ?_
    obtain ⟨t, rfl⟩ := hv j v hP
    have hC' := hm C _ (by simpa using cJ) hC
    have hz : ns[j]? = some (ns.getD j 0) := getD_some 0 (by omega)
    have tk1 : ns.take (j + 1) = ns.take j ++ [ns.getD j 0] := take_next hz
    have fin : ∀ (h2 : Heap) (tk2 : Nat), (∀ b o, b ≠ C → h'.get? b = some o → h2.get? b = some o) → ∀ v h3 tk3, (∀ b o, b ≠ C → b ≠ J → h2.get? b = some o → h3.get? b = some o) → ((ns = [] ∧ v = d) ∨ ∃ M t, v = .int M t ∧ M ∈ ns ∧ ∀ y, y ∈ ns → y ≤ M) →
        R (.ok (.ret v)) { u with heap := h3, toks := tk3 } := fun h2 tk2 k2 v h3 tk3 k3 q => hR v h3 tk3 (fun b o bC bJ e => k3 b o bC bJ (k2 b o bC (hm b o (by simpa using bJ) e))) q
    rcases inv with ⟨e0, rfl⟩ | ⟨M, t2, rfl, hM, hle⟩
    · subst e0
      show wpAny _ A.in1 (updateSeq C (fun _ => #[.int (ns.getD 0 0) t, .int (ns.getD 0 0) t]) >>= _) _ _ _
      refine wpAny_bind <| wpAny_updateSeq hC' rfl ?_
      rw [nm]
      refine wpAny_pure ⟨plainId_quiet F.plain_max_loop _, ih 1 _ _ _ (by omega) (by omega) (W.frame _ _ _ st' fun b hb o e => ?_) (Heap.get?_update_self _ hC' rfl) (.inr ⟨ns.getD 0 0, t, rfl, by rw [tk1]; simp, fun y hy => ?_⟩) (fin _ tk fun b o bC e => ?_)⟩
      · have : b ≠ C := fun z => by
          rcases List.mem_cons.mp hb with q | q
          · exact cJ (z ▸ q)
          · exact cA (z ▸ List.mem_singleton.mp q)
        rw [Heap.get?_update_other _ _ (fun z : C = b => this z.symm)]; exact e
      · rw [tk1] at hy
        simp at hy
        subst hy
        exact Int.le_refl _
      · rw [Heap.get?_update_other _ _ (fun z : C = b => bC z.symm)]; exact e
    · show wpAny _ A.in1 (tryCatch (holding [_, _] (richCompare .Gt (.int (ns.getD j 0) t) (.int M t2) >>= _)) _ >>= _) _ _ _
      have cmp := CmpOf.ints_gt (prog := prog) (w := w) (A := A.in1) (P := fun i v => v = .int (if i = 0 then ns.getD j 0 else M) (if i = 0 then t else t2)) (fun i => if i = 0 then ns.getD j 0 else M) (fun i v e => ⟨_, e⟩)
      refine wpAny_bind <| wpAny_tryCatch <| wpAny_holding <| wpAny_bind (cmp 0 1 _ _ _ _ _ rfl rfl ?_)
      refine wpAny_bind <| wpAny_holding <| wpAny_truthy_bool ?_
      refine wpAny_bind <| wpAny_letGo <| wpAny_pure ?_
      show wpAny _ A.in1 (if (decide (ns.getD j 0 > M)) = true then _ else _) _ _ _
      by_cases hb : ns.getD j 0 > M
      · rw [if_pos (decide_eq_true hb)]
        refine wpAny_bind <| wpAny_updateSeq hC' rfl <| wpAny_bind <| wpAny_letGo ?_
        rw [nm]
        refine wpAny_pure ⟨plainId_quiet F.plain_max_loop _, ih (j + 1) _ _ _ (by omega) (by omega) (W.frame _ _ _ st' fun b hb o e => ?_) (Heap.get?_update_self _ hC' rfl) (.inr ⟨ns.getD j 0, t, rfl, by rw [tk1]; simp, fun y hy => ?_⟩) (fin _ tk fun b o bC e => ?_)⟩
        · have : b ≠ C := fun z => by
            rcases List.mem_cons.mp hb with q | q
            · exact cJ (z ▸ q)
            · exact cA (z ▸ List.mem_singleton.mp q)
          rw [Heap.get?_update_other _ _ (fun z : C = b => this z.symm)]; exact e
        · rw [tk1] at hy
          rcases List.mem_append.mp hy with hy | hy
          · have := hle y hy; omega
          · rw [List.mem_singleton.mp hy]; exact Int.le_refl _
        · rw [Heap.get?_update_other _ _ (fun z : C = b => bC z.symm)]; exact e
      · rw [if_neg (by rw [decide_eq_false hb]; decide)]
        refine wpAny_bind <| wpAny_letGo ?_
        rw [nm]
        refine wpAny_pure ⟨plainId_quiet F.plain_max_loop _, ih (j + 1) _ c _ (by omega) (by omega) st' hC' (.inr ⟨M, t2, rfl, by rw [tk1]; exact List.mem_append_left _ hM, fun y hy => ?_⟩) (fin _ tk fun b o bC e => e)⟩
        rw [tk1] at hy
        rcases List.mem_append.mp hy with hy | hy
        · exact hle y hy
        · rw [List.mem_singleton.mp hy]; omega
theorem args_maxd (a d : Value) : argsOk "max" ⟨[a], KwD d⟩ := by unfold argsOk; kernel_rfl
theorem maxd_call {a : Addr} {its : List Value} {ns : List Int} {d : Value} {Q : Value → Shared → Prop} (hh : A.handled = none) (hl : u.heap.IsList a its.toArray) (hi : IntsAre its ns)
    (h : ∀ v h' tk, (∀ b o, u.heap.get? b = some o → h'.get? b = some o) → ((ns = [] ∧ v = d) ∨ ∃ M t, v = .int M t ∧ M ∈ ns ∧ ∀ y, y ∈ ns → y ≤ M) → Q v { u with heap := h', toks := tk }) :
    wpAny (model prog w) A (call (.builtin "max") [.ref a] (KwD d)) Q E u := by
  have nm : (toString "max" ++ toString ".loop" : String) = "max.loop" := by decide
  refine fn_kw_tree F.kind_max F.plain_max F.entry_max (args_maxd _ _) ?_
  show wpAny _ A.in1 (Builtin.Builtins.bindParams "max" ["key", "default"] 0 ⟨[], KwD d⟩ >>= _) _ _ u
  refine wpAny_bind (wpAny_of_eq (show Builtin.Builtins.bindParams "max" ["key", "default"] 0 ⟨[], KwD d⟩ = pure [none, some d] from rfl) ?_)
  refine wpAny_bind <| wpAny_pure ?_
  have alt : a < u.heap.objs.size := by obtain ⟨_, e, _⟩ := hl; exact Heap.lt_size e
  refine wpAny_bind <| wpAny_pyIter_list hl ?_
  refine wpAny_bind <| wpAny_newObj_type ?_
  rw [nm]
  have z1 : (u.heap.push { cls := .type "list_iterator", data := .fields #[.ref a, .int 0 0] }).objs.size = u.heap.objs.size + 1 := Heap.size_push ..
  refine wpAny_pure ⟨plainId_quiet F.plain_max_loop _, ?_⟩
  have key := maxd_loop (R := fun r u' => match r with | .ok (.ret v) => Q v u' | .ok _ => False | .error e => E e u') (d := d) (Walks.list (prog := prog) (w := w) (A := A.in1) hh _ a (Nat.ne_of_lt alt) its.toArray) (ints_val hi) (by rw [← hi.length]; simp) (C := u.heap.objs.size + 1) (Nat.succ_ne_self _) (Nat.ne_of_gt (Nat.lt_succ_of_lt alt)) _ 0
    { u with heap := (u.heap.push { cls := .type "list_iterator", data := .fields #[.ref a, .int 0 0] }).push { cls := .type "list", data := .seq #[] 0 } } 0 #[] rfl (Nat.zero_le _) ⟨⟨_, Heap.get?_push_of_some _ (Heap.get?_push_size _ rfl), rfl, rfl⟩, (hl.push _).push _⟩ (by rw [← z1]; exact Heap.get?_push_size _ rfl) (.inl ⟨rfl, rfl⟩)
    (fun v h' tk hk q => h v h' tk (fun b o e => by
      have lt := Heap.lt_size e
      exact hk b o (Nat.ne_of_lt (Nat.lt_succ_of_lt lt)) (Nat.ne_of_lt lt) (Heap.get?_push_of_some _ (Heap.get?_push_of_some _ e))) q)
  rw [← z1] at key
  exact key
end
def rMaxDf (K : PySem.W.Frag) : List V → List V → Hp → VK → Prop := fun vs zs H Q => ∃ (a : Addr) (ns : List Int) (d : Int), vs = [V.ref a] ∧ zs = [.int d] ∧ SqL K H a (ns.map V.int) ∧ (ns = [] → Q (.int d) H) ∧ ∀ m, m ∈ ns → (∀ y, y ∈ ns → y ≤ m) → Q (.int m) H
theorem cr_maxDf {X : Cx} (hc : X.calm = true) : CallRK X (.builtin "max") [Str.ofString "default"] (rMaxDf X.K) := by
  intro pins s σ H vs zs us ws Q I r rz h
  obtain ⟨a, ns, d, rfl, rfl, hs, q0, q⟩ := h
  obtain ⟨its, rv, hl, hz⟩ := I.list hs
  rw [Vals.ref1 r]
  obtain ⟨wv, rfl, e1⟩ := vals1 rz
  obtain ⟨td, rfl⟩ := e1
  refine maxd_call (I.ok.hd hc) hl.isList rv.ints fun v h' tk hk hq => ?_
  rcases hq with ⟨e, rfl⟩ | ⟨M, t, rfl, h1, h2⟩
  · exact ⟨.int d, H, I.kept hk, ⟨_, rfl⟩, q0 e⟩
  · exact ⟨.int M, H, I.kept hk, ⟨_, rfl⟩, q M h1 h2⟩
def maxD (d : Int) (ns : List Int) : Int := if ns = [] then d else maxL ns
theorem ev_maxDf {K : PySem.W.Frag} {ρ : List Sd} {t tk : TE} {ns : List Int} {d : Int} (h : EvB K t ρ (.lst (ns.map Da.int))) (hd : EvB K tk ρ (.int d)) : EvB K (tCKw (rMaxDf K) (tCons t tNil) (tCons tk tNil)) ρ (.int (maxD d ns)) := fun σ H Q rs q =>
  h σ H _ rs fun v H1 e s => hd σ H1 _ (rs.mono e) fun v2 H2 e2 s2 => by
    obtain ⟨a, xs, rfl, h1, h2⟩ := s.lst_inv
    have := shs_intV h2
    subst this
    refine ⟨a, ns, d, rfl, by rw [s2.int_inv], .inl (ex_rd e2 h1), fun e0 => ?_, fun m m1 m2 => ?_⟩
    · have : maxD d ns = d := by unfold maxD; rw [if_pos e0]
      rw [this] at q
      exact q _ H2 (e.trans e2) (.int _)
    · have hne : ns ≠ [] := fun z => by rw [z] at m1; cases m1
      have hm : m = maxD d ns := by
        unfold maxD
        rw [if_neg hne]
        exact Int.le_antisymm (maxL_ge m1) (m2 _ (maxL_mem hne))
      rw [hm]
      exact q _ H2 (e.trans e2) (.int _)
theorem j_frz {K : PySem.W.Frag} {B0 : Hp} {ts : TS} {ρ : List Sd} {P : Po} {k : Nat} {d : Da} (hk : ρ[k]? = some (some (true, d))) (h : J K B0 ts (ρ.set k (sh d)) P) : J K B0 ts ρ P := fun φ τ D σ H l n r bk ct s =>
  h φ τ D σ H l n r bk ct (s.freezeAtF hk)
/-- a list of ints that is read is as good as a script -/
theorem Sh.asScr {K : PySem.W.Frag} {H : Hp} {v : V} {ns : List Int} (s : Sh K H v (.lst (ns.map Da.int))) : Sh K H v (.scr ns) := by
  obtain ⟨a, xs, rfl, h1, h2⟩ := s.lst_inv
  have := shs_intV h2
  subst this
  exact .scr (.inl h1)
theorem ev_asScr {K : PySem.W.Frag} {ρ : List Sd} {te : TE} {ns : List Int} (h : EvB K te ρ (.lst (ns.map Da.int))) : EvB K te ρ (.scr ns) := fun σ H Q rs q => h σ H Q rs fun v H1 e s => q v H1 e s.asScr
/-! products of any size, the script's bits -/
section
variable {X : Cx} {K : PySem.W.Frag} {ρ : List Sd} {ta tb : TE} {i j : Int}
theorem op_mulK : OpR X (PySem.binaryOp .Mult) (rI PySem.IntMulOk fun i j => .int (i * j)) := opI fun _ _ _ _ _ _ _ hc q => PyProof.Rows.mul_int q hc
theorem ev_mulK (ha : EvB K ta ρ (.int i)) (hb : EvB K tb ρ (.int j)) (hc : PySem.IntMulOk i j) : EvB K (tOp (rI PySem.IntMulOk fun i j => .int (i * j)) ta tb) ρ (.int (i * j)) := ev_I ha hb hc
end
def Bits (n : Nat) (x : Int) : Prop := x.natAbs < 2 ^ n
theorem Bits.ints {n : Nat} {x : Int} (h : Bits n x) (hn : 0 < n) : PySem.Builtin.Int.intBits x ≤ n := by
  unfold PySem.Builtin.Int.intBits
  split
  · omega
  · have := PySem.Flt.log2_lt_of hn h
    omega
theorem Bits.mul {a b : Nat} {i j : Int} (h : Bits a i) (g : Bits b j) (ha : 0 < a) (hb : 0 < b) (hab : a + b ≤ 134217728) : PySem.IntMulOk i j := by
  have x := h.ints ha
  have y := g.ints hb
  unfold PySem.IntMulOk
  intro z
  rw [Bool.and_eq_true, Bool.and_eq_true] at z
  have z3 := z.2
  unfold PySem.Builtin.Int.intTooBig at z3
  have := of_decide_eq_true z3
  have e : PySem.bitsLine = 134217728 := by decide
  rw [e] at this
  omega
theorem Bits.of {n : Nat} {x : Int} (h : PySem.Builtin.Int.intBits x ≤ n) : Bits n x := by
  unfold PySem.Builtin.Int.intBits at h
  unfold Bits
  split at h
  · rename_i hz
    have : x = 0 := by simpa using hz
    subst this
    exact Nat.two_pow_pos n
  · rename_i hz
    have hx : x.natAbs ≠ 0 := by
      intro e
      apply hz
      have : x = 0 := Int.natAbs_eq_zero.mp e
      simp [this]
    exact (Nat.log2_lt hx).mp (by omega)
theorem Bits.mono {n m : Nat} {x : Int} (h : Bits n x) (k : n ≤ m) : Bits m x := Nat.lt_of_lt_of_le h (Nat.pow_le_pow_right (by decide) k)
theorem Bits.le {n : Nat} {x y : Int} (h : Bits n x) (k : y.natAbs ≤ x.natAbs) : Bits n y := Nat.lt_of_le_of_lt k h
theorem Bits.succ {n : Nat} {x y : Int} (h : Bits n x) (k : y.natAbs ≤ 2 * x.natAbs + 1) : Bits (n + 1) y := by
  unfold Bits at h ⊢
  rw [Nat.pow_succ]
  omega
def lawGB : List Da → Da → Prop := fun ds d => ∃ ns : List Int, ds = [.scr ns] ∧ ns.length ≤ 63 ∧ (∀ z, z ∈ ns → Bits 1048576 z) ∧ d = .bl true
theorem law_spB {n : Nat} (hn : n ≤ 63) (K : PySem.W.Frag) (H : Hp) (a : Addr) (ns : List Int) (hl : ns.length ≤ n) (hb : ∀ z ∈ ns, PySem.Builtin.Int.intBits z ≤ 1048576) (_ : Only H) (hs : SqL K H a (ns.map V.int)) : spF K lawGB [.ref a] H (fun v _ => v = .bl true) fun _ _ _ => False :=
  ⟨[.scr ns], .bl true, .cons (.scr hs) .nil, ⟨ns, rfl, Nat.le_trans hl hn, fun z h => Bits.of (hb z h), rfl⟩, fun v H' F e w f nd => by cases w; rfl⟩
theorem law_mkB {P : Program} {w : World} {K : PySem.W.Frag} {mg : Str → Option Value} {h : Heap} {od an : Option Addr} {sl : Array (Option Value)} {oc kV dc pm cd ct : Value} {f fa : Addr} {x a : Str} {st : Stmt} {k : Nat}
    (X : K.In h) (G : h.Ns mainGlobals mg) (hfa : mg x = some (.ref fa)) (a1 : PySem.W.nsIn K mainGlobals x = some (some (.ref f)))
    (l1 : K.lookup f = some ⟨oc, od, .func (PySem.W.fnOf x x (defArgs st) (defBody st) (defScope st) .none kV dc pm an cd ct), sl⟩) (c1 : PySem.W.codeIn K cd x = true) (k1 : PySem.W.keepIn K (.ref f) = true)
    (hb : ∀ (s : Shared) (v : Value), BindsTo s (PySem.W.fnOf x x (defArgs st) (defBody st) (defScope st) .none kV dc pm an cd ct) ⟨[v], []⟩ [(a, v)])
    (ok : ∀ base : Heap, K.In base → base.Ns mainGlobals mg → ∀ {f : Addr} {fd : FuncData}, Fun K x x st f fd → FnOk P w K mg base CX0 k f fd [a] (spF K lawGB)) :
    ∃ fd : FuncData, (∀ (s : Shared) (v : Value), BindsTo s fd ⟨[v], []⟩ [(a, v)]) ∧ ∀ base : Heap, K.In base → base.Ns mainGlobals mg → FnOk P w K mg base CX0 k fa fd [a] (spF K lawGB) := by
  have e := hfa.symm.trans (PySem.W.mg_of X G a1)
  cases e
  exact ⟨_, hb, fun base i g => ok base i g (fun_mk l1 c1 k1)⟩
end Fw

set_option Elab.async false
set_option linter.all false
set_option maxRecDepth 100000
set_option maxHeartbeats 4000000
/-! dicts as tables of pairs -/
namespace Fw
open PySem L2
section
variable {κ β : Type} [DecidableEq κ]
def look (l : List (κ × β)) (x : κ) : Option β := (l.find? fun p => decide (p.1 = x)).map (·.2)
def put (l : List (κ × β)) (x : κ) (v : β) : List (κ × β) := if (l.any fun p => decide (p.1 = x)) = true then l.map (fun p => if p.1 = x then (p.1, v) else p) else l ++ [(x, v)]
theorem look_nil {x : κ} : look ([] : List (κ × β)) x = none := rfl
theorem look_pos {p : κ × β} {l : List (κ × β)} {x : κ} (e : p.1 = x) : look (p :: l) x = some p.2 := by simp [look, List.find?_cons, e]
theorem look_neg {p : κ × β} {l : List (κ × β)} {x : κ} (e : ¬ p.1 = x) : look (p :: l) x = look l x := by simp [look, List.find?_cons, e]
theorem look_any (x : κ) : ∀ l : List (κ × β), (l.any fun p => decide (p.1 = x)) = (look l x).isSome
  | [] => rfl
  | p :: l => by
    rw [List.any_cons]
    by_cases e : p.1 = x
    · rw [look_pos e, decide_eq_true e]; rfl
    · rw [look_neg e, decide_eq_false e, Bool.false_or, look_any x l]
theorem look_snoc (x y : κ) (v : β) : ∀ l : List (κ × β), look (l ++ [(y, v)]) x = if (look l x).isSome then look l x else if y = x then some v else none
  | [] => by
    show look [(y, v)] x = _
    by_cases e : y = x
    · rw [look_pos e]; simp [look_nil, e]
    · rw [look_neg e]; simp [look_nil, e]
  | p :: l => by
    show look (p :: (l ++ [(y, v)])) x = _
    by_cases e : p.1 = x
    · rw [look_pos e, look_pos e]; rfl
    · rw [look_neg e, look_neg e, look_snoc x y v l]
theorem put_new {l : List (κ × β)} {x : κ} {v : β} (h : look l x = none) : put l x v = l ++ [(x, v)] := by
  unfold put
  rw [if_neg (by rw [look_any, h]; exact Bool.false_ne_true)]
theorem put_len (l : List (κ × β)) (x : κ) (v : β) : (put l x v).length ≤ l.length + 1 := by
  unfold put
  split
  · rw [List.length_map]; omega
  · rw [List.length_append]; exact Nat.le_refl _
theorem look_some_iff {l : List (κ × β)} {x : κ} : (look l x).isSome = true ↔ x ∈ l.map (·.1) := by
  rw [← look_any, List.any_eq_true]
  constructor
  · rintro ⟨p, hp, e⟩
    exact List.mem_map.mpr ⟨p, hp, of_decide_eq_true e⟩
  · intro h
    obtain ⟨p, hp, e⟩ := List.mem_map.mp h
    exact ⟨p, hp, decide_eq_true e⟩
theorem look_mem {l : List (κ × β)} {x : κ} {v : β} (h : look l x = some v) : (x, v) ∈ l := by
  induction l with
  | nil => rw [look_nil] at h; cases h
  | cons p l ih =>
    by_cases e : p.1 = x
    · rw [look_pos e] at h
      cases h
      rw [← e]
      exact List.mem_cons_self
    · rw [look_neg e] at h
      exact List.mem_cons_of_mem _ (ih h)
end
/-! ### keys of nested tuples -/
mutual
theorem NIs.hash {H : Hp} (w w' : World) : ∀ {v : V} {k : NestedKey}, NIs H v k → k.hash w = k.hash w'
  | _, _, .num i => rfl
  | _, _, .tup h t => by
    unfold NestedKey.hash
    rw [NIss.hash w w' t]
theorem NIss.hash {H : Hp} (w w' : World) : ∀ {v : List V} {k : List NestedKey}, NIss H v k → NestedKey.hashes w k = NestedKey.hashes w' k
  | _, _, .nil => rfl
  | _, _, .cons h t => by
    unfold NestedKey.hashes
    rw [NIs.hash w w' h, NIss.hash w w' t]
end
mutual
theorem NIs.is {P : Program} {w : World} {H : Hp} {h : Heap} (ok : HOk P w H h) : ∀ {v : V} {k : NestedKey}, NIs H v k → ∀ {u : Value}, L2.RelV v u → NestedIs h k u
  | _, _, .num i, u, r => by
    obtain ⟨t, rfl⟩ := r
    exact .int i t
  | _, _, .tup (a := a) e t, u, r => by
    cases (show u = Value.ref a from r)
    obtain ⟨_, its, rv, o, h1, h2, n, h3⟩ := (show ObjOk P w H h a (.tup _) from ok a _ e)
    exact .tup h1 h2 h3 (by simpa using NIss.is ok t rv)
theorem NIss.is {P : Program} {w : World} {H : Hp} {h : Heap} (ok : HOk P w H h) : ∀ {v : List V} {k : List NestedKey}, NIss H v k → ∀ {u : List Value}, Vals v u → NestedAll h k u
  | _, _, .nil, _, .nil => .nil
  | _, _, .cons x t, _, .cons r rr => .cons (NIs.is ok x r) (NIss.is ok t rr)
end
mutual
theorem nkD_inj : ∀ {a b : NestedKey}, nkD a = nkD b → a = b
  | .none, .none, _ => rfl
  | .num a, .num b, h => by simp only [nkD, Da.int.injEq] at h; rw [h]
  | .text a, .text b, h => by simp only [nkD, Da.str.injEq] at h; rw [h]
  | .tup a, .tup b, h => by simp only [nkD, Da.tup.injEq] at h; rw [nkDs_inj h]
  | .none, .num _, h => by simp [nkD] at h
  | .none, .text _, h => by simp [nkD] at h
  | .none, .tup _, h => by simp [nkD] at h
  | .num _, .none, h => by simp [nkD] at h
  | .num _, .text _, h => by simp [nkD] at h
  | .num _, .tup _, h => by simp [nkD] at h
  | .text _, .none, h => by simp [nkD] at h
  | .text _, .num _, h => by simp [nkD] at h
  | .text _, .tup _, h => by simp [nkD] at h
  | .tup _, .none, h => by simp [nkD] at h
  | .tup _, .num _, h => by simp [nkD] at h
  | .tup _, .text _, h => by simp [nkD] at h
theorem nkDs_inj : ∀ {a b : List NestedKey}, nkDs a = nkDs b → a = b
  | [], [], _ => rfl
  | [], _ :: _, h => by simp [nkDs] at h
  | _ :: _, [], h => by simp [nkDs] at h
  | x :: a, y :: b, h => by
    simp only [nkDs, List.cons.injEq] at h
    rw [nkD_inj h.1, nkDs_inj h.2]
end
mutual
/-- no texts, no None in it -/
def plainN : NestedKey → Bool
  | .none => false
  | .num _ => true
  | .text _ => false
  | .tup ks => plainNs ks
def plainNs : List NestedKey → Bool
  | [] => true
  | k :: ks => plainN k && plainNs ks
end
mutual
theorem NIs.of {K : PySem.W.Frag} {H : Hp} : ∀ {v : V} {k : NestedKey}, Sh K H v (nkD k) → plainN k = true → NIs H v k
  | v, .num i, s, _ => by
    have s : Sh K H v (.int i) := by simpa only [nkD] using s
    rw [s.int_inv]; exact .num i
  | v, .tup ks, s, p => by
    have s : Sh K H v (.tup (nkDs ks)) := by simpa only [nkD] using s
    obtain ⟨a, xs, rfl, h1, h2⟩ := s.tup_inv2
    exact .tup h1 (NIss.of h2 (by simpa only [plainN] using p))
  | _, .none, _, p => by simp [plainN] at p
  | _, .text _, _, p => by simp [plainN] at p
theorem NIss.of {K : PySem.W.Frag} {H : Hp} : ∀ {v : List V} {k : List NestedKey}, Shs K H v (nkDs k) → plainNs k = true → NIss H v k
  | v, [], s, _ => by
    have s : Shs K H v [] := by simpa only [nkDs] using s
    cases s; exact .nil
  | v, k :: ks, s, p => by
    have s : Shs K H v (nkD k :: nkDs ks) := by simpa only [nkDs] using s
    simp only [plainNs, Bool.and_eq_true] at p
    cases s with
    | cons s1 s2 => exact .cons (NIs.of s1 p.1) (NIss.of s2 p.2)
end
mutual
theorem NIs.sh {K : PySem.W.Frag} {H : Hp} : ∀ {v : V} {k : NestedKey}, NIs H v k → Sh K H v (nkD k)
  | _, _, .num i => by simp only [nkD]; exact .int i
  | _, _, .tup h t => by simp only [nkD]; exact .tup h (NIss.sh t)
theorem NIss.sh {K : PySem.W.Frag} {H : Hp} : ∀ {v : List V} {k : List NestedKey}, NIss H v k → Shs K H v (nkDs k)
  | _, _, .nil => by simp only [nkDs]; exact .nil
  | _, _, .cons h t => by simp only [nkDs]; exact .cons (NIs.sh h) (NIss.sh t)
end
/-- keys: ints and texts alone (false); tuples of whole numbers, of such tuples (true) -/
inductive KK {κ : Type} : Bool → (κ → Da) → Type
  | flat (e : κ → Da) (k : κ → Key) (h : ∀ x, e x = keyD (k x)) (inj : ∀ x y, k x = k y → x = y) : KK false e
  | tup (e : κ → Da) (k : κ → List NestedKey) (h : ∀ x, e x = .tup ((k x).map nkD)) (inj : ∀ x y, k x = k y → x = y) (pl : ∀ x, plainNs (k x) = true) (dp : ∀ x, NestedKey.depthAll (k x) ≤ 7) : KK true e
def kkI : KK false Da.int := .flat _ .inl (fun _ => rfl) (fun _ _ e => by cases e; rfl)
def kkS : KK false Da.str := .flat _ .inr (fun _ => rfl) (fun _ _ e => by cases e; rfl)
def kkN : KK false eN := .flat _ (fun n => .inl (n : Int)) (fun _ => rfl) (fun x y e => by have := Sum.inl.inj e; omega)
def kkII : KK true (eP Da.int Da.int) := .tup _ (fun p => [.num p.1, .num p.2]) (fun _ => by simp only [List.map_cons, List.map_nil, nkD]) (fun x y e => by
  have := List.cons.inj e
  have h1 := NestedKey.num.inj this.1
  have h2 := NestedKey.num.inj (List.cons.inj this.2).1
  exact Prod.ext h1 h2) (fun _ => by simp [plainNs, plainN]) (fun _ => by simp [NestedKey.depthAll, NestedKey.depth])
theorem plainNs_num : ∀ l : List Int, plainNs (l.map NestedKey.num) = true
  | [] => by simp [plainNs]
  | x :: l => by simp only [List.map_cons, plainNs, plainN, Bool.true_and]; exact plainNs_num l
theorem depth_num : ∀ l : List Int, NestedKey.depthAll (l.map NestedKey.num) = 0
  | [] => by simp [NestedKey.depthAll]
  | x :: l => by simp only [List.map_cons, NestedKey.depthAll, NestedKey.depth, depth_num l]; rfl
theorem num_inj : ∀ {a b : List Int}, a.map NestedKey.num = b.map NestedKey.num → a = b
  | [], [], _ => rfl
  | [], _ :: _, h => by cases h
  | _ :: _, [], h => by cases h
  | x :: a, y :: b, h => by
    have h' := List.cons.inj h
    rw [NestedKey.num.inj h'.1, num_inj h'.2]
/-- tuples of whole numbers -/
def kkV : KK true (eV Da.int) := .tup _ (fun l => l.map .num) (fun l => by rw [List.map_map]; show Da.tup _ = Da.tup _; congr 1) (fun _ _ e => num_inj e) plainNs_num (fun l => by rw [depth_num]; exact Nat.zero_le _)
/-- a number and a tuple of numbers -/
def kkIV : KK true (eP Da.int (eV Da.int)) := .tup _ (fun p => [.num p.1, .tup (p.2.map .num)]) (fun p => by
    simp only [List.map_cons, List.map_nil, nkD, nkDs_map, List.map_map]
    show Da.tup _ = Da.tup _
    congr 1) (fun x y e => by
  have := List.cons.inj e
  have h1 := NestedKey.num.inj this.1
  have h2 := NestedKey.tup.inj (List.cons.inj this.2).1
  exact Prod.ext h1 (num_inj h2)) (fun p => by simp only [plainNs, plainN, plainNs_num, Bool.and_true]) (fun p => by simp only [NestedKey.depthAll, NestedKey.depth, depth_num]; decide)
theorem keyD_inj {a b : Key} (h : keyD a = keyD b) : a = b := by
  cases a <;> cases b <;> first | (cases h; rfl) | cases h
theorem tupN_inj {a b : List NestedKey} (h : Da.tup (a.map nkD) = Da.tup (b.map nkD)) : a = b := by
  have := Da.tup.inj h
  rw [← nkDs_map, ← nkDs_map] at this
  exact nkDs_inj this
/-! ### the model's dict -/
abbrev KNr : NKV → List (NestedKey × Addr × Value) → Prop := Paired fun p q => p.1 = q.1 ∧ p.2.1 = q.2.1 ∧ L2.RelV p.2.2 q.2.2
/-- keys and values -/
def prN (kvs : NKV) : List (NestedKey × V) := kvs.map fun p => (p.1, p.2.2)
def putN (kvs : NKV) (k : NestedKey) (b : Addr) (v : V) : NKV := if (valV (prN kvs) k).isSome = true then kvs.map (fun p => if p.1 = k then (p.1, p.2.1, v) else p) else kvs ++ [(k, b, v)]
theorem prN_put (kvs : NKV) (k : NestedKey) (b : Addr) (v : V) : prN (putN kvs k b v) = putK (prN kvs) k v := by
  unfold putN putK
  rw [valV_any]
  split
  · unfold prN
    rw [List.map_map, List.map_map]
    refine List.map_congr_left fun p _ => ?_
    show ((fun p : NestedKey × Addr × V => (p.1, p.2.2)) (if p.1 = k then (p.1, p.2.1, v) else p)) = (if p.1 = k then (p.1, v) else (p.1, p.2.2))
    by_cases e : p.1 = k
    · rw [if_pos e, if_pos e]
    · rw [if_neg e, if_neg e]
  · unfold prN
    rw [List.map_append]; rfl
theorem prN_len (kvs : NKV) : (prN kvs).length = kvs.length := List.length_map ..
theorem length_putN (kvs : NKV) (k : NestedKey) (b : Addr) (v : V) : (putN kvs k b v).length ≤ kvs.length + 1 := by
  rw [← prN_len, prN_put, ← prN_len kvs]; exact length_putK _ _ _
theorem KNr.val {kvs : NKV} {xs : List (NestedKey × Addr × Value)} (r : KNr kvs xs) (k : NestedKey) : RelO (valV (prN kvs) k) ((atKey xs k).map (·.2)) := by
  induction r with
  | nil => exact True.intro
  | @cons p q ps qs h t ih =>
    by_cases e : p.1 = k
    · rw [show prN (p :: ps) = (p.1, p.2.2) :: prN ps from rfl, valV_pos e]
      rw [show atKey (q :: qs) k = some q.2 by unfold atKey; rw [List.find?_cons, decide_eq_true (h.1.symm.trans e)]; rfl]
      exact h.2.2
    · rw [show prN (p :: ps) = (p.1, p.2.2) :: prN ps from rfl, valV_neg e]
      rw [show atKey (q :: qs) k = atKey qs k by unfold atKey; rw [List.find?_cons, decide_eq_false (fun z => e (h.1.trans z))]]
      exact ih
theorem KNr.put {kvs : NKV} {xs : List (NestedKey × Addr × Value)} (r : KNr kvs xs) (k : NestedKey) (b : Addr) {v : V} {u : Value} (rv : L2.RelV v u) : KNr (putN kvs k b v) (storedH xs k b u) := by
  have hm : (valV (prN kvs) k).isSome = (atKey xs k).isSome := by
    have := (r.val k).isSome_eq
    rw [Option.isSome_map] at this
    exact this
  have repl : ∀ {kvs : NKV} {xs : List (NestedKey × Addr × Value)}, KNr kvs xs → KNr (kvs.map fun p => if p.1 = k then (p.1, p.2.1, v) else p) (xs.map (putAt k u)) := by
    intro kvs xs r
    induction r with
    | nil => exact .nil
    | @cons p q ps qs h t ih =>
      refine .cons ?_ ih
      unfold putAt
      by_cases e : p.1 = k
      · have e2 : q.1 = k := h.1.symm.trans e
        simp only [e, e2, if_true]
        exact ⟨trivial, h.2.1, rv⟩
      · have e2 : ¬ q.1 = k := fun z => e (h.1.trans z)
        simp only [e, e2, if_false]
        exact h
  have snoc : ∀ {kvs : NKV} {xs : List (NestedKey × Addr × Value)}, KNr kvs xs → KNr (kvs ++ [(k, b, v)]) (xs ++ [(k, b, u)]) := by
    intro kvs xs r
    induction r with
    | nil => exact .cons ⟨rfl, rfl, rv⟩ .nil
    | cons h t ih => exact .cons h ih
  unfold putN storedH
  rw [hm]
  split
  · exact repl r
  · exact snoc r
theorem KeysOk.put {H : Hp} {kvs : NKV} {k : NestedKey} {b : Addr} {v : V} (ok : KeysOk H kvs) (h : NIs H (.ref b) k) (d : k.depth ≤ 8) : KeysOk H (putN kvs k b v) := by
  unfold putN
  intro p hp
  split at hp
  · obtain ⟨q, hq, e⟩ := List.mem_map.mp hp
    have := ok q hq
    split at e
    · subst e; exact this
    · subst e; exact this
  · rcases List.mem_append.mp hp with hp | hp
    · exact ok p hp
    · rw [List.mem_singleton.mp hp]; exact ⟨h, d⟩
section
variable {P : Program} {w : World} {H : Hp} {h h' : Heap} {a : Addr} {kvs : NKV}
theorem dn_of (ok : HOk P w H h) (e : H a = some (dN a kvs)) (k : KeysOk H kvs) : kvs.length ≤ sizeLine ∧ (a == sysModules) = false ∧ ∃ xs, KNr kvs xs ∧ h.DictOfH (nestedKind P w) a xs := by
  obtain ⟨⟨w', xs, r, hl, hs, o, es, ep, h1, h2, h3, h4, h5⟩, ho, hst⟩ := ok a _ e
  clear hst ho
  refine ⟨by rw [Paired.length r]; exact hl, hs, xs, r, o, es, ep, h1, h2, h3, ?_, ?_, h5⟩
  · rw [h4]
    clear h4 h5 hl e
    induction r with
    | nil => rfl
    | @cons p q ps qs hh t ih =>
      rw [List.map_cons, List.map_cons, ih (fun x hx => k x (List.mem_cons_of_mem _ hx))]
      congr 1
      unfold entryOfKey
      have := (k p List.mem_cons_self).1.hash w' w
      rw [hh.1] at this
      show (⟨q.1.hash w', _, _⟩ : DictEntry) = ⟨q.1.hash w, _, _⟩
      rw [this]
  · clear h4 h5 hl e
    induction r with
    | nil => intro x hx; exact nomatch hx
    | @cons p q ps qs hh t ih =>
      intro x hx
      rcases List.mem_cons.mp hx with rfl | hx
      · have := k p List.mem_cons_self
        rw [hh.1, hh.2.1] at this
        exact ⟨this.1.is ok rfl, this.2⟩
      · exact ih (fun x hx => k x (List.mem_cons_of_mem _ hx)) x hx
theorem dn_ok {H' : Hp} {xs : List (NestedKey × Addr × Value)} (r : KNr kvs xs) (hl : kvs.length ≤ sizeLine) (hs : (a == sysModules) = false) (d : h.DictOfH (nestedKind P w) a xs) : ObjOk P w H' h a (dN a kvs) := by
  obtain ⟨o, es, ep, h1, h2, h3, h4, _, h5⟩ := d
  refine ⟨⟨w, xs, r, by rw [← Paired.length r]; exact hl, hs, o, es, ep, h1, h2, h3, h4, h5⟩, ⟨o, h1⟩, ?_⟩
  rintro h1 h2 ⟨w, xs, r, hl, hs, o, es, ep, e1, c⟩ st
  exact ⟨w, xs, r, hl, hs, o, es, ep, st _ e1, c⟩
end
/-- what the dict at a holds at the key y, whatever its keys are -/
def NGet (H : Hp) (a : Addr) (y : V) (r : Option V) : Prop := ∃ kvs k b, H a = some (dN a kvs) ∧ KeysOk H kvs ∧ y = .ref b ∧ NIs H y k ∧ k.depth ≤ 8 ∧ r = valV (prN kvs) k
def GGet (H : Hp) (a : Addr) (y : V) (r : Option V) : Prop := DGet H a y r ∨ NGet H a y r
def NPut (H : Hp) (a : Addr) (y v : V) (H' : Hp) : Prop := ∃ kvs k b, H a = some (dN a kvs) ∧ KeysOk H kvs ∧ y = .ref b ∧ NIs H y k ∧ k.depth ≤ 8 ∧ kvs.length < sizeLine ∧ H' = upd H a (dN a (putN kvs k b v))
def GPut (H : Hp) (a : Addr) (y v : V) (H' : Hp) : Prop := DPut H a y v H' ∨ NPut H a y v H'
section
variable {X : Cx} {pins : List (Addr × Obj)} {σ : L2.St} {H : Hp} {s : Shared} {a : Addr} {y v : V} {u r : Value} {o : Option V} {A : Around} {E : Value → Shared → Prop}
theorem g_getItem {Q : Value → Shared → Prop} (hu : A.units + 9 < cLine) (I : Inv X pins σ H s) (g : GGet H a y (some v)) (ry : L2.RelV y u) (h : ∀ w' s', Inv X pins σ H s' → L2.RelV v w' → Q w' s') :
    wpAny (model X.prog X.w) A (getItem (.ref a) u) Q E s := by
  rcases g with g | ⟨kvs, k, b, e, ko, rfl, hk, hd, l⟩
  · exact d_getItem (by omega) I g ry h
  · cases (show u = Value.ref b from ry)
    obtain ⟨z, hs, xs, rel, dd⟩ := dn_of I.hok e ko
    obtain ⟨w', hw, rw'⟩ := RelO.some_of (v := v) (o := (atKey xs k).map (·.2)) (by rw [l]; exact rel.val k)
    obtain ⟨p, hp, hp2⟩ := Option.map_eq_some_iff.mp hw
    refine wpAny_getItem_heap (knd := nestedKind X.prog X.w) (show A.units + 1 + 8 < cLine by omega) ⟨hk.is I.hok rfl, hd⟩ dd hp ?_
    rw [hp2]
    exact h w' _ (I.tok _) rw'
theorem g_in {Q : Value → Shared → Prop} (hu : A.units + 9 < cLine) (I : Inv X pins σ H s) (g : GGet H a y o) (ry : L2.RelV y u) (h : ∀ s', Inv X pins σ H s' → Q (.bool o.isSome) s') :
    wpAny (model X.prog X.w) A (compareOp .In u (.ref a)) Q E s := by
  rcases g with g | ⟨kvs, k, b, e, ko, rfl, hk, hd, l⟩
  · exact d_in (by omega) I g ry h
  · cases (show u = Value.ref b from ry)
    obtain ⟨z, hs, xs, rel, dd⟩ := dn_of I.hok e ko
    refine wpAny_in_heap (knd := nestedKind X.prog X.w) (show A.units + 1 + 8 < cLine by omega) ⟨hk.is I.hok rfl, hd⟩ hs dd ?_
    have q := (rel.val k).isSome_eq
    rw [Option.isSome_map] at q
    rw [← q, ← l]
    exact h _ (I.tok _)
theorem g_notIn {Q : Value → Shared → Prop} (hu : A.units + 9 < cLine) (I : Inv X pins σ H s) (g : GGet H a y o) (ry : L2.RelV y u) (h : ∀ s', Inv X pins σ H s' → Q (.bool (!o.isSome)) s') :
    wpAny (model X.prog X.w) A (compareOp .NotIn u (.ref a)) Q E s := by
  rcases g with g | ⟨kvs, k, b, e, ko, rfl, hk, hd, l⟩
  · exact d_notIn (by omega) I g ry h
  · cases (show u = Value.ref b from ry)
    obtain ⟨z, hs, xs, rel, dd⟩ := dn_of I.hok e ko
    refine PyProof.Rows.wpAny_notIn_heap (knd := nestedKind X.prog X.w) (show A.units + 1 + 8 < cLine by omega) ⟨hk.is I.hok rfl, hd⟩ hs dd ?_
    have q := (rel.val k).isSome_eq
    rw [Option.isSome_map] at q
    rw [← q, ← l]
    exact h _ (I.tok _)
theorem g_setItem {H' : Hp} {Q : Unit → Shared → Prop} (hu : A.units + 9 < cLine) (I : Inv X pins σ H s) (g : GPut H a y v H') (ry : L2.RelV y u) (rv : L2.RelV v r) (h : ∀ s', Inv X pins σ H' s' → Q () s') :
    wpAny (model X.prog X.w) A (setItem (.ref a) u r) Q E s := by
  rcases g with g | ⟨kvs, k, b, e, ko, rfl, hk, hd, hl, rfl⟩
  · exact d_setItem (by omega) I g ry rv h
  · cases (show u = Value.ref b from ry)
    obtain ⟨z, hs, xs, rel, dd⟩ := dn_of I.hok e ko
    have hl2 : (putN kvs k b v).length ≤ sizeLine := by have := length_putN kvs k b v; omega
    refine wpAny_setItem_heap (knd := nestedKind X.prog X.w) (hsz := by rw [← Paired.length rel]; exact z) (show A.units + 1 + 8 < cLine by omega) ⟨hk.is I.hok rfl, hd⟩ dd fun h' dd' hs' => h _ ?_
    have ⟨q, _, _, hq, _⟩ := dd'
    exact d_write I (by rw [e]; exact True.intro) hs' ⟨q, hq⟩ (dn_ok (rel.put k b rv) hl2 hs dd')
theorem g_typeIs (I : Inv X pins σ H s) (g : GGet H a y o) : s.TypeIs (.ref a) "dict" := by
  rcases g with g | ⟨kvs, k, b, e, ko, _⟩
  · exact dict_typeIs I g
  · obtain ⟨z, hs, xs, rel, dd⟩ := dn_of I.hok e ko
    exact dd.typeIs
end
/-- d[y] -/
def tGGet (td ty : TE) : TE := fun σ H Q => td σ H fun x H1 => ty σ H1 fun y H2 => ∃ a v, x = .ref a ∧ GGet H2 a y (some v) ∧ Q v H2
def tGIn (ty td : TE) : TE := fun σ H Q => ty σ H fun y H1 => td σ H1 fun x H2 => ∃ a o, x = .ref a ∧ GGet H2 a y o ∧ Q (.bl o.isSome) H2
def tGNotIn (ty td : TE) : TE := fun σ H Q => ty σ H fun y H1 => td σ H1 fun x H2 => ∃ a o, x = .ref a ∧ GGet H2 a y o ∧ Q (.bl (!o.isSome)) H2
def sGPut (td ty tv : TE) : TS := fun D σ H => tv σ H fun v H1 => td σ H1 fun x H2 => ty σ H2 fun y H3 => ∃ a H4, x = .ref a ∧ GPut H3 a y v H4 ∧ D.nx σ H4
/-- {} -/
def tGNew : TE := fun _ H Q => ∀ p, H p = none → Q (.ref p) (upd H p (.dK [])) ∨ Q (.ref p) (upd H p (dN p []))
/-- {k: v}, k a tuple -/
def tDispN (tk tv : TE) : TE := fun σ H Q => ∀ p, H p = none → tk σ (upd H p (dN p [])) fun x H1 => tv σ H1 fun y H2 => ∃ (k : NestedKey) (b : Addr), x = .ref b ∧ H2 p = some (dN p []) ∧ NIs H2 (.ref b) k ∧ k.depth ≤ 8 ∧ Q (.ref p) (upd H2 p (dN p [(k, b, y)]))
def tGDisp1 (tk tv : TE) : TE := fun σ H Q => tDisp [(tk, tv)] σ H Q ∨ tDispN tk tv σ H Q
/-- len(d) -/
def rLenG : List V → Hp → VK → Prop := fun xs H Q => ∃ a, xs = [.ref a] ∧ ((∃ kvs, H a = some (.dK kvs) ∧ Q (.int kvs.length) H) ∨ ∃ kvs, H a = some (dN a kvs) ∧ KeysOk H kvs ∧ Q (.int kvs.length) H)
section
variable {X : Cx} {o i e value ke ve : Expr} {pos pos' tpos : Pos} {td ty tv tk : TE}
theorem pe_gget (hu : X.A.units + 65 < cLine) (ho : PE X o td) (hi : PE X i ty) (hs : NoSl i) : PE X (.Subscript o i pos) (tGGet td ty) := by
  refine ⟨fun pins s σ H Q I h => ?_⟩
  refine subD_of PySem.F.slot_dict_getitem.lookup hs (thn (ho.run pins s σ H _ I h) fun u s1 ⟨x, H1, I1, rx, q1⟩ => thn (hi.run pins s1 σ H1 _ I1 q1) fun iv s2 ⟨y, H2, I2, ry, a, v, ex, g, q2⟩ => ?_)
  subst ex
  obtain rfl : u = Value.ref a := rx
  exact ⟨g_typeIs I2 g, g_getItem (show X.A.units + 9 < cLine by omega) I2 g ry fun w' s3 I3 rw' => ⟨v, H2, I3, rw', q2⟩⟩
theorem pc_gin (hu : X.A.units + 65 < cLine) (hi : PE X i ty) (ho : PE X o td) : PC X .In i o (tGIn ty td) := by
  refine ⟨fun pins s σ H Q I h => ?_⟩
  refine thn (hi.run pins s σ H _ I h) fun iv s1 ⟨y, H1, I1, ry, q1⟩ => thn (ho.run pins s1 σ H1 _ I1 q1) fun u s2 ⟨x, H2, I2, rx, a, ov, ex, g, q2⟩ => ?_
  subst ex
  obtain rfl : u = Value.ref a := rx
  exact g_in (show X.A.units + 9 < cLine by omega) I2 g ry fun s3 I3 => ⟨.bl ov.isSome, H2, I3, rfl, q2⟩
theorem pc_gnotin (hu : X.A.units + 65 < cLine) (hi : PE X i ty) (ho : PE X o td) : PC X .NotIn i o (tGNotIn ty td) := by
  refine ⟨fun pins s σ H Q I h => ?_⟩
  refine thn (hi.run pins s σ H _ I h) fun iv s1 ⟨y, H1, I1, ry, q1⟩ => thn (ho.run pins s1 σ H1 _ I1 q1) fun u s2 ⟨x, H2, I2, rx, a, ov, ex, g, q2⟩ => ?_
  subst ex
  obtain rfl : u = Value.ref a := rx
  exact g_notIn (show X.A.units + 9 < cLine by omega) I2 g ry fun s3 I3 => ⟨.bl (!ov.isSome), H2, I3, rfl, q2⟩
theorem ps_gput (hu : X.A.units + 65 < cLine) (ho : PE X o td) (hi : PE X i ty) (hv : PE X value tv) (hs : swapsWith value (some (.Subscript o i pos')) pos.line X.env = pure false) :
    PS X (.Assign [.Subscript o i pos'] value pos) (sGPut td ty tv) := by
  refine ⟨fun pins s σ H D I h => ?_⟩
  refine wpAny_Assign_Subscript (thn (hv.run pins s σ H _ I h) fun r s1 ⟨v, H1, I1, rv, q1⟩ => thn (ho.run pins s1 σ H1 _ I1 q1) fun u s2 ⟨x, H2, I2, rx, q2⟩ => thn (hi.run pins s2 σ H2 _ I2 q2) fun iv s3 ⟨y, H3, I3, ry, a, H4, ex, g, q3⟩ => ?_) hs
  subst ex
  obtain rfl : u = Value.ref a := rx
  exact g_setItem (show X.A.units + 9 < cLine by omega) I3 g ry rv fun s4 I4 => ⟨σ, H4, I4, q3⟩
theorem dn_empty {P : Program} {w : World} {H : Hp} (h : Heap) (hb : sysModules < h.objs.size) : ObjOk P w H (h.push { cls := .type "dict", data := .dict #[] }) h.objs.size (dN h.objs.size []) :=
  dn_ok (P := P) (w := w) (xs := []) .nil (Nat.zero_le _) (beq_eq_false_iff_ne.mpr (Ne.symm (Nat.ne_of_lt hb))) (Heap.DictOfH.new h)
theorem pe_gnew : PE X (.Dict [] [] pos) tGNew := ⟨fun pins s σ H Q I h => by
  have hn := I.hok.fresh (Nat.le_refl s.heap.objs.size)
  rcases h _ hn with q | q
  · exact wpAny_Dict_empty ⟨.ref s.heap.objs.size, _, I.laid (a := s.heap.objs.size) (o := .dK []) (t' := s.toks) (fun _ _ q => Heap.get?_push_of_some _ q) (Nat.le_refl _) (dk_empty s.heap I.big), rfl, q⟩
  · exact wpAny_Dict_empty ⟨.ref s.heap.objs.size, _, I.laid (a := s.heap.objs.size) (o := dN s.heap.objs.size []) (t' := s.toks) (fun _ _ q => Heap.get?_push_of_some _ q) (Nat.le_refl _) (dn_empty s.heap I.big), rfl, q⟩⟩
theorem pe_dispN (hu : X.A.units + 65 < cLine) (hk : PE X ke tk) (hv : PE X ve tv) : PE X (.Dict [some ke] [ve] pos) (tDispN tk tv) := by
  refine ⟨fun pins s σ H Q I q => ?_⟩
  have hn := I.hok.fresh (Nat.le_refl s.heap.objs.size)
  have I1 := I.laid (a := s.heap.objs.size) (o := dN s.heap.objs.size []) (h' := s.heap.push { cls := .type "dict", data := .dict #[] }) (t' := s.toks) (fun _ _ q => Heap.get?_push_of_some _ q) (Nat.le_refl _) (dn_empty s.heap I.big)
  refine wpAny_Dict_any rfl rfl (by simp) (show 1 ≤ 15 by decide) (pairTrees_cons_walk (thn (hk.run pins _ σ _ _ I1 (q _ hn)) fun u s1 ⟨x, H1, I2, rx, q1⟩ => thn (hv.run pins s1 σ H1 _ I2 q1) fun r s2 ⟨y, H2, I3, ry, k, b, ex, e, hk, hd, q2⟩ => pairTrees_nil_walk ?_))
  subst ex
  cases (show u = Value.ref b from rx)
  obtain ⟨z, hs, xs, rel, dd⟩ := dn_of I3.hok e (fun p hp => nomatch hp)
  cases rel
  show wpAny _ _ (storeAll s.heap.objs.size [(Value.ref b, r)]) _ _ _
  unfold storeAll
  rw [List.forIn_cons]
  refine wpAny_bind (wpAny_bind (wpAny_dictSet_heap (hsz := Nat.zero_le _) (knd := nestedKind X.prog X.w) (show X.A.units + 8 < cLine by omega) ⟨hk.is I3.hok rfl, hd⟩ dd fun h' dd' hs' => wpAny_pure ?_))
  show wpAny _ _ (forIn ([] : List (Value × Value)) PUnit.unit _) _ _ _
  rw [List.forIn_nil]
  refine wpAny_pure ?_
  have ⟨q', _, _, hq, _⟩ := dd'
  exact ⟨.ref s.heap.objs.size, _, d_write I3 (ob := dN s.heap.objs.size [(k, b, y)]) (by rw [e]; exact True.intro) hs' ⟨q', hq⟩ (dn_ok (KNr.put (kvs := []) .nil k b ry) (by show 1 ≤ sizeLine; rw [sizeLine_eq]; decide) hs dd'), rfl, q2⟩
theorem pe_gdisp1 (hu : X.A.units + 65 < cLine) (hk : PE X ke tk) (hv : PE X ve tv) : PE X (.Dict [some ke] [ve] pos) (tGDisp1 tk tv) := by
  refine ⟨fun pins s σ H Q I q => ?_⟩
  rcases q with q | q
  · exact (pe_disp (pps_cons hk hv pps_nil) rfl rfl (by simp) (show 1 ≤ 15 by decide)).run pins s σ H Q I q
  · exact (pe_dispN hu hk hv).run pins s σ H Q I q
theorem call_lenG : CallR X (.builtin "len") rLenG := by
  intro pins s σ H xs us Q I r h
  obtain ⟨a, rfl, ⟨kvs, e, q⟩ | ⟨kvs, e, ko, q⟩⟩ := h
  · rw [Vals.ref1 r]
    exact d_len I (.inl e) fun t s' I' => ⟨.int kvs.length, H, I', ⟨t, rfl⟩, q⟩
  · rw [Vals.ref1 r]
    obtain ⟨z, hs, xs, rel, dd⟩ := dn_of I.hok e ko
    have hm : s.heap.DictKeyed (nestedKind X.prog X.w) a (pairsH xs) := ⟨xs, dd, rfl⟩
    have hl : (pairsH xs).length = kvs.length := by rw [pairsH_length, ← Paired.length rel]
    refine PyProof.Rows.call_len_slot (n := (pairsH xs).length) hm.typeIs PySem.F.slot_dict_len (fun Q' hq => len_keyed hs hm hq) (by omega) (by rw [hl]; rw [sizeLine_eq] at z; omega) ?_
    rw [hl]
    exact ⟨.int kvs.length, H, I.tok _, ⟨_, rfl⟩, q⟩
end
section
variable {κ β : Type} [DecidableEq κ] {K : PySem.W.Frag} {H : Hp} {ev : β → Da}
/-- a table of the model beside one of ours -/
theorem look_val {μ : Type} [DecidableEq μ] {k : κ → μ} {E : μ → Da} (hE : ∀ a b, E a = E b → a = b) (inj : ∀ x y, k x = k y → x = y) : ∀ (l : List (κ × β)) (kvs : List (μ × V)), l.map (fun p => E (k p.1)) = kvs.map (fun p => E p.1) → Shs K H (kvs.map (·.2)) (l.map fun p => ev p.2) →
    ∀ x, (∀ v, look l x = some v → ∃ y, valV kvs (k x) = some y ∧ Sh K H y (ev v)) ∧ (look l x = none → valV kvs (k x) = none)
  | [], [], _, _, x => ⟨fun v h => (by rw [look_nil] at h; cases h), fun _ => rfl⟩
  | [], _ :: _, h, _, _ => by cases h
  | _ :: _, [], h, _, _ => by cases h
  | p :: l, q :: kvs, h, s, x => by
    have h' := List.cons.inj h
    have hq := hE _ _ h'.1
    cases s with
    | cons s1 s2 =>
      have ih := look_val hE inj l kvs h'.2 s2 x
      by_cases e : p.1 = x
      · rw [look_pos e, valV_pos (by rw [← hq, e])]
        exact ⟨fun v hv => by cases hv; exact ⟨_, rfl, s1⟩, fun z => by cases z⟩
      · rw [look_neg e, valV_neg (fun z => e (inj _ _ (hq.trans z)))]
        exact ih
theorem put_val {μ : Type} [DecidableEq μ] {k : κ → μ} {E : μ → Da} (hE : ∀ a b, E a = E b → a = b) (inj : ∀ x y, k x = k y → x = y) {l : List (κ × β)} {kvs : List (μ × V)} (hk : l.map (fun p => E (k p.1)) = kvs.map (fun p => E p.1)) (s : Shs K H (kvs.map (·.2)) (l.map fun p => ev p.2))
    {x : κ} {v : β} {y : V} (sy : Sh K H y (ev v)) : (put l x v).map (fun p => E (k p.1)) = (putK kvs (k x) y).map (fun p => E p.1) ∧ Shs K H ((putK kvs (k x) y).map (·.2)) ((put l x v).map fun p => ev p.2) := by
  have hm : (l.any fun p => decide (p.1 = x)) = (kvs.any fun p => decide (p.1 = k x)) := by
    rw [look_any, valV_any]
    have := look_val (ev := ev) hE inj l kvs hk s x
    cases hl : look l x with
    | none => rw [this.2 hl]; rfl
    | some v => obtain ⟨y, hy, _⟩ := this.1 v hl; rw [hy]; rfl
  have hrepl : ∀ (l : List (κ × β)) (kvs : List (μ × V)), l.map (fun p => E (k p.1)) = kvs.map (fun p => E p.1) → Shs K H (kvs.map (·.2)) (l.map fun p => ev p.2) →
      (l.map (fun p => if p.1 = x then (p.1, v) else p)).map (fun p => E (k p.1)) = (kvs.map (fun kv => if kv.1 = k x then (kv.1, y) else kv)).map (fun p => E p.1) ∧
      Shs K H ((kvs.map (fun kv => if kv.1 = k x then (kv.1, y) else kv)).map (·.2)) ((l.map (fun p => if p.1 = x then (p.1, v) else p)).map fun p => ev p.2) := by
    intro l
    induction l with
    | nil =>
      intro kvs h s
      cases kvs with
      | nil => exact ⟨rfl, .nil⟩
      | cons _ _ => cases h
    | cons p l ih =>
      intro kvs h s
      cases kvs with
      | nil => cases h
      | cons q kvs =>
        have h' := List.cons.inj h
        have hq := hE _ _ h'.1
        cases s with
        | cons s1 s2 =>
          obtain ⟨i1, i2⟩ := ih kvs h'.2 s2
          by_cases e : p.1 = x
          · have e2 : q.1 = k x := by rw [← hq, e]
            refine ⟨?_, ?_⟩
            · simp only [List.map_cons, if_pos e, if_pos e2]
              rw [i1, ← hq]
            · simp only [List.map_cons, if_pos e, if_pos e2]
              exact .cons sy i2
          · have e2 : ¬ q.1 = k x := fun z => e (inj _ _ (hq.trans z))
            refine ⟨?_, ?_⟩
            · simp only [List.map_cons, if_neg e, if_neg e2]
              rw [i1, ← hq]
            · simp only [List.map_cons, if_neg e, if_neg e2]
              exact .cons s1 i2
  unfold put putK
  rw [hm]
  by_cases hc : (kvs.any fun p => decide (p.1 = k x)) = true
  · rw [if_pos hc, if_pos hc]
    exact hrepl l kvs hk s
  · rw [if_neg hc, if_neg hc]
    refine ⟨by simp only [List.map_append, List.map_cons, List.map_nil]; rw [hk], ?_⟩
    simp only [List.map_append, List.map_cons, List.map_nil]
    exact s.append (.cons sy .nil)
end
def eD {κ β : Type} (t : Bool) (ek : κ → Da) (ev : β → Da) (l : List (κ × β)) : Da := .dic t (l.map fun p => ek p.1) (l.map fun p => ev p.2)
section
variable {κ β : Type} [DecidableEq κ] {K : PySem.W.Frag} {B0 H : Hp} {ρ ρ' : List Sd} {te td ty tv : TE} {t : Bool} {ek : κ → Da} {ev : β → Da} {l : List (κ × β)} {x : κ} {v : β}
theorem kV_of {k : Key} {y : V} (s : Sh K H y (keyD k)) : y = kV k := by
  cases k with
  | inl i => exact s.int_inv
  | inr i => exact s.str_inv
theorem kVs_of : ∀ {ks : List Key} {ys : List V}, Shs K H ys (ks.map keyD) → ys = ks.map kV
  | [], _, .nil => rfl
  | k :: ks, _, .cons s r => by rw [kV_of s, kVs_of r, List.map_cons]
/-- what a dict that is read holds at a key -/
theorem gget_of (kk : KK t ek) {w y : V} (s : Sh K H w (eD t ek ev l)) (sk : Sh K H y (ek x)) : ∃ a, w = .ref a ∧ (∀ v, look l x = some v → ∃ z, GGet H a y (some z) ∧ Sh K H z (ev v)) ∧ (look l x = none → GGet H a y none) := by
  obtain ⟨a, xs, rfl, hd, hs⟩ := s.dic_inv
  refine ⟨a, rfl, ?_⟩
  cases kk with
  | flat _ k he inj =>
    rcases hd with ⟨_, kvs, h1, h2, rfl⟩ | ⟨z, _⟩
    · rw [he] at sk
      have hy := kV_of sk
      have hk : l.map (fun p => keyD (k p.1)) = kvs.map (fun p => keyD p.1) := by rw [← h2]; exact List.map_congr_left fun p _ => (he p.1).symm
      obtain ⟨g1, g2⟩ := look_val (ev := ev) (fun _ _ => keyD_inj) inj l kvs hk hs x
      refine ⟨fun v hv => ?_, fun hn => .inl (.inl ⟨kvs, k x, .inl h1, hy, (g2 hn).symm⟩)⟩
      obtain ⟨z, z1, z2⟩ := g1 v hv
      exact ⟨z, .inl (.inl ⟨kvs, k x, .inl h1, hy, z1.symm⟩), z2⟩
    · cases z
  | tup _ k he inj pl dp =>
    rcases hd with ⟨z, _⟩ | ⟨_, kvs, h1, h2, rfl, ko⟩
    · cases z
    · rw [he] at sk
      have nk : NIs H y (.tup (k x)) := NIs.of (K := K) (by rw [nkD, nkDs_map]; exact sk) (by rw [plainN]; exact pl x)
      obtain ⟨b, ys, rfl, hb, hys⟩ := sk.tup_inv2
      have dd : (NestedKey.tup (k x)).depth ≤ 8 := by rw [NestedKey.depth]; have := dp x; omega
      have hk : l.map (fun p => nkD (.tup (k p.1))) = (prN kvs).map (fun p => nkD p.1) := by
        unfold prN; rw [List.map_map]
        show _ = kvs.map (fun p => nkD p.1)
        rw [← h2]; exact List.map_congr_left fun p _ => by rw [he, nkD, nkDs_map]
      have hs' : Shs K H ((prN kvs).map (·.2)) (l.map fun p => ev p.2) := by unfold prN; rw [List.map_map]; exact hs
      obtain ⟨g1, g2⟩ := look_val (ev := ev) (k := fun x => NestedKey.tup (k x)) (E := nkD) (fun _ _ => nkD_inj) (fun x y e => inj x y (NestedKey.tup.inj e)) l (prN kvs) hk hs' x
      refine ⟨fun v hv => ?_, fun hn => .inr ⟨kvs, _, b, h1, ko, rfl, nk, dd, (g2 hn).symm⟩⟩
      obtain ⟨z, z1, z2⟩ := g1 v hv
      exact ⟨z, .inr ⟨kvs, _, b, h1, ko, rfl, nk, dd, z1.symm⟩, z2⟩
theorem ev_dget (kk : KK t ek) (hd : EvB K td ρ (eD t ek ev l)) (hk : EvB K ty ρ (ek x)) (h : look l x = some v) : EvB K (tGGet td ty) ρ (ev v) := fun σ H Q rs q =>
  hd σ H _ rs fun w H1 e1 s1 => hk σ H1 _ (rs.mono e1) fun y H2 e2 s2 => by
    obtain ⟨a, rfl, g, _⟩ := gget_of kk (s1.mono e2) s2
    obtain ⟨z, z1, z2⟩ := g v h
    exact ⟨a, z, rfl, z1, q _ H2 (e1.trans e2) z2⟩
theorem ev_din (kk : KK t ek) (hk : EvB K ty ρ (ek x)) (hd : EvB K td ρ (eD t ek ev l)) : EvB K (tGIn ty td) ρ (.bl (look l x).isSome) := fun σ H Q rs q =>
  hk σ H _ rs fun y H1 e1 s1 => hd σ H1 _ (rs.mono e1) fun w H2 e2 s2 => by
    obtain ⟨a, rfl, g, g2⟩ := gget_of kk s2 (s1.mono e2)
    cases hl : look l x with
    | none => rw [hl] at q; exact ⟨a, none, rfl, g2 hl, q _ H2 (e1.trans e2) (.bl _)⟩
    | some v =>
      obtain ⟨z, z1, z2⟩ := g v hl
      rw [hl] at q
      exact ⟨a, some z, rfl, z1, q _ H2 (e1.trans e2) (.bl _)⟩
theorem ev_dnotin (kk : KK t ek) (hk : EvB K ty ρ (ek x)) (hd : EvB K td ρ (eD t ek ev l)) : EvB K (tGNotIn ty td) ρ (.bl (!(look l x).isSome)) := fun σ H Q rs q =>
  hk σ H _ rs fun y H1 e1 s1 => hd σ H1 _ (rs.mono e1) fun w H2 e2 s2 => by
    obtain ⟨a, rfl, g, g2⟩ := gget_of kk s2 (s1.mono e2)
    cases hl : look l x with
    | none => rw [hl] at q; exact ⟨a, none, rfl, g2 hl, q _ H2 (e1.trans e2) (.bl _)⟩
    | some v =>
      obtain ⟨z, z1, z2⟩ := g v hl
      rw [hl] at q
      exact ⟨a, some z, rfl, z1, q _ H2 (e1.trans e2) (.bl _)⟩
/-- what an empty dict is -/
def dE (t : Bool) (p : Addr) : HO := if t = true then dN p [] else .dK []
theorem own_dE {p : Addr} {ek : κ → Da} (h : H p = none) : Own K (upd H p (dE t p)) (.ref p) (eD t ek ev ([] : List (κ × β))) [p] := by
  cases t with
  | false => exact .dic (.inl ⟨rfl, [], upd_same, rfl, rfl⟩) .nil
  | true => exact .dic (.inr ⟨rfl, [], upd_same, rfl, rfl, fun p hp => nomatch hp⟩) .nil
theorem ef_dnew {ek : κ → Da} : EvF K tGNew ρ (eD t ek ev ([] : List (κ × β))) := fun σ H Q rs q => fun p hp => by
  have := q _ _ [p] (.new hp) (own_dE (K := K) (t := t) (ek := ek) (ev := ev) hp) (one_none hp) nodup_one
  cases t with
  | false => exact .inl this
  | true => exact .inr this
theorem noTup_dE {p : Addr} (h : H p = some (dE t p)) : NoTup H p := by
  cases t with
  | false => exact noTup_dK h
  | true => exact noTup_dN h
/-- {x: v}, v new -/
theorem ef_disp1 (kk : KK t ek) (hk : EvB K ty ρ (ek x)) (hv : EvF K tv ρ (ev v)) : EvF K (tGDisp1 ty tv) ρ (eD t ek ev [(x, v)]) := fun σ H Q rs q => by
  cases kk with
  | flat _ k he inj =>
    refine .inl fun p hp => hk σ _ _ (rs.mono (.new hp)) fun y H1 e1 s1 => hv σ H1 _ (rs.mono ((Ex.new hp).trans e1)) fun z H2 F e2 s2 f n => ?_
    have e12 := e1.trans e2
    have hp2 : H2 p = some (.dK []) := e12.dK upd_same
    rw [he] at s1
    refine ⟨hp2, [(k x, z)], ?_, Nat.le_of_ble_eq_true rfl, ?_⟩
    · rw [kV_of s1]; rfl
    · have nt : NoTup H2 p := noTup_dK hp2
      have ex : Ex H (upd H2 p (.dK (mergeK [] [(k x, z)]))) := Ex.mut ((Ex.new hp).trans e12) hp nt
      have pF : p ∉ F := fun m => by
        have h1 := f p m
        rw [e1.dK upd_same] at h1
        cases h1
      refine q _ _ (p :: (F ++ [])) ex (.dic (.inl ⟨rfl, [(k x, z)], upd_same, by simp [he], rfl⟩) (.cons (s2.upd nt pF) .nil)) (fun a m => ?_) ?_
      · rw [List.append_nil] at m
        rcases List.mem_cons.mp m with rfl | m
        · exact hp
        · exact (Ex.new hp).back (e1.back (f a m))
      · rw [List.append_nil]
        exact List.nodup_cons.mpr ⟨pF, n⟩
  | tup _ k he inj pl dp =>
    refine .inr fun p hp => hk σ _ _ (rs.mono (.new hp)) fun y H1 e1 s1 => hv σ H1 _ (rs.mono ((Ex.new hp).trans e1)) fun z H2 F e2 s2 f n => ?_
    have e12 := e1.trans e2
    have hp2 : H2 p = some (dN p []) := e12.ext upd_same
    rw [he] at s1
    have nk : NIs H2 y (.tup (k x)) := NIs.of (K := K) (by rw [nkD, nkDs_map]; exact s1.mono e2) (by rw [plainN]; exact pl x)
    obtain ⟨b, ys, rfl, hb, hys⟩ := (s1.mono e2).tup_inv2
    have dd : (NestedKey.tup (k x)).depth ≤ 8 := by rw [NestedKey.depth]; have := dp x; omega
    refine ⟨_, b, rfl, hp2, nk, dd, ?_⟩
    have nt : NoTup H2 p := noTup_dN hp2
    have ex : Ex H (upd H2 p (dN p [(.tup (k x), b, z)])) := Ex.mut ((Ex.new hp).trans e12) hp nt
    have pF : p ∉ F := fun m => by
      have h1 := f p m
      rw [e1.ext upd_same] at h1
      cases h1
    refine q _ _ (p :: (F ++ [])) ex (.dic (.inr ⟨rfl, [(.tup (k x), b, z)], upd_same, by simp [he, nkD, nkDs_map], rfl, ?_⟩) (.cons (s2.upd nt pF) .nil)) (fun a m => ?_) ?_
    · intro r hr
      rw [List.mem_singleton.mp hr]
      exact ⟨nk.stay nt.keep, dd⟩
    · rw [List.append_nil] at m
      rcases List.mem_cons.mp m with rfl | m
      · exact hp
      · exact (Ex.new hp).back (e1.back (f a m))
    · rw [List.append_nil]
      exact List.nodup_cons.mpr ⟨pF, n⟩
theorem imms_put {l : List (κ × β)} (h : ∀ y, (ev y).imm = true) : Da.imms (l.map fun p => ev p.2) = true := by
  induction l with
  | nil => rfl
  | cons p l ih =>
    show ((ev p.2).imm && Da.imms (l.map fun p => ev p.2)) = true
    rw [h, ih]; rfl
theorem ev_lenD (h : EvB K te ρ (eD t ek ev l)) : EvB K (tCB rLenG (tCons te tNil)) ρ (.int l.length) := fun σ H Q rs q =>
  h σ H _ rs fun v H1 e s => by
    obtain ⟨a, xs, rfl, hd, hs⟩ := s.dic_inv
    have hl := hs.length
    rw [List.length_map] at hl
    refine ⟨a, rfl, ?_⟩
    rcases hd with ⟨_, kvs, h1, h2, rfl⟩ | ⟨_, kvs, h1, h2, rfl, ko⟩
    · rw [List.length_map] at hl
      exact .inl ⟨kvs, h1, by rw [hl]; exact q _ H1 e (.int _)⟩
    · rw [List.length_map] at hl
      exact .inr ⟨kvs, h1, ko, by rw [hl]; exact q _ H1 e (.int _)⟩
/-- d[x] = v, the values plain -/
theorem j_dput (kk : KK t ek) {P : Po} {k : Nat} (hv : EvB K tv ρ (ev v)) (hx : EvB K ty ρ (ek x)) (im : ∀ y, (ev y).imm = true) (hk : ρ[k]? = some (some (true, eD t ek ev l))) (hl : l.length < 100000)
    (q : P.nx (ρ.set k (ow (eD t ek ev (put l x v))))) : J K B0 (sGPut (tVar k) ty tv) ρ P := fun φ τ D σ H ll nx r bk ct s => by
  refine hv σ H _ (Rs.f ll s) fun z H1 e1 sz => ?_
  have s2 := Sta.push (s.ex e1) (Ex.refl H1) (sz.own (im v)) (fun _ m => nomatch m) List.nodup_nil
  obtain ⟨p, xs, G, F1, B, hσ, hp, _⟩ := s2.rewD (i := φ.length + k) (t := t) (ks := l.map fun p => ek p.1) (ds := l.map fun p => ev p.2) (by rw [get_app rfl]; exact hk)
  rw [get_app ll.symm] at hσ
  refine ⟨.ref p, hσ, ?_⟩
  refine hx σ H1 _ ((Rs.f ll s).mono e1) fun y H2 e2 sy => ?_
  have s3 := Sta.push (s.ex (e1.trans e2)) (Ex.refl H2) ((sz.mono e2).own (im v)) (fun _ m => nomatch m) List.nodup_nil
  obtain ⟨p', xs', G', F1', B1, hσ', hp', ws, a, eB, nd1, pG, pF, k1⟩ := s3.rewD (i := φ.length + k) (t := t) (ks := l.map fun p => ek p.1) (ds := l.map fun p => ev p.2) (by rw [get_app rfl]; exact hk)
  rw [get_app ll.symm, hσ] at hσ'
  cases hσ'
  have hlen : xs'.length = l.length := by rw [ws.length, List.length_map]
  have fin : ∀ u xs2, DAt (upd H2 p u) p t ((put l x v).map fun p => ek p.1) xs2 → Shs K H2 xs2 ((put l x v).map fun p => ev p.2) → D.nx σ (upd H2 p u) := fun u xs2 h1 h2 => by
    have q2 := k1 u _ xs2 _ [] h1 (h2.own (imms_put im)) (fun a m => nomatch m) List.nodup_nil
    rw [set_app rfl] at q2
    exact nx _ _ _ q q2
  cases kk with
  | flat _ kf he inj =>
    rcases hp' with ⟨_, kvs, h1, h2, rfl⟩ | ⟨zz, _⟩
    · rw [he] at sy
      have hks : l.map (fun p => keyD (kf p.1)) = kvs.map (fun p => keyD p.1) := by rw [← h2]; exact List.map_congr_left fun p _ => (he p.1).symm
      obtain ⟨g1, g2⟩ := put_val (ev := ev) (fun _ _ => keyD_inj) inj hks ws.sh (x := x) (v := v) (sz.mono e2)
      rw [List.length_map] at hlen
      refine ⟨p, _, rfl, .inl (.inl ⟨kvs, kf x, h1, kV_of sy, by rw [hlen]; exact Nat.lt_of_lt_of_le hl (by decide), rfl⟩), fin _ _ (.inl ⟨rfl, _, upd_same, ?_, rfl⟩) g2⟩
      rw [← g1]
      exact List.map_congr_left fun p _ => he p.1
    · cases zz
  | tup _ kf he inj pl dp =>
    rcases hp' with ⟨zz, _⟩ | ⟨_, kvs, h1, h2, rfl, ko⟩
    · cases zz
    · rw [he] at sy
      have nk : NIs H2 y (.tup (kf x)) := NIs.of (K := K) (by rw [nkD, nkDs_map]; exact sy) (by rw [plainN]; exact pl x)
      have dd : (NestedKey.tup (kf x)).depth ≤ 8 := by rw [NestedKey.depth]; have := dp x; omega
      obtain ⟨b, ys, rfl, hb, hys⟩ := sy.tup_inv2
      have hks : l.map (fun p => nkD (.tup (kf p.1))) = (prN kvs).map (fun p => nkD p.1) := by
        unfold prN; rw [List.map_map]
        show _ = kvs.map (fun p => nkD p.1)
        rw [← h2]; exact List.map_congr_left fun p _ => by rw [he, nkD, nkDs_map]
      have hs' : Shs K H2 ((prN kvs).map (·.2)) (l.map fun p => ev p.2) := by unfold prN; rw [List.map_map]; exact ws.sh
      obtain ⟨g1, g2⟩ := put_val (ev := ev) (k := fun x => NestedKey.tup (kf x)) (E := nkD) (fun _ _ => nkD_inj) (fun x y e => inj x y (NestedKey.tup.inj e)) hks hs' (x := x) (v := v) (sz.mono e2)
      rw [List.length_map] at hlen
      have nt : NoTup H2 p := noTup_dN h1
      refine ⟨p, _, rfl, .inr ⟨kvs, _, b, h1, ko, rfl, nk, dd, by rw [hlen]; exact Nat.lt_of_lt_of_le hl (by decide), rfl⟩, fin _ ((putN kvs (.tup (kf x)) b z).map (·.2.2)) (.inr ⟨rfl, _, upd_same, ?_, rfl, (ko.put nk dd).stay nt.keep⟩) ?_⟩
      · rw [show (putN kvs (.tup (kf x)) b z).map (fun p => nkD p.1) = (prN (putN kvs (.tup (kf x)) b z)).map (fun p => nkD p.1) by unfold prN; rw [List.map_map]; rfl, prN_put, ← g1]
        exact List.map_congr_left fun p _ => by rw [he, nkD, nkDs_map]
      · rw [← prN_put] at g2
        unfold prN at g2
        rw [List.map_map] at g2
        exact g2
end
theorem look_getD {κ β : Type} [DecidableEq κ] {l : List (κ × β)} {x : κ} (z : β) (h : (look l x).isSome = true) : look l x = some ((look l x).getD z) := by
  cases hl : look l x with
  | none => rw [hl] at h; cases h
  | some v => rfl
theorem hv_of {k : Nat} {A : PySem.Around} (r : Room k A) : A.units + 65 < PySem.cLine := by have := r.un; omega
end Fw

set_option Elab.async false
set_option linter.all false
set_option maxRecDepth 100000
set_option maxHeartbeats 4000000
/-! defs that may raise an own exception without fields; try, except .. as e -/
namespace Fw
open PySem L2
def spX (K : PySem.W.Frag) (G : List Da → Da → Prop) (R : List Da → Addr → Prop) : Sp := fun vs H Q E => ∃ ds, Shs K H vs ds ∧
  ((∃ d, G ds d ∧ ∀ v H' F, Ex H H' → Own K H' v d F → (∀ a, a ∈ F → H a = none) → F.Nodup → Q v H') ∨ ∃ C, R ds C ∧ ∀ H', Ex H H' → E (.ref C) none H')
def KnownX (P : Program) (w : World) (K : PySem.W.Frag) (mg : Str → Option Value) (base : Heap) (x : Str) (k : Nat) (sp : Sp) (n : Nat) (dvs : List V) : Prop :=
  ∃ (f : Addr) (fd : FuncData) (ps : List Str) (ds : List Value), mg x = some (.ref f) ∧ PySem.W.keepIn K (.ref f) = true ∧ Binds K fd ps ds ∧ Vals dvs ds ∧ ps.length = n ∧ FnOk P w K mg base (L2.CX P w) k f fd ps sp
section
variable {X : Cx} {e : Expr} {es : List Expr} {x : Str} {k n : Nat} {sp : Sp} {dvs : List V} {p pos : Pos} {t : TA} {W : WX}
theorem pe_knownE (h : KnownX X.prog X.w X.K X.mg X.base x k sp n dvs) (hr : Room k X.A) (ha : PA X (e :: es) t) (hg : Gl X x := by rfl) (hdb : (x == ("__debug__" : Str)) = false := by decide)
    (he : starEach (e :: es) X.env = (false, eval e X.env) :: starEach es X.env := by rfl) (hpl : (backTo pos (starEach es X.env)).any (·.1) = false := by rfl) : PE X (.Call (.Name x p) (e :: es) [] pos) (tCall sp dvs E0 t) := by
  obtain ⟨f, fd, ps, ds, hm, hk, hb, hd, _, F⟩ := h
  exact pe_call F hr hg hm hk hb hd passL ha hdb he hpl
theorem pe_knownW (h : KnownX X.prog X.w X.K X.mg X.base x k sp n []) (hr : Room k X.A) (tk : Takes X W) (ha : PA X (e :: es) t) (hg : Gl X x := by rfl) (hdb : (x == ("__debug__" : Str)) = false := by decide)
    (he : starEach (e :: es) X.env = (false, eval e X.env) :: starEach es X.env := by rfl) (hpl : (backTo pos (starEach es X.env)).any (·.1) = false := by rfl) : PE X (.Call (.Name x p) (e :: es) [] pos) (tCallS sp (WE W) t) := by
  obtain ⟨f, fd, ps, ds, hm, hk, hb, hd, _, F⟩ := h
  cases hd
  exact pe_callS F hr hg hm hk hb (fun σ => passAt tk σ) ha hdb he hpl
theorem KnownX.mono {P : Program} {w : World} {K : PySem.W.Frag} {mg : Str → Option Value} {base : Heap} {j : Nat} (h : KnownX P w K mg base x j sp n dvs) (hj : j ≤ k) : KnownX P w K mg base x k sp n dvs := by
  obtain ⟨f, fd, ps, ds, hm, hk, hb, hd, l, F⟩ := h
  exact ⟨f, fd, ps, ds, hm, hk, hb, hd, l, F.mono hj⟩
/-- X(), X an own exception class without own __init__ -/
theorem pmk_own0 {C : Addr} {bmB : List Value} {B newId initId : String} (F : ExcBaseFacts B newId initId bmB) (q : PySem.W.excIn X.K C bmB newId = true) (gC : X.mg x = some (.ref C))
    (kC : PySem.W.keepIn X.K (.ref C) = true) (r : Raises X (.ref C)) (hg : Gl X x) (hdb : (x == ("__debug__" : Str)) = false := by decide) :
    PMk X (.Call (.Name x p) [] [] pos) (fun _ H Q => Q (.ref C) none H) := by
  intro pins s σ H Q I h
  refine wpAny_Call_Name_kw (ld_glob I hg gC ?_ hdb)
  refine PySem.W.callWith_K0 I.kIn kC ?_
  show wpAny _ _ (call (.ref C) []) _ _ _
  obtain ⟨bm, N, nm, qn, bs, hdct, sn, sub, ab, col, dd, k0, k1, k2, k3, k5, mN, hC, hN, hni, T⟩ := exc_obj I.kIn q
  refine wpAny_call_exc_subT F T hC hN hni (fun h' e hm => ?_) (Nat.zero_le _)
  exact mk_of I hm r h (I.hok.gone hm.new)
end
structure Ex0 (K : PySem.W.Frag) (mg : Str → Option Value) (x : Str) (C : Addr) : Prop where
  g : mg x = some (.ref C)
  k : PySem.W.keepIn K (.ref C) = true
  e : PySem.W.excIn K C PySem.HandSPX.veTail "ValueError.__new__" = true
  s : PySem.W.subIn K (.ref C) (.type "BaseException") = some true
  t : PySem.W.typeIn K (.ref C) = some (.type "type")
  i : ExcC K C
theorem pmk_ex0 {X : Cx} {x : Str} {C : Addr} {p pos : Pos} (h : Ex0 X.K X.mg x C) (hg : Gl X x := by rfl) (hdb : (x == ("__debug__" : Str)) = false := by decide) : PMk X (.Call (.Name x p) [] [] pos) (fun _ H Q => Q (.ref C) none H) :=
  pmk_own0 PySem.F.excBase_ValueError h.e h.g h.k (raises_own h.s h.t) hg hdb
section
variable {K : PySem.W.Frag} {B0 : Hp} {ρ ρ' : List Sd} {te ta tb tc : TE} {t : TA} {G : List Da → Da → Prop} {R : List Da → Addr → Prop} {ds dds : List Da} {d : Da} {E : L2.St → XK} {P : Po} {C : Addr} {i : Nat} {c : Value}
theorem ev_callE (h : EvA K t ρ ds) (g : G ds d) : EvF K (tCall (spX K G R) [] E0 t) ρ d := fun σ H Q rs q =>
  h σ H _ rs fun vs H1 e s => ⟨ds, by rw [List.append_nil]; exact s, .inl ⟨d, g, fun v H' F e2 w f n => q v H' F (e.trans e2) w (fun a m => e.back (f a m)) n⟩⟩
theorem ev_callED {dvs : List V} (h : EvA K t ρ ds) (hd : ∀ H, Shs K H dvs dds) (g : G (ds ++ dds) d) : EvF K (tCall (spX K G R) dvs E0 t) ρ d := fun σ H Q rs q =>
  h σ H _ rs fun vs H1 e s => ⟨ds ++ dds, s.append (hd H1), .inl ⟨d, g, fun v H' F e2 w f n => q v H' F (e.trans e2) w (fun a m => e.back (f a m)) n⟩⟩
theorem ev_callW (h : EvA K t ρ ds) (g : G ds d) : EvF K (tCallS (spX K G R) E t) ρ d := fun σ H Q rs q =>
  h σ H _ rs fun vs H1 e s => ⟨ds, s, .inl ⟨d, g, fun v H' F e2 w f n => q v H' F (e.trans e2) w (fun a m => e.back (f a m)) n⟩⟩
/-- it raises -/
def EvX (K : PySem.W.Frag) (B0 : Hp) (te : TE) (ρ : List Sd) : Prop := ∀ (φ : List Sd) (τ σ : L2.St) H (Q : VK), φ.length = τ.length → Sta K B0 (φ ++ ρ) (τ ++ σ) H → te σ H Q
theorem ex_call (h : EvA K t ρ ds) (r : R ds C) (hE : ∀ σ H', Ex B0 H' → E σ (.ref C) none H') : EvX K B0 (tCallS (spX K G R) E t) ρ := fun φ τ σ H Q l s =>
  h σ H _ (Rs.f l s) fun vs H1 e sv => ⟨ds, sv, .inr ⟨C, r, fun H' e2 => hE σ H' ((s.base.trans e).trans e2)⟩⟩
theorem j_dropX (h : EvX K B0 te ρ) : J K B0 (tDrop te) ρ P := fun φ τ D σ H l n r bk ct s => h φ τ σ H _ l s
theorem j_asgX {g : TG} (h : EvX K B0 te ρ) : J K B0 (tAsg te g) ρ P := fun φ τ D σ H l n r bk ct s => h φ τ σ H _ l s
theorem j_retX (h : EvX K B0 te ρ) : J K B0 (tRet te) ρ P := fun φ τ D σ H l n r bk ct s => h φ τ σ H _ l s
theorem j_raise {EE : XK} (hE : ∀ H', Ex B0 H' → EE (.ref C) none H') : J K B0 (fun _ σ H => EE (.ref C) none H) ρ P := fun φ τ D σ H l n r bk ct s => hE H s.base
theorem ex_isC {r : R2} (h : EvX K B0 ta ρ) : EvX K B0 (tOp r ta tb) ρ := fun φ τ σ H Q l s => h φ τ σ H _ l s
theorem ex_cb {r : List V → Hp → VK → Prop} {tr : TA} (h : EvX K B0 ta ρ) : EvX K B0 (tCB r (tCons ta tr)) ρ := fun φ τ σ H Q l s => h φ τ σ H _ l s
theorem ex_tup {tr : TA} (h : EvX K B0 ta ρ) : EvX K B0 (tTup (tCons ta tr)) ρ := fun φ τ σ H Q l s => h φ τ σ H _ l s
/-! the def's own rule -/
end
section
variable {P : Program} {w : World} {K : PySem.W.Frag} {mg : Str → Option Value} {base : Heap}
theorem body_X {ts : TS} {N : List Str} {vs : List V} {ds : List Da} {H : Hp} {Q : VK} (hs : Shs K H vs ds) (j : J K H ts (ds.map sh ++ List.replicate (N.length - ds.length) no) { nx := fun _ => False, rt := fun _ => False }) : ts { nx := fun _ H' => Q .non H', rt := Q } (start N vs) H := by
  refine j [] [] _ _ H rfl (fun _ _ _ z => z.elim) (fun _ _ _ z => z.elim) (fun _ _ _ z => z.elim) (fun _ _ _ z => z.elim) ?_
  refine ⟨H, [], Ex.refl H, Ex.refl H, ?_, List.nodup_nil⟩
  show Slots K H H _ (vs.map some ++ List.replicate (N.length - vs.length) none) []
  rw [hs.length]
  exact Slots.join (ρ1 := ds.map sh) (σ1 := vs.map some) (F1 := []) (F2 := []) (Slots.ofShs hs) (slots_none _)
theorem fnokX_of {x : Str} {st : Stmt} {N ps : List Str} {k : Nat} {G : List Da → Da → Prop} {R : List Da → Addr → Prop} {f : Addr} {fd : FuncData} (F : Fun K x x st f fd) (sc : FnScope N ps (defScope st)) (len : ∀ ds d, G ds d → ds.length = ps.length) (len2 : ∀ ds C, R ds C → ds.length = ps.length)
    (hbody : ∀ (cdv : Value) (A : Around) (outer : List Env) (s : Shared) (H : Hp) (E : XK), Room k (A.deeper (PyProof.Rows.envOfC x (defScope st) s.heap.objs.size f cdv)) →
      ∃ t, PSs (cxOf (L2.CX P w) P w K mg base N x (defScope st) f cdv A outer s H E) (defBody st) t ∧
        (∀ ds d, G ds d → J K H t (ds.map sh ++ List.replicate (N.length - ds.length) no) { nx := fun _ => d = .non, rt := fun d' => d' = d }) ∧
        (∀ ds C, R ds C → (∀ H', Ex H H' → E (.ref C) none H') → J K H t (ds.map sh ++ List.replicate (N.length - ds.length) no) { nx := fun _ => False, rt := fun _ => False })) :
    FnOk P w K mg base (L2.CX P w) (k + 1) f fd ps (spX K G R) := by
  refine F.okX sc (fun vs H Q E h => ?_) (fun cdv A outer s H vs Q E hr h => ?_)
  · obtain ⟨ds, h1, ⟨d, h2, _⟩ | ⟨C, h2, _⟩⟩ := h
    · rw [h1.length, len ds d h2]
    · rw [h1.length, len2 ds C h2]
  · obtain ⟨t, ht, hj, hx⟩ := hbody cdv A outer s H E hr
    obtain ⟨ds, h1, ⟨d, h2, h3⟩ | ⟨C, h2, h3⟩⟩ := h
    · exact ⟨t, ht, body_of h1 h3 (hj ds d h2)⟩
    · exact ⟨t, ht, body_X h1 (hx ds C h2 h3)⟩
theorem knownX_of {x : Str} {st : Stmt} {ps : List Str} {k : Nat} {sp : Sp} (S : Stands K mg x st)
    (hb : ∀ (kV doc pm : Value) (an : Option Addr) (cdv ct : Value) (us : List Value), us.length = ps.length → bindArgs (PySem.W.fnOf x x (defArgs st) (defBody st) (defScope st) .none kV doc pm an cdv ct) ⟨us, []⟩ = pure (ps.zip us))
    (h : ∀ f fd, Fun K x x st f fd → FnOk P w K mg base (L2.CX P w) k f fd ps sp) : KnownX P w K mg base x k sp ps.length [] := by
  obtain ⟨f, fd, F, hm⟩ := S
  exact ⟨f, fd, ps, [], hm, F.kp, F.binds hb, .nil, rfl, h f fd F⟩
end
section
variable {P : Program} {w : World} {K : PySem.W.Frag} {mg : Str → Option Value} {base : Heap}
theorem fnokXD_of {x : Str} {st : Stmt} {N ps : List Str} {k : Nat} {dvs : List V} {G : List Da → Da → Prop} {R : List Da → Addr → Prop} {f : Addr} {fd : FuncData} (F : FunD K x x (defArgs st) (defBody st) (defScope st) dvs [] f fd) (sc : FnScope N ps (defScope st)) (len : ∀ ds d, G ds d → ds.length = ps.length) (len2 : ∀ ds C, R ds C → ds.length = ps.length)
    (hbody : ∀ (cdv : Value) (A : Around) (outer : List Env) (s : Shared) (H : Hp) (E : XK), Room k (A.deeper (PyProof.Rows.envOfC x (defScope st) s.heap.objs.size f cdv)) →
      ∃ t, PSs (cxOf (L2.CX P w) P w K mg base N x (defScope st) f cdv A outer s H E) (defBody st) t ∧
        (∀ ds d, G ds d → J K H t (ds.map sh ++ List.replicate (N.length - ds.length) no) { nx := fun _ => d = .non, rt := fun d' => d' = d }) ∧
        (∀ ds C, R ds C → (∀ H', Ex H H' → E (.ref C) none H') → J K H t (ds.map sh ++ List.replicate (N.length - ds.length) no) { nx := fun _ => False, rt := fun _ => False })) :
    FnOk P w K mg base (L2.CX P w) (k + 1) f fd ps (spX K G R) := by
  refine F.ok sc (fun vs H Q E h => ?_) (fun cdv A outer s H vs Q E hr h => ?_)
  · obtain ⟨ds, h1, ⟨d, h2, _⟩ | ⟨C, h2, _⟩⟩ := h
    · rw [h1.length, len ds d h2]
    · rw [h1.length, len2 ds C h2]
  · obtain ⟨t, ht, hj, hx⟩ := hbody cdv A outer s H E hr
    obtain ⟨ds, h1, ⟨d, h2, h3⟩ | ⟨C, h2, h3⟩⟩ := h
    · exact ⟨t, ht, body_of h1 h3 (hj ds d h2)⟩
    · exact ⟨t, ht, body_X h1 (hx ds C h2 h3)⟩
theorem knownXD_of {x : Str} {st : Stmt} {ps : List Str} {k : Nat} {sp : Sp} {dvs : List V} (S : StandsD K mg x st dvs) (n j : Nat) (hd : dvs ≠ []) (hn : n + (dvs.length - j) = ps.length)
    (hb : ∀ (T : Addr) (kV doc pm : Value) (an : Option Addr) (cdv ct : Value) (us its : List Value), us.length = n → its.length = dvs.length →
      ∃ k, bindArgs (PySem.W.fnOf x x (defArgs st) (defBody st) (defScope st) (.ref T) kV doc pm an cdv ct) ⟨us, []⟩ = seqItems? (.ref T) >>= k ∧ k (some its.toArray) = pure (ps.zip (us ++ its.drop j)))
    (h : ∀ f fd, FunD K x x (defArgs st) (defBody st) (defScope st) dvs [] f fd → FnOk P w K mg base (L2.CX P w) k f fd ps sp) : KnownX P w K mg base x k sp ps.length (dvs.drop j) := by
  obtain ⟨f, fd, F, hm⟩ := S
  obtain ⟨ds, r, b⟩ := F.binds1 n j hd hn hb
  exact ⟨f, fd, ps, ds, hm, F.kp, b, r, rfl, h f fd F⟩
end
/-! ### try -/
section
variable {K : PySem.W.Frag} {B0 : Hp} {ρ ρ' : List Sd} {te ta tt : TE} {t : TA} {G : List Da → Da → Prop} {R : List Da → Addr → Prop} {ds : List Da} {d : Da} {P : Po} {C D a : Addr} {i : Nat} {c : Value}
theorem Sta.setNo {H : Hp} {ρ : List Sd} {σ : L2.St} (h : Sta K B0 ρ σ H) (hi : i < ρ.length) : Sta K B0 (ρ.set i no) (σ.set i none) H := by
  obtain ⟨B, F, e1, e2, sl, nd⟩ := h
  have s2 : Sta K B0 (no :: ρ) (none :: σ) H := ⟨B, F, e1, e2, Slots.cons (F := []) (G := F) .no sl, nd⟩
  exact s2.put hi
theorem Sta.noneF {H : Hp} {φ ρ : List Sd} {τ σ : L2.St} (l : φ.length = τ.length) (h : Sta K B0 (φ ++ ρ) (τ ++ σ) H) : Sta K B0 (φ ++ ρ.set i no) (τ ++ σ.set i none) H := by
  by_cases hi : i < ρ.length
  · have := Sta.setNo (i := φ.length + i) h (by rw [List.length_append]; omega)
    rw [set_app rfl, l, set_app rfl] at this
    exact this
  · have hs : σ.length = ρ.length := by
      have := Sta.length h
      rw [List.length_append, List.length_append] at this
      omega
    rw [List.set_eq_of_length_le (by omega), List.set_eq_of_length_le (by omega)]
    exact h
/-- the body raises C, the slots as they were -/
def Thrown (K : PySem.W.Frag) (B0 : Hp) (tb : WX → TS) (ρ : List Sd) (C : Addr) : Prop := ∀ (W : WX) (φ : List Sd) (τ σ : L2.St) (D : Ends) H, φ.length = τ.length → Sta K B0 (φ ++ ρ) (τ ++ σ) H →
  (∀ H', Sta K B0 (φ ++ ρ) (τ ++ σ) H' → W (.ref C) none σ H') → tb W D σ H
theorem thrown_drop (h : EvA K t ρ ds) (r : R ds C) : Thrown K B0 (fun W => tDrop (tCallS (spX K G R) (WE W) t)) ρ C := fun W φ τ σ D H l s hW =>
  h σ H _ (Rs.f l s) fun vs H1 e sv => ⟨ds, sv, .inr ⟨C, r, fun H' e2 => hW H' (s.ex (e.trans e2))⟩⟩
theorem thrown_asg {g : TG} (h : EvA K t ρ ds) (r : R ds C) : Thrown K B0 (fun W => tAsg (tCallS (spX K G R) (WE W) t) g) ρ C := fun W φ τ σ D H l s hW =>
  h σ H _ (Rs.f l s) fun vs H1 e sv => ⟨ds, sv, .inr ⟨C, r, fun H' e2 => hW H' (s.ex (e.trans e2))⟩⟩
theorem j_try_as {tb : WX → TS} {ts : Addr → Value → Option Addr → TS} {Wout : WX} (hb : Thrown K B0 tb ρ C) (he : PySem.W.exmOne K (.ref C) c = some true) (hi : i < ρ.length)
    (hs : ∀ a, J K B0 (ts a (.ref C) none) (ρ.set i (ow (.obj a))) { nx := fun r => P.nx (r.set i no), rt := P.rt, bk := fun r => P.bk (r.set i no), ct := fun r => P.ct (r.set i no) }) :
    J K B0 (fun D σ H => tb (wAs K c i ts Wout D) D σ H) ρ P := fun φ τ D σ H l n r bk ct s =>
  hb _ φ τ σ D H l s fun H' s' => ⟨true, he, fun _ a ha => by
    have s2 := Sta.push s' (Ex.refl H') (Own.obj a) (fun _ z => nomatch z) List.nodup_nil
    have s3 := s2.putF l hi
    exact hs a φ τ _ _ H' l (fun ρ' σ' H2 q z => n _ _ _ q (Sta.noneF l z)) (fun d v H2 q z => r d v H2 q z) (fun ρ' σ' H2 q z => bk _ _ _ q (Sta.noneF l z)) (fun ρ' σ' H2 q z => ct _ _ _ q (Sta.noneF l z)) s3, fun z => Bool.noConfusion z⟩
theorem j_try_thru {tb : WX → TS} {ts : Addr → Value → Option Addr → TS} {Wout : WX} (h : ∀ W, J K B0 (tb W) ρ P) : J K B0 (fun D σ H => tb (wAs K c i ts Wout D) D σ H) ρ P := fun φ τ D σ H l n r bk ct s => h _ φ τ D σ H l n r bk ct s
theorem pss_given {X : Cx} {b : List Stmt} {p : Prop} {ts : TS} (h : p → PSs X b ts) : PSs X b (fun D σ H => p ∧ ts D σ H) := ⟨fun pins s σ H D I q => (h q.1).run pins s σ H D I q.2⟩
theorem j_given {p : Prop} {ts : TS} (hp : p) (h : J K B0 ts ρ P) : J K B0 (fun D σ H => p ∧ ts D σ H) ρ P := fun φ τ D σ H l n r bk ct s => ⟨hp, h φ τ D σ H l n r bk ct s⟩
theorem ev_obj : EvB K (tC (.ref a)) ρ (.obj a) := fun σ H Q _ q => q _ H (Ex.refl H) (.obj a)
/-- isinstance(e, T) -/
theorem ev_isE {cv : V} {cu : Value} {b : Bool} (he : EvB K te ρ (.obj a)) (hc : ∀ u, RelV cv u → u = cu) (hk : PySem.W.kitOne K (.ref D) cu = some b) : EvB K (tCB (rIsE K D a) (tCons te (tCons (tC cv) tNil))) ρ (.bl b) := fun σ H Q rs q =>
  he σ H _ rs fun v H1 e s => ⟨cv, cu, b, by rw [s.obj_inv], hc, hk, q _ H1 e (.bl b)⟩
def rIsEt (K : PySem.W.Frag) (D a : Addr) : List V → Hp → VK → Prop := fun xs H Q => ∃ (tp : Addr) (cs : List V) (b : Bool), xs = [.ref a, .ref tp] ∧ H tp = some (.tup cs) ∧ (∀ us, Vals cs us → PySem.W.kitAny K (.ref D) us = some b) ∧ Q (.bl b) H
theorem call_isEt {X : Cx} {a D : Addr} {oe : Obj} {pn : List (Addr × Obj)} (C : ExcC X.K D) (hz : Zc (.ref D) none oe) (hf : ∃ vs, oe.data = .fields vs) : CallR (X.suite a ((a, oe) :: pn)) (.builtin "isinstance") (rIsEt X.K D a) := by
  intro pins s σ H xs us Q I r h
  obtain ⟨tp, cs, b, rfl, htp, e, q⟩ := h
  cases r with
  | cons rx rr =>
    cases rr with
    | cons rt rr =>
      cases rr
      cases rx
      cases rt
      obtain ⟨hget, _⟩ := I.pin (a, oe) (List.mem_append.mpr (.inl List.mem_cons_self))
      obtain ⟨vs, hv⟩ := hf
      have J : PySem.W.InstAt s.heap a oe D none := by
        obtain ⟨oc, od, oda, osl⟩ := oe
        obtain ⟨h1, h2⟩ := hz
        dsimp only at h1 h2 hv
        subst h1 h2 hv
        exact ⟨hget, rfl, rfl, trivial⟩
      obtain ⟨hz2, its, rv, o, ho, hc2, n, hd2⟩ := I.hok tp _ htp
      obtain ⟨oc, od, oda, osl⟩ := o
      dsimp only at hc2 hd2
      subst hc2 hd2
      exact PySem.W.kia_tup (its := its) (PySem.W.handS_kitx_exc C.hg C.hk C.hs C.hd C.ha C.hn C.ht C.hm) I.kIn J ho (e its rv) (fun z => nomatch z) fun tk => ⟨.bl b, H, I.kept (t' := tk) fun _ _ z => z, rfl, q⟩
theorem ev_isEt {b : Bool} {Ts : List Addr} (he : EvB K te ρ (.obj a)) (ht : EvB K tt ρ (.tup (Ts.map Da.obj))) (hk : PySem.W.kitAny K (.ref D) (Ts.map Value.ref) = some b) : EvB K (tCB (rIsEt K D a) (tCons te (tCons tt tNil))) ρ (.bl b) := fun σ H Q rs q =>
  he σ H _ rs fun v H1 e s => ht σ H1 _ (rs.mono e) fun v2 H2 e2 s2 => by
    obtain ⟨tp, xs, rfl, h1, h2⟩ := s2.tup_inv2
    refine ⟨tp, xs, b, by rw [s.obj_inv], h1, fun us r => ?_, q _ H2 (e.trans e2) (.bl b)⟩
    have ex : ∀ (Ts : List Addr) (xs : List V) (us : List Value), Shs K H2 xs (Ts.map Da.obj) → Vals xs us → us = Ts.map Value.ref := by
      intro Ts
      induction Ts with
      | nil => intro xs us s r; cases s; cases r; rfl
      | cons T Ts ih =>
        intro xs us s r
        cases s with
        | cons s1 s2 =>
          cases r with
          | cons r1 r2 =>
            rw [s1.obj_inv] at r1
            rw [ih _ _ s2 r2, List.map_cons]
            congr 1
    rw [ex Ts xs us h2 r]
    exact hk
end
theorem zc_of {cls c' : Value} {d d' : Option Addr} {oe : Obj} (hz : Zc cls d oe) (hp : cls = c' ∧ d = d') : Zc c' d' oe := by
  obtain ⟨rfl, rfl⟩ := hp
  exact hz
section
variable {K : PySem.W.Frag} {mg : Str → Option Value} {h : Heap} {x : Str} {C : Addr}
theorem cls_use {R : Prop} (X : K.In h) (G : h.Ns mainGlobals mg) (next : mg x = some (.ref C) → R) (a1 : PySem.W.nsIn K mainGlobals x = some (some (.ref C))) : R := next (PySem.W.mg_of X G a1)
theorem ex0_use {R : Prop} (X : K.In h) (G : h.Ns mainGlobals mg) (next : Ex0 K mg x C → R) (a1 : PySem.W.nsIn K mainGlobals x = some (some (.ref C))) (k : PySem.W.keepIn K (.ref C) = true) (e : PySem.W.excIn K C PySem.HandSPX.veTail "ValueError.__new__" = true)
    (s : PySem.W.subIn K (.ref C) (.type "BaseException") = some true) (t : PySem.W.typeIn K (.ref C) = some (.type "type"))
    (i1 : PySem.W.findIn K (.ref C) "__getattribute__" = some (some (.builtin "BaseException.__getattribute__"))) (i2 : PySem.W.findIn K (.ref C) "__getattr__" = some none)
    (i4 : PySem.W.hasDictIn K C = true) (i5 : PySem.W.findIn K (.ref C) "__class__" = some (some (.builtin "object.__class__")))
    (i6 : PySem.W.specialIn K (.builtin "object.__class__") "__get__" = some (some (.builtin "getset_descriptor.__get__"))) (i7 : PySem.W.takesIn K (.builtin "object.__class__") = some true) (i8 : PySem.W.mroIn K C (.type "object") = some true) : R :=
  next ⟨PySem.W.mg_of X G a1, k, e, s, t, ⟨i1, i2, s, i4, i5, i6, i7, i8⟩⟩
end
/-! ### a row of ints, a list or a tuple -/
def eSq (p : Bool × List Int) : Da := if p.1 = true then .tup (p.2.map Da.int) else .lst (p.2.map Da.int)
def iSeqA (K : PySem.W.Frag) (tl : TE) : TI := fun σ H R => tl σ H fun x H1 => ∃ a, x = .ref a ∧ (((∃ xs, SqL K H1 a xs) ∧ R (Itl K a) H1) ∨ ((∃ xs, SqT K H1 a xs) ∧ R (Itt K a) H1))
section
open PySem PySem.Spec PyProof.Rows
variable {X : Cx} {tg : Expr}
theorem pi_seqA {l : Expr} {tl : TE} (hl : PE X l tl) : PI X tg l (iSeqA X.K tl) := by
  refine ⟨fun ps u σ H R I q => ?_⟩
  refine thn (hl.run ps u σ H _ I q) fun v u1 ⟨x, H1, I1, r1, a, e, hq⟩ => ?_
  subst e
  cases r1
  have fp : ∀ b, b ∈ [u1.heap.objs.size] → _ := fun b hb => (show b = u1.heap.objs.size by simpa using hb) ▸ I1.fpOk (Nat.le_refl _) (I1.hok.fresh (Nat.le_refl _))
  rcases hq with ⟨⟨xs, hq⟩, q⟩ | ⟨⟨xs, hq⟩, q⟩
  · obtain ⟨its, rv, w, hz⟩ := I1.list hq
    exact wpAny_pyIter_list w.isList ⟨u1.heap.objs.size, [u1.heap.objs.size], _, _, H1, rfl, I1.kept (t' := u1.toks) fun b o z => Heap.get?_push_of_some _ z, turn_list a _, ⟨_, Heap.get?_push_size _ rfl, rfl, rfl⟩, fp, q⟩
  · obtain ⟨its, rv, w, hz⟩ := I1.tuple hq
    exact wpAny_pyIter_tuple (show u1.heap.IsTuple a its.toArray from w) ⟨u1.heap.objs.size, [u1.heap.objs.size], _, _, H1, rfl, I1.kept (t' := u1.toks) fun b o z => Heap.get?_push_of_some _ z, turn_tuple a _, ⟨_, Heap.get?_push_size _ rfl, rfl, rfl⟩, fp, q⟩
end
section
variable {K : PySem.W.Frag} {B0 B H H' : Hp} {ρ ρ1 : List Sd} {σ : L2.St} {tl : TE} {k : Nat} {p : Bool × List Int}
theorem wkE_seqA (h : EvB K tl ρ (eSq p)) : WkE K (iSeqA K tl) (gName k) [k] ρ p.2 (fun x => [Da.int x]) := fun σ H R rs q => h σ H _ rs fun v H1 e1 s => by
  obtain ⟨b, xs⟩ := p
  cases b with
  | false =>
    obtain ⟨a, vs, rfl, h1, h2⟩ := Sh.lst_inv (ds := xs.map Da.int) s
    exact ⟨a, rfl, .inl ⟨⟨vs, .inl h1⟩, q _ _ e1 fun H' e' => core_list (.inl (ex_rd e' h1)) (h2.mono e') (Ex.refl _) (fun _ => tg_name)⟩⟩
  | true =>
    obtain ⟨a, vs, rfl, h1, h2⟩ := Sh.tup_inv (ds := xs.map Da.int) s
    exact ⟨a, rfl, .inr ⟨⟨vs, h1⟩, q _ _ e1 fun H' e' => core_tup (ex_t e' h1) (h2.mono e') (Ex.refl _) (fun _ => tg_name)⟩⟩
theorem wkS_seqA (h : EvS K B0 tl ρ (eSq p) ρ1) : WkS K B0 (iSeqA K tl) (gName k) [k] ρ ρ1 p.2 (fun x => [Da.int x]) := fun φ τ σ H R l s q => h φ τ σ H _ l s fun v H1 e1 z => by
  obtain ⟨B, F, b1, b2, sl, nd⟩ := id z
  obtain ⟨b, xs⟩ := p
  cases b with
  | false =>
    obtain ⟨a, vs, rfl, h1, h2⟩ := Sh.lst_inv (ds := xs.map Da.int) (Sta.shFront sl)
    refine ⟨a, rfl, .inl ⟨⟨vs, .inl (ex_rd b2 h1)⟩, q _ _ [_] [_] rfl e1 z fun B H' F r s sl eb => ?_⟩⟩
    obtain ⟨a', vs, ea, h1, h2⟩ := Sh.lst_inv (ds := xs.map Da.int) (Sta.shFront sl)
    cases ea
    exact core_list (.inl (ex_rd eb h1)) h2 eb (fun _ => tg_name)
  | true =>
    obtain ⟨a, vs, rfl, h1, h2⟩ := Sh.tup_inv (ds := xs.map Da.int) (Sta.shFront sl)
    refine ⟨a, rfl, .inr ⟨⟨vs, ex_t b2 h1⟩, q _ _ [_] [_] rfl e1 z fun B H' F r s sl eb => ?_⟩⟩
    obtain ⟨a', vs, ea, h1, h2⟩ := Sh.tup_inv (ds := xs.map Da.int) (Sta.shFront sl)
    cases ea
    exact core_tup (ex_t eb h1) h2 eb (fun _ => tg_name)
end
abbrev kOf {K : PySem.W.Frag} {h : Heap} (_ : K.In h) : PySem.W.Frag := K
end Fw

set_option Elab.async false
set_option linter.all false
set_option maxRecDepth 100000
set_option maxHeartbeats 4000000
/-! texts and dicts, further: get, sorted, copies, == of dicts; texts joined, cut, added -/
namespace Fw
open PySem L2
section
variable {K : PySem.W.Frag} {B0 H : Hp} {ρ : List Sd} {te ta tb td ty tx tl : TE} {tlo thi : TO} {i : Int} {a b z : Str} {lo hi : Option Int}
abbrev rAddS : R2 := fun x y H Q => ∃ i j, x = .str i ∧ y = .str j ∧ i.length + j.length ≤ PySem.sizeLine ∧ Q (.str (i ++ j)) H
theorem ev_addS (ha : EvB K ta ρ (.str a)) (hb : EvB K tb ρ (.str b)) (hl : a.length + b.length ≤ 1000000) : EvB K (tOp rAddS ta tb) ρ (.str (a ++ b)) :=
  ev_2 ha hb fun x y H Q s1 s2 q => ⟨a, b, s1.str_inv, s2.str_inv, Nat.le_trans hl (by decide), q _ H (Ex.refl H) (.str _)⟩
theorem ev_slS (h : EvB K te ρ (.str z)) (hl : EvO K tlo ρ lo) (hh : EvO K thi ρ hi) (hz : z.length ≤ 1000000) : EvB K (tSl rSlS te tlo thi) ρ (.str (cutS z lo hi)) := fun σ H Q rs q =>
  h σ H _ rs fun v H1 e1 s => hl σ H1 _ (rs.mono e1) fun H2 e2 => hh σ H2 _ (rs.mono (e1.trans e2)) fun H3 e3 =>
    ⟨z, s.str_inv, Nat.le_trans hz (by decide), q _ H3 ((e1.trans e2).trans e3) (.str _)⟩
/-- z[i] -/
theorem ev_ixSD (ha : EvB K ta ρ (.str z)) (hb : EvB K tb ρ (.int i)) (hl : z.length ≤ 1000000) (h0 : 0 ≤ i) (h1 : i < z.length) : EvB K (tOp (rIx K) ta tb) ρ (.str ⟨#[z.cps.toList.getD i.toNat 0]⟩) :=
  ev_ixS ha hb (Nat.le_trans hl (by decide)) (atI_nat' (k := i.toNat) (by omega) (getD_some 0 (by
    have : z.cps.toList.length = z.length := by simp [Str.length]
    omega)))
abbrev rJoin (K : PySem.W.Frag) : V → List V → Hp → VK → Prop := fun x xs H Q => ∃ a p, ∃ ys : List Str, x = .str a ∧ xs = [.ref p] ∧ (SqL K H p (ys.map V.str) ∨ SqT K H p (ys.map V.str)) ∧ (ys.map (·.length)).sum + ys.length * a.length ≤ 16777216 ∧ Q (.str (PySem.Txt.join a ys)) H
theorem ev_join {ys : List Str} (h : EvB K te ρ (.str a)) (hb : EvB K ta ρ (.lst (ys.map Da.str))) (hl : (ys.map (·.length)).sum + ys.length * a.length ≤ 1000000) : EvB K (tBM K "str" (rJoin K) te (tCons ta tNil)) ρ (.str (PySem.Txt.join a ys)) := fun σ H Q rs q =>
  h σ H _ rs fun v H1 e1 s1 => by
    have := s1.str_inv
    subst this
    refine ⟨rfl, hb σ H1 _ (rs.mono e1) fun w H2 e2 s2 => ?_⟩
    obtain ⟨p, xs, rfl, g1, g2⟩ := s2.lst_inv
    have := shs_strV g2
    subst this
    exact ⟨a, p, ys, rfl, rfl, .inl (.inl g1), by omega, q _ H2 (e1.trans e2) (.str _)⟩
end
section
variable {κ β : Type} [DecidableEq κ] {K : PySem.W.Frag} {B0 H : Hp} {ρ : List Sd} {te ta tb td ty tx : TE} {t : Bool} {ek : κ → Da} {ev : β → Da} {l : List (κ × β)} {x : κ} {v : β}
/-- d.get(x, z), plain keys -/
theorem ev_dget2 (kk : KK false ek) (hd : EvB K td ρ (eD false ek ev l)) (hk : EvB K ty ρ (ek x)) (hz : EvB K tx ρ (ev v)) : EvB K (tDGet2 td ty tx) ρ (ev ((look l x).getD v)) := fun σ H Q rs q =>
  hd σ H _ rs fun w H1 e1 s1 => by
    obtain ⟨a, xs, rfl, d1, _⟩ := id s1.dic_inv
    have isd : IsD H1 a := by
      rcases d1 with ⟨_, kvs, h, _⟩ | ⟨z, _⟩
      · exact .inl ⟨kvs, .inl h⟩
      · cases z
    refine ⟨a, rfl, isd, hk σ H1 _ (rs.mono e1) fun y H2 e2 s2 => hz σ H2 _ (rs.mono (e1.trans e2)) fun z H3 e3 s3 => ?_⟩
    obtain ⟨a', ea, g, g2⟩ := gget_of kk (s1.mono (e2.trans e3)) (s2.mono e3)
    cases ea
    have dk : ∀ o, GGet H3 a y o → DGet H3 a y o := fun o g => by
      rcases g with g | ⟨kvs, k, b, h, _⟩
      · exact g
      · obtain ⟨a2, xs2, e, d3, _⟩ := (s1.mono (e2.trans e3)).dic_inv
        cases e
        rcases d3 with ⟨_, kvs2, h2, _⟩ | ⟨z, _⟩
        · rw [h] at h2; exact nomatch h2
        · cases z
    cases hl : look l x with
    | none => rw [hl] at q; exact ⟨none, dk _ (g2 hl), q _ H3 ((e1.trans e2).trans e3) s3⟩
    | some w =>
      obtain ⟨z', z1, z2⟩ := g w hl
      rw [hl] at q
      exact ⟨some z', dk _ z1, q _ H3 ((e1.trans e2).trans e3) z2⟩
end
/-! texts in their order -/
def leS (a b : Str) : Bool := !PySem.Spec.ltCps b.cps.toList a.cps.toList
def sortS (xs : List Str) : List Str := xs.mergeSort leS
theorem leS_iff {a b : Str} : leS a b = true ↔ a.cps.toList ≤ b.cps.toList := by
  unfold leS
  rw [PyProof.Rows.ltCps_eq, Bool.not_eq_true', decide_eq_false_iff_not]
  exact Iff.rfl
theorem leS_trans (a b c : Str) (h : leS a b = true) (g : leS b c = true) : leS a c = true := leS_iff.mpr (List.le_trans (leS_iff.mp h) (leS_iff.mp g))
theorem leS_total (a b : Str) : (leS a b || leS b a) = true := by
  rw [Bool.or_eq_true, leS_iff, leS_iff]
  exact List.le_total _ _
theorem leS_anti {a b : Str} (h : leS a b = true) (g : leS b a = true) : a = b := by
  have e := List.le_antisymm (leS_iff.mp h) (leS_iff.mp g)
  cases a; cases b
  simp only [Str.mk.injEq]
  exact Array.toList_inj.mp e
theorem rising_pw : ∀ (p : Str) (l : List Str), PyProof.Rows.risingS p l = true → (p :: l).Pairwise (fun a b => leS a b = true)
  | p, [], _ => List.pairwise_singleton _ _
  | p, x :: l, h => by
    have h' : (leS p x && PyProof.Rows.risingS x l) = true := h
    rw [Bool.and_eq_true] at h'
    have ih := rising_pw x l h'.2
    rw [List.pairwise_cons]
    refine ⟨fun y hy => ?_, ih⟩
    rcases List.mem_cons.mp hy with rfl | hy
    · exact h'.1
    · exact leS_trans _ _ _ h'.1 ((List.pairwise_cons.mp ih).1 y hy)
theorem sorted_pw : ∀ {l : List Str}, PyProof.Rows.sortedS l = true → l.Pairwise (fun a b => leS a b = true)
  | [], _ => List.Pairwise.nil
  | x :: l, h => rising_pw x l h
theorem sortS_perm (xs : List Str) : (sortS xs).Perm xs := List.mergeSort_perm xs leS
theorem sort_uniq {ys xs : List Str} (h : ys.Perm xs) (s : PyProof.Rows.sortedS ys = true) : ys = sortS xs :=
  List.Perm.eq_of_pairwise (le := fun a b => leS a b = true) (fun a b _ _ h g => leS_anti h g) (sorted_pw s) (List.pairwise_mergeSort leS_trans leS_total xs) (h.trans (sortS_perm xs).symm)
section
variable {β : Type} {K : PySem.W.Frag} {B0 H : Hp} {ρ : List Sd} {te ta tb td ty tx : TE} {ev : β → Da} {l : List (Str × β)}
abbrev rSortD : List V → Hp → VK → Prop := fun xs H Q => ∃ (a : Addr) (kvs : List (Key × V)) (ks : List Str), xs = [.ref a] ∧ Rd H a (.dK kvs) ∧ kvs.map (·.1) = ks.map Sum.inr ∧ ks.length < 64 ∧
    ∀ ys p, ys.Perm ks → PyProof.Rows.sortedS ys = true → H p = none → Q (.ref p) (upd H p (.lst (ys.map V.str)))
/-- sorted(d): some list of its keys in their order; what is wanted must hold of each -/
theorem ef_sortD {c : List Str} (h : EvB K te ρ (eD false Da.str ev l)) (hl : l.length < 64) (hc : ∀ ys : List Str, ys.Perm (l.map (·.1)) → PyProof.Rows.sortedS ys = true → ys = c) : EvF K (tCB rSortD (tCons te tNil)) ρ (.lst (c.map Da.str)) := fun σ H Q rs q =>
  h σ H _ rs fun v H1 e s => by
    obtain ⟨a, xs, rfl, h1, h2⟩ := s.dic_inv
    rcases h1 with ⟨_, kvs, h1, hk, hx⟩ | ⟨z, _⟩
    · have hkeys : kvs.map (·.1) = (l.map (·.1)).map Sum.inr := by
        have : ∀ (kvs : List (Key × V)) (l : List (Str × β)), l.map (fun p => Da.str p.1) = kvs.map (fun p => keyD p.1) → kvs.map (·.1) = (l.map (·.1)).map Sum.inr := by
          intro kvs
          induction kvs with
          | nil => intro l h; cases l with | nil => rfl | cons _ _ => cases h
          | cons k kvs ih =>
            intro l h
            cases l with
            | nil => cases h
            | cons p l =>
              have h' := List.cons.inj h
              have e1 : k.1 = Sum.inr p.1 := (keyD_inj (b := Sum.inr p.1) h'.1.symm)
              simp only [List.map_cons]
              rw [e1, ih l h'.2]
        exact this kvs l hk
      refine ⟨a, kvs, l.map (·.1), rfl, .inl h1, hkeys, by rw [List.length_map]; exact hl, fun ys p hp hs hn => ?_⟩
      have := hc ys hp hs
      subst this
      exact q _ _ [p] (e.trans (.new hn)) (own_lst (shs_strs ys) (imms_map _ (fun _ => rfl) _) hn) (fun a m => e.back (one_none hn a m)) nodup_one
    · cases z
end
section
variable {κ β : Type} [DecidableEq κ] {K : PySem.W.Frag} {B0 H : Hp} {ρ : List Sd} {te ta tb td ty tx : TE} {ek : κ → Da} {ev : β → Da} {l : List (κ × β)}
abbrev rDictOf : List V → Hp → VK → Prop := fun xs H Q => ∃ (a : Addr) (kvs : List (Key × V)), xs = [.ref a] ∧ Rd H a (.dK kvs) ∧ ∀ p, H p = none → Q (.ref p) (upd H p (.dK kvs))
theorem call_dictOf {X : Cx} : CallR X (.type "dict") rDictOf := by
  intro ps u σ H xs us Q I r h
  obtain ⟨a, kvs, rfl, hd, q⟩ := h
  rw [Vals.ref1 r]
  exact d_copyOf I hd fun p u2 hn I2 => ⟨.ref p, _, I2, rfl, q p hn⟩
theorem ef_dictOf (h : EvB K te ρ (eD false ek ev l)) (im : ∀ y, (ev y).imm = true) : EvF K (tCB rDictOf (tCons te tNil)) ρ (eD false ek ev l) := fun σ H Q rs q =>
  h σ H _ rs fun v H1 e s => by
    obtain ⟨a, xs, rfl, h1, h2⟩ := s.dic_inv
    rcases h1 with ⟨_, kvs, h1, hk, rfl⟩ | ⟨z, _⟩
    · refine ⟨a, kvs, rfl, .inl h1, fun p hn => q _ _ [p] (e.trans (.new hn)) (.dic (.inl ⟨rfl, kvs, upd_same, hk, rfl⟩) ?_) (fun a m => e.back (one_none hn a m)) nodup_one⟩
      exact ((h2.own (imms_put im)).upd (noTup_new hn) (fun m => nomatch m))
    · cases z
def isFlat : Da → Bool
  | .int _ => true
  | .str _ => true
  | .bl _ => true
  | .non => true
  | _ => false
/-- flat data stands for one value -/
theorem flat_val {d : Da} {v w : V} (h : Sh K H v d) (g : Sh K H w d) (f : isFlat d = true) : v = w ∧ flatB v = true := by
  cases d with
  | int i => rw [h.int_inv, g.int_inv]; exact ⟨rfl, rfl⟩
  | str i => rw [h.str_inv, g.str_inv]; exact ⟨rfl, rfl⟩
  | bl i => rw [h.bl_inv, g.bl_inv]; exact ⟨rfl, rfl⟩
  | non => rw [h.non_inv, g.non_inv]; exact ⟨rfl, rfl⟩
  | tup _ => cases f
  | lst _ => cases f
  | dic _ _ _ => cases f
  | scr _ => cases f
  | obj _ => cases f
  | ptr _ _ => cases f
  | fn _ => cases f
theorem dict_same (hf : ∀ y, isFlat (ev y) = true) {v w : V} (s1 : Sh K H v (eD false ek ev l)) (s2 : Sh K H w (eD false ek ev l)) (nd : (l.map (·.1)).Nodup) {kf : κ → Key} (he : ∀ x, ek x = keyD (kf x)) (inj : ∀ x y, kf x = kf y → x = y) :
    ∃ a b ks, v = .ref a ∧ w = .ref b ∧ H a = some (.dK ks) ∧ H b = some (.dK ks) ∧ ∀ p ∈ ks, valV ks p.1 = some p.2 ∧ flatB p.2 = true := by
  obtain ⟨a, xs, rfl, h1, h2⟩ := s1.dic_inv
  obtain ⟨b, ys, rfl, h3, h4⟩ := s2.dic_inv
  rcases h1 with ⟨_, ks, h1, k1, rfl⟩ | ⟨z, _⟩
  · rcases h3 with ⟨_, ks', h3, k2, rfl⟩ | ⟨z, _⟩
    · have key : ∀ (l : List (κ × β)) (ks ks' : List (Key × V)), l.map (fun p => ek p.1) = ks.map (fun p => keyD p.1) → l.map (fun p => ek p.1) = ks'.map (fun p => keyD p.1) → Shs K H (ks.map (·.2)) (l.map fun p => ev p.2) → Shs K H (ks'.map (·.2)) (l.map fun p => ev p.2) →
          ks = ks' ∧ ∀ p ∈ ks, flatB p.2 = true := by
        intro l
        induction l with
        | nil =>
          intro ks ks' a b _ _
          cases ks with
          | nil => cases ks' with
            | nil => exact ⟨rfl, fun _ h => nomatch h⟩
            | cons _ _ => cases b
          | cons _ _ => cases a
        | cons p l ih =>
          intro ks ks' a b c d
          cases ks with
          | nil => cases a
          | cons q ks =>
            cases ks' with
            | nil => cases b
            | cons q' ks' =>
              have a' := List.cons.inj a
              have b' := List.cons.inj b
              cases c with
              | cons c1 c2 =>
                cases d with
                | cons d1 d2 =>
                  obtain ⟨i1, i2⟩ := ih ks ks' a'.2 b'.2 c2 d2
                  obtain ⟨j1, j2⟩ := flat_val c1 d1 (hf _)
                  have e1 : q.1 = q'.1 := keyD_inj (a'.1.symm.trans b'.1)
                  refine ⟨by rw [i1, show q = q' from Prod.ext e1 j1], fun r hr => ?_⟩
                  rcases List.mem_cons.mp hr with rfl | hr
                  · exact j2
                  · exact i2 r hr
      obtain ⟨e1, e2⟩ := key l ks ks' k1 k2 h2 h4
      subst e1
      refine ⟨a, b, ks, rfl, rfl, h1, h3, fun p hp => ⟨?_, e2 p hp⟩⟩
      have hnd : (ks.map (·.1)).Nodup := by
        have e3 : (ks.map (·.1)) = (l.map (·.1)).map kf := by
          have : ∀ (l : List (κ × β)) (ks : List (Key × V)), l.map (fun p => ek p.1) = ks.map (fun p => keyD p.1) → ks.map (·.1) = (l.map (·.1)).map kf := by
            intro l
            induction l with
            | nil => intro ks h; cases ks with | nil => rfl | cons _ _ => cases h
            | cons p l ih =>
              intro ks h
              cases ks with
              | nil => cases h
              | cons q ks =>
                have h' := List.cons.inj h
                simp only [List.map_cons]
                rw [ih ks h'.2, ← keyD_inj ((he p.1).symm.trans h'.1)]
          exact this l ks k1
        rw [e3]
        exact List.Pairwise.map _ (fun x y hxy e => hxy (inj x y e)) nd
      have find : ∀ ks : List (Key × V), (ks.map (·.1)).Nodup → ∀ p ∈ ks, valV ks p.1 = some p.2 := by
        intro ks
        induction ks with
        | nil => intro _ p h; cases h
        | cons q ks ih =>
          intro h p hp
          have h' := List.nodup_cons.mp (show (q.1 :: ks.map (·.1)).Nodup from h)
          rcases List.mem_cons.mp hp with rfl | hp
          · exact valV_pos rfl
          · rw [valV_neg (fun e => h'.1 (by rw [e]; exact List.mem_map.mpr ⟨p, hp, rfl⟩))]
            exact ih h'.2 p hp
      exact find ks hnd p hp
    · cases z
  · cases z
theorem ev_neDict (hf : ∀ y, isFlat (ev y) = true) (h1 : EvB K ta ρ (eD false ek ev l)) (h2 : EvB K tb ρ (eD false ek ev l)) (nd : (l.map (·.1)).Nodup) {kf : κ → Key} (he : ∀ x, ek x = keyD (kf x)) (inj : ∀ x y, kf x = kf y → x = y) : EvB K (tOp rNeDA ta tb) ρ (.bl false) :=
  ev_2 h1 h2 fun x y H Q s1 s2 q => by
    obtain ⟨a, b, ks, rfl, rfl, g1, g2, g3⟩ := dict_same hf s1 s2 nd he inj
    exact ⟨a, b, ks, ks, rfl, rfl, g1, g2, rfl, g3, q _ H (Ex.refl H) (.bl _)⟩
theorem ev_eqDict (hf : ∀ y, isFlat (ev y) = true) (h1 : EvB K ta ρ (eD false ek ev l)) (h2 : EvB K tb ρ (eD false ek ev l)) (nd : (l.map (·.1)).Nodup) {kf : κ → Key} (he : ∀ x, ek x = keyD (kf x)) (inj : ∀ x y, kf x = kf y → x = y) : EvB K (tOp rEqDA ta tb) ρ (.bl true) :=
  ev_2 h1 h2 fun x y H Q s1 s2 q => by
    obtain ⟨a, b, ks, rfl, rfl, g1, g2, g3⟩ := dict_same hf s1 s2 nd he inj
    exact ⟨a, b, ks, ks, rfl, rfl, g1, g2, rfl, g3, q _ H (Ex.refl H) (.bl _)⟩
end
theorem ev_lenS1 {K : PySem.W.Frag} {ρ : List Sd} {t : TE} {z : Str} (h : EvB K t ρ (.str z)) (hl : z.length ≤ 1000000) : EvB K (tCB (rLenV K) (tCons t tNil)) ρ (.int z.length) := ev_lenS h (Nat.le_trans hl (by decide))
theorem ef_sortDS {β : Type} {K : PySem.W.Frag} {ρ : List Sd} {te : TE} {ev : β → Da} {l : List (Str × β)} (h : EvB K te ρ (eD false Da.str ev l)) (hl : l.length < 64) : EvF K (tCB rSortD (tCons te tNil)) ρ (.lst ((sortS (l.map (·.1))).map Da.str)) := ef_sortD h hl fun ys hp hs => sort_uniq hp hs
theorem shs_flat {α : Type} {K : PySem.W.Frag} {H : Hp} {e : α → Da} (hf : ∀ y, isFlat (e y) = true) : ∀ {xs : List α} {vs ws : List V}, Shs K H vs (xs.map e) → Shs K H ws (xs.map e) → Paired (EqV K H 1) vs ws
  | [], _, _, .nil, .nil => .nil
  | x :: xs, _, _, .cons a b, .cons c d => .cons (.inl (flat_val a c (hf x))) (shs_flat hf b d)
theorem ev_eqLst {α : Type} {K : PySem.W.Frag} {ρ : List Sd} {ta tb : TE} {e : α → Da} {xs : List α} (hf : ∀ y, isFlat (e y) = true) (h1 : EvB K ta ρ (.lst (xs.map e))) (h2 : EvB K tb ρ (.lst (xs.map e))) : EvB K (tOp (rEqV K) ta tb) ρ (.bl true) :=
  ev_2 h1 h2 fun x y H Q s1 s2 q => by
    obtain ⟨a, vs, rfl, g1, g2⟩ := s1.lst_inv
    obtain ⟨b, ws, rfl, g3, g4⟩ := s2.lst_inv
    exact ⟨1, by decide, .inl ⟨a, b, vs, ws, rfl, rfl, .inl g1, .inl g3, shs_flat hf g2 g4⟩, q _ H (Ex.refl H) (.bl _)⟩
end Fw

set_option Elab.async false
set_option linter.all false
set_option maxRecDepth 100000
set_option maxHeartbeats 4000000
namespace Fw
open PySem L2
section
variable {K : PySem.W.Frag} {ρ : List Sd} {ta tb te : TE} {m n : Int}
theorem shs_rg {H : Hp} (a : Int) : ∀ k : Nat, Shs K H ((List.range k).map fun i => V.int (a + (i : Nat))) ((List.range k).map fun (i : Nat) => Da.int (a + (i : Nat)))
  | k => by
    generalize List.range k = l
    induction l with
    | nil => exact .nil
    | cons x l ih => exact .cons (.int _) ih
theorem ef_lstRg1 (ha : EvB K ta ρ (.int n)) (h0 : 0 ≤ n) (h1 : n ≤ 100000) : EvF K (tLstRg (tRg1 ta)) ρ (.lst ((List.range n.toNat).map fun (i : Nat) => Da.int (i : Nat))) := fun σ H Q rs q =>
  ha.int rs fun H1 e => ⟨n, rfl, RgOk.of_le (Int.le_refl _) (by omega) (by decide) h0, fun p hp => by
    refine q _ _ [p] (e.trans (.new hp)) (.lst upd_same (F := []) ?_) (fun x m => by rw [List.mem_singleton.mp m]; exact e.back hp) nodup_one
    have h := (shs_rg (K := K) (H := upd H1 p (.lst (rgV 0 n))) 0 (n - 0).toNat)
    have e1 : ((List.range (n - 0).toNat).map fun (i : Nat) => Da.int (0 + (i : Nat))) = (List.range n.toNat).map fun (i : Nat) => Da.int (i : Nat) := by
      rw [Int.sub_zero]; exact List.map_congr_left fun i _ => by rw [Int.zero_add]
    rw [e1] at h
    exact h.own (imms_map _ (fun _ => rfl) _)⟩
theorem ef_lstRg2 (ha : EvB K ta ρ (.int m)) (hb : EvB K tb ρ (.int n)) (h0 : 0 ≤ m) (h1 : n ≤ 100000) (h2 : m ≤ 100000) (h3 : 0 ≤ n) : EvF K (tLstRg (tRg2 ta tb)) ρ (.lst ((List.range (n - m).toNat).map fun (i : Nat) => Da.int (m + (i : Nat)))) := fun σ H Q rs q =>
  ha.int rs fun H1 e => hb.int (rs.mono e) fun H2 e2 => ⟨m, n, rfl, rfl, RgOk.of_le h0 (by omega) (by omega) h3, fun p hp => by
    refine q _ _ [p] ((e.trans e2).trans (.new hp)) (.lst upd_same (F := []) ((shs_rg m _).own (imms_map _ (fun _ => rfl) _))) (fun x m => by rw [List.mem_singleton.mp m]; exact (e.trans e2).back hp) nodup_one⟩
theorem ev_indexS {x : Str} {xs : List Str} (hb : EvB K te ρ (.lst (xs.map Da.str))) (ha : EvB K ta ρ (.str x)) (hx : x ∈ xs) : EvB K (tBM K "list" (rIndex K) te (tCons ta tNil)) ρ (.int (xs.idxOf x : Nat)) := fun σ H Q rs q =>
  hb σ H _ rs fun v H1 e1 s1 => by
    obtain ⟨a, ys, rfl, g1, g2⟩ := s1.lst_inv
    refine ⟨.inl ⟨rfl, ys, .inl g1⟩, ha σ H1 _ (rs.mono e1) fun w H2 e2 s2 => ?_⟩
    have hl : xs.idxOf x < xs.length := List.idxOf_lt_length_iff.mpr hx
    have ex : xs[xs.idxOf x] = x := List.getElem_idxOf hl
    have := shs_strV g2
    subst this
    rw [s2.str_inv]
    have hd : ∀ y : Str, eqV (.str y) (.str x) = decide (y = x) := fun y => by
      rw [Bool.eq_iff_iff, decide_eq_true_iff]
      constructor
      · intro h; first | exact of_decide_eq_true h | exact eq_of_beq h | simpa [eqV] using h
      · rintro rfl; first | exact decide_eq_true rfl | exact beq_self_eq_true _ | simp [eqV]
    refine ⟨a, _, .str x, xs.idxOf x, .str x, rfl, rfl, .inl (ex_rd e2 g1), rfl, flat_strs _, ?_, by rw [hd]; exact decide_eq_true rfl, fun k z hk hz => ?_, q _ H2 (e1.trans e2) (.int _)⟩
    · rw [List.getElem?_map, List.getElem?_eq_getElem hl, ex]; rfl
    · rw [List.getElem?_map] at hz
      have hk2 : k < xs.length := by omega
      rw [List.getElem?_eq_getElem hk2] at hz
      cases hz
      rw [hd]
      refine decide_eq_false fun e => ?_
      have := List.not_of_lt_findIdx (p := (· == x)) (xs := xs) hk
      simp [e] at this
end
end Fw

set_option Elab.async false
set_option linter.all false
set_option maxRecDepth 100000
set_option maxHeartbeats 4000000
/-! defs that may tell their own first argument -/
namespace Fw
open PySem L2
def spR (K : PySem.W.Frag) (G : List Da → Da → Prop) (R : List Da → Prop) : Sp := fun vs H Q E => ∃ ds, Shs K H vs ds ∧
  ((∃ d, G ds d ∧ ∀ v H' F, Ex H H' → Own K H' v d F → (∀ a, a ∈ F → H a = none) → F.Nodup → Q v H') ∨ (R ds ∧ ∀ v H', Ex H H' → vs.head? = some v → Q v H'))
section
variable {K : PySem.W.Frag} {B0 H : Hp} {ρ : List Sd} {te : TE} {t : TA} {G : List Da → Da → Prop} {R : List Da → Prop} {ds : List Da} {d d0 : Da} {P : Po} {a : Addr}
theorem ev_see (h : EvB K te ρ (.ptr a d)) : EvB K te ρ d := fun σ H Q rs q => h σ H _ rs fun v H1 e s => q v H1 e s.ptr_inv.2
theorem ev_seeO (h : EvB K te ρ (.ptr a d)) : EvB K te ρ (.obj a) := fun σ H Q rs q => h σ H _ rs fun v H1 e s => by
  rw [s.ptr_inv.1]
  exact q _ H1 e (.obj a)
/-- x = f(x, ..), x a list of the state's own -/
theorem j_asgR {k : Nat} (hk : ρ[k]? = some (some (true, d0))) (h : EvA K t ρ ds) (g : G (d0 :: ds) d ∨ (R (d0 :: ds) ∧ d = d0)) (q : P.nx (ρ.set k (ow d))) :
    J K B0 (tAsg (tCall (spR K G R) [] E0 (tCons (tVar k) t)) (gName k)) ρ P := fun φ τ D σ H l n r bk ct s => by
  have rs := Rs.f l s
  obtain ⟨v0, hv0, s0⟩ := rs.2 k true d0 hk
  have hkl : k < ρ.length := (List.getElem?_eq_some_iff.mp hk).1
  refine ⟨v0, hv0, h σ H _ rs fun vs H1 e sv => ⟨d0 :: ds, by rw [List.append_nil]; exact .cons (s0.mono e) sv, ?_⟩⟩
  rcases g with g | ⟨g, rfl⟩
  · refine .inl ⟨d, g, fun v H' F e2 w f nd => ?_⟩
    have z := ((s.ex e).push e2 w f nd).putF (φ := φ) (τ := τ) (i := k) l hkl
    exact n _ _ _ q z
  · refine .inr ⟨g, fun v H' e2 hv => ?_⟩
    cases hv
    have hσ : σ.set k (some v0) = σ := by
      refine List.ext_getElem? fun i => ?_
      by_cases e : k = i
      · subst e
        have := (List.getElem?_eq_some_iff.mp hv0).1
        rw [List.getElem?_set_self this, hv0]
      · rw [List.getElem?_set_ne e]
    have hρ : ρ.set k (ow d) = ρ := by
      refine List.ext_getElem? fun i => ?_
      by_cases e : k = i
      · subst e
        rw [List.getElem?_set_self hkl, hk]
      · rw [List.getElem?_set_ne e]
    rw [hρ] at q
    show D.nx (σ.set k (some v0)) H'
    rw [hσ]
    exact n _ _ _ q (s.ex (e.trans e2))
theorem body_R {ts : TS} {N : List Str} {ds : List Da} {v0 : V} {vs : List V} {H : Hp} {Q : VK} {d : Da} (s0 : Sh K H v0 d) (hr : ∃ a, v0 = .ref a) (hs : Shs K H vs ds) (k : ∀ v H', Ex H H' → v = v0 → Q v H')
    (j : ∀ a, J K H ts (sh (.ptr a d) :: (ds.map sh ++ List.replicate (N.length - (ds.length + 1)) no)) { nx := fun _ => False, rt := fun d' => d' = .obj a }) : ts { nx := fun _ H' => Q .non H', rt := Q } (start N (v0 :: vs)) H := by
  obtain ⟨a, rfl⟩ := hr
  refine j a [] [] _ _ H rfl (fun _ _ _ z => z.elim) (fun d' v H' e s => ?_) (fun _ _ _ z => z.elim) (fun _ _ _ z => z.elim) ?_
  · subst e
    obtain ⟨B, F, e1, e2, sl, nd⟩ := s
    cases sl with
    | cons a b =>
      cases b
      cases a with
      | ow w f => cases w; exact k _ _ (e1.trans e2) rfl
  · refine ⟨H, [], Ex.refl H, Ex.refl H, ?_, List.nodup_nil⟩
    show Slots K H H _ (some (.ref a) :: (vs.map some) ++ List.replicate (N.length - (vs.length + 1)) none) []
    rw [hs.length]
    exact Slots.cons (F := []) (G := []) (.sh (.ptr s0)) (Slots.join (ρ1 := ds.map sh) (σ1 := vs.map some) (F1 := []) (F2 := []) (Slots.ofShs hs) (slots_none _))
end
section
variable {P : Program} {w : World} {K : PySem.W.Frag} {mg : Str → Option Value} {base : Heap}
theorem fnokR_of {x : Str} {st : Stmt} {N ps : List Str} {k : Nat} {G : List Da → Da → Prop} {R : List Da → Prop} {f : Addr} {fd : FuncData} (F : Fun K x x st f fd) (sc : FnScope N ps (defScope st)) (len : ∀ ds d, G ds d → ds.length = ps.length)
    (len2 : ∀ ds, R ds → ds.length = ps.length ∧ ∃ es r, ds = .lst es :: r)
    (hbody : ∀ (cdv : Value) (A : Around) (outer : List Env) (s : Shared) (H : Hp) (E : XK), Room k (A.deeper (PyProof.Rows.envOfC x (defScope st) s.heap.objs.size f cdv)) →
      ∃ t, PSs (cxOf CX0 P w K mg base N x (defScope st) f cdv A outer s H E).nox (defBody st) t ∧
        (∀ ds d, G ds d → J K H t (ds.map sh ++ List.replicate (N.length - ds.length) no) { nx := fun _ => d = .non, rt := fun d' => d' = d }) ∧
        (∀ d0 ds, R (d0 :: ds) → ∀ a, J K H t (sh (.ptr a d0) :: (ds.map sh ++ List.replicate (N.length - (ds.length + 1)) no)) { nx := fun _ => False, rt := fun d' => d' = .obj a })) :
    FnOk P w K mg base CX0 (k + 1) f fd ps (spR K G R) := by
  refine F.ok sc (fun vs H Q E h => ?_) (fun cdv A outer s H vs Q E hr h => ?_)
  · obtain ⟨ds, h1, ⟨d, h2, _⟩ | ⟨h2, _⟩⟩ := h
    · rw [h1.length, len ds d h2]
    · rw [h1.length, (len2 ds h2).1]
  · obtain ⟨t, ht, hj, hx⟩ := hbody cdv A outer s H E hr
    obtain ⟨ds, h1, ⟨d, h2, h3⟩ | ⟨h2, h3⟩⟩ := h
    · exact ⟨t, ht, body_of h1 h3 (hj ds d h2)⟩
    · obtain ⟨_, es, r, rfl⟩ := len2 ds h2
      cases h1 with
      | cons s0 hs =>
        obtain ⟨p, xs, rfl, _⟩ := s0.lst_inv
        exact ⟨t, ht, body_R s0 ⟨p, rfl⟩ hs (fun v H' e ev => h3 v H' e (by rw [ev]; rfl)) (hx _ _ h2)⟩
end
end Fw

set_option Elab.async false
set_option linter.all false
set_option maxRecDepth 100000
set_option maxHeartbeats 4000000
/-! dicts by tuples with lists in them; parts taken and changed -/
namespace Fw
open PySem L2 PyProof.Rows
section
variable {K : PySem.W.Frag} {B0 : Hp} {ρ ρ1 : List Sd} {te td ty tv ti tk : TE} {d : Da} {P : Po} {i : Int}
/-- d[x] = e, x new to d, e new -/
theorem j_dputN {κ β : Type} [DecidableEq κ] {t : Bool} {ek : κ → Da} {ev : β → Da} {l : List (κ × β)} {x : κ} {v : β} (kk : KK t ek) {k : Nat} (hv : EvF K tv ρ (ev v)) (hx : EvB K ty ρ (ek x)) (hk : ρ[k]? = some (some (true, eD t ek ev l))) (hl : l.length < 100000) (hn : look l x = none)
    (q : P.nx (ρ.set k (ow (eD t ek ev (l ++ [(x, v)]))))) : J K B0 (sGPut (tVar k) ty tv) ρ P := fun φ τ D σ H ll nx r bk ct s => by
  refine hv σ H _ (Rs.f ll s) fun z H1 F0 e1 sz fz nz => ?_
  have s2 := Sta.push s e1 sz fz nz
  obtain ⟨p, xs, G, F1, B, hσ, hp, _⟩ := s2.rewD (i := φ.length + k) (t := t) (ks := l.map fun p => ek p.1) (ds := l.map fun p => ev p.2) (by rw [get_app rfl]; exact hk)
  rw [get_app ll.symm] at hσ
  refine ⟨.ref p, hσ, ?_⟩
  refine hx σ H1 _ ((Rs.f ll s).mono e1) fun y H2 e2 sy => ?_
  have s3 := s2.ex e2
  obtain ⟨p', xs', G', F1', B1, hσ', hp', ws, a, eB, nd1, pG, pF, k1⟩ := s3.rewD (i := φ.length + k) (t := t) (ks := l.map fun p => ek p.1) (ds := l.map fun p => ev p.2) (by rw [get_app rfl]; exact hk)
  rw [get_app ll.symm, hσ] at hσ'
  cases hσ'
  have hlen : xs'.length = l.length := by rw [ws.length, List.length_map]
  cases a with
  | ow w1 f1 =>
    have fin : ∀ u, DAt (upd H2 p u) p t ((l ++ [(x, v)]).map fun p => ek p.1) (xs' ++ [z]) → D.nx σ (upd H2 p u) := fun u h1 => by
      have q2 := k1 u _ (xs' ++ [z]) ((l ++ [(x, v)]).map fun p => ev p.2) (G' ++ (F1' ++ [])) h1 (by
        rw [List.map_append]
        exact ws.append (.cons w1 .nil)) (fun a m => by
          rw [List.append_nil] at m
          exact List.mem_append.mp m) (by
            rw [List.append_nil]
            obtain ⟨m1, m2, m3⟩ := List.nodup_append.mp nd1
            exact List.nodup_append.mpr ⟨m2, m1, fun x hx y hy e => m3 y hy x hx e.symm⟩)
      rw [set_app rfl] at q2
      exact nx _ _ _ q q2
    cases kk with
    | flat _ kf he inj =>
      rcases hp' with ⟨_, kvs, h1, h2, rfl⟩ | ⟨zz, _⟩
      · rw [he] at sy
        have hks : l.map (fun p => keyD (kf p.1)) = kvs.map (fun p => keyD p.1) := by rw [← h2]; exact List.map_congr_left fun p _ => (he p.1).symm
        have g2 := (look_val (ev := ev) (fun _ _ => keyD_inj) inj l kvs hks ws.sh x).2 hn
        have hput : putK kvs (kf x) z = kvs ++ [(kf x, z)] := by
          unfold putK
          rw [if_neg (by rw [valV_any, g2]; exact Bool.false_ne_true)]
        rw [List.length_map] at hlen
        refine ⟨p, _, rfl, .inl <| .inl ⟨kvs, kf x, h1, kV_of sy, by rw [hlen]; exact Nat.lt_of_lt_of_le hl (by decide), rfl⟩, fin _ (.inl ⟨rfl, _, upd_same, ?_, ?_⟩)⟩
        · rw [hput, List.map_append, List.map_append, ← h2]; simp [he]
        · rw [hput, List.map_append]; rfl
      · cases zz
    | tup _ kf he inj pl dp =>
      rcases hp' with ⟨zz, _⟩ | ⟨_, kvs, h1, h2, rfl, ko⟩
      · cases zz
      · rw [he] at sy
        have nk : NIs H2 y (.tup (kf x)) := NIs.of (K := K) (by rw [nkD, nkDs_map]; exact sy) (by rw [plainN]; exact pl x)
        have dd : (NestedKey.tup (kf x)).depth ≤ 8 := by rw [NestedKey.depth]; have := dp x; omega
        obtain ⟨b, ys, rfl, hb, hys⟩ := sy.tup_inv2
        have hks : l.map (fun p => nkD (.tup (kf p.1))) = (prN kvs).map (fun p => nkD p.1) := by
          unfold prN; rw [List.map_map]
          show _ = kvs.map (fun p => nkD p.1)
          rw [← h2]; exact List.map_congr_left fun p _ => by rw [he, nkD, nkDs_map]
        have hs' : Shs K H2 ((prN kvs).map (·.2)) (l.map fun p => ev p.2) := by unfold prN; rw [List.map_map]; exact ws.sh
        have g2 := (look_val (ev := ev) (k := fun x => NestedKey.tup (kf x)) (E := nkD) (fun _ _ => nkD_inj) (fun x y e => inj x y (NestedKey.tup.inj e)) l (prN kvs) hks hs' x).2 hn
        have hput : putN kvs (.tup (kf x)) b z = kvs ++ [(.tup (kf x), b, z)] := by
          unfold putN
          rw [if_neg (by rw [g2]; exact Bool.false_ne_true)]
        rw [List.length_map] at hlen
        have nt : NoTup H2 p := noTup_dN h1
        refine ⟨p, _, rfl, .inr ⟨kvs, _, b, h1, ko, rfl, nk, dd, by rw [hlen]; exact Nat.lt_of_lt_of_le hl (by decide), rfl⟩, fin _ (.inr ⟨rfl, _, upd_same, ?_, ?_, (ko.put nk dd).stay nt.keep⟩)⟩
        · rw [hput, List.map_append, List.map_append, ← h2]; simp [he, nkD, nkDs_map]
        · rw [hput, List.map_append]; rfl
def nonD : Da → Bool
  | .non => true
  | _ => false
theorem nonD_of {K : PySem.W.Frag} {H : Hp} {v : V} (s : Sh K H v d) : decide (v = .non) = nonD d := by
  cases s <;> rfl
theorem ev_isN (h : EvB K te ρ d) : EvB K (tOp (fun x y H Q => y = .non ∧ Q (.bl (decide (x = .non))) H) te (tC .non)) ρ (.bl (nonD d)) := fun σ H Q rs q =>
  h σ H _ rs fun v H1 e s => ⟨rfl, by rw [nonD_of s]; exact q _ H1 e (.bl _)⟩
theorem ev_notN (h : EvB K te ρ d) : EvB K (tOp (fun x y H Q => y = .non ∧ Q (.bl (!decide (x = .non))) H) te (tC .non)) ρ (.bl (!nonD d)) := fun σ H Q rs q =>
  h σ H _ rs fun v H1 e s => ⟨rfl, by rw [nonD_of s]; exact q _ H1 e (.bl _)⟩
/-- the n-th of owned things -/
theorem Owns.at {H : Hp} : ∀ {vs : List V} {ds : List Da} {G : List Addr} {n : Nat}, Owns K H vs ds G → ds[n]? = some d → ∃ v G1, vs[n]? = some v ∧ Own K H v d G1 ∧ (∀ a, a ∈ G1 → a ∈ G) ∧ (G.Nodup → G1.Nodup)
  | _, _, _, _, .nil, e => by simp at e
  | _, _, _, 0, .cons (F := F) (G := G) h t, e => by
    simp at e
    subst e
    exact ⟨_, F, rfl, h, fun a m => List.mem_append_left _ m, fun nd => (List.nodup_append.mp nd).1⟩
  | _, _, _, n + 1, .cons (F := F) (G := G) h t, e => by
    obtain ⟨v, G1, h1, h2, h3, h4⟩ := Owns.at (n := n) t (by simpa using e)
    exact ⟨v, G1, by simpa using h1, h2, fun a m => List.mem_append_right _ (h3 a m), fun nd => h4 (List.nodup_append.mp nd).2.1⟩
/-- xs[i] of an own list, taken out: the list is the state's no more -/
theorem em_takeL {k : Nat} {ds : List Da} (hk : ρ[k]? = some (some (true, .lst ds))) (hi : EvB K ti (ρ.set k none) (.int i)) (h : atI ds i = some d) : EvM K B0 (tOp (rIx K) (tVar k) ti) ρ d (ρ.set k none) := fun φ τ σ H Q l s q => by
  obtain ⟨v, hv, z⟩ := s.moveF l hk
  refine ⟨v, hv, ?_⟩
  refine hi σ H _ ((z.pop).drop l).rs fun y H2 e2 s2 => ?_
  have z2 := z.ex e2
  obtain ⟨B, F, b1, b2, sl, nd⟩ := z2
  cases sl with
  | cons a b =>
    cases a with
    | ow w f =>
      obtain ⟨p, xs, G, rfl, rfl, hp, ws⟩ := w.lst_inv
      have hn : ∃ n, ixN ds.length i = some n ∧ ds[n]? = some d := by
        unfold atI at h
        cases e : ixN ds.length i with
        | none => rw [e] at h; cases h
        | some n => rw [e] at h; exact ⟨n, rfl, h⟩
      obtain ⟨n, hn1, hn2⟩ := hn
      obtain ⟨u, G1, g1, g2, g3, g4⟩ := ws.at hn2
      have hat : atI xs i = some u := by
        unfold atI
        rw [ws.length, hn1]; exact g1
      refine .inl ⟨p, xs, i, u, rfl, s2.int_inv, .of hp, hat, q u H2 e2 ⟨B, G1 ++ _, b1, b2, .cons (.ow g2 fun a m => f a (List.mem_cons_of_mem _ (g3 a m))) b, ?_⟩⟩
      obtain ⟨n1, n2, n3⟩ := List.nodup_append.mp nd
      have n1' := (List.nodup_cons.mp n1).2
      exact List.nodup_append.mpr ⟨g4 n1', n2, fun a ha b hb => n3 a (List.mem_cons_of_mem _ (g3 a ha)) b hb⟩
/-- a part of an own tuple is found where it stands; the tuple let go -/
theorem Sta.partLst {k n : Nat} {ds0 es : List Da} {H : Hp} {φ : List Sd} {τ σ : L2.St} (l : φ.length = τ.length) (s : Sta K B0 (φ ++ ρ) (τ ++ σ) H) (hk : ρ[k]? = some (some (true, .tup ds0))) (hn : ds0[n]? = some (.lst es)) :
    ∃ a xs p ys, σ[k]? = some (some (.ref a)) ∧ H a = some (.tup xs) ∧ xs.length = ds0.length ∧ xs[n]? = some (.ref p) ∧ H p = some (.lst ys) ∧ ys.length = es.length ∧ ∀ u, Sta K B0 (φ ++ ρ.set k none) (τ ++ σ) (upd H p u) := by
  obtain ⟨B, F, e1, e2, sl, nd⟩ := s
  have hk' : (φ ++ ρ)[φ.length + k]? = some (some (true, .tup ds0)) := by rw [get_app rfl]; exact hk
  obtain ⟨v, hv, _⟩ := (sl.rs e2).2 _ true _ hk'
  obtain ⟨C1, C2, C3, rfl, c, kk⟩ := sl.rew hk' hv
  cases c with
  | ow w f =>
    obtain ⟨a, xs, rfl, ha, ws⟩ := w.tup_inv2
    obtain ⟨u, G1, g1, g2, g3, g4⟩ := ws.at hn
    obtain ⟨p, ys, G, rfl, rfl, hp, wy⟩ := g2.lst_inv
    rw [get_app l.symm] at hv
    refine ⟨a, xs, p, ys, hv, ha, ws.length, g1, hp, wy.length, fun u => ?_⟩
    have hin : p ∈ C2 := g3 p List.mem_cons_self
    obtain ⟨m1, m2, m3⟩ := List.nodup_append.mp nd
    obtain ⟨q1, q2, q3⟩ := List.nodup_append.mp m2
    have n1 : p ∉ C1 := fun z => m3 p z p (List.mem_append_left _ hin) rfl
    have n3 : p ∉ C3 := fun z => q3 p hin p z rfl
    have z : Slots K B (upd H p u) ((φ ++ ρ).set (φ.length + k) none) (τ ++ σ) (C1 ++ ([] ++ C3)) := kk (noTup_lst hp) n1 n3 .no
    rw [set_app rfl] at z
    refine ⟨B, _, e1, e2.mut (f p hin) (noTup_lst hp), z, ?_⟩
    exact List.nodup_append.mpr ⟨m1, q2, fun x hx y hy e => m3 x hx y (List.mem_append_right _ hy) e⟩
/-- t[i].append(e), t an own tuple that nobody reads behind it -/
theorem j_appendP {k n : Nat} {ds0 es : List Da} (hk : ρ[k]? = some (some (true, .tup ds0))) (hi : EvB K ti ρ (.int i)) (e : i = (n : Int)) (hn : ds0[n]? = some (.lst es)) (h : EvB K te ρ d) (hl : es.length < 100000) (q : P.nx (ρ.set k none)) :
    J K B0 (tDrop (tBM K "list" rAppend (tOp (rIx K) (tVar k) ti) (tCons te tNil))) ρ P := fun φ τ D σ H l nx r bk ct s => by
  obtain ⟨a, xs, p, ys, hv, ha, hl1, hx, hp, _⟩ := s.partLst l hk hn
  refine ⟨.ref a, hv, ?_⟩
  refine hi.int (Rs.f l s) fun H1 e1 => ?_
  refine .inr (.inl ⟨a, xs, i, .ref p, rfl, rfl, .of (e1.tup ha), by subst e; exact atI_nat hx, ?_⟩)
  refine ⟨.inl ⟨rfl, ys, .of (e1.lst hp)⟩, ?_⟩
  refine h σ H1 _ ((Rs.f l s).mono e1) fun v H2 e2 sv => ?_
  have e12 := e1.trans e2
  obtain ⟨a', xs', p', ys', hv', ha', hl', hx', hp', hl2, k2⟩ := (s.ex e12).partLst l hk hn
  have : a' = a := by rw [hv] at hv'; cases hv'; rfl
  subst this
  rw [e12.tup ha] at ha'
  cases ha'
  rw [hx] at hx'
  cases hx'
  refine ⟨p, ys', v, rfl, rfl, hp', by rw [hl2]; exact Nat.lt_of_lt_of_le hl (by decide), ?_⟩
  exact nx _ _ _ q (k2 _)
end
end Fw

set_option Elab.async false
set_option linter.all false
set_option maxRecDepth 100000
set_option maxHeartbeats 4000000
/-! ==, !=, in, not in of data with texts; in of tuples; len(set(..)) of whole numbers; alternatives of None and numbers -/
namespace Fw
open PySem L2
mutual
/-- data without dicts, at most so deep -/
def plD : Nat → Da → Bool
  | _, .non => true
  | _, .bl _ => true
  | _, .int _ => true
  | _, .str _ => true
  | n + 1, .tup l => plDs n l
  | n + 1, .lst l => plDs n l
  | _, _ => false
def plDs : Nat → List Da → Bool
  | _, [] => true
  | n, d :: l => plD n d && plDs n l
end
theorem plDs_map {α : Type} {n : Nat} {e : α → Da} (h : ∀ x, plD n (e x) = true) : ∀ xs : List α, plDs n (xs.map e) = true
  | [] => by unfold plDs; rfl
  | x :: xs => by
    show plDs n (e x :: xs.map e) = true
    unfold plDs
    rw [h x, plDs_map h xs]; rfl
theorem plD_two {n : Nat} {a b : Da} (h : plD n a = true) (g : plD n b = true) : plD (n + 1) (.tup [a, b]) = true := by
  unfold plD plDs plDs plDs; rw [h, g]; rfl
theorem plD_three {n : Nat} {a b c : Da} (h : plD n a = true) (g : plD n b = true) (k : plD n c = true) : plD (n + 1) (.tup [a, b, c]) = true := by
  unfold plD plDs plDs plDs plDs; rw [h, g, k]; rfl
theorem plD_one {n : Nat} {a : Da} (h : plD n a = true) : plD (n + 1) (.tup [a]) = true := by
  unfold plD plDs plDs; rw [h]; rfl
mutual
theorem plD_mono {n m : Nat} (h : n ≤ m) : ∀ d : Da, plD n d = true → plD m d = true
  | .non, _ => by unfold plD; rfl
  | .bl _, _ => by unfold plD; rfl
  | .int _, _ => by unfold plD; rfl
  | .str _, _ => by unfold plD; rfl
  | .tup l, g => by
    cases n with
    | zero => unfold plD at g; cases g
    | succ n =>
      cases m with
      | zero => omega
      | succ m => unfold plD at g ⊢; exact plDs_mono (by omega) l g
  | .lst l, g => by
    cases n with
    | zero => unfold plD at g; cases g
    | succ n =>
      cases m with
      | zero => omega
      | succ m => unfold plD at g ⊢; exact plDs_mono (by omega) l g
  | .scr _, g => by unfold plD at g; cases g
  | .dic _ _ _, g => by unfold plD at g; cases g
  | .obj _, g => by unfold plD at g; cases g
  | .ptr _ _, g => by unfold plD at g; cases g
  | .fn _, g => by unfold plD at g; cases g
theorem plDs_mono {n m : Nat} (h : n ≤ m) : ∀ l : List Da, plDs n l = true → plDs m l = true
  | [], _ => by unfold plDs; rfl
  | d :: l, g => by
    unfold plDs at g ⊢
    rw [Bool.and_eq_true] at g ⊢
    exact ⟨plD_mono h d g.1, plDs_mono h l g.2⟩
end
section
variable {K : PySem.W.Frag} {H : Hp}
mutual
theorem Sh.dpP {n : Nat} : ∀ {v : V} {d : Da}, Sh K H v d → plD n d = true → Dp K H v (toPy d)
  | _, _, .non, _ => by unfold toPy; exact .non
  | _, _, .bl b, _ => by unfold toPy; exact .bl b
  | _, _, .int b, _ => by unfold toPy; exact .int b
  | _, _, .str b, h => by unfold toPy; exact .str b
  | _, _, .obj b, h => by unfold plD at h; cases h
  | _, _, .ptr _, h => by unfold plD at h; cases h
  | _, _, .fn _ _, h => by unfold plD at h; cases h
  | _, _, .tup h1 t, h => by
    cases n with
    | zero => unfold plD at h; cases h
    | succ n => unfold plD at h; unfold toPy; exact .tup (.of h1) (Shs.dpP t h)
  | _, _, .lst h1 t, h => by
    cases n with
    | zero => unfold plD at h; cases h
    | succ n => unfold plD at h; unfold toPy; exact .lst (.inl h1) (Shs.dpP t h)
  | _, _, .scr _, h => by unfold plD at h; cases h
  | _, _, .dic _ _, h => by unfold plD at h; cases h
theorem Shs.dpP {n : Nat} : ∀ {v : List V} {d : List Da}, Shs K H v d → plDs n d = true → DpAll K H v (toPys d)
  | _, _, .nil, _ => by unfold toPys; exact .nil
  | _, _, .cons s t, h => by
    unfold plDs at h
    rw [Bool.and_eq_true] at h
    unfold toPys
    exact .cons (Sh.dpP s h.1) (Shs.dpP t h.2)
end
end
mutual
theorem plD_py {n : Nat} : ∀ d : Da, plD n d = true → (toPy d).plain = true ∧ PyData.depth (toPy d) ≤ n
  | .non, _ => by unfold toPy PyData.plain PyData.depth; exact ⟨rfl, Nat.zero_le _⟩
  | .bl _, _ => by unfold toPy PyData.plain PyData.depth; exact ⟨rfl, Nat.zero_le _⟩
  | .int _, _ => by unfold toPy PyData.plain PyData.depth; exact ⟨rfl, Nat.zero_le _⟩
  | .str _, _ => by unfold toPy PyData.plain PyData.depth; exact ⟨rfl, Nat.zero_le _⟩
  | .obj _, h => by unfold plD at h; cases h
  | .ptr _ _, h => by unfold plD at h; cases h
  | .fn _, h => by unfold plD at h; cases h
  | .scr _, h => by unfold plD at h; cases h
  | .dic _ _ _, h => by unfold plD at h; cases h
  | .tup l, h => by
    cases n with
    | zero => unfold plD at h; cases h
    | succ n =>
      unfold plD at h
      obtain ⟨a, b⟩ := plDs_py l h
      unfold toPy PyData.plain PyData.depth
      exact ⟨a, by omega⟩
  | .lst l, h => by
    cases n with
    | zero => unfold plD at h; cases h
    | succ n =>
      unfold plD at h
      obtain ⟨a, b⟩ := plDs_py l h
      unfold toPy PyData.plain PyData.depth
      exact ⟨a, by omega⟩
theorem plDs_py {n : Nat} : ∀ d : List Da, plDs n d = true → PyData.plainAll (toPys d) = true ∧ PyData.depthAll (toPys d) ≤ n
  | [], _ => by unfold toPys PyData.plainAll PyData.depthAll; exact ⟨rfl, Nat.zero_le _⟩
  | d :: l, h => by
    unfold plDs at h
    rw [Bool.and_eq_true] at h
    obtain ⟨a, b⟩ := plD_py d h.1
    obtain ⟨a', b'⟩ := plDs_py l h.2
    unfold toPys PyData.plainAll PyData.depthAll
    exact ⟨by rw [a, a']; rfl, by omega⟩
end
theorem eqD_selfP {n : Nat} {d : Da} (h : plD n d = true) : eqD d d = true := SeqAt.eqv_refl_plain _ (plD_py d h).1
def rEqP (K : PySem.W.Frag) : R2 := fun x y H Q => ∃ d e, Dp K H x d ∧ Dp K H y e ∧ d.plain = true ∧ e.plain = true ∧ d.depth ≤ 60 ∧ Q (.bl (PyData.eqv d e)) H
def rNeP (K : PySem.W.Frag) : R2 := fun x y H Q => ∃ d e, Dp K H x d ∧ Dp K H y e ∧ d.plain = true ∧ e.plain = true ∧ d.depth ≤ 60 ∧ Q (.bl (!PyData.eqv d e)) H
def rInP (K : PySem.W.Frag) (neg : Bool) : R2 := fun x y H Q => ∃ d ds, Dp K H x d ∧ (Dp K H y (.list ds) ∨ Dp K H y (.tuple ds)) ∧ d.plain = true ∧ PyData.plainAll ds = true ∧ d.depth ≤ 60 ∧ Q (.bl (neg ^^ (ds.any fun z => PyData.eqv z d))) H
section
variable {X : Cx}
theorem op_eqP (hu : X.A.units + 64 < cLine) : OpR X (compareOp .Eq) (rEqP X.K) := by
  intro pins s σ H x y v u Q I rx ry h
  obtain ⟨d, e, hd, he, sd, se, hn, q⟩ := h
  obtain ⟨as, r1⟩ := Dp.reads I d x v hd rx
  obtain ⟨bs, r2⟩ := Dp.reads I e y u he ry
  exact SeqAt.eq_plain r1 r2 sd se (by omega) ⟨.bl _, H, I, rfl, q⟩
theorem op_neP (hu : X.A.units + 64 < cLine) : OpR X (compareOp .NotEq) (rNeP X.K) := by
  intro pins s σ H x y v u Q I rx ry h
  obtain ⟨d, e, hd, he, sd, se, hn, q⟩ := h
  obtain ⟨as, r1⟩ := Dp.reads I d x v hd rx
  obtain ⟨bs, r2⟩ := Dp.reads I e y u he ry
  exact SeqAt.ne_plain r1 r2 sd se (by omega) ⟨.bl _, H, I, rfl, q⟩
theorem op_inP (hu : X.A.units + 64 < cLine) : OpR X (compareOp .In) (rInP X.K false) := by
  intro pins s σ H x y v u Q I rx ry h
  obtain ⟨d, ds, hd, he, sd, se, hn, q⟩ := h
  obtain ⟨as, r1⟩ := Dp.reads I d x v hd rx
  rw [Bool.false_xor] at q
  rcases he with he | he
  · obtain ⟨bs, r2⟩ := Dp.reads I _ y u he ry
    exact SeqAt.in_list_data r2 r1 se sd (by omega) ⟨.bl _, H, I, rfl, q⟩
  · obtain ⟨bs, r2⟩ := Dp.reads I _ y u he ry
    exact SeqAt.in_tuple_data r2 r1 se sd (by omega) ⟨.bl _, H, I, rfl, q⟩
theorem op_notInP (hu : X.A.units + 64 < cLine) : OpR X (compareOp .NotIn) (rInP X.K true) := by
  intro pins s σ H x y v u Q I rx ry h
  obtain ⟨d, ds, hd, he, sd, se, hn, q⟩ := h
  obtain ⟨as, r1⟩ := Dp.reads I d x v hd rx
  rw [Bool.true_xor] at q
  rcases he with he | he
  · obtain ⟨bs, r2⟩ := Dp.reads I _ y u he ry
    exact SeqAt.notIn_list_data r2 r1 se sd (by omega) ⟨.bl _, H, I, rfl, q⟩
  · obtain ⟨bs, r2⟩ := Dp.reads I _ y u he ry
    exact SeqAt.notIn_tuple_data r2 r1 se sd (by omega) ⟨.bl _, H, I, rfl, q⟩
end
section
variable {K : PySem.W.Frag} {B0 : Hp} {ρ : List Sd} {te ta tb : TE} {d d1 d2 : Da}
theorem ev_eqP (ha : EvB K ta ρ d1) (hb : EvB K tb ρ d2) (n m : Nat) (h1 : plD n d1 = true) (h2 : plD m d2 = true) (hn : n ≤ 60 := by decide) : EvB K (tOp (rEqP K) ta tb) ρ (.bl (eqD d1 d2)) :=
  ev_2 ha hb fun x y H Q s1 s2 q => ⟨_, _, s1.dpP h1, s2.dpP h2, (plD_py _ h1).1, (plD_py _ h2).1, Nat.le_trans (plD_py _ h1).2 hn, q _ H (Ex.refl H) (.bl _)⟩
theorem ev_neP (ha : EvB K ta ρ d1) (hb : EvB K tb ρ d2) (n m : Nat) (h1 : plD n d1 = true) (h2 : plD m d2 = true) (hn : n ≤ 60 := by decide) : EvB K (tOp (rNeP K) ta tb) ρ (.bl (!eqD d1 d2)) :=
  ev_2 ha hb fun x y H Q s1 s2 q => ⟨_, _, s1.dpP h1, s2.dpP h2, (plD_py _ h1).1, (plD_py _ h2).1, Nat.le_trans (plD_py _ h1).2 hn, q _ H (Ex.refl H) (.bl _)⟩
theorem ev_inP {neg : Bool} {α : Type} [DecidableEq α] (e : α → Da) (h : Apart e) {x : α} {xs : List α} (ha : EvB K ta ρ (e x)) (hb : EvB K tb ρ (.lst (xs.map e))) (n m : Nat) (h1 : plD n (e x) = true) (h2 : plD (m + 1) (.lst (xs.map e)) = true) (hn : n ≤ 60 := by decide) :
    EvB K (tOp (rInP K neg) ta tb) ρ (.bl (neg ^^ decide (x ∈ xs))) :=
  ev_2 ha hb fun v w H Q s1 s2 q => by
    have hp := s2.dpP h2
    unfold toPy at hp
    have h3 : plDs m (xs.map e) = true := by unfold plD at h2; exact h2
    refine ⟨_, _, s1.dpP h1, .inl hp, (plD_py _ h1).1, (plDs_py _ h3).1, Nat.le_trans (plD_py _ h1).2 hn, ?_⟩
    rw [any_in h]
    exact q _ H (Ex.refl H) (.bl _)
theorem ev_inPT {neg : Bool} {α : Type} [DecidableEq α] (e : α → Da) (h : Apart e) {x : α} {xs : List α} (ha : EvB K ta ρ (e x)) (hb : EvB K tb ρ (.tup (xs.map e))) (n m : Nat) (h1 : plD n (e x) = true) (h2 : plD (m + 1) (.tup (xs.map e)) = true) (hn : n ≤ 60 := by decide) :
    EvB K (tOp (rInP K neg) ta tb) ρ (.bl (neg ^^ decide (x ∈ xs))) :=
  ev_2 ha hb fun v w H Q s1 s2 q => by
    have hp := s2.dpP h2
    unfold toPy at hp
    have h3 : plDs m (xs.map e) = true := by unfold plD at h2; exact h2
    refine ⟨_, _, s1.dpP h1, .inr hp, (plD_py _ h1).1, (plDs_py _ h3).1, Nat.le_trans (plD_py _ h1).2 hn, ?_⟩
    rw [any_in h]
    exact q _ H (Ex.refl H) (.bl _)
end
theorem apart_str : Apart Da.str := fun x y => by
  unfold eqD toPy PyData.eqv
  simp
theorem apart_bl : Apart Da.bl := fun x y => by
  unfold eqD toPy PyData.eqv
  cases x <;> cases y <;> simp
theorem Apart.pair3 {α β γ : Type} {e : α → Da} {f : β → Da} {g : γ → Da} (h : Apart e) (k : Apart f) (m : Apart g) : Apart (eP3 e f g) := fun x y => by
  have h1 := h x.1 y.1
  have h2 := k x.2.1 y.2.1
  have h3 := m x.2.2 y.2.2
  unfold eqD at h1 h2 h3 ⊢
  show PyData.eqv (toPy (.tup [_, _, _])) (toPy (.tup [_, _, _])) = true ↔ _
  simp only [toPy, toPys, PyData.eqv, PyData.eqvAll, Bool.and_true, Bool.and_eq_true]
  constructor
  · rintro ⟨a, b, c⟩
    exact Prod.ext (h1.mp a) (Prod.ext (h2.mp b) (h3.mp c))
  · rintro rfl
    exact ⟨h1.mpr rfl, h2.mpr rfl, h3.mpr rfl⟩
/-- None or a number -/
def eOpt {α : Type} (e : α → Da) : Option α → Da
  | none => .non
  | some x => e x
theorem imm_Opt {α : Type} {e : α → Da} (h : ∀ x, (e x).imm = true) (o : Option α) : (eOpt e o).imm = true := by cases o with | none => rfl | some x => exact h x
theorem plD_Opt {α : Type} {e : α → Da} {n : Nat} (h : ∀ x, plD n (e x) = true) (o : Option α) : plD n (eOpt e o) = true := by cases o with | none => unfold eOpt plD; rfl | some x => exact h x
/-! ### len(set(xs)) of whole numbers -/
/-- the unlike ones, as first met -/
def distinct (ns : List Int) : List Int := ns.foldl (fun l x => if x ∈ l then l else l ++ [x]) []
theorem firstMet_distinct (ns : List Int) : PyProof.Rows.firstMet (fun i => ns.getD i 0) ns.length = distinct ns := by
  have hl : (List.range ns.length).map (fun i => ns.getD i 0) = ns := by
    refine List.ext_getElem? fun i => ?_
    rw [List.getElem?_map]
    by_cases hi : i < ns.length
    · rw [List.getElem?_range hi, getD_some 0 hi]; rfl
    · rw [List.getElem?_eq_none (by rw [List.length_range]; omega), List.getElem?_eq_none (by omega)]; rfl
  unfold PyProof.Rows.firstMet distinct
  rw [hl]
  congr 1
  funext l x
  unfold PyProof.Rows.step_dedup
  by_cases h : x ∈ l
  · rw [if_pos h, if_pos (List.any_eq_true.mpr ⟨x, h, by simp⟩)]
  · rw [if_neg h, if_neg (fun z => by
      obtain ⟨y, hy, e⟩ := List.any_eq_true.mp z
      exact h ((eq_of_beq e) ▸ hy))]
def tLenSetD (K : PySem.W.Frag) (ta : TE) : TE := fun σ H Q => ta σ H fun x H1 => ∃ (l : Addr) (ns : List Int), x = .ref l ∧ SqL K H1 l (ns.map V.int) ∧ ns.length ≤ 4000 ∧ Q (.int ((distinct ns).length : Nat)) H1
open PySem.Spec PyProof.Rows in
theorem pe_lenSetD {X : Cx} {a : Expr} {ta : TE} {p p2 q pos : Pos} (hg : Gl X "len") (hm : X.mg "len" = none) (hg2 : Gl X "set") (hm2 : X.mg "set" = none) (ha : PE X a ta) (hc : X.calm = true := by rfl)
    (na : starEach [a] X.env = (false, eval a X.env) :: starEach [] X.env := by rfl) : PE X (.Call (.Name "len" p) [.Call (.Name "set" p2) [a] [] q] [] pos) (tLenSetD X.K ta) := by
  refine ⟨fun pins s σ H Q I h => ?_⟩
  refine Call_ (ld_blt I hg hm boot_len ?_)
  refine PyProof.Rows.callWith_builtin1 (PyProof.Rows.args_cons ?_ rfl) rfl rfl
  refine Call_ (ld_blt I hg2 hm2 boot_set ?_)
  refine PyProof.Rows.callWith_type1 (PyProof.Rows.args_cons (thn (ha.run pins s σ H _ I h) fun v s1 ⟨x, H1, I1, r1, q1⟩ => PyProof.Rows.args_nil ?_) na) na rfl
  obtain ⟨l, ns, rfl, hq, hl, q1⟩ := q1
  cases r1
  obtain ⟨its, r, pl, hz⟩ := I1.list hq
  have hlen : its.toArray.size = ns.length := by rw [List.size_toArray, ← r.length, List.length_map]
  refine call_set_list (I1.ok.hd hc) pl.isList (by simpa using RZ.intsAre_vals r) (by rw [hlen]; unfold scanBound; omega) fun h' tk hS hk => ?_
  refine PyProof.Rows.args_nil ?_
  rw [hlen, firstMet_distinct] at hS
  obtain ⟨o, es, ep, t, ho, hex, hd, _, _, _, hf, hn⟩ := hS
  have I2 : Inv X pins σ H1 { s1 with heap := h', toks := tk } := I1.kept fun b o e => hk b o (Heap.lt_size e) e
  have hdl : (distinct ns).length ≤ ns.length := by
    rw [← firstMet_distinct]
    exact PyProof.Rows.firstMet_length_le _ _
  exact call_len_set ho hex hd hf (by rw [hn] <;> omega) ⟨.int (distinct ns).length, H1, I2.tok _, ⟨_, by rw [hn]⟩, q1⟩
theorem ev_lenSetD {K : PySem.W.Frag} {ρ : List Sd} {te : TE} {ns : List Int} (h : EvB K te ρ (.lst (ns.map Da.int))) (hl : ns.length ≤ 4000) : EvB K (tLenSetD K te) ρ (.int ((distinct ns).length : Nat)) := fun σ H Q rs q =>
  h σ H _ rs fun v H1 e s => by
    obtain ⟨a, xs, rfl, h1, h2⟩ := s.lst_inv
    rw [shs_intV h2] at h1
    exact ⟨a, ns, rfl, .inl h1, hl, q _ H1 e (.int _)⟩
end Fw

set_option Elab.async false
set_option linter.all false
set_option maxRecDepth 100000
set_option maxHeartbeats 4000000
namespace My
open Fw
def spread (ns : List Int) (k : Int) : Int := (ns.getD k.toNat 0 % 1000000007 * 48271 + (k + 3) * (k + 5) * 69621) % 2147483647 * 16807 % 2147483629
theorem spread_lo (ns : List Int) (k : Int) : 0 ≤ spread ns k := by unfold spread; omega
theorem spread_hi (ns : List Int) (k : Int) : spread ns k < 2147483629 := by unfold spread; omega
theorem foldl_take {α β : Type} (f : β → α → β) (b : β) {xs : List α} {i : Nat} {x : α} (h : xs[i]? = some x) : (xs.take (i + 1)).foldl f b = f ((xs.take i).foldl f b) x := by
  rw [take_next h, List.foldl_append]; rfl
theorem pick2 {a b t : Int} {q : Int → Prop} (h0 : 0 ≤ t) (h1 : t < 2) (ha : q a) (hb : q b) : q (([a, b] : List Int).getD t.toNat 0) := by
  have h : t.toNat = 0 ∨ t.toNat = 1 := by omega
  rcases h with h | h <;> rw [h]
  · exact ha
  · exact hb
theorem getD0_mem {α : Type} {xs : List α} {z : α} (h : 0 < xs.length) : xs.getD 0 z ∈ xs := by
  rw [List.getD_eq_getElem?_getD, List.getElem?_eq_getElem h]
  exact List.getElem_mem _
theorem num_mem {α : Type} {xs : List α} {i : Nat} {x : Nat × α} (h : (num xs)[i]? = some x) : x.2 ∈ xs := List.mem_of_getElem? (num_at h).2
theorem pick3 {a b c t : Int} {q : Int → Prop} (h0 : 0 ≤ t) (h1 : t < 3) (ha : q a) (hb : q b) (hc : q c) : q (([a, b, c] : List Int).getD t.toNat 0) := by
  have h : t.toNat = 0 ∨ t.toNat = 1 ∨ t.toNat = 2 := by omega
  rcases h with h | h | h <;> rw [h]
  · exact ha
  · exact hb
  · exact hc
theorem toNat_map (ns : List Nat) : (ns.map fun (n : Nat) => (n : Int)) = ns.map Int.ofNat := rfl
theorem getD_mem' {α : Type} {xs : List α} {z : α} {k : Nat} (h : k < xs.length) : xs.getD k z ∈ xs := List.mem_of_getElem? (getD_some z h)
theorem getD_map' {α β : Type} (f : α → β) {xs : List α} {k : Nat} (z : α) (y : β) (h : k < xs.length) : (xs.map f).getD k y = f (xs.getD k z) := by
  rw [List.getD_eq_getElem?_getD, List.getElem?_map, getD_some z h]; rfl
theorem getD_range {n k : Nat} (z : Nat) (h : k < n) : (List.range n).getD k z = k := by
  rw [List.getD_eq_getElem?_getD, List.getElem?_range h]; rfl
theorem getD_rangeMap {β : Type} (f : Nat → β) {n k : Nat} (y : β) (h : k < n) : ((List.range n).map f).getD k y = f k := by
  rw [getD_map' f 0 y (by rw [List.length_range]; exact h), getD_range 0 h]
theorem cut_mem {α : Type} {xs : List α} {lo hi : Option Int} {x : α} (h : x ∈ cut xs lo hi) : x ∈ xs := by
  unfold cut at h
  exact List.mem_of_mem_drop (List.mem_of_mem_take h)
theorem bits_zero (n : Nat) : Bits n 0 := by
  unfold Bits
  exact Nat.two_pow_pos n
end My

set_option Elab.async false
set_option linter.all false
set_option maxRecDepth 100000
set_option maxHeartbeats 4000000
namespace My
open PySem Fw
/-! ### things as first reached -/
section
variable {α : Type} [DecidableEq α]
def addA (os : List α) (x : α) : List α := if x ∈ os then os else os ++ [x]
def growA (os row : List α) : List α := row.foldl addA os
def stepA (nx : α → List α) (z : α) (os : List α) (k : Nat) : List α := if k < os.length then growA os (nx (os.getD k z)) else os
@[irreducible] def ordA (nx : α → List α) (z b : α) (n : Nat) : List α := (List.range n).foldl (stepA nx z) [b]
theorem addA_old {os : List α} {x : α} (h : x ∈ os) : addA os x = os := if_pos h
theorem addA_new {os : List α} {x : α} (h : x ∉ os) : addA os x = os ++ [x] := if_neg h
theorem addA_mem {os : List α} {x y : α} : y ∈ addA os x ↔ y ∈ os ∨ y = x := by
  unfold addA
  split
  · rename_i hx
    exact ⟨.inl, fun h => h.elim id fun e => e ▸ hx⟩
  · rw [List.mem_append, List.mem_singleton]
theorem addA_nd {os : List α} {x : α} (h : os.Nodup) : (addA os x).Nodup := by
  unfold addA
  split
  · exact h
  · rename_i hm
    exact List.nodup_append.mpr ⟨h, by simp, fun a ha b hb e => hm (by rw [← List.mem_singleton.mp hb, ← e]; exact ha)⟩
theorem addA_pre (os : List α) (x : α) : ∃ t, addA os x = os ++ t := by
  unfold addA
  split
  · exact ⟨[], (List.append_nil _).symm⟩
  · exact ⟨[x], rfl⟩
theorem growA_mem {row : List α} : ∀ {os : List α} {y : α}, y ∈ growA os row ↔ y ∈ os ∨ y ∈ row := by
  induction row with
  | nil => intro os y; exact ⟨.inl, fun h => h.elim id fun z => nomatch z⟩
  | cons x row ih =>
    intro os y
    show y ∈ growA (addA os x) row ↔ _
    rw [ih, addA_mem, List.mem_cons]
    exact or_assoc
theorem growA_nd : ∀ {row os : List α}, os.Nodup → (growA os row).Nodup
  | [], _, h => h
  | x :: row, os, h => growA_nd (os := addA os x) (row := row) (addA_nd h)
theorem growA_pre : ∀ (row os : List α), ∃ t, growA os row = os ++ t
  | [], os => ⟨[], (List.append_nil _).symm⟩
  | x :: row, os => by
    obtain ⟨t, ht⟩ := addA_pre os x
    obtain ⟨u, hu⟩ := growA_pre row (addA os x)
    exact ⟨t ++ u, by show growA (addA os x) row = _; rw [hu, ht, List.append_assoc]⟩
theorem growA_app (os r t : List α) : growA (growA os r) t = growA os (r ++ t) := by unfold growA; rw [List.foldl_append]
theorem growA_snoc (os row : List α) (x : α) : growA os (row ++ [x]) = addA (growA os row) x := by unfold growA; rw [List.foldl_append]; rfl
theorem getD_preA {os t : List α} {j : Nat} {z : α} (h : j < os.length) : (os ++ t).getD j z = os.getD j z := by
  rw [List.getD_eq_getElem?_getD, List.getD_eq_getElem?_getD, List.getElem?_append_left h]
theorem idx_pre {os t : List α} {x : α} (h : x ∈ os) : (os ++ t).idxOf x = os.idxOf x := by rw [List.idxOf_append, if_pos h]
theorem ordA_zero (nx : α → List α) (z b : α) : ordA nx z b 0 = [b] := by unfold ordA; rfl
theorem ordA_succ (nx : α → List α) (z b : α) (n : Nat) : ordA nx z b (n + 1) = stepA nx z (ordA nx z b n) n := by
  unfold ordA
  rw [List.range_succ, List.foldl_append]; rfl
structure Rch (nx : α → List α) (z b : α) (Pr : α → Prop) (a : Nat) (os : List α) : Prop where
  nd : os.Nodup
  al : ∀ x, x ∈ os → Pr x
  le : a ≤ os.length
  cl : ∀ j, j < a → ∀ x, x ∈ nx (os.getD j z) → x ∈ os
  eq : os = ordA nx z b a
  hd : os.getD 0 z = b
  ne : 0 < os.length
theorem Rch.zero {nx : α → List α} {z b : α} {Pr : α → Prop} (h : Pr b) : Rch nx z b Pr 0 [b] :=
  ⟨by simp, fun x hx => by rw [List.mem_singleton.mp hx]; exact h, Nat.zero_le _, fun j hj => by omega, by unfold ordA; rfl, rfl, by simp⟩
theorem Rch.next {nx : α → List α} {z b : α} {Pr : α → Prop} {a : Nat} {os : List α} (h : Rch nx z b Pr a os) (hP : ∀ x, Pr x → ∀ y, y ∈ nx x → Pr y) (ha : a < os.length) : Rch nx z b Pr (a + 1) (growA os (nx (os.getD a z))) := by
  have hm : os.getD a z ∈ os := getD_mem' ha
  obtain ⟨t, ht⟩ := growA_pre (nx (os.getD a z)) os
  refine ⟨growA_nd h.nd, fun x hx => ?_, by rw [ht, List.length_append]; omega, fun j hj x hx => ?_, ?_, ?_, ?_⟩
  · rcases growA_mem.mp hx with hx | hx
    · exact h.al x hx
    · exact hP _ (h.al _ hm) x hx
  · rw [growA_mem]
    rw [ht, getD_preA (by omega)] at hx
    by_cases e : j = a
    · subst e; exact .inr hx
    · exact .inl (h.cl j (by omega) x hx)
  · rw [ordA_succ, ← h.eq]
    unfold stepA
    rw [if_pos ha]
  · rw [ht, getD_preA h.ne]; exact h.hd
  · rw [ht, List.length_append]; have := h.ne; omega
theorem Rch.done {nx : α → List α} {z b : α} {Pr : α → Prop} {a : Nat} {os : List α} (h : Rch nx z b Pr a os) (ha : os.length ≤ a) : ∀ n, a ≤ n → ordA nx z b n = os
  | 0, hn => by rw [show (0 : Nat) = a by omega]; exact h.eq.symm
  | n + 1, hn => by
    by_cases e : a = n + 1
    · rw [← e]; exact h.eq.symm
    · rw [ordA_succ, Rch.done h ha n (by omega)]
      unfold stepA
      rw [if_neg (by omega)]
/-- the numbers by a dict -/
def tabA (os : List α) : List (α × Int) := (num os).map fun p => (p.2, (p.1 : Int))
theorem tabA_snoc (os : List α) (x : α) : tabA (os ++ [x]) = tabA os ++ [(x, (os.length : Int))] := by
  unfold tabA
  rw [show num (os ++ [x]) = num os ++ [(os.length, x)] from by
    unfold num
    rw [List.length_append, List.length_singleton, List.range_succ, List.zip_append (by rw [List.length_range])]
    rfl, List.map_append]; rfl
theorem tabA_len (os : List α) : (tabA os).length = os.length := by unfold tabA; rw [List.length_map, num_len]
theorem tabA_keys (os : List α) : (tabA os).map (·.1) = os := by
  unfold tabA num
  rw [List.map_map]
  show ((List.range os.length).zip os).map (fun p => p.2) = os
  exact List.map_snd_zip (by rw [List.length_range]; exact Nat.le_refl _)
theorem tabA_in {os : List α} {x : α} : (look (tabA os) x).isSome = decide (x ∈ os) := by
  rw [Bool.eq_iff_iff, look_some_iff, tabA_keys, decide_eq_true_iff]
theorem tabA_look {os : List α} : ∀ {x : α}, x ∈ os → look (tabA os) x = some (os.idxOf x : Nat) := by
  have key : ∀ (os : List α) (b : Nat) (x : α), x ∈ os → look (((List.range' b os.length).zip os).map fun p => (p.2, (p.1 : Int))) x = some ((b + os.idxOf x : Nat) : Int) := by
    intro os
    induction os with
    | nil => intro b x h; cases h
    | cons y os ih =>
      intro b x h
      show look ((y, (b : Int)) :: (((List.range' (b + 1) os.length).zip os).map fun p => (p.2, (p.1 : Int)))) x = _
      by_cases e : y = x
      · rw [look_pos e, List.idxOf_cons, e]; simp
      · rw [look_neg e, ih (b + 1) x ((List.mem_cons.mp h).resolve_left (Ne.symm e)), List.idxOf_cons]
        have : (y == x) = false := by simpa using e
        rw [this]
        simp; omega
  intro x h
  have := key os 0 x h
  rw [Nat.zero_add] at this
  unfold tabA num
  rw [List.range_eq_range']
  exact this
theorem tabA_has {os : List α} {x : α} (h : x ∈ os) : (look (tabA os) x).isSome = true := by rw [tabA_in, decide_eq_true h]
theorem tabA_put {os : List α} {x : α} (h : x ∉ os) : put (tabA os) x (os.length : Int) = tabA (os ++ [x]) := by
  rw [tabA_snoc, put_new]
  have := tabA_in (os := os) (x := x)
  rw [decide_eq_false h] at this
  cases hl : look (tabA os) x with
  | none => rfl
  | some v => rw [hl] at this; cases this
theorem few_sub : ∀ (ks os : List α), os.Nodup → (∀ x, x ∈ os → x ∈ ks) → os.length ≤ ks.length
  | [], os, _, h => by
    cases os with
    | nil => exact Nat.le_refl _
    | cons x os => exact nomatch h x List.mem_cons_self
  | k :: ks, os, nd, h => by
    by_cases hm : k ∈ os
    · have h1 := List.length_erase_of_mem hm
      have h2 := few_sub ks (os.erase k) (nd.erase _) (fun x hx => by
        have hx' := (nd.mem_erase_iff).mp hx
        exact (List.mem_cons.mp (h x hx'.2)).resolve_left hx'.1)
      have := List.length_pos_of_mem hm
      rw [List.length_cons]; omega
    · have := few_sub ks os nd (fun x hx => (List.mem_cons.mp (h x hx)).resolve_left fun e => hm (e ▸ hx))
      rw [List.length_cons]; omega
theorem few_keys {β : Type} : ∀ {os : List α} {w : List (α × β)}, os.Nodup → (∀ x, x ∈ os → (look w x).isSome = true) → os.length ≤ w.length := fun {os w} nd h => by
  have := few_sub (w.map (·.1)) os nd fun x hx => look_some_iff.mp (h x hx)
  rwa [List.length_map] at this
end
end My

set_option Elab.async false
set_option linter.all false
set_option maxRecDepth 100000
set_option maxHeartbeats 4000000
namespace My
open Fw
/-! ### draws -/
def mix (cell k most : Int) : Int := ((cell % 1000003 + 1) * 48271 + (k * k + 3) * 69621) % 1000033 * (k + 7) / 5 % most
theorem mix_lo {cell k most : Int} (h : 0 < most) : 0 ≤ mix cell k most := by unfold mix; exact Int.emod_nonneg _ (by omega)
theorem mix_hi {cell k most : Int} (h : 0 < most) : mix cell k most < most := by unfold mix; exact Int.emod_lt_of_pos _ h
/-! ### machines as lists -/
abbrev Mc := List (List Int) × List Int
def mRow (cell rooms letters r : Int) : List Int := (List.range letters.toNat).map fun (k : Nat) => mix cell (64 * r + (k : Int)) rooms
def mRows (cell rooms letters : Int) : List (List Int) := (List.range rooms.toNat).map fun (r : Nat) => mRow cell rooms letters r
def machine (cell rooms letters most : Int) : Mc :=
  ((mRows cell rooms letters).set 0 (((mRows cell rooms letters).getD 0 []).set 0 0), (List.range rooms.toNat).map fun (r : Nat) => mix (cell / 7) (8 * (r : Int) + 1) most)
/-- rows of L letters, each next one a room -/
structure Okm (m : Mc) (L : Int) : Prop where
  pos : 0 < m.1.length
  sg : m.2.length = m.1.length
  len : ∀ r, r ∈ m.1 → (r.length : Int) = L
  nx : ∀ r, r ∈ m.1 → ∀ x, x ∈ r → 0 ≤ x ∧ x < m.1.length
theorem Okm.row {m : Mc} {L r : Int} (h : Okm m L) (h0 : 0 ≤ r) (h1 : r < m.1.length) : ((m.1.getD r.toNat []).length : Int) = L := by
  refine h.len _ ?_
  rw [List.getD_eq_getElem?_getD, List.getElem?_eq_getElem (show r.toNat < m.1.length by omega)]
  exact List.getElem_mem _
theorem Okm.next {m : Mc} {L r l : Int} (h : Okm m L) (h0 : 0 ≤ r) (h1 : r < m.1.length) (l0 : 0 ≤ l) (l1 : l < L) : 0 ≤ (m.1.getD r.toNat []).getD l.toNat 0 ∧ (m.1.getD r.toNat []).getD l.toNat 0 < m.1.length := by
  have hr := h.row h0 h1
  have hm : m.1.getD r.toNat [] ∈ m.1 := by
    rw [List.getD_eq_getElem?_getD, List.getElem?_eq_getElem (show r.toNat < m.1.length by omega)]
    exact List.getElem_mem _
  refine h.nx _ hm _ ?_
  generalize m.1.getD r.toNat [] = row at hr
  rw [List.getD_eq_getElem?_getD, List.getElem?_eq_getElem (show l.toNat < row.length by omega)]
  exact List.getElem_mem _
def step (m : Mc) (r l : Int) : Int := (m.1.getD r.toNat []).getD l.toNat 0
def roomOf (m : Mc) (ls : List Int) : Int := ls.foldl (step m) 0
theorem Okm.foldl {m : Mc} {L : Int} (h : Okm m L) : ∀ (ls : List Int) (r : Int), (∀ l, l ∈ ls → 0 ≤ l ∧ l < L) → 0 ≤ r ∧ r < m.1.length → 0 ≤ ls.foldl (step m) r ∧ ls.foldl (step m) r < m.1.length
  | [], _, _, hr => hr
  | l :: ls, r, hl, hr => Okm.foldl h ls _ (fun x hx => hl x (List.mem_cons_of_mem _ hx)) (h.next hr.1 hr.2 (hl l List.mem_cons_self).1 (hl l List.mem_cons_self).2)
theorem Okm.room {m : Mc} {L : Int} (h : Okm m L) {ls : List Int} (hl : ∀ l, l ∈ ls → 0 ≤ l ∧ l < L) : 0 ≤ roomOf m ls ∧ roomOf m ls < m.1.length :=
  h.foldl ls 0 hl ⟨Int.le_refl _, by have := h.pos; omega⟩
theorem mRows_len (cell rooms letters : Int) : (mRows cell rooms letters).length = rooms.toNat := by unfold mRows; rw [List.length_map, List.length_range]
theorem mRow_len (cell rooms letters r : Int) : (mRow cell rooms letters r).length = letters.toNat := by unfold mRow; rw [List.length_map, List.length_range]
theorem mRows_at {cell rooms letters : Int} {k : Nat} (h : k < rooms.toNat) : (mRows cell rooms letters)[k]? = some (mRow cell rooms letters k) := by
  unfold mRows
  rw [List.getElem?_map, List.getElem?_range h]; rfl
theorem mRow_mem {cell rooms letters r x : Int} (h : 0 < rooms) (hx : x ∈ mRow cell rooms letters r) : 0 ≤ x ∧ x < rooms := by
  unfold mRow at hx
  obtain ⟨k, _, rfl⟩ := List.mem_map.mp hx
  exact ⟨mix_lo h, mix_hi h⟩
theorem machine_ok {cell rooms letters most : Int} (h1 : 0 < rooms) (h2 : 0 < letters) : Okm (machine cell rooms letters most) letters := by
  have hl := mRows_len cell rooms letters
  have h0 : (mRows cell rooms letters)[0]? = some (mRow cell rooms letters 0) := mRows_at (by omega)
  have hg : (mRows cell rooms letters).getD 0 [] = mRow cell rooms letters 0 := by rw [List.getD_eq_getElem?_getD, h0]; rfl
  have key : ∀ r, r ∈ (machine cell rooms letters most).1 → ((r.length : Int) = letters ∧ ∀ x, x ∈ r → 0 ≤ x ∧ x < rooms) := by
    intro r hr
    unfold machine at hr
    rw [hg] at hr
    rcases List.mem_or_eq_of_mem_set hr with hr | hr
    · unfold mRows at hr
      obtain ⟨k, _, rfl⟩ := List.mem_map.mp hr
      exact ⟨by rw [mRow_len]; omega, fun x hx => mRow_mem h1 hx⟩
    · subst hr
      refine ⟨by rw [List.length_set, mRow_len]; omega, fun x hx => ?_⟩
      rcases List.mem_or_eq_of_mem_set hx with hx | hx
      · exact mRow_mem h1 hx
      · subst hx; omega
  have len : (machine cell rooms letters most).1.length = rooms.toNat := by unfold machine; rw [List.length_set, hl]
  refine ⟨by rw [len]; omega, by rw [len]; unfold machine; simp, fun r hr => (key r hr).1, fun r hr x hx => ?_⟩
  rw [len]
  have := (key r hr).2 x hx
  omega
theorem roomOf_zeros {m : Mc} (n : Nat) (ls : List Int) (h : step m 0 0 = 0) : roomOf m (List.replicate n 0 ++ ls) = roomOf m ls := by
  unfold roomOf
  rw [List.foldl_append]
  congr 1
  induction n with
  | zero => rfl
  | succ n ih => rw [List.replicate_succ, List.foldl_cons, h, ih]
theorem machine_front {cell rooms letters most : Int} (h1 : 0 < rooms) (h2 : 0 < letters) : step (machine cell rooms letters most) 0 0 = 0 := by
  have hl := mRows_len cell rooms letters
  have h0 : (mRows cell rooms letters)[0]? = some (mRow cell rooms letters 0) := mRows_at (by omega)
  have hg : (mRows cell rooms letters).getD 0 [] = mRow cell rooms letters 0 := by rw [List.getD_eq_getElem?_getD, h0]; rfl
  have hq : ((mRows cell rooms letters).set 0 ((mRow cell rooms letters 0).set 0 0)).getD 0 [] = (mRow cell rooms letters 0).set 0 0 := by
    rw [List.getD_eq_getElem?_getD, List.getElem?_set_self (by omega)]; rfl
  unfold step machine
  show (((mRows cell rooms letters).set 0 (((mRows cell rooms letters).getD 0 []).set 0 0)).getD 0 []).getD 0 0 = 0
  rw [hg, hq, List.getD_eq_getElem?_getD, List.getElem?_set_self (by rw [mRow_len]; omega)]
  rfl
structure OkRows (rows : List (List Int)) (signs : List Int) (fewest most : Int) : Prop where
  pos : 0 < rows.length
  le : rows.length ≤ 100
  sg : signs.length = rows.length
  len : ∀ r, r ∈ rows → fewest ≤ r.length ∧ (r.length : Int) ≤ most ∧ r.length = (rows.getD 0 []).length
  nx : ∀ r, r ∈ rows → ∀ x, x ∈ r → 0 ≤ x ∧ x < rows.length
  sgn : ∀ s, s ∈ signs → 0 ≤ s ∧ s ≤ 9
theorem machine_rows {cell rooms letters most : Int} (h1 : 0 < rooms) (h2 : 0 < letters) (h3 : rooms ≤ 100) (h4 : letters ≤ 64) (h5 : 0 < most) (h6 : most ≤ 10) : OkRows (machine cell rooms letters most).1 (machine cell rooms letters most).2 1 64 := by
  have ok := machine_ok (cell := cell) (most := most) h1 h2
  have len : (machine cell rooms letters most).1.length = rooms.toNat := by unfold machine; rw [List.length_set]; exact mRows_len _ _ _
  refine ⟨ok.pos, by omega, ok.sg, fun r hr => ?_, ok.nx, fun s hs => ?_⟩
  · have a := ok.len r hr
    have b := ok.len _ (getD0_mem (z := []) ok.pos)
    omega
  · unfold machine at hs
    obtain ⟨k, _, rfl⟩ := List.mem_map.mp hs
    have a := mix_lo (cell := cell / 7) (k := 8 * (k : Int) + 1) h5
    have b := mix_hi (cell := cell / 7) (k := 8 * (k : Int) + 1) h5
    omega
end My

set_option Elab.async false
set_option linter.all false
set_option maxRecDepth 100000
set_option maxHeartbeats 4000000
namespace My
open PySem Fw
/-! ### words -/
abbrev ch (c : Nat) : Str := ⟨#[c]⟩
abbrev tx (t : List Nat) : Str := ⟨t.toArray⟩
theorem tx_list (z : Str) : tx z.cps.toList = z := by cases z; rfl
theorem tx_len (t : List Nat) : (tx t).length = t.length := by simp [Str.length]
theorem str_len (z : Str) : z.cps.toList.length = z.length := by simp [Str.length]
theorem join_flat : ∀ ys : List Str, (Txt.join (Str.ofString "") ys).cps.toList = ys.flatMap fun y => y.cps.toList := fun ys => by
  have h := SX.join_S [] (ys.map fun y => y.cps.toList)
  have e : (ys.map fun y => y.cps.toList).map SX.S = ys := by
    rw [List.map_map]
    exact (List.map_congr_left fun y _ => by cases y; rfl).trans (List.map_id _)
  rw [e] at h
  have e2 : (SX.S []) = Str.ofString "" := by decide
  rw [e2] at h
  rw [h]
  show (TL.joinL [] (ys.map fun y => y.cps.toList)).toArray.toList = _
  rw [List.toList_toArray]
  have : ∀ l : List (List Nat), TL.joinL [] l = l.flatten := by
    intro l
    induction l with
    | nil => rfl
    | cons p l ih =>
      cases l with
      | nil => simp [TL.joinL]
      | cons q r =>
        show p ++ ([] ++ TL.joinL [] (q :: r)) = _
        rw [ih]; rfl
  rw [this, List.flatMap_def]
section
variable {κ β : Type} [DecidableEq κ]
theorem look_repl (k x : κ) (v : β) : ∀ l : List (κ × β), look (l.map fun p => if p.1 = k then (p.1, v) else p) x = (look l x).map fun u => if x = k then v else u
  | [] => rfl
  | p :: l => by
    rw [List.map_cons]
    by_cases hx : p.1 = x
    · rw [look_pos hx]
      by_cases hk : p.1 = k
      · rw [if_pos hk, look_pos (show ((p.1, v) : κ × β).1 = x from hx)]
        show some v = some (if x = k then v else p.2)
        rw [if_pos (hx.symm.trans hk)]
      · rw [if_neg hk, look_pos hx]
        show some p.2 = some (if x = k then v else p.2)
        rw [if_neg (fun e => hk (hx.trans e))]
    · rw [look_neg hx]
      by_cases hk : p.1 = k
      · rw [if_pos hk, look_neg (show ¬ ((p.1, v) : κ × β).1 = x from hx), look_repl k x v l]
      · rw [if_neg hk, look_neg hx, look_repl k x v l]
theorem look_put (l : List (κ × β)) (k x : κ) (v : β) : look (put l k v) x = if x = k then some v else look l x := by
  unfold put
  rw [look_any]
  cases h : look l k with
  | none =>
    rw [if_neg (by simp), look_snoc]
    by_cases e : x = k
    · subst e; rw [h]; simp
    · rw [if_neg e]
      cases hx : look l x with
      | none => simp [Ne.symm e]
      | some u => simp
  | some u =>
    rw [if_pos (by simp), look_repl]
    by_cases e : x = k
    · subst e; rw [h]; simp
    · rw [if_neg e]
      cases look l x <;> simp [e]
theorem put_keys (l : List (κ × β)) (k : κ) (v : β) : (put l k v).map (·.1) = if k ∈ l.map (·.1) then l.map (·.1) else l.map (·.1) ++ [k] := by
  unfold put
  have hm : (l.any fun p => decide (p.1 = k)) = true ↔ k ∈ l.map (·.1) := by rw [look_any]; exact look_some_iff
  by_cases h : k ∈ l.map (·.1)
  · rw [if_pos (hm.mpr h), if_pos h, List.map_map]
    refine List.map_congr_left fun p _ => ?_
    show (if p.1 = k then (p.1, v) else p).1 = p.1
    split <;> rfl
  · rw [if_neg (fun z => h (hm.mp z)), if_neg h, List.map_append]; rfl
theorem put_nodup {l : List (κ × β)} {k : κ} {v : β} (h : (l.map (·.1)).Nodup) : ((put l k v).map (·.1)).Nodup := by
  rw [put_keys]
  split
  · exact h
  · rename_i hm
    exact List.nodup_append.mpr ⟨h, by simp, fun a ha b hb e => hm (by rw [← List.mem_singleton.mp hb, ← e]; exact ha)⟩
end
structure WOk (w : List (Str × Str)) (s : List (Str × Int)) (b : Str) (L : Nat) : Prop where
  len : ∀ x u, look w x = some u → u.length = L
  cl : ∀ x u, look w x = some u → ∀ c, c ∈ u.cps.toList → (look w (ch c)).isSome = true
  bw : (look w b).isSome = true
  b1 : b.length = 1
  fst : ch (((look w b).getD Str.empty).cps.toList.getD 0 0) = b
  lo : 2 ≤ L
  hi : L ≤ 5
  sg : ∀ x, (look w x).isSome = true → (look s x).isSome = true
  si : ∀ x u, (look w x).isSome = true → look s x = some u → 0 ≤ u ∧ u ≤ 9
  nw : (w.map (·.1)).Nodup
  ns : (s.map (·.1)).Nodup
  fw : w.length < 64
  fs : s.length < 64
theorem WOk.word {w : List (Str × Str)} {s : List (Str × Int)} {b : Str} {L : Nat} (h : WOk w s b L) {x : Str} (hx : (look w x).isSome = true) : ((look w x).getD Str.empty).length = L := h.len x _ (look_getD Str.empty hx)
theorem WOk.sign {w : List (Str × Str)} {s : List (Str × Int)} {b : Str} {L : Nat} (h : WOk w s b L) {x : Str} (hx : (look w x).isSome = true) : 0 ≤ (look s x).getD 0 ∧ (look s x).getD 0 ≤ 9 := h.si x _ hx (look_getD 0 (h.sg x hx))
/-! ### the text that grows -/
def wl (w : List (Str × Str)) (c : Nat) : List Nat := ((look w (ch c)).getD Str.empty).cps.toList
def Tn (w : List (Str × Str)) (b : Str) : Nat → List Nat
  | 0 => b.cps.toList
  | k + 1 => (Tn w b k).flatMap (wl w)
def Gr (w : List (Str × Str)) (b : Str) (many : Int) : Str := tx ((Tn w b many.toNat).take many.toNat)
section
variable {w : List (Str × Str)} {s : List (Str × Int)} {b : Str} {L : Nat}
theorem WOk.has (h : WOk w s b L) : ∀ k c, c ∈ Tn w b k → (look w (ch c)).isSome = true
  | 0, c, hc => by
    have h1 := h.b1
    rw [← str_len] at h1
    obtain ⟨d, hd⟩ := List.length_eq_one_iff.mp h1
    have hc' : c ∈ b.cps.toList := hc
    rw [hd] at hc'
    rw [List.mem_singleton.mp hc']
    have e : ch d = b := by
      rw [← tx_list b, hd]
    rw [e]; exact h.bw
  | k + 1, c, hc => by
    obtain ⟨d, hd, hc'⟩ := List.mem_flatMap.mp hc
    have := WOk.has h k d hd
    exact h.cl _ _ (look_getD Str.empty this) c hc'
theorem WOk.wlen (h : WOk w s b L) {c : Nat} (hc : (look w (ch c)).isSome = true) : (wl w c).length = L := by
  unfold wl
  rw [str_len]
  exact h.word hc
theorem flat_len (h : WOk w s b L) : ∀ t : List Nat, (∀ c, c ∈ t → (look w (ch c)).isSome = true) → (t.flatMap (wl w)).length = t.length * L
  | [], _ => by simp
  | c :: t, ht => by
    rw [List.flatMap_cons, List.length_append, flat_len h t fun d hd => ht d (List.mem_cons_of_mem _ hd), h.wlen (ht c List.mem_cons_self), List.length_cons, Nat.succ_mul]
    omega
theorem Tn_len (h : WOk w s b L) : ∀ k, k < (Tn w b k).length
  | 0 => by
    show 0 < b.cps.toList.length
    rw [str_len, h.b1]; decide
  | k + 1 => by
    show k + 1 < ((Tn w b k).flatMap (wl w)).length
    rw [flat_len h _ (h.has k)]
    have := Tn_len h k
    have lo := h.lo
    have : (Tn w b k).length * 2 ≤ (Tn w b k).length * L := Nat.mul_le_mul_left _ lo
    omega
theorem begin_is (h : WOk w s b L) : ∃ c, b = ch c ∧ b.cps.toList = [c] ∧ (wl w c).getD 0 0 = c := by
  have h1 := h.b1
  rw [← str_len] at h1
  obtain ⟨d, hd⟩ := List.length_eq_one_iff.mp h1
  have e : b = ch d := by rw [← tx_list b, hd]
  refine ⟨d, e, hd, ?_⟩
  have := h.fst
  have h2 : ((look w b).getD Str.empty).cps.toList.getD 0 0 = d := by
    have h3 : ch (((look w b).getD Str.empty).cps.toList.getD 0 0) = ch d := this.trans e
    have := congrArg (fun z : Str => z.cps.toList) h3
    simpa using this
  unfold wl
  rw [← e]; exact h2
theorem flat_pre {t u : List Nat} (h : t <+: u) : t.flatMap (wl w) <+: u.flatMap (wl w) := by
  obtain ⟨v, rfl⟩ := h
  rw [List.flatMap_append]
  exact List.prefix_append _ _
theorem Tn_step (h : WOk w s b L) : ∀ k, Tn w b k <+: Tn w b (k + 1)
  | 0 => by
    obtain ⟨c, e, e2, e3⟩ := begin_is h
    show b.cps.toList <+: b.cps.toList.flatMap (wl w)
    rw [e2, List.flatMap_cons, List.flatMap_nil, List.append_nil]
    have hl : (wl w c).length = L := h.wlen (h.has 0 c (by show c ∈ b.cps.toList; rw [e2]; simp))
    have lo := h.lo
    cases hw : wl w c with
    | nil => rw [hw] at hl; simp at hl; omega
    | cons d r =>
      rw [hw] at e3
      have : d = c := e3
      subst this
      exact ⟨r, rfl⟩
  | k + 1 => flat_pre (Tn_step h k)
theorem Tn_le (h : WOk w s b L) {j : Nat} : ∀ d, Tn w b j <+: Tn w b (j + d)
  | 0 => List.prefix_refl _
  | d + 1 => (Tn_le h d).trans (Tn_step h (j + d))
theorem pre_take {α : Type} {t u : List α} {n : Nat} (h : t <+: u) (hn : n ≤ t.length) : t.take n = u.take n := by
  obtain ⟨v, rfl⟩ := h
  rw [List.take_append_of_le_length hn]
/-- what is long enough and stands in front gives the first ones -/
theorem first_of (h : WOk w s b L) {t : List Nat} {k n : Nat} (hp : t <+: Tn w b k) (hn : n ≤ t.length) : t.take n = (Tn w b n).take n := by
  rw [pre_take hp hn]
  have hl := Tn_len h n
  rcases Nat.le_total k n with hk | hk
  · obtain ⟨d, rfl⟩ := Nat.exists_eq_add_of_le hk
    exact pre_take (Tn_le h d) (Nat.le_trans hn hp.length_le)
  · obtain ⟨d, rfl⟩ := Nat.exists_eq_add_of_le hk
    exact (pre_take (Tn_le h d) (by omega)).symm
theorem cutS_first {z : Str} {many : Int} (h0 : 0 ≤ many) : L2.cutS z none (some many) = tx (z.cps.toList.take many.toNat) := by
  have e : many = ((many.toNat : Nat) : Int) := by omega
  rw [e, Int.toNat_natCast]
  show tx ((z.cps.toList.drop 0).take (HT.sIx z.length z.length (some ((many.toNat : Nat) : Int)) - 0)) = _
  rw [HT.sIx_nat, List.drop_zero, Nat.sub_zero]
  congr 1
  rcases Nat.le_total many.toNat z.length with hl | hl
  · rw [Nat.min_eq_left hl]
  · rw [Nat.min_eq_right hl, List.take_of_length_le (by rw [str_len]; exact Nat.le_refl _), List.take_of_length_le (by rw [str_len]; exact hl)]
theorem gr_of (h : WOk w s b L) {z : Str} {k : Nat} {many : Int} (h0 : 0 ≤ many) (hp : z.cps.toList <+: Tn w b k) (hn : many ≤ z.length) : L2.cutS z none (some many) = Gr w b many := by
  rw [cutS_first h0, first_of h hp (by rw [str_len]; omega)]
  rfl
/-- one turn of grown -/
theorem grow_step {z : Str} {k : Nat} (e : z.cps.toList = Tn w b k) : (Txt.join (Str.ofString "") (z.cps.toList.map fun (x : Nat) => (look w (ch x)).getD Str.empty)).cps.toList = Tn w b (k + 1) := by
  rw [join_flat, List.flatMap_map, e]
  rfl
theorem sum_words (h : WOk w s b L) : ∀ t : List Nat, (∀ c, c ∈ t → (look w (ch c)).isSome = true) → ((t.map fun (x : Nat) => (look w (ch x)).getD Str.empty).map (·.length)).sum = t.length * L
  | [], _ => by simp
  | c :: t, ht => by
    rw [List.map_cons, List.map_cons, List.sum_cons, sum_words h t fun d hd => ht d (List.mem_cons_of_mem _ hd), h.word (ht c List.mem_cons_self), List.length_cons, Nat.succ_mul]
    omega
end
/-! ### the front of it, letter by letter -/
structure Fr (w : List (Str × Str)) (b : Str) (z : Str) (a : Int) : Prop where
  a0 : 0 ≤ a
  pre : ∃ k, z.cps.toList <+: Tn w b k
  ln : a < z.length
  st : (a = 0 ∧ z = b) ∨ (0 < a ∧ z.cps.toList = (z.cps.toList.take a.toNat).flatMap (wl w))
section
variable {w : List (Str × Str)} {s : List (Str × Int)} {b : Str} {L : Nat}
theorem Fr.zero (h : WOk w s b L) : Fr w b b 0 := ⟨by omega, ⟨0, List.prefix_refl _⟩, by rw [h.b1]; decide, .inl ⟨rfl, rfl⟩⟩
theorem Fr.first (h : WOk w s b L) : Fr w b ((look w b).getD Str.empty) 1 := by
  obtain ⟨c, e, e2, e3⟩ := begin_is h
  have hl := h.word h.bw
  have lo := h.lo
  have ew : ((look w b).getD Str.empty).cps.toList = wl w c := by unfold wl; rw [← e]
  have et : (wl w c).take 1 = [c] := by
    have hw : (wl w c).length = L := by rw [← ew, str_len, hl]
    cases hq : wl w c with
    | nil => rw [hq] at hw; simp at hw; omega
    | cons d r => rw [hq] at e3; have : d = c := e3; subst this; rfl
  refine ⟨by omega, ⟨1, ?_⟩, by omega, .inr ⟨by omega, ?_⟩⟩
  · rw [ew]
    show wl w c <+: b.cps.toList.flatMap (wl w)
    rw [e2, List.flatMap_cons, List.flatMap_nil, List.append_nil]
    exact List.prefix_refl _
  · rw [ew]
    show wl w c = ((wl w c).take 1).flatMap (wl w)
    rw [et, List.flatMap_cons, List.flatMap_nil, List.append_nil]
theorem Fr.has (h : WOk w s b L) {z : Str} {a : Int} (f : Fr w b z a) : ∀ c, c ∈ z.cps.toList → (look w (ch c)).isSome = true := by
  obtain ⟨k, hk⟩ := f.pre
  exact fun c hc => h.has k c (hk.subset hc)
theorem Fr.next (h : WOk w s b L) {z : Str} {a : Int} (f : Fr w b z a) (ha : 0 < a) : Fr w b (z ++ (look w (ch (z.cps.toList.getD a.toNat 0))).getD Str.empty) (a + 1) ∧ ((look w (ch (z.cps.toList.getD a.toNat 0))).getD Str.empty).length = L := by
  have ln := f.ln
  have a0 := f.a0
  have lz := str_len z
  have hm : z.cps.toList.getD a.toNat 0 ∈ z.cps.toList := getD_mem' (by omega)
  have hs := f.has h _ hm
  have hwl := h.word hs
  have lo := h.lo
  rcases f.st with ⟨z0, _⟩ | ⟨_, st⟩
  · omega
  have e1 : (z ++ (look w (ch (z.cps.toList.getD a.toNat 0))).getD Str.empty).cps.toList = z.cps.toList ++ wl w (z.cps.toList.getD a.toNat 0) := by
    show (z.cps ++ ((look w (ch (z.cps.toList.getD a.toNat 0))).getD Str.empty).cps).toList = _
    rw [Array.toList_append]; rfl
  have et : z.cps.toList.take (a.toNat + 1) = z.cps.toList.take a.toNat ++ [z.cps.toList.getD a.toNat 0] := take_next (getD_some 0 (by omega))
  have e2 : z.cps.toList ++ wl w (z.cps.toList.getD a.toNat 0) = (z.cps.toList.take (a.toNat + 1)).flatMap (wl w) := by
    rw [et, List.flatMap_append, List.flatMap_cons, List.flatMap_nil, List.append_nil, ← st]
  have hlen : (z ++ (look w (ch (z.cps.toList.getD a.toNat 0))).getD Str.empty).length = z.length + L := by
    rw [← str_len, e1, List.length_append, str_len]
    congr 1
  refine ⟨⟨by omega, ?_, ?_, .inr ⟨by omega, ?_⟩⟩, hwl⟩
  · obtain ⟨k, hk⟩ := f.pre
    refine ⟨k + 1, ?_⟩
    rw [e1, e2]
    exact flat_pre ((List.take_prefix _ _).trans hk)
  · rw [hlen]; omega
  · rw [e1, show (a + 1).toNat = a.toNat + 1 by omega, List.take_append_of_le_length (by omega), ← e2]
end
/-! ### the words of a script -/
def ABC : Str := Str.ofString "abcdefghijklmnopqrstuvwxyz"
theorem abc_len : ABC.length = 26 := by decide +kernel
def lettersL (many cell : Int) : List Str := (List.range many.toNat).map fun (k : Nat) => (⟨#[ABC.cps.toList.getD ((cell / 29 % 26 + (k : Int) * ([1, 3, 5, 7, 9, 11] : List Int).getD (cell % 6 : Int).toNat 0) % 26 : Int).toNat 0]⟩ : Str)
theorem lettersL_len (many cell : Int) : (lettersL many cell).length = many.toNat := by unfold lettersL; rw [List.length_map, List.length_range]
theorem lettersL_one {many cell : Int} : ∀ x, x ∈ lettersL many cell → ∃ c, x = ch c := by
  intro x hx
  obtain ⟨k, _, rfl⟩ := List.mem_map.mp hx
  exact ⟨_, rfl⟩
def wordAt (ns : List Int) (ls : List Str) (base : Int) (k : Nat) : Str := Txt.join (Str.ofString "") ((List.range base.toNat).map fun (j : Nat) => ls.getD (mix (spread ns 2 / ((k : Int) + 1)) (8 * (k : Int) + (j : Int)) (ls.length : Int)).toNat Str.empty)
def wordsF (ns : List Int) (ls : List Str) (base : Int) (l : List (Str × Str)) (x : Nat × Str) : List (Str × Str) := put l x.2 (wordAt ns ls base x.1)
def signsF (ns : List Int) (l : List (Str × Int)) (x : Nat × Str) : List (Str × Int) := put l x.2 (mix (spread ns 3) ((x.1 : Int) + 1) 10)
def words0 (ns : List Int) (ls : List Str) (base : Int) : List (Str × Str) := (num ls).foldl (wordsF ns ls base) []
def signs0 (ns : List Int) (ls : List Str) : List (Str × Int) := (num ls).foldl (signsF ns) []
def wordsOf (ns : List Int) (ls : List Str) (base : Int) : List (Str × Str) := put (words0 ns ls base) (ls.getD 0 Str.empty) (ls.getD 0 Str.empty ++ L2.cutS ((look (words0 ns ls base) (ls.getD 0 Str.empty)).getD Str.empty) (some 1) none)
theorem wordAt_is {ns : List Int} {ls : List Str} {base : Int} {k : Nat} (h1 : ∀ x, x ∈ ls → ∃ c, x = ch c) (h0 : 0 < ls.length) (hb : 0 ≤ base) : (wordAt ns ls base k).length = base.toNat ∧ ∀ c, c ∈ (wordAt ns ls base k).cps.toList → ch c ∈ ls := by
  unfold wordAt
  have key : ∀ (js : List Nat), (js.flatMap fun (j : Nat) => (ls.getD (mix (spread ns 2 / ((k : Int) + 1)) (8 * (k : Int) + (j : Int)) (ls.length : Int)).toNat Str.empty).cps.toList).length = js.length ∧
      ∀ c, c ∈ (js.flatMap fun (j : Nat) => (ls.getD (mix (spread ns 2 / ((k : Int) + 1)) (8 * (k : Int) + (j : Int)) (ls.length : Int)).toNat Str.empty).cps.toList) → ch c ∈ ls := by
    intro js
    induction js with
    | nil => exact ⟨rfl, fun c h => by simp at h⟩
    | cons j js ih =>
      have hlo := mix_lo (cell := spread ns 2 / ((k : Int) + 1)) (k := 8 * (k : Int) + (j : Int)) (show (0 : Int) < ls.length by omega)
      have hhi := mix_hi (cell := spread ns 2 / ((k : Int) + 1)) (k := 8 * (k : Int) + (j : Int)) (show (0 : Int) < ls.length by omega)
      have hm : ls.getD (mix (spread ns 2 / ((k : Int) + 1)) (8 * (k : Int) + (j : Int)) (ls.length : Int)).toNat Str.empty ∈ ls := getD_mem' (by omega)
      obtain ⟨c, hc⟩ := h1 _ hm
      rw [List.flatMap_cons, hc, List.length_append, ih.1]
      refine ⟨by show 1 + js.length = _; rw [List.length_cons]; omega, fun d hd => ?_⟩
      rcases List.mem_append.mp hd with hd | hd
      · have : d = c := by simpa using hd
        rw [this, ← hc]; exact hm
      · exact ih.2 d hd
  have e : ∀ f : Nat → Str, (Txt.join (Str.ofString "") ((List.range base.toNat).map f)).cps.toList = (List.range base.toNat).flatMap fun j => (f j).cps.toList := fun f => by rw [join_flat, List.flatMap_map]
  refine ⟨?_, fun c hc => ?_⟩
  · rw [← str_len, e, (key _).1, List.length_range]
  · rw [e] at hc
    exact (key _).2 c hc
theorem foldl_mem {α β : Type} {f : β → α → β} {P : β → Prop} : ∀ (xs : List α) (b : β), P b → (∀ b x, x ∈ xs → P b → P (f b x)) → P (xs.foldl f b)
  | [], _, h, _ => h
  | x :: xs, b, h, g => foldl_mem xs _ (g b x List.mem_cons_self h) fun c y hy => g c y (List.mem_cons_of_mem _ hy)
theorem words0_mem {ns : List Int} {ls : List Str} {base : Int} : ∀ x u, look (words0 ns ls base) x = some u → (∃ k, u = wordAt ns ls base k) ∧ x ∈ ls := by
  unfold words0
  refine foldl_mem (P := fun l => ∀ x u, look l x = some u → (∃ k, u = wordAt ns ls base k) ∧ x ∈ ls) (num ls) [] (fun x u h => by rw [look_nil] at h; cases h) fun l p hp h x u hx => ?_
  unfold wordsF at hx
  rw [look_put] at hx
  split at hx
  · rename_i e
    cases hx
    obtain ⟨i, hi, rfl⟩ := List.mem_iff_getElem.mp hp
    exact ⟨⟨_, rfl⟩, by rw [e]; exact num_mem (List.getElem?_eq_getElem hi)⟩
  · exact h x u hx
theorem fold_has {β : Type} {f : List (Str × β) → Nat × Str → List (Str × β)} (hf : ∀ l x, ∃ v, f l x = put l x.2 v) : ∀ (xs : List (Nat × Str)) (l : List (Str × β)) (x : Str), ((look l x).isSome = true ∨ ∃ i, (i, x) ∈ xs) → (look (xs.foldl f l) x).isSome = true
  | [], l, x, h => h.elim id fun ⟨_, z⟩ => nomatch z
  | p :: xs, l, x, h => by
    refine fold_has hf xs (f l p) x ?_
    obtain ⟨v, e⟩ := hf l p
    rw [e, look_put]
    by_cases hx : x = p.2
    · left; rw [if_pos hx]; rfl
    · rw [if_neg hx]
      rcases h with h | ⟨i, h⟩
      · exact .inl h
      · rcases List.mem_cons.mp h with h | h
        · exact absurd (by rw [← h]) hx
        · exact .inr ⟨i, h⟩
theorem num_all {ls : List Str} {x : Str} (h : x ∈ ls) : ∃ i, (i, x) ∈ num ls := by
  obtain ⟨i, hi, rfl⟩ := List.mem_iff_getElem.mp h
  refine ⟨i, List.mem_of_getElem? (i := i) ?_⟩
  unfold num
  rw [List.getElem?_zip_eq_some]
  exact ⟨List.getElem?_range hi, List.getElem?_eq_getElem hi⟩
theorem fold_nodup {β : Type} {f : List (Str × β) → Nat × Str → List (Str × β)} (hf : ∀ l x, ∃ v, f l x = put l x.2 v) (xs : List (Nat × Str)) : ((xs.foldl f []).map (·.1)).Nodup :=
  foldl_mem (P := fun l : List (Str × β) => (l.map (·.1)).Nodup) xs [] (by simp) fun l x _ h => by
    obtain ⟨v, e⟩ := hf l x
    rw [e]; exact put_nodup h
theorem fold_len {β : Type} {f : List (Str × β) → Nat × Str → List (Str × β)} (hf : ∀ l x, ∃ v, f l x = put l x.2 v) : ∀ (xs : List (Nat × Str)) (l : List (Str × β)), (xs.foldl f l).length ≤ l.length + xs.length
  | [], l => by simp
  | p :: xs, l => by
    obtain ⟨v, e⟩ := hf l p
    have h1 := fold_len hf xs (f l p)
    have h2 : (f l p).length ≤ l.length + 1 := by rw [e]; exact put_len _ _ _
    rw [List.foldl_cons, List.length_cons]
    omega
theorem signs0_mem {ns : List Int} {ls : List Str} : ∀ x u, look (signs0 ns ls) x = some u → 0 ≤ u ∧ u ≤ 9 := by
  unfold signs0
  refine foldl_mem (P := fun l => ∀ x u, look l x = some u → 0 ≤ u ∧ u ≤ 9) (num ls) [] (fun x u h => by rw [look_nil] at h; cases h) fun l p hp h x u hx => ?_
  unfold signsF at hx
  rw [look_put] at hx
  split at hx
  · cases hx
    have a := mix_lo (cell := spread ns 3) (k := (p.1 : Int) + 1) (show (0 : Int) < 10 by omega)
    have b := mix_hi (cell := spread ns 3) (k := (p.1 : Int) + 1) (show (0 : Int) < 10 by omega)
    omega
  · exact h x u hx
theorem wordsOf_ok {ns : List Int} {ls : List Str} {base : Int} (h1 : ∀ x, x ∈ ls → ∃ c, x = ch c) (h0 : 0 < ls.length) (hl : ls.length < 60) (hb : 2 ≤ base) (hb5 : base ≤ 5) : WOk (wordsOf ns ls base) (signs0 ns ls) (ls.getD 0 Str.empty) base.toNat := by
  have hm : ls.getD 0 Str.empty ∈ ls := getD_mem' h0
  obtain ⟨c, hc⟩ := h1 _ hm
  have wf : ∀ l x, ∃ v, wordsF ns ls base l x = put l x.2 v := fun l x => ⟨_, rfl⟩
  have sf : ∀ l x, ∃ v, signsF ns l x = put l x.2 v := fun l x => ⟨_, rfl⟩
  have has0 : ∀ x, x ∈ ls → (look (words0 ns ls base) x).isSome = true := fun x hx => fold_has wf _ _ _ (.inr (num_all hx))
  have hasS : ∀ x, x ∈ ls → (look (signs0 ns ls) x).isSome = true := fun x hx => fold_has sf _ _ _ (.inr (num_all hx))
  have fst : ∃ u, look (words0 ns ls base) (ls.getD 0 Str.empty) = some u ∧ u.length = base.toNat ∧ ∀ d, d ∈ u.cps.toList → ch d ∈ ls := by
    have e := look_getD Str.empty (has0 _ hm)
    obtain ⟨⟨k, hk⟩, _⟩ := words0_mem _ _ e
    refine ⟨_, e, ?_⟩
    rw [hk]
    exact wordAt_is h1 h0 (by omega)
  obtain ⟨u, hu, ul, um⟩ := fst
  have nw : ls.getD 0 Str.empty ++ L2.cutS u (some 1) none = tx (c :: u.cps.toList.drop 1) := by
    rw [hc]
    show Str.mk (#[c] ++ (L2.cutS u (some 1) none).cps) = _
    have e : (L2.cutS u (some 1) none).cps = (u.cps.toList.drop 1).toArray := by
      show ((u.cps.toList.drop (HT.sIx u.length 0 (some ((1 : Nat) : Int)))).take (HT.sIx u.length u.length none - HT.sIx u.length 0 (some ((1 : Nat) : Int)))).toArray = _
      rw [HT.sIx_nat, HT.sIx_none, Nat.min_eq_left (by omega), List.take_of_length_le (by rw [List.length_drop, str_len]; exact Nat.le_refl _)]
    rw [e]
    simp
  have lk : ∀ x v, look (wordsOf ns ls base) x = some v → v.length = base.toNat ∧ (∀ d, d ∈ v.cps.toList → ch d ∈ ls) ∧ x ∈ ls := by
    intro x v hv
    unfold wordsOf at hv
    rw [look_put, hu, Option.getD_some, nw] at hv
    split at hv
    · rename_i e
      cases hv
      refine ⟨by rw [tx_len, List.length_cons, List.length_drop, str_len]; omega, fun d hd => ?_, by rw [e]; exact hm⟩
      have hd' : d ∈ c :: u.cps.toList.drop 1 := by simpa using hd
      rcases List.mem_cons.mp hd' with rfl | hd'
      · rw [← hc]; exact hm
      · exact um d (List.mem_of_mem_drop hd')
    · obtain ⟨⟨k, hk⟩, hx⟩ := words0_mem _ _ hv
      obtain ⟨a, b⟩ := wordAt_is (ns := ns) (k := k) h1 h0 (show 0 ≤ base by omega)
      rw [hk]
      exact ⟨a, b, hx⟩
  have has : ∀ x, x ∈ ls → (look (wordsOf ns ls base) x).isSome = true := by
    intro x hx
    unfold wordsOf
    rw [look_put]
    split
    · rfl
    · exact has0 x hx
  have hb0 := has _ hm
  have l60 := fold_len wf (num ls) []
  have s60 := fold_len sf (num ls) []
  rw [num_len] at l60 s60
  refine ⟨fun x v h => (lk x v h).1, fun x v h d hd => has _ ((lk x v h).2.1 d hd), hb0, by rw [hc]; rfl, ?_, by omega, by omega, fun x h => hasS x (lk x _ (look_getD Str.empty h)).2.2, fun x u _ h => signs0_mem x u h, ?_, fold_nodup sf _, ?_, ?_⟩
  · unfold wordsOf
    rw [look_put, if_pos rfl, Option.getD_some, hu, Option.getD_some, nw, hc]
    rfl
  · unfold wordsOf
    exact put_nodup (fold_nodup wf _)
  · unfold wordsOf
    have := put_len (words0 ns ls base) (ls.getD 0 Str.empty) (ls.getD 0 Str.empty ++ L2.cutS ((look (words0 ns ls base) (ls.getD 0 Str.empty)).getD Str.empty) (some 1) none)
    have l2 : (words0 ns ls base).length ≤ ls.length := by unfold words0; simpa using l60
    omega
  · have l2 : (signs0 ns ls).length ≤ ls.length := by unfold signs0; simpa using s60
    omega
theorem join_len (ys : List Str) : (Txt.join (Str.ofString "") ys).length = (ys.map (·.length)).sum := by
  rw [← str_len, join_flat, List.length_flatMap]
  simp only [str_len]
theorem empty_len : (Str.ofString "").length = 0 := by decide
theorem empty_is : Str.ofString "" = Str.empty := by decide
theorem words0_word {ns : List Int} {ls : List Str} {base : Int} {x : Str} (h1 : ∀ x, x ∈ ls → ∃ c, x = ch c) (h0 : 0 < ls.length) (hb : 0 ≤ base) (hx : x ∈ ls) : (look (words0 ns ls base) x).isSome = true ∧ ((look (words0 ns ls base) x).getD Str.empty).length = base.toNat := by
  have e : (look (words0 ns ls base) x).isSome = true := fold_has (fun l x => ⟨_, rfl⟩) _ _ _ (.inr (num_all hx))
  refine ⟨e, ?_⟩
  obtain ⟨⟨k, hk⟩, _⟩ := words0_mem _ _ (look_getD Str.empty e)
  rw [hk]
  exact (wordAt_is h1 h0 hb).1
end My

set_option Elab.async false
set_option linter.all false
set_option maxRecDepth 100000
set_option maxHeartbeats 4000000
namespace My
open Fw
/-! ### machines by cells -/
def mixed (cell k : Int) : Int := (cell % 10 ^ (15 : Int).toNat + 7919 * k * k + k) * 48271 % 2147483647
def drawn (ns : List Int) (k : Int) : Int := mixed (ns.getD k.toNat 0) (k + 1) * 16807 % 2147483647
theorem drawn_lo (ns : List Int) (k : Int) : 0 ≤ drawn ns k := by unfold drawn; omega
def lcg (n0 : Int) : Nat → Int
  | 0 => n0
  | j + 1 => lcg n0 j * 16807 % 2147483647
def byRow (cells : List Int) (rooms letters k : Int) : List Int := (List.range letters.toNat).map fun (j : Nat) => lcg (mixed (cells.getD k.toNat 0) k) (j + 1) / 11 % rooms
def byRows (cells : List Int) (rooms letters : Int) : List (List Int) := (List.range rooms.toNat).map fun (k : Nat) => byRow cells rooms letters k
def bySigns (cells : List Int) (rooms most : Int) : List Int := (List.range rooms.toNat).map fun (k : Nat) => mixed (cells.getD (k : Int).toNat 0) k % most
def machBy (cells : List Int) (rooms letters most : Int) : Mc := ((byRows cells rooms letters).set 0 (((byRows cells rooms letters).getD 0 []).set 0 0), bySigns cells rooms most)
theorem byRow_len (cells : List Int) (rooms letters k : Int) : (byRow cells rooms letters k).length = letters.toNat := by unfold byRow; rw [List.length_map, List.length_range]
theorem byRows_len (cells : List Int) (rooms letters : Int) : (byRows cells rooms letters).length = rooms.toNat := by unfold byRows; rw [List.length_map, List.length_range]
theorem byRows_0 {cells : List Int} {rooms letters : Int} (h : 0 < rooms) : (byRows cells rooms letters).getD 0 [] = byRow cells rooms letters 0 := getD_rangeMap (fun (k : Nat) => byRow cells rooms letters k) [] (by omega)
theorem byRow_mem {cells : List Int} {rooms letters k x : Int} (h : 0 < rooms) (hx : x ∈ byRow cells rooms letters k) : 0 ≤ x ∧ x < rooms := by
  unfold byRow at hx
  obtain ⟨j, _, rfl⟩ := List.mem_map.mp hx
  exact ⟨Int.emod_nonneg _ (by omega), Int.emod_lt_of_pos _ h⟩
theorem machBy_len {cells : List Int} {rooms letters most : Int} : (machBy cells rooms letters most).1.length = rooms.toNat := by
  unfold machBy
  rw [List.length_set, byRows_len]
theorem machBy_ok {cells : List Int} {rooms letters most : Int} (h1 : 0 < rooms) : Okm (machBy cells rooms letters most) (letters.toNat : Int) := by
  have key : ∀ r, r ∈ (machBy cells rooms letters most).1 → (r.length = letters.toNat ∧ ∀ x, x ∈ r → 0 ≤ x ∧ x < rooms) := by
    intro r hr
    unfold machBy at hr
    rw [byRows_0 h1] at hr
    rcases List.mem_or_eq_of_mem_set hr with hr | rfl
    · unfold byRows at hr
      obtain ⟨k, _, rfl⟩ := List.mem_map.mp hr
      exact ⟨byRow_len _ _ _ _, fun x hx => byRow_mem h1 hx⟩
    · refine ⟨by rw [List.length_set, byRow_len], fun x hx => ?_⟩
      rcases List.mem_or_eq_of_mem_set hx with hx | rfl
      · exact byRow_mem h1 hx
      · omega
  have len := machBy_len (cells := cells) (rooms := rooms) (letters := letters) (most := most)
  refine ⟨by omega, ?_, fun r hr => by rw [(key r hr).1], fun r hr x hx => ?_⟩
  · rw [len]; unfold machBy bySigns; rw [List.length_map, List.length_range]
  · have := (key r hr).2 x hx
    omega
theorem machBy_sign {cells : List Int} {rooms letters most : Int} (h : 0 < most) : ∀ s, s ∈ (machBy cells rooms letters most).2 → 0 ≤ s ∧ s < most := by
  intro s hs
  unfold machBy bySigns at hs
  obtain ⟨k, _, rfl⟩ := List.mem_map.mp hs
  exact ⟨Int.emod_nonneg _ (by omega), Int.emod_lt_of_pos _ h⟩
theorem machBy_front {cells : List Int} {rooms letters most : Int} (h1 : 0 < rooms) (h2 : 0 < letters) : step (machBy cells rooms letters most) 0 0 = 0 := by
  unfold step machBy
  show (((byRows cells rooms letters).set 0 (((byRows cells rooms letters).getD 0 []).set 0 0)).getD 0 []).getD 0 0 = 0
  have hq : ((byRows cells rooms letters).set 0 ((byRow cells rooms letters 0).set 0 0)).getD 0 [] = (byRow cells rooms letters 0).set 0 0 := by
    rw [List.getD_eq_getElem?_getD, List.getElem?_set_self (by rw [byRows_len]; omega)]; rfl
  rw [byRows_0 h1, hq, List.getD_eq_getElem?_getD, List.getElem?_set_self (by rw [byRow_len]; omega)]
  rfl
end My

set_option Elab.async false
set_option linter.all false
set_option maxRecDepth 100000
set_option maxHeartbeats 4000000
namespace My
open PySem Fw
abbrev Prs := List (Int × Int)
def lets (m : Mc) : Int := ((m.1.getD 0 []).length : Int)
def nextP (one other : Mc) (p : Int × Int) (k : Nat) : Int × Int := (((one.1.getD p.1.toNat []).getD k 0), ((other.1.getD p.2.toNat []).getD k 0))
def okP (one other : Mc) (pairs : Prs) (p : Int × Int) : Bool :=
  decide (0 ≤ p.1) && decide (p.1 < one.2.length) && decide (0 ≤ p.2) && decide (p.2 < other.2.length) && decide (one.2.getD p.1.toNat 0 = other.2.getD p.2.toNat 0) &&
    (List.range (one.1.getD 0 []).length).all (fun k => decide (nextP one other p k ∈ pairs))
def alikeL (one other : Mc) (pairs : Prs) : Bool := decide (lets one = lets other) && decide (((0, 0) : Int × Int) ∈ pairs) && pairs.all (okP one other pairs)
theorem alikeL_no {one other : Mc} {pairs : Prs} {p : Int × Int} (hm : p ∈ pairs) (h : okP one other pairs p = false) : alikeL one other pairs = false := by
  unfold alikeL
  rw [show pairs.all (okP one other pairs) = false from by
    rw [List.all_eq_false]
    exact ⟨p, hm, by rw [h]; decide⟩, Bool.and_false]
theorem all_snoc {α : Type} {f : α → Bool} {xs : List α} {i : Nat} {x : α} (h : (xs.take i).all f = true) (hx : xs[i]? = some x) (hf : f x = true) : (xs.take (i + 1)).all f = true := by
  rw [take_next hx, List.all_append, h]
  simp [hf]
theorem okP_sign {one other : Mc} {pairs : Prs} {p : Int × Int} (h : ¬ (0 ≤ p.1 ∧ p.1 < one.2.length ∧ 0 ≤ p.2 ∧ p.2 < other.2.length ∧ one.2.getD p.1.toNat 0 = other.2.getD p.2.toNat 0)) : okP one other pairs p = false := by
  unfold okP
  rw [Bool.and_eq_false_iff]
  left
  rw [Bool.eq_false_iff]
  intro hc
  simp only [Bool.and_eq_true, decide_eq_true_eq] at hc
  exact h ⟨hc.1.1.1.1, hc.1.1.1.2, hc.1.1.2, hc.1.2, hc.2⟩
theorem okP_next {one other : Mc} {pairs : Prs} {p : Int × Int} {k : Nat} (hk : k < (one.1.getD 0 []).length) (h : nextP one other p k ∉ pairs) : okP one other pairs p = false := by
  unfold okP
  rw [Bool.and_eq_false_iff]
  right
  rw [List.all_eq_false]
  exact ⟨k, List.mem_range.mpr hk, by rw [decide_eq_false h]; decide⟩
theorem okP_yes {one other : Mc} {pairs : Prs} {p : Int × Int} (h : 0 ≤ p.1 ∧ p.1 < one.2.length ∧ 0 ≤ p.2 ∧ p.2 < other.2.length ∧ one.2.getD p.1.toNat 0 = other.2.getD p.2.toNat 0) (hn : ∀ k, k < (one.1.getD 0 []).length → nextP one other p k ∈ pairs) : okP one other pairs p = true := by
  unfold okP
  rw [decide_eq_true h.1, decide_eq_true h.2.1, decide_eq_true h.2.2.1, decide_eq_true h.2.2.2.1, decide_eq_true h.2.2.2.2]
  simp only [Bool.true_and, List.all_eq_true]
  intro k hk
  exact decide_eq_true (hn k (List.mem_range.mp hk))
def chAt (pairs : Prs) (cell : Int) : Int := cell / 4 % ((pairs.length : Int) + 1)
def isNew (pairs : Prs) (cell : Int) : Bool := decide (cell % 4 = 1) || decide (chAt pairs cell < pairs.length)
def changedL (pairs : Prs) (cell : Int) (one other : Mc) : Prs :=
  if cell % 4 = 0 ∧ chAt pairs cell < pairs.length then cut pairs none (some (chAt pairs cell)) ++ cut pairs (some (chAt pairs cell + 1)) none
  else if cell % 4 = 1 then cut pairs none (some (chAt pairs cell)) ++ [(cell / 7 % ((one.2.length : Int) + 2) - 1, cell / 61 % ((other.2.length : Int) + 2) - 1)] ++ cut pairs (some (chAt pairs cell)) none
  else if cell % 4 = 2 ∧ chAt pairs cell < pairs.length then pairs ++ [pairs.getD (chAt pairs cell).toNat (0, 0)]
  else if chAt pairs cell < pairs.length then cut pairs none (some (chAt pairs cell)) ++ [((pairs.getD (chAt pairs cell).toNat (0, 0)).2, (pairs.getD (chAt pairs cell).toNat (0, 0)).1)] ++ cut pairs (some (chAt pairs cell + 1)) none
  else pairs
theorem chAt_bd (pairs : Prs) (cell : Int) : 0 ≤ chAt pairs cell ∧ chAt pairs cell ≤ pairs.length := by
  unfold chAt
  have a := Int.emod_nonneg (cell / 4) (show (pairs.length : Int) + 1 ≠ 0 by omega)
  have b := Int.emod_lt_of_pos (cell / 4) (show 0 < (pairs.length : Int) + 1 by omega)
  omega
theorem cut_two {α : Type} (xs : List α) {a b : Nat} (h : a ≤ b) : (cut xs none (some (a : Int))).length + (cut xs (some (b : Int)) none).length ≤ xs.length := by
  unfold cut
  simp only [List.length_take, List.length_drop, HT.sIx_nat, HT.sIx_none]
  omega
theorem changedL_len (pairs : Prs) (cell : Int) (one other : Mc) : (changedL pairs cell one other).length ≤ pairs.length + 1 := by
  obtain ⟨a0, a1⟩ := chAt_bd pairs cell
  unfold changedL
  generalize chAt pairs cell = a at *
  obtain ⟨n, rfl⟩ := Int.eq_ofNat_of_zero_le a0
  have c1 := cut_two pairs (Nat.le_refl n)
  have c2 := cut_two pairs (Nat.le_succ n)
  rw [show ((n + 1 : Nat) : Int) = (n : Int) + 1 from rfl] at c2
  have e : ((n.succ : Nat) : Int) = (n : Int) + 1 := rfl
  split
  · rw [List.length_append]; omega
  · split
    · rw [List.length_append, List.length_append, List.length_singleton]; omega
    · split
      · rw [List.length_append, List.length_singleton]; omega
      · split
        · rw [List.length_append, List.length_append, List.length_singleton]; omega
        · omega
theorem changedL_old {pairs : Prs} {cell : Int} {one other : Mc} (h : isNew pairs cell = false) : changedL pairs cell one other = pairs := by
  unfold isNew at h
  rw [Bool.or_eq_false_iff] at h
  have n1 := of_decide_eq_false h.1
  have n2 := of_decide_eq_false h.2
  unfold changedL
  rw [if_neg (fun z => n2 z.2), if_neg n1, if_neg (fun z => n2 z.2), if_neg n2]
theorem changed_fold : ∀ (cs : List Int) (ps : Prs) (one other : Mc), (cs.foldl (fun p c => changedL p c one other) ps).length ≤ ps.length + cs.length
  | [], _, _, _ => Nat.le_refl _
  | c :: cs, ps, one, other => by
    have h1 := changed_fold cs (changedL ps c one other) one other
    have h2 := changedL_len ps c one other
    rw [List.foldl_cons, List.length_cons]; omega
/-! the dict of pairs -/
def there (pairs : Prs) : List ((Int × Int) × Bool) := pairs.foldl (fun l p => put l p true) []
theorem there_fold (pairs : Prs) : ∀ (l : List ((Int × Int) × Bool)) (x : Int × Int), (look (pairs.foldl (fun l p => put l p true) l) x).isSome = ((look l x).isSome || decide (x ∈ pairs)) := by
  induction pairs with
  | nil => intro l x; simp
  | cons p pairs ih =>
    intro l x
    rw [List.foldl_cons, ih, look_put]
    by_cases e : x = p
    · subst e; simp
    · rw [if_neg e]
      simp [e]
theorem there_is (pairs : Prs) (x : Int × Int) : (look (there pairs) x).isSome = decide (x ∈ pairs) := by
  unfold there
  rw [there_fold]; rfl
theorem there_len (pairs : Prs) (n : Nat) : ((pairs.take n).foldl (fun l p => put l p true) ([] : List ((Int × Int) × Bool))).length ≤ pairs.length := by
  have key : ∀ (ps : Prs) (l : List ((Int × Int) × Bool)), (ps.foldl (fun l p => put l p true) l).length ≤ l.length + ps.length := by
    intro ps
    induction ps with
    | nil => intro l; simp
    | cons p ps ih =>
      intro l
      have := ih (put l p true)
      have := put_len l p true
      rw [List.foldl_cons, List.length_cons]; omega
  have := key (pairs.take n) []
  rw [List.length_take] at this
  simp only [List.length_nil] at this
  omega
/-! pairs met -/
def inP (one other : Mc) (p : Int × Int) : Prop := 0 ≤ p.1 ∧ p.1 < one.1.length ∧ 0 ≤ p.2 ∧ p.2 < other.1.length
def nxP (one other : Mc) (p : Int × Int) : Prs := (List.range (one.1.getD 0 []).length).map fun k => nextP one other p k
def metL (one other : Mc) : Prs := ordA (nxP one other) (0, 0) (0, 0) 200
theorem inP_few {A B : Nat} (hA : A ≤ 12) (hB : B ≤ 12) {ps : Prs} (nd : ps.Nodup) (rg : ∀ p, p ∈ ps → 0 ≤ p.1 ∧ p.1 < A ∧ 0 ≤ p.2 ∧ p.2 < B) : ps.length ≤ 144 := by
  have h := few_sub ((List.range 12).flatMap fun i => (List.range 12).map fun j => (((i : Nat) : Int), ((j : Nat) : Int))) ps nd (fun p hp => by
    have := rg p hp
    rw [List.mem_flatMap]
    exact ⟨p.1.toNat, List.mem_range.mpr (by omega), List.mem_map.mpr ⟨p.2.toNat, List.mem_range.mpr (by omega), Prod.ext (by show ((p.1.toNat : Nat) : Int) = p.1; omega) (by show ((p.2.toNat : Nat) : Int) = p.2; omega)⟩⟩)
  have e : ((List.range 12).flatMap fun i => (List.range 12).map fun j => (((i : Nat) : Int), ((j : Nat) : Int))).length = 144 := by decide +kernel
  omega
section
variable {one other : Mc} {L L' : Int}
theorem lets_is (h : Okm one L) : ((one.1.getD 0 []).length : Int) = L := h.row (Int.le_refl 0) (by have := h.pos; omega)
theorem inP_next (h1 : Okm one L) (h2 : Okm other L) {p : Int × Int} (hp : inP one other p) {k : Nat} (hk : k < (one.1.getD 0 []).length) : inP one other (nextP one other p k) := by
  have e := lets_is h1
  have a := h1.next (r := p.1) (l := (k : Int)) hp.1 hp.2.1 (by omega) (by omega)
  have b := h2.next (r := p.2) (l := (k : Int)) hp.2.2.1 hp.2.2.2 (by omega) (by omega)
  exact ⟨a.1, a.2, b.1, b.2⟩
theorem nxP_stay (h1 : Okm one L) (h2 : Okm other L) : ∀ p, inP one other p → ∀ q, q ∈ nxP one other p → inP one other q := fun p hp q hq => by
  obtain ⟨k, hk, rfl⟩ := List.mem_map.mp hq
  exact inP_next h1 h2 hp (List.mem_range.mp hk)
abbrev RP (one other : Mc) (a : Nat) (os : Prs) : Prop := Rch (nxP one other) (0, 0) (0, 0) (inP one other) a os
theorem rp_zero (h1 : Okm one L) (h2 : Okm other L') : RP one other 0 [(0, 0)] := Rch.zero (by have := h1.pos; have := h2.pos; exact ⟨Int.le_refl _, by show (0 : Int) < _; omega, Int.le_refl _, by show (0 : Int) < _; omega⟩)
theorem rp_few (hA : one.1.length ≤ 12) (hB : other.1.length ≤ 12) {a : Nat} {os : Prs} (h : RP one other a os) : os.length ≤ 144 := inP_few hA hB h.nd h.al
theorem metL_few (h1 : Okm one L) (h2 : Okm other L) (hA : one.1.length ≤ 12) (hB : other.1.length ≤ 12) : (metL one other).length ≤ 144 := by
  have key : ∀ (n a : Nat) (os : Prs), 200 - a = n → RP one other a os → (metL one other).length ≤ 144 := by
    intro n
    induction n with
    | zero =>
      intro a os hn r
      have hf := rp_few hA hB r
      have := r.le
      omega
    | succ n ih =>
      intro a os hn r
      by_cases ha : a < os.length
      · exact ih (a + 1) _ (by omega) (r.next (nxP_stay h1 h2) ha)
      · have hf := rp_few hA hB r
        unfold metL
        rw [r.done (by omega) 200 (by omega)]
        exact hf
  exact key 200 0 _ rfl (rp_zero h1 h2)
theorem nxP_take (n i : Nat) (os : Prs) (p : Int × Int) : growA os ((List.range (i + 1)).map fun k => nextP one other p k) = addA (growA os ((List.range i).map fun k => nextP one other p k)) (nextP one other p i) := by
  rw [List.range_succ, List.map_append]
  exact growA_snoc _ _ _
end
theorem range_cut {i n : Nat} (h : i ≤ n) : List.range i ++ List.range' i (n - i) = List.range n := by
  rw [List.range_eq_range', List.range_eq_range', show List.range' i (n - i) = List.range' (0 + 1 * i) (n - i) by rw [Nat.one_mul, Nat.zero_add], List.range'_append, Nat.add_sub_of_le h]
theorem cut_hole (pairs : Prs) {a : Int} (h : 0 ≤ a) : (cut pairs none (some a)).length + (cut pairs (some a) none).length ≤ pairs.length ∧ (cut pairs none (some a)).length + (cut pairs (some (a + 1)) none).length ≤ pairs.length := by
  obtain ⟨n, rfl⟩ := Int.eq_ofNat_of_zero_le h
  exact ⟨cut_two pairs (Nat.le_refl n), cut_two pairs (Nat.le_succ n)⟩
/-! the sign of a room changed -/
theorem okm_sign {m : Mc} {L : Int} (h : Okm m L) {s : List Int} (hs : s.length = m.2.length) : Okm (m.1, s) L := ⟨h.pos, by show s.length = _; rw [hs]; exact h.sg, h.len, h.nx⟩
theorem cut_len2 {xs : List Int} {a : Int} (h0 : 0 ≤ a) (h1 : a < xs.length) (y : Int) : (cut xs none (some a) ++ [y] ++ cut xs (some (a + 1)) none).length = xs.length := by
  obtain ⟨n, rfl⟩ := Int.eq_ofNat_of_zero_le h0
  have e : ((n.succ : Nat) : Int) = (n : Int) + 1 := rfl
  rw [List.length_append, List.length_append, List.length_singleton, ← e]
  unfold cut
  simp only [List.length_take, List.length_drop, HT.sIx_nat, HT.sIx_none]
  omega
end My

set_option Elab.async false
set_option linter.all false
set_option maxRecDepth 100000
set_option maxHeartbeats 4000000
namespace My
open Fw
/-! ### rooms as first reached -/
def addNew (os : List Int) (x : Int) : List Int := if x ∈ os then os else os ++ [x]
def grow (os row : List Int) : List Int := row.foldl addNew os
def nxt (rows : List (List Int)) (r : Int) : List Int := rows.getD r.toNat []
def bfsF (rows : List (List Int)) : Nat → Nat → List Int → List Int
  | 0, _, os => os
  | f + 1, a, os => if a < os.length then bfsF rows f (a + 1) (grow os (nxt rows (os.getD a 0))) else os
structure OkOs (n : Nat) (os : List Int) : Prop where
  nd : os.Nodup
  rg : ∀ x, x ∈ os → 0 ≤ x ∧ x < n
  ne : 0 < os.length
theorem few_of_nodup : ∀ (n : Nat) (os : List Int), os.Nodup → (∀ x, x ∈ os → 0 ≤ x ∧ x < n) → os.length ≤ n
  | 0, os, _, h => by
    cases os with
    | nil => exact Nat.le_refl _
    | cons x os => have := h x List.mem_cons_self; omega
  | n + 1, os, nd, h => by
    by_cases hm : (n : Int) ∈ os
    · have h1 := List.length_erase_of_mem hm
      have h2 := few_of_nodup n (os.erase (n : Int)) (nd.erase _) (fun x hx => by
        have hx' := (nd.mem_erase_iff).mp hx
        have := h x hx'.2
        omega)
      have := List.length_pos_of_mem hm
      omega
    · have := few_of_nodup n os nd (fun x hx => by
        have := h x hx
        have hne : x ≠ (n : Int) := fun e => hm (e ▸ hx)
        omega)
      omega
theorem OkOs.few {n : Nat} {os : List Int} (h : OkOs n os) : os.length ≤ n := few_of_nodup n os h.nd h.rg
theorem addNew_mem {os : List Int} {x y : Int} : y ∈ addNew os x ↔ y ∈ os ∨ y = x := by
  unfold addNew
  split
  · rename_i hx
    exact ⟨.inl, fun h => h.elim id fun e => e ▸ hx⟩
  · rw [List.mem_append, List.mem_singleton]
theorem OkOs.add {n : Nat} {os : List Int} {x : Int} (h : OkOs n os) (hx : 0 ≤ x ∧ x < n) : OkOs n (addNew os x) := by
  unfold addNew
  split
  · exact h
  · rename_i hm
    refine ⟨List.nodup_append.mpr ⟨h.nd, by simp, fun a ha b hb e => ?_⟩, fun y hy => ?_, by rw [List.length_append]; have := h.ne; omega⟩
    · rw [List.mem_singleton.mp hb] at e; exact hm (e ▸ ha)
    · rcases List.mem_append.mp hy with hy | hy
      · exact h.rg y hy
      · rw [List.mem_singleton.mp hy]; exact hx
theorem grow_mem {row : List Int} : ∀ {os : List Int} {y : Int}, y ∈ grow os row ↔ y ∈ os ∨ y ∈ row := by
  induction row with
  | nil => intro os y; exact ⟨.inl, fun h => h.elim id fun z => nomatch z⟩
  | cons x row ih =>
    intro os y
    show y ∈ grow (addNew os x) row ↔ _
    rw [ih, addNew_mem, List.mem_cons]
    exact or_assoc
theorem OkOs.grow {n : Nat} {row : List Int} : ∀ {os : List Int}, OkOs n os → (∀ x, x ∈ row → 0 ≤ x ∧ x < n) → OkOs n (grow os row) := by
  induction row with
  | nil => intro os h _; exact h
  | cons x row ih =>
    intro os h hx
    exact ih (os := addNew os x) (h.add (hx x List.mem_cons_self)) (fun y hy => hx y (List.mem_cons_of_mem _ hy))
/-- it only grows behind -/
theorem addNew_pre (os : List Int) (x : Int) : ∃ t, addNew os x = os ++ t := by
  unfold addNew
  split
  · exact ⟨[], (List.append_nil _).symm⟩
  · exact ⟨[x], rfl⟩
theorem grow_pre (row : List Int) : ∀ os : List Int, ∃ t, grow os row = os ++ t := by
  induction row with
  | nil => intro os; exact ⟨[], (List.append_nil _).symm⟩
  | cons x row ih =>
    intro os
    obtain ⟨t, ht⟩ := addNew_pre os x
    obtain ⟨u, hu⟩ := ih (addNew os x)
    exact ⟨t ++ u, by show grow (addNew os x) row = _; rw [hu, ht, List.append_assoc]⟩
theorem getD_pre {os t : List Int} {j : Nat} (h : j < os.length) : (os ++ t).getD j 0 = os.getD j 0 := by
  rw [List.getD_eq_getElem?_getD, List.getD_eq_getElem?_getD, List.getElem?_append_left h]
def Closed (rows : List (List Int)) (a : Nat) (os : List Int) : Prop := ∀ j, j < a → ∀ x, x ∈ nxt rows (os.getD j 0) → x ∈ os
theorem Closed.grow {rows : List (List Int)} {a : Nat} {os : List Int} (h : Closed rows a os) (ha : a < os.length) : Closed rows (a + 1) (grow os (nxt rows (os.getD a 0))) := by
  intro j hj x hx
  obtain ⟨t, ht⟩ := grow_pre (nxt rows (os.getD a 0)) os
  rw [grow_mem]
  rw [ht, getD_pre (by omega)] at hx
  by_cases e : j = a
  · subst e; exact .inr hx
  · exact .inl (h j (by omega) x hx)
/-- the numbers by a dict -/
def tab (os : List Int) : List (Int × Int) := (num os).map fun p => (p.2, (p.1 : Int))
theorem num_snoc {α : Type} (xs : List α) (x : α) : num (xs ++ [x]) = num xs ++ [(xs.length, x)] := by
  unfold num
  rw [List.length_append, List.length_singleton, List.range_succ, List.zip_append (by rw [List.length_range])]
  rfl
theorem tab_snoc (os : List Int) (x : Int) : tab (os ++ [x]) = tab os ++ [(x, (os.length : Int))] := by
  unfold tab
  rw [num_snoc, List.map_append]; rfl
theorem tab_len (os : List Int) : (tab os).length = os.length := by unfold tab; rw [List.length_map, num_len]
theorem tab_keys (os : List Int) : (tab os).map (·.1) = os := by
  unfold tab num
  rw [List.map_map]
  show ((List.range os.length).zip os).map (fun p => p.2) = os
  exact List.map_snd_zip (by rw [List.length_range]; exact Nat.le_refl _)
theorem tab_in {os : List Int} {x : Int} : (look (tab os) x).isSome = decide (x ∈ os) := by
  rw [Bool.eq_iff_iff, look_some_iff, tab_keys, decide_eq_true_iff]
theorem tab_look {os : List Int} : ∀ {x : Int}, x ∈ os → look (tab os) x = some (os.idxOf x : Nat) := by
  have key : ∀ (os : List Int) (b : Nat) (x : Int), x ∈ os → look (((List.range' b os.length).zip os).map fun p => (p.2, (p.1 : Int))) x = some ((b + os.idxOf x : Nat) : Int) := by
    intro os
    induction os with
    | nil => intro b x h; cases h
    | cons y os ih =>
      intro b x h
      show look ((y, (b : Int)) :: (((List.range' (b + 1) os.length).zip os).map fun p => (p.2, (p.1 : Int)))) x = _
      by_cases e : y = x
      · rw [look_pos e, List.idxOf_cons, e]; simp
      · rw [look_neg e, ih (b + 1) x ((List.mem_cons.mp h).resolve_left (Ne.symm e)), List.idxOf_cons]
        have : (y == x) = false := by simpa using e
        rw [this]
        simp; omega
  intro x h
  have := key os 0 x h
  rw [Nat.zero_add] at this
  unfold tab num
  rw [List.range_eq_range']
  exact this
theorem tab_put {os : List Int} {x : Int} (h : x ∉ os) : put (tab os) x (os.length : Int) = tab (os ++ [x]) := by
  rw [tab_snoc, put_new]
  have := tab_in (os := os) (x := x)
  rw [decide_eq_false h] at this
  cases hl : look (tab os) x with
  | none => rfl
  | some v => rw [hl] at this; cases this
theorem addNew_old {os : List Int} {x : Int} (h : x ∈ os) : addNew os x = os := by unfold addNew; rw [if_pos h]
theorem addNew_new {os : List Int} {x : Int} (h : x ∉ os) : addNew os x = os ++ [x] := by unfold addNew; rw [if_neg h]
/-! the walk's own state -/
def ord (m : Mc) : List Int := bfsF m.1 m.1.length 0 [0]
structure Bf (m : Mc) (a : Int) (os : List Int) : Prop where
  a0 : 0 ≤ a
  al : a ≤ os.length
  ok : OkOs m.1.length os
  cl : Closed m.1 a.toNat os
  eq : bfsF m.1 (m.1.length - a.toNat) a.toNat os = ord m
theorem Bf.zero {m : Mc} {L : Int} (h : Okm m L) : Bf m 0 [0] := by
  have := h.pos
  refine ⟨by omega, by simp, ⟨by simp, fun x hx => ?_, by simp⟩, fun j hj => by simp at hj, rfl⟩
  rw [List.mem_singleton.mp hx]; omega
theorem Bf.room {m : Mc} {a : Int} {os : List Int} (h : Bf m a os) (ha : a < os.length) : 0 ≤ os.getD a.toNat 0 ∧ os.getD a.toNat 0 < m.1.length :=
  h.ok.rg _ (getD_mem' (by have := h.a0; omega))
theorem Bf.next {m : Mc} {L a : Int} {os : List Int} (k : Okm m L) (h : Bf m a os) (ha : a < os.length) : Bf m (a + 1) (grow os (nxt m.1 (os.getD a.toNat 0))) := by
  have a0 := h.a0
  have hr := h.room ha
  have hrow : ∀ x, x ∈ nxt m.1 (os.getD a.toNat 0) → 0 ≤ x ∧ x < (m.1.length : Int) := fun x hx => k.nx _ (getD_mem' (by omega)) x hx
  obtain ⟨t, ht⟩ := grow_pre (nxt m.1 (os.getD a.toNat 0)) os
  have hf := h.ok.few
  refine ⟨by omega, by rw [ht, List.length_append]; omega, h.ok.grow hrow, ?_, ?_⟩
  · rw [show (a + 1).toNat = a.toNat + 1 by omega]
    exact h.cl.grow (by omega)
  · rw [← h.eq, show m.1.length - a.toNat = (m.1.length - (a + 1).toNat) + 1 by omega, show (a + 1).toNat = a.toNat + 1 by omega]
    show _ = if a.toNat < os.length then _ else _
    rw [if_pos (by omega)]
theorem bfsF_end (rows : List (List Int)) : ∀ (f a : Nat) (os : List Int), os.length ≤ a → bfsF rows f a os = os
  | 0, _, _, _ => rfl
  | f + 1, a, os, h => by
    show (if a < os.length then _ else _) = _
    rw [if_neg (by omega)]
theorem Bf.done {m : Mc} {a : Int} {os : List Int} (h : Bf m a os) (ha : ¬ a < os.length) : os = ord m ∧ OkOs m.1.length os ∧ ∀ o, o ∈ os → ∀ x, x ∈ nxt m.1 o → x ∈ os := by
  have a0 := h.a0
  have al := h.al
  refine ⟨by rw [← h.eq, bfsF_end _ _ _ _ (by omega)], h.ok, fun o ho x hx => ?_⟩
  obtain ⟨j, hj, e⟩ := List.mem_iff_getElem.mp ho
  refine h.cl j (by omega) x ?_
  rw [List.getD_eq_getElem?_getD, List.getElem?_eq_getElem hj]
  show x ∈ nxt m.1 os[j]
  rw [e]; exact hx
def reached (m : Mc) : Mc := ((ord m).map fun old => (nxt m.1 old).map fun r => ((ord m).idxOf r : Int), (ord m).map fun old => m.2.getD old.toNat 0)
theorem grow_take {row os : List Int} {i : Nat} {x : Int} (h : row[i]? = some x) : (row.take (i + 1)).foldl addNew os = addNew ((row.take i).foldl addNew os) x := foldl_take _ _ h
theorem tab_has {os : List Int} {x : Int} (h : x ∈ os) : (look (tab os) x).isSome = true := by rw [tab_in, decide_eq_true h]
theorem reach_rows {rows : List (List Int)} {os : List Int} (h : ∀ o, o ∈ os → ∀ x, x ∈ nxt rows o → x ∈ os) : (os.map fun old => (nxt rows old).map fun room => (look (tab os) room).getD 0) = os.map fun old => (nxt rows old).map fun r => (os.idxOf r : Int) := by
  refine List.map_congr_left fun o ho => List.map_congr_left fun r hr => ?_
  rw [tab_look (h o ho r hr)]; rfl
/-! as reached again -/
theorem list_of_getD' {xs : List Int} {n : Nat} (h : xs.length = n) : ((List.range n).map fun k => xs.getD k 0) = xs := by
  subst h
  refine List.ext_getElem? fun i => ?_
  rw [List.getElem?_map]
  by_cases hi : i < xs.length
  · rw [List.getElem?_range hi, getD_some 0 hi]; rfl
  · rw [List.getElem?_eq_none (by rw [List.length_range]; omega), List.getElem?_eq_none (by omega)]; rfl
theorem ord_all {m : Mc} {L : Int} (k : Okm m L) : OkOs m.1.length (ord m) ∧ ∀ o, o ∈ ord m → ∀ x, x ∈ nxt m.1 o → x ∈ ord m := by
  have key : ∀ (n : Nat) (a : Int) (os : List Int), m.1.length - a.toNat = n → Bf m a os → OkOs m.1.length (ord m) ∧ ∀ o, o ∈ ord m → ∀ x, x ∈ nxt m.1 o → x ∈ ord m := by
    intro n
    induction n with
    | zero =>
      intro a os hn h
      have := h.ok.few
      have a0 := h.a0
      obtain ⟨e, h1, h2⟩ := h.done (by omega)
      rw [← e]; exact ⟨h1, h2⟩
    | succ n ih =>
      intro a os hn h
      by_cases ha : a < os.length
      · have a0 := h.a0
        exact ih (a + 1) _ (by omega) (h.next k ha)
      · obtain ⟨e, h1, h2⟩ := h.done ha
        rw [← e]; exact ⟨h1, h2⟩
  exact key _ 0 [0] rfl (Bf.zero k)
theorem idx_at {os : List Int} (nd : os.Nodup) {j : Nat} (h : j < os.length) : os.idxOf (os.getD j 0) = j := by
  rw [List.getD_eq_getElem?_getD, List.getElem?_eq_getElem h]
  exact nd.idxOf_getElem j h
theorem at_idx {os : List Int} {x : Int} (h : x ∈ os) : os.getD (os.idxOf x) 0 = x := by
  have hl := List.idxOf_lt_length_iff.mpr h
  rw [List.getD_eq_getElem?_getD, List.getElem?_eq_getElem hl]
  exact List.getElem_idxOf hl
theorem reached_ok {m : Mc} {L : Int} (k : Okm m L) : Okm (reached m) L ∧ (reached m).1.length ≤ m.1.length := by
  obtain ⟨ok, cl⟩ := ord_all k
  have l1 : (reached m).1.length = (ord m).length := by unfold reached; rw [List.length_map]
  refine ⟨⟨by rw [l1]; exact ok.ne, by unfold reached; rw [List.length_map, List.length_map], fun r hr => ?_, fun r hr x hx => ?_⟩, by rw [l1]; exact ok.few⟩
  · unfold reached at hr
    obtain ⟨o, ho, rfl⟩ := List.mem_map.mp hr
    rw [List.length_map]
    have := ok.rg o ho
    exact k.len _ (getD_mem' (by omega))
  · rw [l1]
    unfold reached at hr
    obtain ⟨o, ho, rfl⟩ := List.mem_map.mp hr
    obtain ⟨y, hy, rfl⟩ := List.mem_map.mp hx
    have := List.idxOf_lt_length_iff.mpr (cl o ho y hy)
    omega
/-- the search goes alike over rooms called otherwise -/
theorem addNew_map {f : Int → Int} {os : List Int} {x : Int} (inj : ∀ y, y ∈ os → f y = f x → y = x) : addNew (os.map f) (f x) = (addNew os x).map f := by
  unfold addNew
  by_cases h : x ∈ os
  · rw [if_pos h, if_pos (List.mem_map.mpr ⟨x, h, rfl⟩)]
  · rw [if_neg h, if_neg (fun z => by
      obtain ⟨y, hy, e⟩ := List.mem_map.mp z
      exact h (inj y hy e ▸ hy)), List.map_append]; rfl
theorem grow_map {f : Int → Int} {P : Int → Prop} (inj : ∀ y x, P y → P x → f y = f x → y = x) : ∀ (row os : List Int), (∀ y, y ∈ os → P y) → (∀ y, y ∈ row → P y) → grow (os.map f) (row.map f) = (grow os row).map f
  | [], _, _, _ => rfl
  | x :: row, os, h1, h2 => by
    show grow (addNew (os.map f) (f x)) (row.map f) = (grow (addNew os x) row).map f
    rw [addNew_map (fun y hy e => inj y x (h1 y hy) (h2 x List.mem_cons_self) e)]
    exact grow_map inj row (addNew os x) (fun y hy => (addNew_mem.mp hy).elim (h1 y) fun e => e ▸ h2 x List.mem_cons_self) (fun y hy => h2 y (List.mem_cons_of_mem _ hy))
theorem nodup_map {f : Int → Int} : ∀ {os : List Int}, os.Nodup → (∀ y x, y ∈ os → x ∈ os → f y = f x → y = x) → (os.map f).Nodup
  | [], _, _ => by simp
  | x :: os, nd, inj => by
    obtain ⟨h1, h2⟩ := List.nodup_cons.mp nd
    rw [List.map_cons, List.nodup_cons]
    refine ⟨fun z => ?_, nodup_map h2 fun y x hy hx => inj y x (List.mem_cons_of_mem _ hy) (List.mem_cons_of_mem _ hx)⟩
    obtain ⟨y, hy, e⟩ := List.mem_map.mp z
    exact h1 (inj y x (List.mem_cons_of_mem _ hy) List.mem_cons_self e ▸ hy)
theorem ord_num {m : Mc} {L : Int} (k : Okm m L) : ord (reached m) = (ord m).map fun o => ((ord m).idxOf o : Int) := by
  obtain ⟨ok, cl⟩ := ord_all k
  have inj : ∀ y x, y ∈ ord m → x ∈ ord m → (((ord m).idxOf y : Nat) : Int) = (((ord m).idxOf x : Nat) : Int) → y = x := fun y x hy hx e => by
    rw [← at_idx hy, ← at_idx hx, Int.ofNat_inj.mp e]
  have row : ∀ o, o ∈ ord m → nxt (reached m).1 ((ord m).idxOf o : Int) = (nxt m.1 o).map fun r => ((ord m).idxOf r : Int) := fun o ho => by
    have hl := List.idxOf_lt_length_iff.mpr ho
    show (reached m).1.getD ((ord m).idxOf o : Int).toNat [] = _
    rw [Int.toNat_natCast]
    unfold reached
    rw [getD_map' _ 0 [] hl, at_idx ho]
  have l1 : (reached m).1.length = (ord m).length := by unfold reached; rw [List.length_map]
  -- both searches in step
  have key : ∀ (n : Nat) (a : Int) (os : List Int), m.1.length - a.toNat = n → Bf m a os → (∀ y, y ∈ os → y ∈ ord m) → Bf (reached m) a (os.map fun o => ((ord m).idxOf o : Int)) → ord (reached m) = (ord m).map fun o => ((ord m).idxOf o : Int) := by
    intro n
    induction n with
    | zero =>
      intro a os hn h hs g
      have := h.ok.few
      have a0 := h.a0
      rw [← (h.done (by omega)).1] at *
      exact ((g.done (by rw [List.length_map]; omega)).1).symm
    | succ n ih =>
      intro a os hn h hs g
      by_cases ha : a < os.length
      · have a0 := h.a0
        have ho : os.getD a.toNat 0 ∈ ord m := hs _ (getD_mem' (by omega))
        refine ih (a + 1) _ (by omega) (h.next k ha) (fun y hy => (grow_mem.mp hy).elim (hs y) fun z => cl _ ho y z) ?_
        have gn := g.next (reached_ok k).1 (by rw [List.length_map]; exact ha)
        rw [getD_map' _ 0 0 (by omega), row _ ho, grow_map (P := fun y => y ∈ ord m) inj _ _ hs (fun y hy => cl _ ho y hy)] at gn
        exact gn
      · have e1 := (h.done ha).1
        have e2 := (g.done (by rw [List.length_map]; exact ha)).1
        rw [← e2, e1]
  have h0 : (0 : Int) ∈ ord m := by
    have : ∀ (n : Nat) (a : Int) (os : List Int), m.1.length - a.toNat = n → Bf m a os → (0 : Int) ∈ os → (0 : Int) ∈ ord m := by
      intro n
      induction n with
      | zero =>
        intro a os hn h hz
        have := h.ok.few
        have a0 := h.a0
        rw [← (h.done (by omega)).1]; exact hz
      | succ n ih =>
        intro a os hn h hz
        by_cases ha : a < os.length
        · have a0 := h.a0
          exact ih (a + 1) _ (by omega) (h.next k ha) (grow_mem.mpr (.inl hz))
        · rw [← (h.done ha).1]; exact hz
    exact this _ 0 [0] rfl (Bf.zero k) (by simp)
  have i0 : (ord m).idxOf 0 = 0 := by
    have : ∀ (n : Nat) (a : Int) (os : List Int), m.1.length - a.toNat = n → Bf m a os → os.getD 0 0 = 0 → (ord m).getD 0 0 = 0 := by
      intro n
      induction n with
      | zero =>
        intro a os hn h hz
        have := h.ok.few
        have a0 := h.a0
        rw [← (h.done (by omega)).1]; exact hz
      | succ n ih =>
        intro a os hn h hz
        by_cases ha : a < os.length
        · have a0 := h.a0
          refine ih (a + 1) _ (by omega) (h.next k ha) ?_
          obtain ⟨t, ht⟩ := grow_pre (nxt m.1 (os.getD a.toNat 0)) os
          rw [ht, getD_pre h.ok.ne]; exact hz
        · rw [← (h.done ha).1]; exact hz
    have hz := this _ 0 [0] rfl (Bf.zero k) rfl
    have := idx_at ok.nd (j := 0) ok.ne
    rw [hz] at this
    exact this
  refine key _ 0 [0] rfl (Bf.zero k) (fun y hy => by rw [List.mem_singleton.mp hy]; exact h0) ?_
  rw [List.map_singleton, i0]
  exact Bf.zero (reached_ok k).1
theorem reached_idem {m : Mc} {L : Int} (k : Okm m L) : reached (reached m) = reached m := by
  obtain ⟨ok, cl⟩ := ord_all k
  have hk := reached_ok k
  have l1 : (reached m).1.length = (ord m).length := by unfold reached; rw [List.length_map]
  have l2 : (reached m).2.length = (ord m).length := by unfold reached; rw [List.length_map]
  -- the order is 0, 1, 2 ..
  have eo : ord (reached m) = (List.range (ord m).length).map fun (j : Nat) => (j : Int) := by
    rw [ord_num k]
    refine List.ext_getElem? fun i => ?_
    rw [List.getElem?_map, List.getElem?_map]
    by_cases hi : i < (ord m).length
    · rw [List.getElem?_range hi, getD_some 0 hi]
      show some (((ord m).idxOf ((ord m).getD i 0) : Nat) : Int) = _
      rw [idx_at ok.nd hi]; rfl
    · rw [List.getElem?_eq_none (by omega), List.getElem?_eq_none (by rw [List.length_range]; omega)]; rfl
  have ei : ∀ x : Int, 0 ≤ x → x < (ord m).length → (ord (reached m)).idxOf x = x.toNat := fun x h0 h1 => by
    have hnd := (ord_all hk.1).1.nd
    have hl : x.toNat < (ord (reached m)).length := by rw [eo, List.length_map, List.length_range]; omega
    have := idx_at hnd hl
    rw [eo, getD_rangeMap _ 0 (by omega), ← eo, show ((x.toNat : Nat) : Int) = x by omega] at this
    exact this
  have e1 : (reached (reached m)).1 = (reached m).1 := by
    show ((ord (reached m)).map fun old => (nxt (reached m).1 old).map fun r => ((ord (reached m)).idxOf r : Int)) = _
    have q : ∀ f : Int → List Int, (ord (reached m)).map f = (List.range (ord m).length).map fun (j : Nat) => f (j : Int) := fun f => by rw [eo, List.map_map]; rfl
    rw [q]
    refine List.ext_getElem? fun i => ?_
    rw [List.getElem?_map]
    by_cases hi : i < (ord m).length
    · rw [List.getElem?_range hi, getD_some [] (by omega)]
      show some ((nxt (reached m).1 (i : Int)).map fun r => ((ord (reached m)).idxOf r : Int)) = _
      congr 1
      show ((reached m).1.getD (i : Int).toNat []).map _ = _
      rw [Int.toNat_natCast]
      refine (List.map_congr_left fun r hr => ?_).trans (List.map_id _)
      have := hk.1.nx _ (getD_mem' (by omega)) r hr
      rw [ei r this.1 (by omega)]
      show ((r.toNat : Nat) : Int) = r
      omega
    · rw [List.getElem?_eq_none (by rw [List.length_range]; omega), List.getElem?_eq_none (by omega)]; rfl
  have e2 : (reached (reached m)).2 = (reached m).2 := by
    show ((ord (reached m)).map fun old => (reached m).2.getD old.toNat 0) = _
    rw [eo, List.map_map]
    have := list_of_getD' (xs := (reached m).2) l2
    refine Eq.trans (List.map_congr_left fun j _ => ?_) this
    show (reached m).2.getD ((j : Nat) : Int).toNat 0 = _
    rw [Int.toNat_natCast]
  exact Prod.ext e1 e2
end My

set_option Elab.async false
set_option linter.all false
set_option maxRecDepth 100000
set_option maxHeartbeats 4000000
namespace My
open PySem Fw
/-! ### keys numbered -/
section
variable {κ : Type} [DecidableEq κ]
def numA (ks : List κ) : List Int := ks.map fun k => ((growA [] ks).idxOf k : Int)
theorem numA_len (ks : List κ) : (numA ks).length = ks.length := by unfold numA; rw [List.length_map]
theorem numA_at {ks : List κ} {i : Nat} (z : κ) (h : i < ks.length) : (numA ks).getD i 0 = ((growA [] ks).idxOf (ks.getD i z) : Nat) := by
  unfold numA
  rw [getD_map' _ z 0 h]
theorem grow0_mem {ks : List κ} {x : κ} : x ∈ growA [] ks ↔ x ∈ ks := by rw [growA_mem]; simp
theorem numA_eq {ks : List κ} {i j : Nat} (z : κ) (hi : i < ks.length) (hj : j < ks.length) : (numA ks).getD i 0 = (numA ks).getD j 0 ↔ ks.getD i z = ks.getD j z := by
  rw [numA_at z hi, numA_at z hj]
  constructor
  · intro h
    have h' := Int.ofNat_inj.mp h
    have mi : ks.getD i z ∈ growA [] ks := grow0_mem.mpr (getD_mem' hi)
    have mj : ks.getD j z ∈ growA [] ks := grow0_mem.mpr (getD_mem' hj)
    have li := List.idxOf_lt_length_iff.mpr mi
    have lj := List.idxOf_lt_length_iff.mpr mj
    have e1 := List.getElem_idxOf li
    have e2 := List.getElem_idxOf lj
    rw [← e1, ← e2]
    congr 1
  · intro h; rw [h]
theorem grow0_take {ks : List κ} {i : Nat} {x : κ} (h : ks[i]? = some x) : growA [] (ks.take (i + 1)) = addA (growA [] (ks.take i)) x := by
  rw [take_next h, growA_snoc]
theorem grow0_pre (ks : List κ) (i : Nat) : ∃ t, growA [] ks = growA [] (ks.take i) ++ t := by
  obtain ⟨t, ht⟩ := growA_pre (ks.drop i) (growA [] (ks.take i))
  rw [growA_app, List.take_append_drop] at ht
  exact ⟨t, ht⟩
theorem grow0_len (ks : List κ) : (growA [] ks).length ≤ ks.length := few_sub ks _ (growA_nd (by simp)) fun x hx => grow0_mem.mp hx
/-- the places at which a new number comes -/
def pickF (lots : List Int) : Nat → List Nat
  | 0 => []
  | i + 1 => if lots.getD i 0 = ((pickF lots i).length : Int) then pickF lots i ++ [i] else pickF lots i
theorem pickF_succ (lots : List Int) (i : Nat) : pickF lots (i + 1) = if lots.getD i 0 = ((pickF lots i).length : Int) then pickF lots i ++ [i] else pickF lots i := rfl
def FO (lots : List Int) : Prop := ∀ i, i < lots.length → 0 ≤ lots.getD i 0 ∧ lots.getD i 0 ≤ ((pickF lots i).length : Int)
theorem pick_num (ks : List κ) : ∀ i, i ≤ ks.length → (pickF (numA ks) i).length = (growA [] (ks.take i)).length ∧ (i < ks.length → 0 ≤ (numA ks).getD i 0 ∧ (numA ks).getD i 0 ≤ ((pickF (numA ks) i).length : Int))
  | i, hi => by
    have key : ∀ i (hi : i < ks.length), ∀ n, n = (growA [] (ks.take i)).length → 0 ≤ (numA ks).getD i 0 ∧ (numA ks).getD i 0 ≤ (n : Int) ∧ ((numA ks).getD i 0 = (n : Int) ↔ ks[i] ∉ growA [] (ks.take i)) := by
      intro i hi n hn
      obtain ⟨t, ht⟩ := grow0_pre ks (i + 1)
      rw [grow0_take (List.getElem?_eq_getElem hi)] at ht
      have e : (numA ks).getD i 0 = ((growA [] ks).idxOf ks[i] : Nat) := by
        rw [numA_at ks[i] hi]
        congr 2
        rw [List.getD_eq_getElem?_getD, List.getElem?_eq_getElem hi]; rfl
      rw [e, ht]
      by_cases hm : ks[i] ∈ growA [] (ks.take i)
      · rw [addA_old hm, idx_pre hm]
        have := List.idxOf_lt_length_iff.mpr hm
        exact ⟨by omega, by omega, ⟨fun h => by omega, fun h => absurd hm h⟩⟩
      · rw [addA_new hm, idx_pre (by simp), List.idxOf_append, if_neg hm]
        simp only [List.idxOf_cons_self, Nat.add_zero]
        exact ⟨by omega, by omega, ⟨fun _ => hm, fun _ => by omega⟩⟩
    have len : ∀ i, i ≤ ks.length → (pickF (numA ks) i).length = (growA [] (ks.take i)).length := by
      intro i
      induction i with
      | zero => intro _; rfl
      | succ i ih =>
        intro h
        have ih := ih (by omega)
        obtain ⟨_, _, k3⟩ := key i (by omega) _ ih
        rw [grow0_take (List.getElem?_eq_getElem (show i < ks.length by omega))]
        unfold pickF
        by_cases hm : ks[i] ∈ growA [] (ks.take i)
        · rw [if_neg (fun z => (k3.mp z) hm), addA_old hm]; exact ih
        · rw [if_pos (k3.mpr hm), addA_new hm, List.length_append, List.length_append, ih]; rfl
    refine ⟨len i hi, fun h => ?_⟩
    obtain ⟨k1, k2, _⟩ := key i h _ (len i hi)
    exact ⟨k1, k2⟩
theorem numA_FO (ks : List κ) : FO (numA ks) := fun i hi => (pick_num ks i (by rw [numA_len] at hi; omega)).2 (by rw [numA_len] at hi; exact hi)
end
theorem pick_pre (lots : List Int) (i : Nat) : ∀ j, ∃ t, pickF lots (i + j) = pickF lots i ++ t
  | 0 => ⟨[], by simp⟩
  | j + 1 => by
    obtain ⟨t, ht⟩ := pick_pre lots i j
    rw [show i + (j + 1) = (i + j) + 1 from rfl, pickF_succ]
    split
    · exact ⟨t ++ [i + j], by rw [ht, List.append_assoc]⟩
    · exact ⟨t, ht⟩
/-- each number's first place has that number -/
theorem pick_at {lots : List Int} (fo : FO lots) : ∀ i, i ≤ lots.length → (∀ v, v < (pickF lots i).length → (pickF lots i).getD v 0 < i ∧ lots.getD ((pickF lots i).getD v 0) 0 = (v : Int)) ∧ ∀ k, k < i → 0 ≤ lots.getD k 0 ∧ lots.getD k 0 < ((pickF lots i).length : Int)
  | 0, _ => ⟨fun v hv => by simp [pickF] at hv, fun k hk => by omega⟩
  | i + 1, h => by
    obtain ⟨p1, p2⟩ := pick_at fo i (by omega)
    have f := fo i (by omega)
    unfold pickF
    by_cases e : lots.getD i 0 = ((pickF lots i).length : Int)
    · rw [if_pos e]
      refine ⟨fun v hv => ?_, fun k hk => ?_⟩
      · rw [List.length_append, List.length_singleton] at hv
        by_cases hv2 : v < (pickF lots i).length
        · rw [getD_preA hv2]
          obtain ⟨a, b⟩ := p1 v hv2
          exact ⟨by omega, b⟩
        · have hv3 : v = (pickF lots i).length := by omega
          have : (pickF lots i ++ [i]).getD v 0 = i := by
            rw [hv3, List.getD_eq_getElem?_getD, List.getElem?_append_right (Nat.le_refl _), Nat.sub_self]; rfl
          rw [this, e, hv3]
          exact ⟨by omega, rfl⟩
      · rw [List.length_append, List.length_singleton]
        by_cases hk2 : k < i
        · have := p2 k hk2; omega
        · have : k = i := by omega
          subst this; omega
    · rw [if_neg e]
      refine ⟨fun v hv => ?_, fun k hk => ?_⟩
      · obtain ⟨a, b⟩ := p1 v hv
        exact ⟨by omega, b⟩
      · by_cases hk2 : k < i
        · exact p2 k hk2
        · have : k = i := by omega
          subst this; omega
theorem pick_len (lots : List Int) : ∀ i, (pickF lots i).length ≤ i
  | 0 => Nat.le_refl _
  | i + 1 => by
    have := pick_len lots i
    unfold pickF
    split
    · rw [List.length_append, List.length_singleton]; omega
    · omega
/-! ### what a room tells -/
def sgR (m : Mc) (r : Int) : Int := m.2.getD r.toNat 0
def beh (m : Mc) (r : Int) (w : List Int) : Int := sgR m (w.foldl (step m) r)
def okW (L : Int) (w : List Int) : Prop := ∀ l, l ∈ w → 0 ≤ l ∧ l < L
def inR (m : Mc) (r : Int) : Prop := 0 ≤ r ∧ r < m.1.length
theorem okW_nil {L : Int} : okW L [] := fun l h => nomatch h
theorem okW_cons {L l : Int} {w : List Int} : okW L (l :: w) ↔ (0 ≤ l ∧ l < L) ∧ okW L w :=
  ⟨fun h => ⟨h l List.mem_cons_self, fun x hx => h x (List.mem_cons_of_mem _ hx)⟩, fun h x hx => (List.mem_cons.mp hx).elim (fun e => e ▸ h.1) (h.2 x)⟩
theorem inR_step {m : Mc} {L r l : Int} (k : Okm m L) (h : inR m r) (hl : 0 ≤ l ∧ l < L) : inR m (step m r l) := k.next h.1 h.2 hl.1 hl.2
theorem inR_zero {m : Mc} {L : Int} (k : Okm m L) : inR m 0 := ⟨Int.le_refl _, by have := k.pos; omega⟩
theorem beh_cons (m : Mc) (r l : Int) (w : List Int) : beh m r (l :: w) = beh m (step m r l) w := rfl
/-- alike for all lists of letters of at most n -/
def alN (m : Mc) (L : Int) (n : Nat) (i j : Int) : Prop := ∀ w, okW L w → w.length ≤ n → beh m i w = beh m j w
def alA (m : Mc) (L : Int) (i j : Int) : Prop := ∀ w, okW L w → beh m i w = beh m j w
theorem alN_succ {m : Mc} {L : Int} {n : Nat} {i j : Int} : alN m L (n + 1) i j ↔ alN m L n i j ∧ ∀ l, 0 ≤ l → l < L → alN m L n (step m i l) (step m j l) := by
  constructor
  · intro h
    exact ⟨fun w hw hl => h w hw (by omega), fun l h0 h1 w hw hl => h (l :: w) (okW_cons.mpr ⟨⟨h0, h1⟩, hw⟩) (by rw [List.length_cons]; omega)⟩
  · rintro ⟨h1, h2⟩ w hw hl
    cases w with
    | nil => exact h1 [] okW_nil (Nat.zero_le _)
    | cons l w =>
      obtain ⟨a, b⟩ := okW_cons.mp hw
      exact h2 l a.1 a.2 w b (by rw [List.length_cons] at hl; omega)
/-! ### lots -/
def keysL (m : Mc) (lots : List Int) : List (Int × List Int) := (num m.1).map fun p => (lots.getD p.1 0, p.2.map fun r => lots.getD (r : Int).toNat 0)
def lotsF (m : Mc) : Nat → Nat → List Int → List Int
  | 0, _, lots => lots
  | f + 1, many, lots => if many = (distinct lots).length then lots else lotsF m f (distinct lots).length (numA (keysL m lots))
def lotsL (m : Mc) : List Int := lotsF m (m.1.length + 2) 0 (numA m.2)
theorem distinct_is (ns : List Int) : distinct ns = growA [] ns := rfl
theorem distinct_len (ns : List Int) : (distinct ns).length ≤ ns.length := grow0_len ns
theorem keysL_len (m : Mc) (lots : List Int) : (keysL m lots).length = m.1.length := by unfold keysL; rw [List.length_map, num_len]
theorem num_getD {α : Type} {xs : List α} {i : Nat} (z : α) (h : i < xs.length) : (num xs).getD i (0, z) = (i, xs.getD i z) := by
  have hl : i < (num xs).length := by rw [num_len]; exact h
  have := num_at (getD_some (0, z) hl)
  rw [getD_some z h] at this
  exact Prod.ext this.1 (Option.some.inj this.2).symm
theorem keysL_at {m : Mc} {lots : List Int} {i : Nat} (h : i < m.1.length) : (keysL m lots).getD i (0, []) = (lots.getD i 0, (m.1.getD i []).map fun r => lots.getD (r : Int).toNat 0) := by
  unfold keysL
  rw [getD_map' _ (0, []) (0, []) (by rw [num_len]; exact h), num_getD [] h]
theorem map_eq_iff {L : Nat} {a b : List Int} {f : Int → Int} (ha : a.length = L) (hb : b.length = L) : a.map f = b.map f ↔ ∀ l, l < L → f (a.getD l 0) = f (b.getD l 0) := by
  constructor
  · intro h l hl
    have := congrArg (fun x : List Int => x.getD l 0) h
    rw [getD_map' f 0 0 (by omega), getD_map' f 0 0 (by omega)] at this
    exact this
  · intro h
    refine List.ext_getElem? fun l => ?_
    rw [List.getElem?_map, List.getElem?_map]
    by_cases hl : l < L
    · rw [getD_some 0 (by omega), getD_some 0 (by omega)]
      show some (f _) = some (f _)
      rw [h l hl]
    · rw [List.getElem?_eq_none (by omega), List.getElem?_eq_none (by omega)]
/-- lots that tell the rooms apart by lists of at most n letters -/
def Tell (m : Mc) (L : Int) (n : Nat) (lots : List Int) : Prop := ∀ i j, inR m i → inR m j → (lots.getD i.toNat 0 = lots.getD j.toNat 0 ↔ alN m L n i j)
theorem tell_zero {m : Mc} {L : Int} (k : Okm m L) : Tell m L 0 (numA m.2) := fun i j hi hj => by
  have hs := k.sg
  rw [numA_eq 0 (by have := hi.1; have := hi.2; omega) (by have := hj.1; have := hj.2; omega)]
  constructor
  · intro h w _ hl
    have : w = [] := List.length_eq_zero_iff.mp (by omega)
    subst this
    exact h
  · intro h
    exact h [] okW_nil (Nat.zero_le _)
theorem tell_next {m : Mc} {L : Int} (k : Okm m L) {n : Nat} {lots : List Int} (h : Tell m L n lots) : Tell m L (n + 1) (numA (keysL m lots)) := fun i j hi hj => by
  have hli : i.toNat < m.1.length := by have := hi.1; have := hi.2; omega
  have hlj : j.toNat < m.1.length := by have := hj.1; have := hj.2; omega
  rw [numA_eq (0, []) (by rw [keysL_len]; exact hli) (by rw [keysL_len]; exact hlj), keysL_at hli, keysL_at hlj, alN_succ]
  have ri := k.row hi.1 hi.2
  have rj := k.row hj.1 hj.2
  constructor
  · intro e
    obtain ⟨e1, e2⟩ := Prod.mk.inj e
    refine ⟨(h i j hi hj).mp e1, fun l h0 h1 => (h _ _ (inR_step k hi ⟨h0, h1⟩) (inR_step k hj ⟨h0, h1⟩)).mp ?_⟩
    exact (map_eq_iff (L := L.toNat) (by omega) (by omega)).mp e2 l.toNat (by omega)
  · rintro ⟨e1, e2⟩
    rw [(h i j hi hj).mpr e1]
    congr 1
    refine (map_eq_iff (L := L.toNat) (f := fun r => lots.getD r.toNat 0) (by omega) (by omega)).mpr fun l hl => ?_
    have hl' : (0 : Int) ≤ l ∧ (l : Int) < L := by omega
    have := (h _ _ (inR_step k hi hl') (inR_step k hj hl')).mpr (e2 l hl'.1 hl'.2)
    unfold step at this
    rw [Int.toNat_natCast] at this
    exact this
/-- as many unlike ones, and one tells apart what the other does: then so does the other -/
theorem same_count {N : Nat} {P Q : List Int} (hP : P.length = N) (hQ : Q.length = N) (ref : ∀ i j, i < N → j < N → Q.getD i 0 = Q.getD j 0 → P.getD i 0 = P.getD j 0) (cnt : (distinct Q).length ≤ (distinct P).length) :
    ∀ i j, i < N → j < N → P.getD i 0 = P.getD j 0 → Q.getD i 0 = Q.getD j 0 := by
  intro i j hi hj e
  refine Classical.byContradiction fun ne => ?_
  let f : Int → Int := fun q => P.getD (Q.idxOf q) 0
  have fq : ∀ k, k < N → f (Q.getD k 0) = P.getD k 0 := fun k hk => by
    have hm : Q.getD k 0 ∈ Q := getD_mem' (by omega)
    have hl := List.idxOf_lt_length_iff.mpr hm
    refine ref _ k (by omega) hk ?_
    rw [at_idx hm]
  have hmQ : Q.getD j 0 ∈ distinct Q := grow0_mem.mpr (getD_mem' (by omega))
  have hmI : Q.getD i 0 ∈ distinct Q := grow0_mem.mpr (getD_mem' (by omega))
  have ndQ : (distinct Q).Nodup := growA_nd (by simp)
  have ndP : (distinct P).Nodup := growA_nd (by simp)
  have sub : ∀ x, x ∈ distinct P → x ∈ ((distinct Q).erase (Q.getD j 0)).map f := fun x hx => by
    have hx' : x ∈ P := grow0_mem.mp hx
    obtain ⟨k, hk, ek⟩ := List.mem_iff_getElem.mp hx'
    have ekD : P.getD k 0 = x := by rw [List.getD_eq_getElem?_getD, List.getElem?_eq_getElem hk, ← ek]; rfl
    by_cases q : Q.getD k 0 = Q.getD j 0
    · refine List.mem_map.mpr ⟨Q.getD i 0, (List.mem_erase_of_ne ne).mpr hmI, ?_⟩
      rw [fq i hi, e, ← fq j hj, ← q, fq k (by omega), ekD]
    · refine List.mem_map.mpr ⟨Q.getD k 0, (List.mem_erase_of_ne q).mpr (grow0_mem.mpr (getD_mem' (by omega))), ?_⟩
      rw [fq k (by omega), ekD]
  have l1 := few_sub _ _ ndP sub
  rw [List.length_map, List.length_erase_of_mem hmQ] at l1
  have := List.length_pos_of_mem hmQ
  omega
theorem distinct_mono {N : Nat} {P Q : List Int} (hP : P.length = N) (hQ : Q.length = N) (ref : ∀ i j, i < N → j < N → Q.getD i 0 = Q.getD j 0 → P.getD i 0 = P.getD j 0) : (distinct P).length ≤ (distinct Q).length := by
  have := few_sub ((distinct Q).map fun q => P.getD (Q.idxOf q) 0) (distinct P) (growA_nd (by simp)) fun x hx => by
    have hx' : x ∈ P := grow0_mem.mp hx
    obtain ⟨k, hk, ek⟩ := List.mem_iff_getElem.mp hx'
    have ekD : P.getD k 0 = x := by rw [List.getD_eq_getElem?_getD, List.getElem?_eq_getElem hk, ← ek]; rfl
    have hm : Q.getD k 0 ∈ Q := getD_mem' (by omega)
    have hl := List.idxOf_lt_length_iff.mpr hm
    refine List.mem_map.mpr ⟨Q.getD k 0, grow0_mem.mpr hm, ?_⟩
    rw [← ekD]
    exact ref _ k (by omega) (by omega) (by rw [at_idx hm])
  rwa [List.length_map] at this
/-- the loop's state: behind n splits -/
structure Li (m : Mc) (L : Int) (n many : Nat) (lots : List Int) : Prop where
  len : lots.length = m.1.length
  fo : FO lots
  tell : Tell m L n lots
  le : n ≤ many
  few : many ≤ (distinct lots).length
  prev : ∀ n', n = n' + 1 → ∃ old, old.length = m.1.length ∧ Tell m L n' old ∧ (distinct old).length = many
  zero : n = 0 → many = 0
  eq : lotsF m (m.1.length + 2 - n) many lots = lotsL m
theorem Li.start {m : Mc} {L : Int} (k : Okm m L) : Li m L 0 0 (numA m.2) :=
  ⟨by rw [numA_len]; exact k.sg, numA_FO _, tell_zero k, Nat.le_refl _, Nat.zero_le _, fun n' h => by omega, fun _ => rfl, rfl⟩
theorem Li.bound {m : Mc} {L : Int} {n many : Nat} {lots : List Int} (h : Li m L n many lots) : (distinct lots).length ≤ m.1.length := by
  have := distinct_len lots
  have := h.len
  omega
theorem tell_ref {m : Mc} {L : Int} {n : Nat} {P Q : List Int} (hP : Tell m L n P) (hQ : Tell m L (n + 1) Q) : ∀ i j, i < m.1.length → j < m.1.length → Q.getD i 0 = Q.getD j 0 → P.getD i 0 = P.getD j 0 := fun i j hi hj e => by
  have ri : inR m (i : Int) := ⟨by omega, by omega⟩
  have rj : inR m (j : Int) := ⟨by omega, by omega⟩
  have := (hQ i j ri rj).mp e
  exact (hP i j ri rj).mpr fun w hw hl => this w hw (by omega)
theorem Li.next {m : Mc} {L : Int} (k : Okm m L) {n many : Nat} {lots : List Int} (h : Li m L n many lots) (hne : many ≠ (distinct lots).length) : Li m L (n + 1) (distinct lots).length (numA (keysL m lots)) := by
  have hb := h.bound
  have hf := h.few
  have hl := h.le
  have tn := tell_next k h.tell
  refine ⟨by rw [numA_len, keysL_len], numA_FO _, tn, by omega, distinct_mono h.len (by rw [numA_len, keysL_len]) (tell_ref h.tell tn), fun n' e => ⟨lots, h.len, by rw [show n' = n by omega]; exact h.tell, rfl⟩, fun e => by omega, ?_⟩
  rw [← h.eq, show m.1.length + 2 - n = (m.1.length + 2 - (n + 1)) + 1 by omega]
  show _ = if many = (distinct lots).length then lots else _
  rw [if_neg hne]
/-- rooms of one lot are alike for ever -/
theorem Li.done {m : Mc} {L : Int} (k : Okm m L) {n many : Nat} {lots : List Int} (h : Li m L n many lots) (he : many = (distinct lots).length) : lots = lotsL m ∧ FO lots ∧ ∀ i j, inR m i → inR m j → (lots.getD i.toNat 0 = lots.getD j.toNat 0 ↔ alA m L i j) := by
  have hb := h.bound
  have hl := h.le
  refine ⟨?_, h.fo, ?_⟩
  · rw [← h.eq, show m.1.length + 2 - n = (m.1.length + 1 - n) + 1 by omega]
    show _ = if many = (distinct lots).length then lots else _
    rw [if_pos he]
  · cases n with
    | zero =>
      have hz := h.zero rfl
      have hp := k.pos
      have hl0 : 0 < lots.length := by rw [h.len]; exact hp
      have : lots.getD 0 0 ∈ distinct lots := grow0_mem.mpr (getD_mem' hl0)
      have := List.length_pos_of_mem this
      omega
    | succ n =>
      obtain ⟨old, o1, o2, o3⟩ := h.prev n rfl
      have back := same_count o1 h.len (tell_ref o2 h.tell) (by omega)
      have st : ∀ i j, inR m i → inR m j → alN m L n i j → alN m L (n + 1) i j := fun i j hi hj a => by
        have := back i.toNat j.toNat (by have := hi.1; have := hi.2; omega) (by have := hj.1; have := hj.2; omega) ((o2 i j hi hj).mpr a)
        exact (h.tell i j hi hj).mp this
      have ever : ∀ d i j, inR m i → inR m j → alN m L n i j → alN m L (n + d) i j := by
        intro d
        induction d with
        | zero => intro i j _ _ a; exact a
        | succ d ih =>
          intro i j hi hj a
          show alN m L ((n + d) + 1) i j
          rw [alN_succ]
          refine ⟨ih i j hi hj a, fun l h0 h1 => ih _ _ (inR_step k hi ⟨h0, h1⟩) (inR_step k hj ⟨h0, h1⟩) ?_⟩
          exact (alN_succ.mp (st i j hi hj a)).2 l h0 h1
      intro i j hi hj
      rw [h.tell i j hi hj]
      constructor
      · intro a w hw
        have a' : alN m L n i j := fun w hw hl => a w hw (by omega)
        exact ever w.length i j hi hj a' w hw (by omega)
      · intro a w hw _
        exact a w hw
/-- what the lots tell -/
structure LotsOk (m : Mc) (L : Int) (lots : List Int) : Prop where
  len : lots.length = m.1.length
  fo : FO lots
  al : ∀ i j, inR m i → inR m j → (lots.getD i.toNat 0 = lots.getD j.toNat 0 ↔ alA m L i j)
theorem lots_ok {m : Mc} {L : Int} (k : Okm m L) : LotsOk m L (lotsL m) := by
  have key : ∀ (f n many : Nat) (lots : List Int), m.1.length + 1 - n = f → Li m L n many lots → LotsOk m L (lotsL m) := by
    intro f
    induction f with
    | zero =>
      intro n many lots hf h
      have := h.bound
      have := h.le
      have := h.few
      obtain ⟨e, a, b⟩ := h.done k (by omega)
      rw [← e]; exact ⟨h.len, a, b⟩
    | succ f ih =>
      intro n many lots hf h
      by_cases he : many = (distinct lots).length
      · obtain ⟨e, a, b⟩ := h.done k he
        rw [← e]; exact ⟨h.len, a, b⟩
      · exact ih (n + 1) _ _ (by omega) (h.next k he)
  exact key _ 0 0 _ rfl (Li.start k)
/-! ### the machine of the lots -/
def quotN (m : Mc) (lots : List Int) (n : Nat) : Mc := ((pickF lots n).map fun k => (m.1.getD k []).map fun r => lots.getD (r : Int).toNat 0, (pickF lots n).map fun k => m.2.getD k 0)
def quot (m : Mc) (lots : List Int) : Mc := quotN m lots lots.length
theorem quotN_len (m : Mc) (lots : List Int) (n : Nat) : (quotN m lots n).1.length = (pickF lots n).length := by unfold quotN; rw [List.length_map]
structure Qu (m : Mc) (L : Int) (lots : List Int) : Prop where
  ok : Okm (quot m lots) L
  le : (quot m lots).1.length ≤ m.1.length
  inq : ∀ r, inR m r → inR (quot m lots) (lots.getD r.toNat 0)
  st : ∀ r l, inR m r → 0 ≤ l → l < L → step (quot m lots) (lots.getD r.toNat 0) l = lots.getD (step m r l).toNat 0
  sg : ∀ r, inR m r → sgR (quot m lots) (lots.getD r.toNat 0) = sgR m r
  z : lots.getD 0 0 = 0
  on : ∀ q, inR (quot m lots) q → ∃ r, inR m r ∧ lots.getD r.toNat 0 = q
theorem quot_ok {m : Mc} {L : Int} (k : Okm m L) {lots : List Int} (h : LotsOk m L lots) : Qu m L lots := by
  have hp := k.pos
  obtain ⟨p1, p2⟩ := pick_at h.fo lots.length (Nat.le_refl _)
  have hl := h.len
  have ql := quotN_len m lots lots.length
  have pl := pick_len lots lots.length
  have inq : ∀ r, inR m r → inR (quot m lots) (lots.getD r.toNat 0) := fun r hr => by
    have := p2 r.toNat (by have := hr.1; have := hr.2; omega)
    unfold inR quot
    rw [ql]; exact this
  -- the lot's first room
  have rep : ∀ r, inR m r → ∃ q, q < m.1.length ∧ (pickF lots lots.length).getD (lots.getD r.toNat 0).toNat 0 = q ∧ alA m L (q : Int) r := fun r hr => by
    have := p2 r.toNat (by have := hr.1; have := hr.2; omega)
    obtain ⟨a, b⟩ := p1 (lots.getD r.toNat 0).toNat (by omega)
    refine ⟨_, by omega, rfl, ?_⟩
    refine (h.al _ r ⟨by omega, by omega⟩ hr).mp ?_
    rw [Int.toNat_natCast, b]
    omega
  have rowq : ∀ r, inR m r → ∃ q, q < m.1.length ∧ alA m L (q : Int) r ∧ (quot m lots).1.getD (lots.getD r.toNat 0).toNat [] = (m.1.getD q []).map (fun r => lots.getD (r : Int).toNat 0) ∧ (quot m lots).2.getD (lots.getD r.toNat 0).toNat 0 = m.2.getD q 0 := fun r hr => by
    obtain ⟨q, q1, q2, q3⟩ := rep r hr
    have := p2 r.toNat (by have := hr.1; have := hr.2; omega)
    refine ⟨q, q1, q3, ?_, ?_⟩
    · unfold quot quotN
      show ((pickF lots lots.length).map _).getD _ [] = _
      rw [getD_map' _ 0 [] (by omega), q2]
    · unfold quot quotN
      show ((pickF lots lots.length).map _).getD _ 0 = _
      rw [getD_map' _ 0 0 (by omega), q2]
  have qq : ∀ q, q ∈ pickF lots lots.length → q < m.1.length := fun q hq => by
    obtain ⟨v, hv, e⟩ := List.mem_iff_getElem.mp hq
    obtain ⟨a, b⟩ := p1 v hv
    rw [List.getD_eq_getElem?_getD, List.getElem?_eq_getElem hv] at a
    have a' : (pickF lots lots.length)[v] < lots.length := a
    rw [e] at a'; omega
  refine ⟨⟨?_, ?_, fun r hr => ?_, fun r hr x hx => ?_⟩, ?_, inq, fun r l hr h0 h1 => ?_, fun r hr => ?_, ?_, fun q hq => ?_⟩
  · have h := inq 0 ⟨Int.le_refl _, by omega⟩
    unfold inR at h
    omega
  · unfold quot quotN; rw [List.length_map, List.length_map]
  · unfold quot quotN at hr
    obtain ⟨q, hq, rfl⟩ := List.mem_map.mp hr
    rw [List.length_map]
    have := k.row (r := (q : Int)) (by omega) (by have := qq q hq; omega)
    rw [Int.toNat_natCast] at this
    exact this
  · unfold quot quotN at hr
    obtain ⟨q, hq, rfl⟩ := List.mem_map.mp hr
    obtain ⟨y, hy, rfl⟩ := List.mem_map.mp hx
    have hq' := qq q hq
    have := k.nx _ (getD_mem' (z := []) hq') y hy
    exact inq y this
  · unfold quot; rw [ql]; omega
  · obtain ⟨q, q1, q2, q3, _⟩ := rowq r hr
    have hq : inR m (q : Int) := ⟨by omega, by omega⟩
    have rl := k.row hq.1 hq.2
    rw [Int.toNat_natCast] at rl
    unfold step
    rw [q3, getD_map' (fun r : Int => lots.getD r.toNat 0) 0 0 (by omega)]
    have e1 : (m.1.getD q []).getD l.toNat 0 = step m (q : Int) l := by unfold step; rw [Int.toNat_natCast]
    rw [e1]
    show lots.getD (step m (q : Int) l).toNat 0 = lots.getD (step m r l).toNat 0
    exact (h.al _ _ (inR_step k hq ⟨h0, h1⟩) (inR_step k hr ⟨h0, h1⟩)).mpr fun w hw => q2 (l :: w) (okW_cons.mpr ⟨⟨h0, h1⟩, hw⟩)
  · obtain ⟨q, q1, q2, _, q4⟩ := rowq r hr
    unfold sgR
    rw [q4]
    have := q2 [] okW_nil
    unfold beh sgR at this
    simpa using this
  · have h0 := h.fo 0 (by omega)
    have : (pickF lots 0).length = 0 := rfl
    omega
  · have hq1 := hq.1
    have hq2 := hq.2
    unfold quot at hq2
    rw [ql] at hq2
    obtain ⟨a, b⟩ := p1 q.toNat (by omega)
    exact ⟨(((pickF lots lots.length).getD q.toNat 0 : Nat) : Int), ⟨by omega, by omega⟩, by rw [Int.toNat_natCast, b]; omega⟩
/-- rooms called by f -/
theorem beh_hom {m m' : Mc} {L : Int} (f : Int → Int) (P : Int → Prop) (hs : ∀ r l, P r → 0 ≤ l → l < L → P (step m r l) ∧ step m' (f r) l = f (step m r l)) (hg : ∀ r, P r → sgR m' (f r) = sgR m r) : ∀ (w : List Int) (r : Int), okW L w → P r → beh m' (f r) w = beh m r w
  | [], r, _, hr => hg r hr
  | l :: w, r, hw, hr => by
    obtain ⟨a, b⟩ := okW_cons.mp hw
    rw [beh_cons, beh_cons, (hs r l hr a.1 a.2).2]
    exact beh_hom f P hs hg w _ b (hs r l hr a.1 a.2).1
theorem Qu.beh {m : Mc} {L : Int} (k : Okm m L) {lots : List Int} (q : Qu m L lots) {r : Int} (hr : inR m r) {w : List Int} (hw : okW L w) : My.beh (quot m lots) (lots.getD r.toNat 0) w = My.beh m r w :=
  beh_hom (m' := quot m lots) (fun r => lots.getD r.toNat 0) (inR m) (fun r l hr h0 h1 => ⟨inR_step k hr ⟨h0, h1⟩, q.st r l hr h0 h1⟩) q.sg w r hw hr
/-- no two rooms alike -/
def Red (m : Mc) (L : Int) : Prop := ∀ i j, inR m i → inR m j → alA m L i j → i = j
theorem quot_red {m : Mc} {L : Int} (k : Okm m L) {lots : List Int} (h : LotsOk m L lots) : Red (quot m lots) L := fun i j hi hj a => by
  have q := quot_ok k h
  obtain ⟨r, hr, rfl⟩ := q.on i hi
  obtain ⟨s, hs, rfl⟩ := q.on j hj
  refine (h.al r s hr hs).mpr fun w hw => ?_
  rw [← q.beh k hr hw, ← q.beh k hs hw]
  exact a w hw
/-! ### the search from room 0 -/
theorem ord_ind {m : Mc} {L : Int} (k : Okm m L) {P : Int → Prop} (h0 : P 0) (hs : ∀ o, P o → o ∈ ord m → ∀ x, x ∈ nxt m.1 o → P x) : ∀ o, o ∈ ord m → P o := by
  obtain ⟨ok, cl⟩ := ord_all k
  have key : ∀ (n : Nat) (a : Int) (os : List Int), m.1.length - a.toNat = n → Bf m a os → (∀ y, y ∈ os → P y ∧ y ∈ ord m) → ∀ o, o ∈ ord m → P o := by
    intro n
    induction n with
    | zero =>
      intro a os hn h hs' o ho
      have := h.ok.few
      have a0 := h.a0
      rw [← (h.done (by omega)).1] at ho
      exact (hs' o ho).1
    | succ n ih =>
      intro a os hn h hs' o ho
      by_cases ha : a < os.length
      · have a0 := h.a0
        have hm := hs' _ (getD_mem' (z := 0) (k := a.toNat) (by omega))
        exact ih (a + 1) _ (by omega) (h.next k ha) (fun y hy => (grow_mem.mp hy).elim (hs' y) fun z => ⟨hs _ hm.1 hm.2 y z, cl _ hm.2 y z⟩) o ho
      · rw [← (h.done ha).1] at ho
        exact (hs' o ho).1
  have h00 : (0 : Int) ∈ ord m := by
    have : ∀ (n : Nat) (a : Int) (os : List Int), m.1.length - a.toNat = n → Bf m a os → (0 : Int) ∈ os → (0 : Int) ∈ ord m := by
      intro n
      induction n with
      | zero =>
        intro a os hn h hz
        have := h.ok.few
        have a0 := h.a0
        rw [← (h.done (by omega)).1]; exact hz
      | succ n ih =>
        intro a os hn h hz
        by_cases ha : a < os.length
        · have a0 := h.a0
          exact ih (a + 1) _ (by omega) (h.next k ha) (grow_mem.mpr (.inl hz))
        · rw [← (h.done ha).1]; exact hz
    exact this _ 0 [0] rfl (Bf.zero k) (by simp)
  exact key _ 0 [0] rfl (Bf.zero k) fun y hy => by rw [List.mem_singleton.mp hy]; exact ⟨h0, h00⟩
theorem ord_zero {m : Mc} {L : Int} (k : Okm m L) : (0 : Int) ∈ ord m := by
  have : ∀ (n : Nat) (a : Int) (os : List Int), m.1.length - a.toNat = n → Bf m a os → (0 : Int) ∈ os → (0 : Int) ∈ ord m := by
    intro n
    induction n with
    | zero =>
      intro a os hn h hz
      have := h.ok.few
      have a0 := h.a0
      rw [← (h.done (by omega)).1]; exact hz
    | succ n ih =>
      intro a os hn h hz
      by_cases ha : a < os.length
      · have a0 := h.a0
        exact ih (a + 1) _ (by omega) (h.next k ha) (grow_mem.mpr (.inl hz))
      · rw [← (h.done ha).1]; exact hz
  exact this _ 0 [0] rfl (Bf.zero k) (by simp)
theorem nxt_mem {m : Mc} {L r l : Int} (k : Okm m L) (hr : inR m r) (h0 : 0 ≤ l) (h1 : l < L) : step m r l ∈ nxt m.1 r := by
  have := k.row hr.1 hr.2
  exact getD_mem' (show l.toNat < (m.1.getD r.toNat []).length by omega)
theorem of_nxt {m : Mc} {L r x : Int} (k : Okm m L) (hr : inR m r) (h : x ∈ nxt m.1 r) : ∃ l, 0 ≤ l ∧ l < L ∧ step m r l = x := by
  have hl := k.row hr.1 hr.2
  obtain ⟨j, hj, e⟩ := List.mem_iff_getElem.mp h
  have hj' : j < (m.1.getD r.toNat []).length := hj
  refine ⟨(j : Int), by omega, by omega, ?_⟩
  unfold step
  rw [Int.toNat_natCast, List.getD_eq_getElem?_getD, List.getElem?_eq_getElem hj']
  exact e
theorem ord_hom {m m' : Mc} {L L' : Int} (k : Okm m L) (k' : Okm m' L') (f : Int → Int) (f0 : f 0 = 0) (row : ∀ o, o ∈ ord m → nxt m'.1 (f o) = (nxt m.1 o).map f) (inj : ∀ y x, y ∈ ord m → x ∈ ord m → f y = f x → y = x) : ord m' = (ord m).map f := by
  obtain ⟨ok, cl⟩ := ord_all k
  have key : ∀ (n : Nat) (a : Int) (os : List Int), m.1.length - a.toNat = n → Bf m a os → (∀ y, y ∈ os → y ∈ ord m) → Bf m' a (os.map f) → ord m' = (ord m).map f := by
    intro n
    induction n with
    | zero =>
      intro a os hn h hs g
      have := h.ok.few
      have a0 := h.a0
      rw [← (h.done (by omega)).1] at *
      exact ((g.done (by rw [List.length_map]; omega)).1).symm
    | succ n ih =>
      intro a os hn h hs g
      by_cases ha : a < os.length
      · have a0 := h.a0
        have ho : os.getD a.toNat 0 ∈ ord m := hs _ (getD_mem' (by omega))
        refine ih (a + 1) _ (by omega) (h.next k ha) (fun y hy => (grow_mem.mp hy).elim (hs y) fun z => cl _ ho y z) ?_
        have gn := g.next k' (by rw [List.length_map]; exact ha)
        rw [getD_map' _ 0 0 (by omega), row _ ho, grow_map (P := fun y => y ∈ ord m) inj _ _ hs (fun y hy => cl _ ho y hy)] at gn
        exact gn
      · have e1 := (h.done ha).1
        have e2 := (g.done (by rw [List.length_map]; exact ha)).1
        rw [← e2, e1]
  refine key _ 0 [0] rfl (Bf.zero k) (fun y hy => by rw [List.mem_singleton.mp hy]; exact ord_zero k) ?_
  rw [List.map_singleton, f0]
  exact Bf.zero k'
theorem idx_map {f : Int → Int} : ∀ {os : List Int} {x : Int}, (∀ y, y ∈ os → f y = f x → y = x) → x ∈ os → (os.map f).idxOf (f x) = os.idxOf x
  | y :: os, x, inj, h => by
    rw [List.map_cons, List.idxOf_cons, List.idxOf_cons]
    by_cases e : y = x
    · subst e; simp
    · have e1 : (y == x) = false := by simpa using e
      have e2 : (f y == f x) = false := by
        simp only [beq_eq_false_iff_ne, ne_eq]
        exact fun z => e (inj y List.mem_cons_self z)
      rw [e1, e2]
      simp only [cond_false]
      rw [idx_map (fun y hy => inj y (List.mem_cons_of_mem _ hy)) ((List.mem_cons.mp h).resolve_left (Ne.symm e))]
theorem reached_hom {m m' : Mc} {L L' : Int} (k : Okm m L) (k' : Okm m' L') (f : Int → Int) (f0 : f 0 = 0) (row : ∀ o, o ∈ ord m → nxt m'.1 (f o) = (nxt m.1 o).map f) (inj : ∀ y x, y ∈ ord m → x ∈ ord m → f y = f x → y = x) (sg : ∀ o, o ∈ ord m → sgR m' (f o) = sgR m o) : reached m' = reached m := by
  obtain ⟨ok, cl⟩ := ord_all k
  have eo := ord_hom k k' f f0 row inj
  unfold reached
  rw [eo]
  refine Prod.ext ?_ ?_
  · show (((ord m).map f).map _) = _
    rw [List.map_map]
    refine List.map_congr_left fun o ho => ?_
    show ((nxt m'.1 (f o)).map fun r => (((ord m).map f).idxOf r : Int)) = _
    rw [row o ho, List.map_map]
    refine List.map_congr_left fun r hr => ?_
    show ((((ord m).map f).idxOf (f r) : Nat) : Int) = _
    rw [idx_map (fun y hy => inj y r hy (cl o ho r hr)) (cl o ho r hr)]
  · show (((ord m).map f).map _) = _
    rw [List.map_map]
    exact List.map_congr_left fun o ho => sg o ho
theorem reached_beh {m : Mc} {L : Int} (k : Okm m L) {o : Int} (ho : o ∈ ord m) {w : List Int} (hw : okW L w) : beh (reached m) ((ord m).idxOf o : Int) w = beh m o w := by
  obtain ⟨ok, cl⟩ := ord_all k
  refine beh_hom (m' := reached m) (fun o => ((ord m).idxOf o : Int)) (fun o => o ∈ ord m) (fun r l hr h0 h1 => ?_) (fun r hr => ?_) w o hw ho
  · have rr : inR m r := ok.rg r hr
    refine ⟨cl r hr _ (nxt_mem k rr h0 h1), ?_⟩
    have hl := List.idxOf_lt_length_iff.mpr hr
    unfold step
    rw [Int.toNat_natCast]
    unfold reached
    show (((ord m).map _).getD ((ord m).idxOf r) []).getD l.toNat 0 = _
    rw [getD_map' _ 0 [] hl, at_idx hr]
    have := k.row rr.1 rr.2
    exact getD_map' (fun r => ((ord m).idxOf r : Int)) 0 0 (show l.toNat < (nxt m.1 r).length by unfold nxt; omega)
  · have hl := List.idxOf_lt_length_iff.mpr hr
    unfold sgR
    rw [Int.toNat_natCast]
    unfold reached
    show ((ord m).map _).getD ((ord m).idxOf r) 0 = _
    rw [getD_map' _ 0 0 hl, at_idx hr]
theorem ord_first {m : Mc} {L : Int} (k : Okm m L) : (ord m).idxOf 0 = 0 := by
  have key : ∀ (n : Nat) (a : Int) (os : List Int), m.1.length - a.toNat = n → Bf m a os → os.getD 0 0 = 0 → (ord m).getD 0 0 = 0 := by
    intro n
    induction n with
    | zero =>
      intro a os hn h hz
      have := h.ok.few
      have a0 := h.a0
      rw [← (h.done (by omega)).1]; exact hz
    | succ n ih =>
      intro a os hn h hz
      by_cases ha : a < os.length
      · have a0 := h.a0
        refine ih (a + 1) _ (by omega) (h.next k ha) ?_
        obtain ⟨t, ht⟩ := grow_pre (nxt m.1 (os.getD a.toNat 0)) os
        rw [ht, getD_pre h.ok.ne]; exact hz
      · rw [← (h.done ha).1]; exact hz
  have hz := key _ 0 [0] rfl (Bf.zero k) rfl
  have ok := (ord_all k).1
  have := idx_at ok.nd (j := 0) ok.ne
  rw [hz] at this
  exact this
theorem reached_beh0 {m : Mc} {L : Int} (k : Okm m L) {w : List Int} (hw : okW L w) : beh (reached m) 0 w = beh m 0 w := by
  have := reached_beh k (ord_zero k) hw
  rw [ord_first k] at this
  exact this
theorem reached_red {m : Mc} {L : Int} (k : Okm m L) (r : Red m L) : Red (reached m) L := fun i j hi hj a => by
  obtain ⟨ok, cl⟩ := ord_all k
  have l1 : (reached m).1.length = (ord m).length := by unfold reached; rw [List.length_map]
  have at_ : ∀ i, inR (reached m) i → ∃ o, o ∈ ord m ∧ ((ord m).idxOf o : Int) = i := fun i hi => by
    have h1 := hi.1
    have h2 := hi.2
    rw [l1] at h2
    refine ⟨(ord m).getD i.toNat 0, getD_mem' (by omega), ?_⟩
    rw [idx_at ok.nd (by omega)]; omega
  obtain ⟨o, ho, rfl⟩ := at_ i hi
  obtain ⟨p, hp, rfl⟩ := at_ j hj
  rw [r o p (ok.rg o ho) (ok.rg p hp) fun w hw => by rw [← reached_beh k ho hw, ← reached_beh k hp hw]; exact a w hw]
/-- two machines without rooms that are alike, alike themselves: as reached they are one -/
theorem canon {q q' : Mc} {L : Int} (k : Okm q L) (k' : Okm q' L) (r : Red q L) (r' : Red q' L) (h : ∀ w, okW L w → beh q 0 w = beh q' 0 w) : reached q' = reached q := by
  classical
  obtain ⟨ok, cl⟩ := ord_all k
  let P : Int → Prop := fun o => ∃ p, inR q' p ∧ ∀ w, okW L w → beh q o w = beh q' p w
  have hP : ∀ o, o ∈ ord q → P o := ord_ind k ⟨0, inR_zero k', h⟩ fun o ⟨p, hp, e⟩ ho x hx => by
    obtain ⟨l, h0, h1, rfl⟩ := of_nxt k (ok.rg o ho) hx
    exact ⟨step q' p l, inR_step k' hp ⟨h0, h1⟩, fun w hw => e (l :: w) (okW_cons.mpr ⟨⟨h0, h1⟩, hw⟩)⟩
  let f : Int → Int := fun o => if c : P o then Classical.choose c else 0
  have fs : ∀ o, P o → inR q' (f o) ∧ ∀ w, okW L w → beh q o w = beh q' (f o) w := fun o c => by
    have := Classical.choose_spec c
    show inR q' (if c : P o then Classical.choose c else 0) ∧ _
    simp only [f, dif_pos c]
    exact this
  have fu : ∀ o p, P o → inR q' p → (∀ w, okW L w → beh q o w = beh q' p w) → f o = p := fun o p c hp e =>
    r' _ _ (fs o c).1 hp fun w hw => by rw [← (fs o c).2 w hw]; exact e w hw
  refine reached_hom k k' f (fu 0 0 (hP 0 (ord_zero k)) (inR_zero k') h) (fun o ho => ?_) (fun y x hy hx e => ?_) fun o ho => ?_
  · obtain ⟨a, b⟩ := fs o (hP o ho)
    have rl := k.row (ok.rg o ho).1 (ok.rg o ho).2
    have rl' := k'.row a.1 a.2
    refine List.ext_getElem? fun j => ?_
    rw [List.getElem?_map]
    unfold nxt
    by_cases hj : j < L.toNat
    · rw [getD_some 0 (by omega), getD_some 0 (by omega)]
      show some _ = some (f _)
      congr 1
      have hjl : (0 : Int) ≤ j ∧ (j : Int) < L := by omega
      have e1 : (q.1.getD o.toNat []).getD j 0 = step q o (j : Int) := by unfold step; rw [Int.toNat_natCast]
      have e2 : (q'.1.getD (f o).toNat []).getD j 0 = step q' (f o) (j : Int) := by unfold step; rw [Int.toNat_natCast]
      rw [e1, e2]
      refine (fu _ _ (hP _ (cl o ho _ (nxt_mem k (ok.rg o ho) hjl.1 hjl.2))) (inR_step k' a hjl) fun w hw => ?_).symm
      exact b ((j : Int) :: w) (okW_cons.mpr ⟨hjl, hw⟩)
    · rw [List.getElem?_eq_none (by omega), List.getElem?_eq_none (by omega)]; rfl
  · refine r y x (ok.rg y hy) (ok.rg x hx) fun w hw => ?_
    rw [(fs y (hP y hy)).2 w hw, (fs x (hP x hx)).2 w hw, e]
  · have := (fs o (hP o ho)).2 [] okW_nil
    exact this.symm
/-! ### the least form -/
def leastL (m : Mc) : Mc := reached (quot (reached m) (lotsL (reached m)))
structure Least (m : Mc) (L : Int) : Prop where
  ok : Okm (leastL m) L
  le : (leastL m).1.length ≤ m.1.length
  le2 : (leastL m).1.length ≤ (reached m).1.length
  beh : ∀ w, okW L w → My.beh (leastL m) 0 w = My.beh m 0 w
  red : Red (leastL m) L
  re : reached (leastL m) = leastL m
theorem least_ok {m : Mc} {L : Int} (k : Okm m L) : Least m L := by
  have kr := reached_ok k
  have lo := lots_ok kr.1
  have q := quot_ok kr.1 lo
  have kq := reached_ok q.ok
  have qle := q.le
  refine ⟨kq.1, ?_, ?_, fun w hw => ?_, reached_red q.ok (quot_red kr.1 lo), reached_idem q.ok⟩
  · have := kq.2
    have := kr.2
    unfold leastL
    omega
  · have := kq.2
    unfold leastL
    omega
  · unfold leastL
    rw [reached_beh0 q.ok hw]
    have := q.beh kr.1 (inR_zero kr.1) hw
    rw [show ((0 : Int)).toNat = 0 from rfl, q.z] at this
    rw [this]
    exact reached_beh0 k hw
theorem least_canon {m m' : Mc} {L : Int} (k : Okm m L) (k' : Okm m' L) (h : ∀ w, okW L w → beh m 0 w = beh m' 0 w) : leastL m = leastL m' := by
  have a := least_ok k
  have b := least_ok k'
  rw [← a.re, ← b.re]
  exact (canon a.ok b.ok a.red b.red fun w hw => by rw [a.beh w hw, b.beh w hw]; exact h w hw).symm
theorem least_same {m m' : Mc} {L : Int} (k : Okm m L) (k' : Okm m' L) (h : leastL m = leastL m') : ∀ w, okW L w → beh m 0 w = beh m' 0 w := fun w hw => by
  rw [← (least_ok k).beh w hw, ← (least_ok k').beh w hw, h]
/-- what is reached alone, no two rooms alike: it is its least form -/
theorem least_of_red {m : Mc} {L : Int} (k : Okm m L) (r : Red m L) : leastL m = reached m := by
  have a := least_ok k
  rw [← a.re]
  exact canon k a.ok r a.red fun w hw => (a.beh w hw).symm
theorem least_idem {m : Mc} {L : Int} (k : Okm m L) : leastL (leastL m) = leastL m := by
  have a := least_ok k
  rw [least_of_red a.ok a.red, a.re]
end My

set_option Elab.async false
set_option linter.all false
set_option maxRecDepth 100000
set_option maxHeartbeats 100000000
namespace My
open PySem Fw
/-! pairs with the letters that lead to them -/
abbrev It1 := (Int × Int) × List Int
abbrev z1 : It1 := ((0, 0), [])
def addI (os : List It1) (q : It1) : List It1 := if q.1 ∈ os.map (·.1) then os else os ++ [q]
def turnI (one other : Mc) (q : It1) (os : List It1) (n : Nat) : List It1 := (List.range n).foldl (fun o k => addI o (nextP one other q.1 k, q.2 ++ [(k : Int)])) os
def sgn (one other : Mc) (p : Int × Int) : Prop := one.2.getD p.1.toNat 0 = other.2.getD p.2.toNat 0
instance (one other : Mc) (p : Int × Int) : Decidable (sgn one other p) := by unfold sgn; infer_instance
def cmpF (one other : Mc) : Nat → Nat → List It1 → (List Int) ⊕ Prs
  | 0, _, os => .inr (os.map (·.1))
  | f + 1, a, os => if a < os.length then (if sgn one other (os.getD a z1).1 then cmpF one other f (a + 1) (turnI one other (os.getD a z1) os (one.1.getD 0 []).length) else .inl (os.getD a z1).2) else .inr (os.map (·.1))
@[irreducible] def cmpL (one other : Mc) : (List Int) ⊕ Prs := cmpF one other 10001 0 [z1]
theorem addI_old {os : List It1} {q : It1} (h : q.1 ∈ os.map (·.1)) : addI os q = os := if_pos h
theorem addI_new {os : List It1} {q : It1} (h : q.1 ∉ os.map (·.1)) : addI os q = os ++ [q] := if_neg h
theorem turnI_succ (one other : Mc) (q : It1) (os : List It1) (n : Nat) : turnI one other q os (n + 1) = addI (turnI one other q os n) (nextP one other q.1 n, q.2 ++ [(n : Int)]) := by
  unfold turnI
  rw [List.range_succ, List.foldl_append]; rfl
theorem addI_pre (os : List It1) (q : It1) : ∃ t, addI os q = os ++ t := by
  unfold addI
  split
  · exact ⟨[], (List.append_nil _).symm⟩
  · exact ⟨[q], rfl⟩
theorem turnI_pre (one other : Mc) (q : It1) (os : List It1) : ∀ n, ∃ t, turnI one other q os n = os ++ t
  | 0 => ⟨[], (List.append_nil _).symm⟩
  | n + 1 => by
    obtain ⟨t, ht⟩ := turnI_pre one other q os n
    obtain ⟨u, hu⟩ := addI_pre (turnI one other q os n) (nextP one other q.1 n, q.2 ++ [(n : Int)])
    exact ⟨t ++ u, by rw [turnI_succ, hu, ht, List.append_assoc]⟩
theorem addI_keys {os : List It1} {q : It1} {p : Int × Int} : p ∈ (addI os q).map (·.1) ↔ p ∈ os.map (·.1) ∨ p = q.1 := by
  unfold addI
  split
  · rename_i hq
    exact ⟨.inl, fun h => h.elim id fun e => e ▸ hq⟩
  · rw [List.map_append, List.mem_append]
    simp
theorem addI_nd {os : List It1} {q : It1} (h : (os.map (·.1)).Nodup) : ((addI os q).map (·.1)).Nodup := by
  unfold addI
  split
  · exact h
  · rename_i hq
    rw [List.map_append]
    exact List.nodup_append.mpr ⟨h, by simp, fun a ha b hb e => hq (by
      have hb' : b = q.1 := List.mem_singleton.mp hb
      rw [← hb', ← e]; exact ha)⟩
structure Ci (one other : Mc) (a : Nat) (os : List It1) : Prop where
  nd : (os.map (·.1)).Nodup
  al : ∀ q, q ∈ os → inP one other q.1
  ln : ∀ q, q ∈ os → q.2.length ≤ a
  le : a ≤ os.length
  hd : os.getD 0 z1 = z1
  ne : 0 < os.length
  cl : ∀ j, j < a → ∀ k, k < (one.1.getD 0 []).length → nextP one other (os.getD j z1).1 k ∈ os.map (·.1)
  sg : ∀ j, j < a → sgn one other (os.getD j z1).1
  eq : cmpF one other (10001 - a) a os = cmpL one other
theorem getD_preI {os t : List It1} {j : Nat} (h : j < os.length) : (os ++ t).getD j z1 = os.getD j z1 := by
  rw [List.getD_eq_getElem?_getD, List.getD_eq_getElem?_getD, List.getElem?_append_left h]
theorem pairs_len (n m : Nat) : ((List.range n).flatMap fun i => (List.range m).map fun j => (((i : Nat) : Int), ((j : Nat) : Int))).length = n * m := by
  induction n with
  | zero => simp
  | succ n ih =>
    rw [List.range_succ, List.flatMap_append, List.length_append, ih]
    simp [Nat.succ_mul]
theorem inP_few100 {A B : Nat} (hA : A ≤ 100) (hB : B ≤ 100) {ps : Prs} (nd : ps.Nodup) (rg : ∀ p, p ∈ ps → 0 ≤ p.1 ∧ p.1 < A ∧ 0 ≤ p.2 ∧ p.2 < B) : ps.length ≤ 10000 := by
  have h := few_sub ((List.range 100).flatMap fun i => (List.range 100).map fun j => (((i : Nat) : Int), ((j : Nat) : Int))) ps nd (fun p hp => by
    have := rg p hp
    rw [List.mem_flatMap]
    exact ⟨p.1.toNat, List.mem_range.mpr (by omega), List.mem_map.mpr ⟨p.2.toNat, List.mem_range.mpr (by omega), Prod.ext (by show ((p.1.toNat : Nat) : Int) = p.1; omega) (by show ((p.2.toNat : Nat) : Int) = p.2; omega)⟩⟩)
  have e : ((List.range 100).flatMap fun i => (List.range 100).map fun j => (((i : Nat) : Int), ((j : Nat) : Int))).length = 10000 := pairs_len 100 100
  omega
section
variable {one other : Mc} {L : Int}
theorem Ci.few (hA : one.1.length ≤ 100) (hB : other.1.length ≤ 100) {a : Nat} {os : List It1} (h : Ci one other a os) : os.length ≤ 10000 := by
  have := inP_few100 hA hB h.nd fun p hp => by
    obtain ⟨q, hq, rfl⟩ := List.mem_map.mp hp
    exact h.al q hq
  rwa [List.length_map] at this
theorem Ci.zero (h1 : Okm one L) (h2 : Okm other L) : Ci one other 0 [z1] := by
  have := h1.pos
  have := h2.pos
  refine ⟨by simp, fun q hq => ?_, fun q hq => ?_, Nat.zero_le _, rfl, by simp, fun j hj => by omega, fun j hj => by omega, by unfold cmpL; rfl⟩
  · rw [List.mem_singleton.mp hq]
    exact ⟨Int.le_refl _, by show (0 : Int) < _; omega, Int.le_refl _, by show (0 : Int) < _; omega⟩
  · rw [List.mem_singleton.mp hq]; exact Nat.le_refl _
/-- in the midst of a turn -/
structure Ti (one other : Mc) (a : Nat) (os : List It1) (n : Nat) (o : List It1) : Prop where
  nd : (o.map (·.1)).Nodup
  al : ∀ q, q ∈ o → inP one other q.1
  ln : ∀ q, q ∈ o → q.2.length ≤ a + 1
  cl : ∀ k, k < n → nextP one other (os.getD a z1).1 k ∈ o.map (·.1)
theorem Ci.turn (h1 : Okm one L) (h2 : Okm other L) {a : Nat} {os : List It1} (h : Ci one other a os) (ha : a < os.length) : ∀ n, n ≤ (one.1.getD 0 []).length → Ti one other a os n (turnI one other (os.getD a z1) os n)
  | 0, _ => ⟨h.nd, h.al, fun q hq => Nat.le_succ_of_le (h.ln q hq), fun k hk => by omega⟩
  | n + 1, hn => by
    have ih := Ci.turn h1 h2 h ha n (by omega)
    have hm : os.getD a z1 ∈ os := getD_mem' ha
    rw [turnI_succ]
    refine ⟨addI_nd ih.nd, fun q hq => ?_, fun q hq => ?_, fun k hk => ?_⟩
    · unfold addI at hq
      split at hq
      · exact ih.al q hq
      · rcases List.mem_append.mp hq with hq | hq
        · exact ih.al q hq
        · rw [List.mem_singleton.mp hq]
          exact inP_next h1 h2 (h.al _ hm) (by omega)
    · unfold addI at hq
      split at hq
      · exact ih.ln q hq
      · rcases List.mem_append.mp hq with hq | hq
        · exact ih.ln q hq
        · rw [List.mem_singleton.mp hq]
          have := h.ln _ hm
          show (_ ++ [_]).length ≤ _
          rw [List.length_append, List.length_singleton]; omega
    · rw [addI_keys]
      by_cases e : k = n
      · subst e; exact .inr rfl
      · exact .inl (ih.cl k (by omega))
theorem Ti.few (hA : one.1.length ≤ 100) (hB : other.1.length ≤ 100) {a n : Nat} {os o : List It1} (h : Ti one other a os n o) : o.length ≤ 10000 := by
  have := inP_few100 hA hB h.nd fun p hp => by
    obtain ⟨q, hq, rfl⟩ := List.mem_map.mp hp
    exact h.al q hq
  rwa [List.length_map] at this
theorem Ci.next (h1 : Okm one L) (h2 : Okm other L) (hA : one.1.length ≤ 100) (hB : other.1.length ≤ 100) {a : Nat} {os : List It1} (h : Ci one other a os) (ha : a < os.length) (hs : sgn one other (os.getD a z1).1) : Ci one other (a + 1) (turnI one other (os.getD a z1) os (one.1.getD 0 []).length) := by
  have t := h.turn h1 h2 ha _ (Nat.le_refl _)
  have hf := h.few hA hB
  obtain ⟨u, hu⟩ := turnI_pre one other (os.getD a z1) os (one.1.getD 0 []).length
  refine ⟨t.nd, t.al, t.ln, by rw [hu, List.length_append]; omega, by rw [hu, getD_preI h.ne]; exact h.hd, by rw [hu, List.length_append]; have := h.ne; omega, fun j hj k hk => ?_, fun j hj => ?_, ?_⟩
  · rw [hu, getD_preI (by omega)]
    by_cases e : j = a
    · subst e; rw [← hu]; exact t.cl k hk
    · rw [List.map_append]; exact List.mem_append_left _ (h.cl j (by omega) k hk)
  · rw [hu, getD_preI (by omega)]
    by_cases e : j = a
    · subst e; exact hs
    · exact h.sg j (by omega)
  · rw [← h.eq, show 10001 - a = (10001 - (a + 1)) + 1 by omega]
    show _ = if a < os.length then _ else _
    rw [if_pos ha, if_pos hs]
theorem Ci.part {a : Nat} {os : List It1} (hA : one.1.length ≤ 100) (hB : other.1.length ≤ 100) (h : Ci one other a os) (ha : a < os.length) (hs : ¬ sgn one other (os.getD a z1).1) : cmpL one other = .inl (os.getD a z1).2 := by
  have hf := h.few hA hB
  rw [← h.eq, show 10001 - a = (10001 - (a + 1)) + 1 by omega]
  show (if a < os.length then _ else _) = _
  rw [if_pos ha, if_neg hs]
theorem Ci.done {a : Nat} {os : List It1} (h : Ci one other a os) (ha : ¬ a < os.length) : cmpL one other = .inr (os.map (·.1)) := by
  rw [← h.eq]
  cases 10001 - a with
  | zero => rfl
  | succ f =>
    show (if a < os.length then _ else _) = _
    rw [if_neg ha]
theorem look_nd : ∀ {os : List It1} {j : Nat}, (os.map (·.1)).Nodup → j < os.length → look os (os.getD j z1).1 = some (os.getD j z1).2
  | q :: os, 0, nd, _ => look_pos rfl
  | q :: os, j + 1, nd, hj => by
    have nd' := List.nodup_cons.mp (show (q.1 :: os.map (·.1)).Nodup from nd)
    have hm : os.getD j z1 ∈ os := getD_mem' (by simpa using hj)
    show look (q :: os) (os.getD j z1).1 = _
    rw [look_neg (fun e => nd'.1 (by rw [e]; exact List.mem_map.mpr ⟨_, hm, rfl⟩))]
    exact look_nd nd'.2 (by simpa using hj)
theorem look_in {os : List It1} {p : Int × Int} : (look os p).isSome = decide (p ∈ os.map (·.1)) := by
  rw [Bool.eq_iff_iff, look_some_iff, decide_eq_true_iff]
/-- what «alike» means -/
structure Gd (one other : Mc) (ps : Prs) : Prop where
  z : ((0, 0) : Int × Int) ∈ ps
  ok : ∀ p, p ∈ ps → inP one other p ∧ sgn one other p
  cl : ∀ p, p ∈ ps → ∀ k, k < (one.1.getD 0 []).length → nextP one other p k ∈ ps
  few : ps.length ≤ 10000
theorem cmp_gd (h1 : Okm one L) (h2 : Okm other L) (hA : one.1.length ≤ 100) (hB : other.1.length ≤ 100) {ps : Prs} (e : cmpL one other = .inr ps) : Gd one other ps := by
  have key : ∀ (n a : Nat) (os : List It1), 10001 - a = n → Ci one other a os → Gd one other ps := by
    intro n
    induction n with
    | zero =>
      intro a os hn c
      have := c.few hA hB
      have := c.le
      omega
    | succ n ih =>
      intro a os hn c
      by_cases ha : a < os.length
      · by_cases hs : sgn one other (os.getD a z1).1
        · exact ih (a + 1) _ (by omega) (c.next h1 h2 hA hB ha hs)
        · rw [c.part hA hB ha hs] at e; cases e
      · rw [c.done ha] at e
        cases e
        have hf := c.few hA hB
        have at_ : ∀ p, p ∈ os.map (·.1) → ∃ j, j < os.length ∧ (os.getD j z1).1 = p := fun p hp => by
          obtain ⟨q, hq, rfl⟩ := List.mem_map.mp hp
          obtain ⟨j, hj, rfl⟩ := List.mem_iff_getElem.mp hq
          exact ⟨j, hj, by rw [List.getD_eq_getElem?_getD, List.getElem?_eq_getElem hj]; rfl⟩
        refine ⟨?_, fun p hp => ?_, fun p hp k hk => ?_, by rw [List.length_map]; exact hf⟩
        · exact List.mem_map.mpr ⟨os.getD 0 z1, getD_mem' c.ne, by rw [c.hd]⟩
        · obtain ⟨j, hj, rfl⟩ := at_ p hp
          exact ⟨c.al _ (getD_mem' hj), c.sg j (by omega)⟩
        · obtain ⟨j, hj, rfl⟩ := at_ p hp
          exact c.cl j (by omega) k hk
  exact key 10001 0 _ rfl (Ci.zero h1 h2)
end
theorem path_few {one other : Mc} {L : Int} (h1 : Okm one L) (h2 : Okm other L) (hA : one.1.length ≤ 100) (hB : other.1.length ≤ 100) {p : List Int} (e : cmpL one other = .inl p) : p.length ≤ 10001 := by
  have key : ∀ (n a : Nat) (os : List It1), 10001 - a = n → Ci one other a os → p.length ≤ 10001 := by
    intro n
    induction n with
    | zero =>
      intro a os hn c
      have := c.few hA hB
      have := c.le
      omega
    | succ n ih =>
      intro a os hn c
      by_cases ha : a < os.length
      · by_cases hs : sgn one other (os.getD a z1).1
        · exact ih (a + 1) _ (by omega) (c.next h1 h2 hA hB ha hs)
        · rw [c.part hA hB ha hs] at e
          cases e
          have := c.ln _ (getD_mem' (z := z1) ha)
          have := c.few hA hB
          omega
      · rw [c.done ha] at e; cases e
  exact key 10001 0 _ rfl (Ci.zero h1 h2)
/-! what the verdict means -/
theorem gd_beh {one other : Mc} {L : Int} (h1 : Okm one L) (h2 : Okm other L) {ps : Prs} (g : Gd one other ps) : ∀ (w : List Int) (p : Int × Int), p ∈ ps → okW L w → beh one p.1 w = beh other p.2 w
  | [], p, hp, _ => (g.ok p hp).2
  | l :: w, p, hp, hw => by
    obtain ⟨a, b⟩ := okW_cons.mp hw
    have hl := lets_is h1
    have hin := (g.ok p hp).1
    have := g.cl p hp l.toNat (by omega)
    rw [beh_cons, beh_cons]
    exact gd_beh h1 h2 g w (nextP one other p l.toNat) this b
theorem cmp_alike {one other : Mc} {L : Int} (h1 : Okm one L) (h2 : Okm other L) (hA : one.1.length ≤ 100) (hB : other.1.length ≤ 100) {ps : Prs} (e : cmpL one other = .inr ps) : ∀ w, okW L w → beh one 0 w = beh other 0 w := fun w hw =>
  gd_beh h1 h2 (cmp_gd h1 h2 hA hB e) w (0, 0) (cmp_gd h1 h2 hA hB e).z hw
/-- each list leads to its pair -/
def Led (one other : Mc) (L : Int) (os : List It1) : Prop := ∀ q, q ∈ os → okW L q.2 ∧ q.2.foldl (step one) 0 = q.1.1 ∧ q.2.foldl (step other) 0 = q.1.2
theorem led_turn {one other : Mc} {L : Int} (h1 : Okm one L) {os : List It1} (h : Led one other L os) {q : It1} (hq : q ∈ os) : ∀ n, n ≤ (one.1.getD 0 []).length → Led one other L (turnI one other q os n)
  | 0, _ => h
  | n + 1, hn => by
    have ih := led_turn h1 h hq n (by omega)
    have hl := lets_is h1
    rw [turnI_succ]
    unfold addI
    split
    · exact ih
    · intro p hp
      rcases List.mem_append.mp hp with hp | hp
      · exact ih p hp
      · rw [List.mem_singleton.mp hp]
        obtain ⟨a, b, c⟩ := h q hq
        refine ⟨fun l hl' => ?_, ?_, ?_⟩
        · rcases List.mem_append.mp hl' with hl' | hl'
          · exact a l hl'
          · rw [List.mem_singleton.mp hl']; omega
        · show (q.2 ++ [(n : Int)]).foldl (step one) 0 = _
          rw [List.foldl_append, b]
          show (one.1.getD q.1.1.toNat []).getD ((n : Int)).toNat 0 = _
          rw [Int.toNat_natCast]; rfl
        · show (q.2 ++ [(n : Int)]).foldl (step other) 0 = _
          rw [List.foldl_append, c]
          show (other.1.getD q.1.2.toNat []).getD ((n : Int)).toNat 0 = _
          rw [Int.toNat_natCast]; rfl
theorem cmp_unlike {one other : Mc} {L : Int} (h1 : Okm one L) (h2 : Okm other L) (hA : one.1.length ≤ 100) (hB : other.1.length ≤ 100) {p : List Int} (e : cmpL one other = .inl p) : okW L p ∧ beh one 0 p ≠ beh other 0 p := by
  have key : ∀ (n a : Nat) (os : List It1), 10001 - a = n → Ci one other a os → Led one other L os → okW L p ∧ beh one 0 p ≠ beh other 0 p := by
    intro n
    induction n with
    | zero =>
      intro a os hn c _
      have := c.few hA hB
      have := c.le
      omega
    | succ n ih =>
      intro a os hn c hl
      by_cases ha : a < os.length
      · have hm : os.getD a z1 ∈ os := getD_mem' ha
        by_cases hs : sgn one other (os.getD a z1).1
        · exact ih (a + 1) _ (by omega) (c.next h1 h2 hA hB ha hs) (led_turn h1 hl hm _ (Nat.le_refl _))
        · rw [c.part hA hB ha hs] at e
          cases e
          obtain ⟨x, y, z⟩ := hl _ hm
          refine ⟨x, fun q => hs ?_⟩
          unfold beh sgR at q
          rw [y, z] at q
          exact q
      · rw [c.done ha] at e; cases e
  refine key 10001 0 _ rfl (Ci.zero h1 h2) fun q hq => ?_
  rw [List.mem_singleton.mp hq]
  exact ⟨okW_nil, rfl, rfl⟩
end My

set_option Elab.async false
set_option linter.all false
set_option maxRecDepth 100000
set_option maxHeartbeats 4000000
/-! one loop over a list or a tuple -/
namespace Fw
open PySem L2
abbrev idxA {α : Type} [DecidableEq α] (l : List α) (x : α) : Nat := l.idxOf x
section
variable {α : Type} {K : PySem.W.Frag} {B0 : Hp} {ρ ρ1 : List Sd} {tl : TE} {e0 : α → Da} {e : α → List Da} {xs : List α} {g : TG} {ks : List Nat}
theorem wkE_listA (h : EvB K tl ρ (.lst (xs.map e0))) (t : ∀ x, Tg K g ks (e0 x) (e x)) : WkE K (iSeqA K tl) g ks ρ xs e := fun σ H R rs q => h σ H _ rs fun v H1 e1 s => by
  obtain ⟨a, vs, rfl, h1, h2⟩ := s.lst_inv
  exact ⟨a, rfl, .inl ⟨⟨vs, .inl h1⟩, q _ _ e1 fun H' e' => core_list (.inl (ex_rd e' h1)) (h2.mono e') (Ex.refl _) t⟩⟩
theorem wkE_tupA (h : EvB K tl ρ (.tup (xs.map e0))) (t : ∀ x, Tg K g ks (e0 x) (e x)) : WkE K (iSeqA K tl) g ks ρ xs e := fun σ H R rs q => h σ H _ rs fun v H1 e1 s => by
  obtain ⟨a, vs, rfl, h1, h2⟩ := s.tup_inv
  exact ⟨a, rfl, .inr ⟨⟨vs, h1⟩, q _ _ e1 fun H' e' => core_tup (ex_t e' h1) (h2.mono e') (Ex.refl _) t⟩⟩
theorem wkS_listA (h : EvS K B0 tl ρ (.lst (xs.map e0)) ρ1) (t : ∀ x, Tg K g ks (e0 x) (e x)) : WkS K B0 (iSeqA K tl) g ks ρ ρ1 xs e := fun φ τ σ H R l s q => h φ τ σ H _ l s fun v H1 e1 z => by
  obtain ⟨B, F, b1, b2, sl, nd⟩ := id z
  obtain ⟨a, vs, rfl, h1, h2⟩ := (Sta.shFront sl).lst_inv
  refine ⟨a, rfl, .inl ⟨⟨vs, .inl (ex_rd b2 h1)⟩, q _ _ [_] [_] rfl e1 z fun B H' F r s sl eb => ?_⟩⟩
  obtain ⟨a', vs, ea, h1, h2⟩ := (Sta.shFront sl).lst_inv
  cases ea
  exact core_list (.inl (ex_rd eb h1)) h2 eb t
theorem wkS_tupA (h : EvS K B0 tl ρ (.tup (xs.map e0)) ρ1) (t : ∀ x, Tg K g ks (e0 x) (e x)) : WkS K B0 (iSeqA K tl) g ks ρ ρ1 xs e := fun φ τ σ H R l s q => h φ τ σ H _ l s fun v H1 e1 z => by
  obtain ⟨B, F, b1, b2, sl, nd⟩ := id z
  obtain ⟨a, vs, rfl, h1, h2⟩ := (Sta.shFront sl).tup_inv
  refine ⟨a, rfl, .inr ⟨⟨vs, ex_t b2 h1⟩, q _ _ [_] [_] rfl e1 z fun B H' F r s sl eb => ?_⟩⟩
  obtain ⟨a', vs, ea, h1, h2⟩ := (Sta.shFront sl).tup_inv
  cases ea
  exact core_tup (ex_t eb h1) h2 eb t
end
end Fw

set_option Elab.async false
set_option linter.all false
set_option maxRecDepth 100000
set_option maxHeartbeats 4000000
namespace My
open PySem Fw
theorem num_in {α : Type} {xs : List α} {p : Nat × α} (h : p ∈ num xs) : p.1 < xs.length ∧ p.2 ∈ xs := by
  obtain ⟨i, hi⟩ := List.mem_iff_getElem?.mp h
  obtain ⟨a, b⟩ := num_at hi
  have hl := (List.getElem?_eq_some_iff.mp b).1
  exact ⟨by omega, List.mem_of_getElem? b⟩
theorem quotN_len2 (m : Mc) (lots : List Int) (n : Nat) : (quotN m lots n).2.length = (pickF lots n).length := by unfold quotN; rw [List.length_map]
theorem quotN_yes {m : Mc} {lots : List Int} {i : Nat} (h : lots.getD i 0 = ((pickF lots i).length : Int)) : quotN m lots (i + 1) = ((quotN m lots i).1 ++ [(m.1.getD i []).map fun r => lots.getD (r : Int).toNat 0], (quotN m lots i).2 ++ [m.2.getD i 0]) := by
  unfold quotN
  rw [pickF_succ, if_pos h, List.map_append, List.map_append]
  rfl
theorem quotN_no {m : Mc} {lots : List Int} {i : Nat} (h : ¬ lots.getD i 0 = ((pickF lots i).length : Int)) : quotN m lots (i + 1) = quotN m lots i := by
  unfold quotN
  rw [pickF_succ, if_neg h]
abbrev dM (m : Mc) : Da := Da.tup [Da.tup (m.1.map (eV Da.int)), Da.tup (m.2.map Da.int)]
theorem apart_M : Apart dM := Apart.pair (e := eV (eV Da.int)) (f := eV Da.int) (Apart.tup (e := eV Da.int) (Apart.tup apart_int)) (Apart.tup apart_int)
theorem eqM (a b : Mc) : eqD (dM a) (dM b) = decide (a = b) := Apart.dec apart_M a b
/-! rooms marked by the first of their kind -/
section
variable {κ : Type} [DecidableEq κ]
def markA (ks : List κ) : List Int := ks.map fun k => (ks.idxOf k : Int)
theorem markA_len (ks : List κ) : (markA ks).length = ks.length := by unfold markA; rw [List.length_map]
theorem markA_eq {ks : List κ} {i j : Nat} (z : κ) (hi : i < ks.length) (hj : j < ks.length) : (markA ks).getD i 0 = (markA ks).getD j 0 ↔ ks.getD i z = ks.getD j z := by
  unfold markA
  rw [getD_map' _ z 0 hi, getD_map' _ z 0 hj]
  constructor
  · intro h
    have h' := Int.ofNat_inj.mp h
    have mi : ks.getD i z ∈ ks := getD_mem' hi
    have mj : ks.getD j z ∈ ks := getD_mem' hj
    have li := List.idxOf_lt_length_iff.mpr mi
    have lj := List.idxOf_lt_length_iff.mpr mj
    have e1 := List.getElem_idxOf li
    have e2 := List.getElem_idxOf lj
    rw [← e1, ← e2]
    congr 1
  · intro h; rw [h]
end
def marksF (m : Mc) : Nat → Nat → List Int → List Int
  | 0, _, lots => lots
  | f + 1, many, lots => if many < (distinct lots).length then marksF m f (distinct lots).length (markA (keysL m lots)) else lots
@[irreducible] def marksL (m : Mc) : List Int := marksF m (m.1.length + 2) 0 m.2
structure Ma (m : Mc) (L : Int) (n many : Nat) (lots : List Int) : Prop where
  len : lots.length = m.1.length
  tell : Tell m L n lots
  le : n ≤ many
  few : many ≤ (distinct lots).length
  prev : ∀ n', n = n' + 1 → ∃ old, old.length = m.1.length ∧ Tell m L n' old ∧ (distinct old).length = many
  zero : n = 0 → many = 0
  eq : marksF m (m.1.length + 2 - n) many lots = marksL m
theorem Ma.start {m : Mc} {L : Int} (k : Okm m L) : Ma m L 0 0 m.2 := by
  refine ⟨k.sg, fun i j hi hj => ?_, Nat.le_refl _, Nat.zero_le _, fun n' h => by omega, fun _ => rfl, by unfold marksL; rfl⟩
  constructor
  · intro h w _ hl
    have : w = [] := List.length_eq_zero_iff.mp (by omega)
    subst this
    exact h
  · intro h
    exact h [] okW_nil (Nat.zero_le _)
theorem mark_next {m : Mc} {L : Int} (k : Okm m L) {n : Nat} {lots : List Int} (h : Tell m L n lots) : Tell m L (n + 1) (markA (keysL m lots)) := fun i j hi hj => by
  have hli : i.toNat < m.1.length := by have := hi.1; have := hi.2; omega
  have hlj : j.toNat < m.1.length := by have := hj.1; have := hj.2; omega
  have t := tell_next k h i j hi hj
  rw [numA_eq (0, []) (by rw [keysL_len]; exact hli) (by rw [keysL_len]; exact hlj)] at t
  rw [markA_eq (0, []) (by rw [keysL_len]; exact hli) (by rw [keysL_len]; exact hlj)]
  exact t
theorem Ma.bound {m : Mc} {L : Int} {n many : Nat} {lots : List Int} (h : Ma m L n many lots) : (distinct lots).length ≤ m.1.length := by
  have := distinct_len lots
  have := h.len
  omega
theorem Ma.next {m : Mc} {L : Int} (k : Okm m L) {n many : Nat} {lots : List Int} (h : Ma m L n many lots) (hne : many < (distinct lots).length) : Ma m L (n + 1) (distinct lots).length (markA (keysL m lots)) := by
  have hb := h.bound
  have hf := h.few
  have hl := h.le
  have tn := mark_next k h.tell
  refine ⟨by rw [markA_len, keysL_len], tn, by omega, distinct_mono h.len (by rw [markA_len, keysL_len]) (tell_ref h.tell tn), fun n' e => ⟨lots, h.len, by rw [show n' = n by omega]; exact h.tell, rfl⟩, fun e => by omega, ?_⟩
  rw [← h.eq, show m.1.length + 2 - n = (m.1.length + 2 - (n + 1)) + 1 by omega]
  show _ = if many < (distinct lots).length then _ else _
  rw [if_pos hne]
theorem Ma.end_ {m : Mc} {L : Int} {n many : Nat} {lots : List Int} (h : Ma m L n many lots) (hne : ¬ many < (distinct lots).length) : lots = marksL m := by
  have hb := h.bound
  have hf := h.few
  have hl := h.le
  rw [← h.eq, show m.1.length + 2 - n = (m.1.length + 1 - n) + 1 by omega]
  show _ = if many < (distinct lots).length then _ else _
  rw [if_neg hne]
theorem Ma.done {m : Mc} {L : Int} (k : Okm m L) {n many : Nat} {lots : List Int} (h : Ma m L n many lots) (he : ¬ many < (distinct lots).length) : ∀ i j, inR m i → inR m j → (lots.getD i.toNat 0 = lots.getD j.toNat 0 ↔ alA m L i j) := by
  have hb := h.bound
  have hl := h.le
  have hfw := h.few
  cases n with
  | zero =>
    have hz := h.zero rfl
    have hp := k.pos
    have hl0 : 0 < lots.length := by rw [h.len]; exact hp
    have : lots.getD 0 0 ∈ distinct lots := grow0_mem.mpr (getD_mem' hl0)
    have := List.length_pos_of_mem this
    omega
  | succ n =>
    obtain ⟨old, o1, o2, o3⟩ := h.prev n rfl
    have back := same_count o1 h.len (tell_ref o2 h.tell) (by omega)
    have st : ∀ i j, inR m i → inR m j → alN m L n i j → alN m L (n + 1) i j := fun i j hi hj a => by
      have := back i.toNat j.toNat (by have := hi.1; have := hi.2; omega) (by have := hj.1; have := hj.2; omega) ((o2 i j hi hj).mpr a)
      exact (h.tell i j hi hj).mp this
    have ever : ∀ d i j, inR m i → inR m j → alN m L n i j → alN m L (n + d) i j := by
      intro d
      induction d with
      | zero => intro i j _ _ a; exact a
      | succ d ih =>
        intro i j hi hj a
        show alN m L ((n + d) + 1) i j
        rw [alN_succ]
        refine ⟨ih i j hi hj a, fun l h0 h1 => ih _ _ (inR_step k hi ⟨h0, h1⟩) (inR_step k hj ⟨h0, h1⟩) ?_⟩
        exact (alN_succ.mp (st i j hi hj a)).2 l h0 h1
    intro i j hi hj
    rw [h.tell i j hi hj]
    constructor
    · intro a w hw
      have a' : alN m L n i j := fun w hw hl => a w hw (by omega)
      exact ever w.length i j hi hj a' w hw (by omega)
    · intro a w hw _
      exact a w hw
/-- no two rooms alike: all marks are unlike -/
theorem Ma.all {m : Mc} {L : Int} (k : Okm m L) (r : Red m L) {n many : Nat} {lots : List Int} (h : Ma m L n many lots) (he : ¬ many < (distinct lots).length) : (distinct lots).length = m.1.length := by
  have al := h.done k he
  have hl := h.len
  have nd : lots.Nodup := by
    unfold List.Nodup
    rw [List.pairwise_iff_getElem]
    intro i j hi hj hij e
    have ri : inR m (i : Int) := ⟨by omega, by omega⟩
    have rj : inR m (j : Int) := ⟨by omega, by omega⟩
    have e' : lots.getD ((i : Int)).toNat 0 = lots.getD ((j : Int)).toNat 0 := by
      rw [Int.toNat_natCast, Int.toNat_natCast, List.getD_eq_getElem?_getD, List.getD_eq_getElem?_getD, List.getElem?_eq_getElem hi, List.getElem?_eq_getElem hj]
      exact congrArg (fun x => (some x).getD 0) e
    have := r _ _ ri rj ((al _ _ ri rj).mp e')
    omega
  have := few_sub (distinct lots) lots nd fun x hx => grow0_mem.mpr hx
  have := distinct_len lots
  omega
theorem marks_all {m : Mc} {L : Int} (k : Okm m L) (r : Red m L) : (distinct (marksL m)).length = m.1.length := by
  have key : ∀ (f n many : Nat) (lots : List Int), m.1.length + 1 - n = f → Ma m L n many lots → (distinct (marksL m)).length = m.1.length := by
    intro f
    induction f with
    | zero =>
      intro n many lots hf h
      have := h.bound
      have := h.le
      have := h.few
      have hn : ¬ many < (distinct lots).length := by omega
      rw [← h.end_ hn]
      exact h.all k r hn
    | succ f ih =>
      intro n many lots hf h
      by_cases hn : many < (distinct lots).length
      · exact ih (n + 1) _ _ (by omega) (h.next k hn)
      · rw [← h.end_ hn]
        exact h.all k r hn
  exact key _ 0 0 _ rfl (Ma.start k)
theorem marks_len {m : Mc} {L : Int} (k : Okm m L) : (marksL m).length = m.1.length := by
  have key : ∀ (f n many : Nat) (lots : List Int), m.1.length + 1 - n = f → Ma m L n many lots → (marksL m).length = m.1.length := by
    intro f
    induction f with
    | zero =>
      intro n many lots hf h
      have := h.bound
      have := h.le
      have := h.few
      have hn : ¬ many < (distinct lots).length := by omega
      rw [← h.end_ hn]
      exact h.len
    | succ f ih =>
      intro n many lots hf h
      by_cases hn : many < (distinct lots).length
      · exact ih (n + 1) _ _ (by omega) (h.next k hn)
      · rw [← h.end_ hn]
        exact h.len
  exact key _ 0 0 _ rfl (Ma.start k)
/-! keys numbered, one by one -/
section
variable {κ : Type} [DecidableEq κ]
def numP (ks : List κ) (i : Nat) : List Int := (ks.take i).map fun k => ((growA [] ks).idxOf k : Int)
theorem numP_succ {ks : List κ} {i : Nat} {x : κ} (h : ks[i]? = some x) : numP ks (i + 1) = numP ks i ++ [((addA (growA [] (ks.take i)) x).idxOf x : Int)] := by
  obtain ⟨t, ht⟩ := grow0_pre ks (i + 1)
  have hm : x ∈ growA [] (ks.take (i + 1)) := by rw [grow0_take h]; exact addA_mem.mpr (.inr rfl)
  have e : (growA [] ks).idxOf x = (addA (growA [] (ks.take i)) x).idxOf x := by rw [ht, idx_pre hm, grow0_take h]
  unfold numP
  rw [take_next h, List.map_append, List.map_cons, List.map_nil, e]
theorem numP_all (ks : List κ) : numP ks ks.length = numA ks := by unfold numP numA; rw [List.take_length]
theorem numP_len (ks : List κ) (i : Nat) : (numP ks i).length ≤ i := by unfold numP; rw [List.length_map, List.length_take]; omega
end
/-! ### machines made narrow, chains -/
def narrow (m : Mc) (most : Int) : Mc := (m.1.map fun row => row.map fun r => r % most, m.2)
theorem narrow_ok {m : Mc} {L most : Int} (k : Okm m L) (h0 : 0 < most) (h1 : most ≤ m.1.length) : Okm (narrow m most) L := by
  unfold narrow
  refine ⟨by rw [List.length_map]; exact k.pos, by rw [List.length_map]; exact k.sg, fun r hr => ?_, fun r hr x hx => ?_⟩
  · obtain ⟨q, hq, rfl⟩ := List.mem_map.mp hr
    rw [List.length_map]; exact k.len q hq
  · obtain ⟨q, hq, rfl⟩ := List.mem_map.mp hr
    obtain ⟨y, hy, rfl⟩ := List.mem_map.mp hx
    have a := Int.emod_nonneg y (show most ≠ 0 by omega)
    have b := Int.emod_lt_of_pos y h0
    rw [List.length_map]
    exact ⟨a, by omega⟩
def chain (rooms last : Int) : Mc := ((List.range rooms.toNat).map fun (k : Nat) => [0, min ((k : Int) + 1) (rooms - 1)], ((List.range (rooms - 1).toNat).map fun _ => (0 : Int)) ++ [last])
theorem chain_ok {rooms last : Int} (h : 0 < rooms) : Okm (chain rooms last) 2 := by
  unfold chain
  refine ⟨by simp; omega, by simp; omega, fun r hr => ?_, fun r hr x hx => ?_⟩
  · obtain ⟨k, _, rfl⟩ := List.mem_map.mp hr
    rfl
  · obtain ⟨k, _, rfl⟩ := List.mem_map.mp hr
    simp only [List.length_map, List.length_range]
    rcases List.mem_cons.mp hx with rfl | hx
    · omega
    · rw [List.mem_singleton.mp hx]; omega
theorem chain_len {rooms last : Int} : (chain rooms last).1.length = rooms.toNat := by unfold chain; simp
theorem narrow_len {m : Mc} {most : Int} : (narrow m most).1.length = m.1.length := by unfold narrow; simp
theorem alike_least {m : Mc} {L : Int} (k : Okm m L) (h : m.1.length ≤ 100) : ∃ ps, cmpL m (leastL m) = .inr ps := by
  have a := least_ok k
  have b := a.le
  rcases hc : cmpL m (leastL m) with p | ps
  · have := cmp_unlike k a.ok h (by omega) hc
    exact absurd (a.beh p this.1).symm this.2
  · exact ⟨ps, rfl⟩
end My

set_option Elab.async false
set_option linter.all false
set_option maxRecDepth 100000
set_option maxHeartbeats 4000000
/-! shifts, int of a truth, insert at a place -/
namespace Fw
open PySem L2
section
variable {K : PySem.W.Frag} {B0 : Hp} {ρ : List Sd} {te ta tb : TE} {i j : Int} {c : Bool} {d : Da} {P : Po}
theorem ev_shl (ha : EvB K ta ρ (.int i)) (hb : EvB K tb ρ (.int j)) (hc : CPow i j) : EvB K (tOp (rI CPow fun i j => .int (i * 2 ^ j.toNat)) ta tb) ρ (.int (i * 2 ^ j.toNat)) := ev_I ha hb hc
theorem ev_shr (ha : EvB K ta ρ (.int i)) (hb : EvB K tb ρ (.int j)) (hc : 0 ≤ j) : EvB K (tOp (rI (fun _ j => 0 ≤ j) fun i j => .int (i / 2 ^ j.toNat)) ta tb) ρ (.int (i / 2 ^ j.toNat)) := ev_I ha hb hc
abbrev rInt1 : List V → Hp → VK → Prop := fun xs H Q => (∃ i, xs = [.int i] ∧ Q (.int i) H) ∨ ∃ k, xs = [.bl k] ∧ Q (.int (if k then 1 else 0)) H
theorem ev_intB (h : EvB K te ρ (.bl c)) : EvB K (tCB rInt1 (tCons te tNil)) ρ (.int (if c then 1 else 0)) := fun σ H Q rs q =>
  h σ H _ rs fun v H1 e s => by
    rw [s.bl_inv]
    exact .inr ⟨c, rfl, q _ H1 e (.int _)⟩
theorem ev_intI (h : EvB K te ρ (.int i)) : EvB K (tCB rInt1 (tCons te tNil)) ρ (.int i) := fun σ H Q rs q =>
  h σ H _ rs fun v H1 e s => by
    rw [s.int_inv]
    exact .inl ⟨i, rfl, q _ H1 e (.int _)⟩
/-- xs.insert(i, e), plain things -/
theorem j_insertAt {k n : Nat} {ds : List Da} (h : EvB K te ρ d) (im : d.imm = true) (ims : Da.imms ds = true) (hk : ρ[k]? = some (some (true, .lst ds))) (hl : ds.length < 100000) (hn : i = (n : Int)) (hn2 : n ≤ ds.length) (q : P.nx (ρ.set k (ow (.lst (ds.take n ++ [d] ++ ds.drop n))))) {tb : TE} (hb : EvB K tb ρ (.int i)) :
    J K B0 (tDrop (tBM K "list" (fun (x : V) (vs : List V) (H : Hp) (Q : VK) => ∃ (l : Addr) (xs : List V) (i : Int) (y : V), x = .ref l ∧ vs = [.int i, y] ∧ H l = some (.lst xs) ∧ xs.length < sizeLine ∧ 0 ≤ i ∧ i < 2 ^ 63 ∧
      Q .non (upd H l (.lst (xs.take i.toNat ++ [y] ++ xs.drop i.toNat)))) (tVar k) (tCons tb (tCons te tNil)))) ρ P := fun φ τ D σ H l nx r bk ct s => by
  subst hn
  have s0 := Sta.push (d := .non) (v := .non) (F := []) s (Ex.refl H) .non (fun _ z => nomatch z) List.nodup_nil
  obtain ⟨p, xs, G, F1, B, hv, hp, _⟩ := s0.rewL (i := φ.length + k) (ds := ds) (by rw [get_app rfl]; exact hk)
  rw [get_app l.symm] at hv
  refine ⟨.ref p, hv, .inl ⟨rfl, xs, .of hp⟩, ?_⟩
  refine hb.int (Rs.f l s) fun H1 e1 => ?_
  refine h σ H1 _ ((Rs.f l s).mono e1) fun v H2 e2 sv => ?_
  have s2 := Sta.push (s.ex (e1.trans e2)) (Ex.refl H2) (sv.own im) (fun _ z => nomatch z) List.nodup_nil
  obtain ⟨p', xs', G', F1', B1, hv', hp', ws, a, eB, nd1, pG, pF, k1⟩ := s2.rewL (i := φ.length + k) (ds := ds) (by rw [get_app rfl]; exact hk)
  rw [get_app l.symm, hv] at hv'
  cases hv'
  have hle : xs'.length = ds.length := ws.length
  refine ⟨p, xs', (n : Int), v, rfl, rfl, hp', by rw [hle]; exact Nat.lt_of_lt_of_le hl (by decide), Int.natCast_nonneg n, by
    have h1 : n < 100000 := Nat.lt_of_le_of_lt hn2 hl
    have h2 : (n : Int) < 100000 := by omega
    exact Int.lt_trans h2 (by decide), ?_⟩
  rw [Int.toNat_natCast]
  have sh' : Shs K H2 (xs'.take n ++ [v] ++ xs'.drop n) (ds.take n ++ [d] ++ ds.drop n) := ((ws.sh.take n).append (.cons sv .nil)).append (ws.sh.drop n)
  have im' : Da.imms (ds.take n ++ [d] ++ ds.drop n) = true := by
    have app : ∀ l1 l2 : List Da, Da.imms l1 = true → Da.imms l2 = true → Da.imms (l1 ++ l2) = true := by
      intro l1
      induction l1 with
      | nil => intro l2 _ h2; exact h2
      | cons x l1 ih =>
        intro l2 h1 h2
        have h1' : (x.imm && Da.imms l1) = true := h1
        rw [Bool.and_eq_true] at h1'
        show (x.imm && Da.imms (l1 ++ l2)) = true
        rw [h1'.1, ih l2 h1'.2 h2]; rfl
    have tk : ∀ (l : List Da) (n : Nat), Da.imms l = true → Da.imms (l.take n) = true ∧ Da.imms (l.drop n) = true := by
      intro l
      induction l with
      | nil => intro n _; cases n <;> exact ⟨rfl, rfl⟩
      | cons x l ih =>
        intro n h1
        have h1' : (x.imm && Da.imms l) = true := h1
        rw [Bool.and_eq_true] at h1'
        cases n with
        | zero => exact ⟨rfl, h1⟩
        | succ n =>
          refine ⟨?_, (ih n h1'.2).2⟩
          show (x.imm && Da.imms (l.take n)) = true
          rw [h1'.1, (ih n h1'.2).1]; rfl
    refine app _ _ (app _ _ (tk ds n ims).1 ?_) (tk ds n ims).2
    show (d.imm && true) = true
    rw [im]; rfl
  have q2 := k1 _ (ds.take n ++ [d] ++ ds.drop n) [] (sh'.own im') (fun a m => nomatch m) List.nodup_nil
  rw [set_app rfl] at q2
  exact nx _ _ _ q q2
end
end Fw

set_option Elab.async false
set_option linter.all false
set_option maxRecDepth 100000
set_option maxHeartbeats 4000000
namespace My
open PySem Fw
/-! ### draws of great numbers -/
def dHere (ns : List Int) (k : Int) : Int := ((if (ns.length : Int) > 0 then ns.getD (k % (ns.length : Int) : Int).toNat 0 else 0) % 1000000007 + 7919 * k + 11) * 48271 % 2147483647
def dTurn (h0 : Int) : Nat → Int × Int
  | 0 => (h0, 0)
  | t + 1 => (((dTurn h0 t).1 * 69621 + (t : Int) + 1) % 2147483629, (dTurn h0 t).2 * 2147483629 + ((dTurn h0 t).1 * 69621 + (t : Int) + 1) % 2147483629)
@[irreducible] def drawW (ns : List Int) (k : Int) : Int :=
  if 0 < (ns.length : Int) - 1 ∧ ns.getD 0 0 % 2 = 1 then (ns.getD (1 + k % ((ns.length : Int) - 1) : Int).toNat 0 / 2 ^ (160 * (k / ((ns.length : Int) - 1)) : Int).toNat) % (1 * 2 ^ (160 : Int).toNat) else (dTurn (dHere ns k) 5).2
theorem dHere_lo {ns : List Int} {k : Int} : 0 ≤ dHere ns k := by unfold dHere; exact Int.emod_nonneg _ (by decide)
theorem dTurn_lo {h0 : Int} (h : 0 ≤ h0) : ∀ t, 0 ≤ (dTurn h0 t).1 ∧ 0 ≤ (dTurn h0 t).2
  | 0 => ⟨h, Int.le_refl _⟩
  | t + 1 => by
    have ih := dTurn_lo h t
    have a : 0 ≤ ((dTurn h0 t).1 * 69621 + (t : Int) + 1) % 2147483629 := Int.emod_nonneg _ (by decide)
    refine ⟨a, ?_⟩
    show 0 ≤ (dTurn h0 t).2 * 2147483629 + ((dTurn h0 t).1 * 69621 + (t : Int) + 1) % 2147483629
    omega
theorem drawW_lo (ns : List Int) (k : Int) : 0 ≤ drawW ns k := by
  unfold drawW
  split
  · exact Int.emod_nonneg _ (by decide)
  · exact (dTurn_lo dHere_lo 5).2
/-! ### machines by draws -/
def lq (n b : Int) : Nat → Int
  | 0 => n
  | j + 1 => lq n b j / b
theorem lq_lo {n b : Int} (hn : 0 ≤ n) (hb : 0 ≤ b) : ∀ j, 0 ≤ lq n b j
  | 0 => hn
  | j + 1 => Int.ediv_nonneg (lq_lo hn hb j) hb
def drRow (ns : List Int) (at_ rooms letters most k : Int) : List Int := (List.range letters.toNat).map fun (j : Nat) => lq (drawW ns (at_ + k) / most) rooms j % rooms
def drRows (ns : List Int) (at_ rooms letters most : Int) : List (List Int) := (List.range rooms.toNat).map fun (k : Nat) => drRow ns at_ rooms letters most k
def drSigns (ns : List Int) (at_ rooms most : Int) : List Int := (List.range rooms.toNat).map fun (k : Nat) => drawW ns (at_ + k) % most
def drMach (ns : List Int) (at_ rooms letters most : Int) : Mc := ((drRows ns at_ rooms letters most).set 0 (((drRows ns at_ rooms letters most).getD 0 []).set 0 0), drSigns ns at_ rooms most)
theorem drRow_len (ns : List Int) (at_ rooms letters most k : Int) : (drRow ns at_ rooms letters most k).length = letters.toNat := by unfold drRow; rw [List.length_map, List.length_range]
theorem drRows_len (ns : List Int) (at_ rooms letters most : Int) : (drRows ns at_ rooms letters most).length = rooms.toNat := by unfold drRows; rw [List.length_map, List.length_range]
theorem drRows_0 {ns : List Int} {at_ rooms letters most : Int} (h : 0 < rooms) : (drRows ns at_ rooms letters most).getD 0 [] = drRow ns at_ rooms letters most 0 := getD_rangeMap (fun (k : Nat) => drRow ns at_ rooms letters most k) [] (by omega)
theorem drMach_len {ns : List Int} {at_ rooms letters most : Int} : (drMach ns at_ rooms letters most).1.length = rooms.toNat := by unfold drMach; rw [List.length_set, drRows_len]
theorem drMach_len2 {ns : List Int} {at_ rooms letters most : Int} : (drMach ns at_ rooms letters most).2.length = rooms.toNat := by unfold drMach drSigns; rw [List.length_map, List.length_range]
theorem drMach_ok {ns : List Int} {at_ rooms letters most : Int} (h1 : 0 < rooms) (h2 : 0 ≤ letters) : Okm (drMach ns at_ rooms letters most) letters := by
  have mem : ∀ k x, x ∈ drRow ns at_ rooms letters most k → 0 ≤ x ∧ x < rooms := fun k x hx => by
    unfold drRow at hx
    obtain ⟨j, _, rfl⟩ := List.mem_map.mp hx
    exact ⟨Int.emod_nonneg _ (by omega), Int.emod_lt_of_pos _ h1⟩
  have key : ∀ r, r ∈ (drMach ns at_ rooms letters most).1 → (r.length = letters.toNat ∧ ∀ x, x ∈ r → 0 ≤ x ∧ x < rooms) := by
    intro r hr
    unfold drMach at hr
    rw [drRows_0 h1] at hr
    rcases List.mem_or_eq_of_mem_set hr with hr | rfl
    · unfold drRows at hr
      obtain ⟨k, _, rfl⟩ := List.mem_map.mp hr
      exact ⟨drRow_len _ _ _ _ _ _, fun x hx => mem _ x hx⟩
    · refine ⟨by rw [List.length_set, drRow_len], fun x hx => ?_⟩
      rcases List.mem_or_eq_of_mem_set hx with hx | rfl
      · exact mem _ x hx
      · omega
  have len := drMach_len (ns := ns) (at_ := at_) (rooms := rooms) (letters := letters) (most := most)
  have len2 := drMach_len2 (ns := ns) (at_ := at_) (rooms := rooms) (letters := letters) (most := most)
  refine ⟨by omega, by omega, fun r hr => by rw [(key r hr).1]; omega, fun r hr x hx => ?_⟩
  have := (key r hr).2 x hx
  omega
theorem drMach_front {ns : List Int} {at_ rooms letters most : Int} (h1 : 0 < rooms) (h2 : 0 < letters) : step (drMach ns at_ rooms letters most) 0 0 = 0 := by
  unfold step drMach
  show (((drRows ns at_ rooms letters most).set 0 (((drRows ns at_ rooms letters most).getD 0 []).set 0 0)).getD 0 []).getD 0 0 = 0
  have hq : ((drRows ns at_ rooms letters most).set 0 ((drRow ns at_ rooms letters most 0).set 0 0)).getD 0 [] = (drRow ns at_ rooms letters most 0).set 0 0 := by
    rw [List.getD_eq_getElem?_getD, List.getElem?_set_self (by rw [drRows_len]; omega)]; rfl
  rw [drRows_0 h1, hq, List.getD_eq_getElem?_getD, List.getElem?_set_self (by rw [drRow_len]; omega)]
  rfl
theorem drMach_sign {ns : List Int} {at_ rooms letters most : Int} (h : 0 < most) : ∀ s, s ∈ (drMach ns at_ rooms letters most).2 → 0 ≤ s ∧ s < most := by
  intro s hs
  unfold drMach drSigns at hs
  obtain ⟨k, _, rfl⟩ := List.mem_map.mp hs
  exact ⟨Int.emod_nonneg _ (by omega), Int.emod_lt_of_pos _ h⟩
/-! ### rooms that stand more than once -/
def cpRow (ns : List Int) (m : Mc) (many : Int) (j k : Nat) : List Int :=
  (num (m.1.getD k [])).map fun p => p.2 + (m.2.length : Int) * (lq (drawW ns (20 + (m.2.length : Int) * (j : Int) + (k : Int))) many p.1 % many)
def cpPart (ns : List Int) (m : Mc) (many : Int) (j : Nat) : List (List Int) := (List.range j).flatMap fun j => (List.range m.2.length).map fun k => cpRow ns m many j k
def cpSigns (m : Mc) (j : Nat) : List Int := (List.range j).flatMap fun _ => (List.range m.2.length).map fun k => m.2.getD k 0
theorem cpPart_succ (ns : List Int) (m : Mc) (many : Int) (j : Nat) : cpPart ns m many (j + 1) = cpPart ns m many j ++ (List.range m.2.length).map fun k => cpRow ns m many j k := by
  unfold cpPart; rw [List.range_succ, List.flatMap_append]; simp
theorem cpSigns_succ (m : Mc) (j : Nat) : cpSigns m (j + 1) = cpSigns m j ++ (List.range m.2.length).map fun k => m.2.getD k 0 := by
  unfold cpSigns; rw [List.range_succ, List.flatMap_append]; simp
theorem cpPart_len (ns : List Int) (m : Mc) (many : Int) (j : Nat) : (cpPart ns m many j).length = j * m.2.length := by
  induction j with
  | zero => unfold cpPart; simp
  | succ j ih => rw [cpPart_succ, List.length_append, ih, List.length_map, List.length_range, Nat.succ_mul]
theorem cpSigns_len (m : Mc) (j : Nat) : (cpSigns m j).length = j * m.2.length := by
  induction j with
  | zero => unfold cpSigns; simp
  | succ j ih => rw [cpSigns_succ, List.length_append, ih, List.length_map, List.length_range, Nat.succ_mul]
def copied (ns : List Int) (m : Mc) (many : Int) : Mc := ((cpPart ns m many many.toNat).set 0 (((cpPart ns m many many.toNat).getD 0 []).set 0 0), cpSigns m many.toNat)
theorem cpRow_len (ns : List Int) (m : Mc) (many : Int) (j k : Nat) : (cpRow ns m many j k).length = (m.1.getD k []).length := by unfold cpRow; rw [List.length_map, num_len]
theorem copied_ok {ns : List Int} {m : Mc} {L many : Int} (k : Okm m L) (hL : 0 < L) (h : 0 < many) : Okm (copied ns m many) L ∧ (copied ns m many).1.length = many.toNat * m.1.length := by
  have sg := k.sg
  have len : (copied ns m many).1.length = many.toNat * m.1.length := by unfold copied; rw [List.length_set, cpPart_len, sg]
  have len2 : (copied ns m many).2.length = many.toNat * m.1.length := by unfold copied; rw [cpSigns_len, sg]
  have hp := k.pos
  have hpos : 0 < many.toNat * m.1.length := Nat.mul_pos (by omega) hp
  have mem : ∀ r, r ∈ cpPart ns m many many.toNat → (r.length : Int) = L ∧ ∀ x, x ∈ r → 0 ≤ x ∧ x < ((many.toNat * m.1.length : Nat) : Int) := by
    intro r hr
    unfold cpPart at hr
    obtain ⟨j, hj, hr⟩ := List.mem_flatMap.mp hr
    obtain ⟨i, hi, rfl⟩ := List.mem_map.mp hr
    have hi' := List.mem_range.mp hi
    have him : m.1.getD i [] ∈ m.1 := getD_mem' (by omega)
    refine ⟨by rw [cpRow_len]; exact k.len _ him, fun x hx => ?_⟩
    unfold cpRow at hx
    obtain ⟨p, hp', rfl⟩ := List.mem_map.mp hx
    have hn := k.nx _ him _ (num_in hp').2
    have a := Int.emod_nonneg (lq (drawW ns (20 + (m.2.length : Int) * (j : Int) + (i : Int))) many p.1) (show many ≠ 0 by omega)
    have b := Int.emod_lt_of_pos (lq (drawW ns (20 + (m.2.length : Int) * (j : Int) + (i : Int))) many p.1) h
    generalize lq (drawW ns (20 + (m.2.length : Int) * (j : Int) + (i : Int))) many p.1 % many = q at a b
    have c : 0 ≤ (m.2.length : Int) * q := Int.mul_nonneg (by omega) a
    have d : (m.2.length : Int) * q ≤ (m.2.length : Int) * (many - 1) := Int.mul_le_mul_of_nonneg_left (by omega) (by omega)
    have e : (m.2.length : Int) * (many - 1) = (m.2.length : Int) * many - (m.2.length : Int) := by rw [Int.mul_sub, Int.mul_one]
    have f : ((many.toNat * m.1.length : Nat) : Int) = (m.2.length : Int) * many := by
      rw [sg, Int.natCast_mul, Int.mul_comm, show ((many.toNat : Nat) : Int) = many by omega]
    rw [f]
    omega
  refine ⟨⟨by omega, by omega, fun r hr => ?_, fun r hr x hx => ?_⟩, len⟩
  · unfold copied at hr
    rcases List.mem_or_eq_of_mem_set hr with hr | rfl
    · exact (mem r hr).1
    · rw [List.length_set]
      exact (mem _ (getD_mem' (by rw [cpPart_len, sg]; exact hpos))).1
  · rw [len]
    unfold copied at hr
    rcases List.mem_or_eq_of_mem_set hr with hr | rfl
    · exact (mem r hr).2 x hx
    · rcases List.mem_or_eq_of_mem_set hx with hx | rfl
      · exact (mem _ (getD_mem' (by rw [cpPart_len, sg]; exact hpos))).2 x hx
      · omega
theorem num_get {α : Type} {xs : List α} {i : Nat} {x : α} (h : xs[i]? = some x) : (num xs)[i]? = some (i, x) := by
  have hl := (List.getElem?_eq_some_iff.mp h).1
  rw [getD_some (0, x) (show i < (num xs).length by rw [num_len]; exact hl), num_getD x hl]
  have := (List.getElem?_eq_some_iff.mp h).2
  rw [List.getD_eq_getElem?_getD, List.getElem?_eq_getElem hl, this]; rfl
theorem cp_row0 {ns : List Int} {m : Mc} {L many : Int} (k : Okm m L) (h : 0 < many) : ((cpPart ns m many many.toNat).getD 0 []).length = (m.1.getD 0 []).length := by
  have sg := k.sg
  have hp := k.pos
  have hm : (cpPart ns m many many.toNat).getD 0 [] ∈ cpPart ns m many many.toNat := getD_mem' (by rw [cpPart_len, sg]; exact Nat.mul_pos (by omega) hp)
  generalize (cpPart ns m many many.toNat).getD 0 [] = r at hm
  unfold cpPart at hm
  obtain ⟨j, hj, hr⟩ := List.mem_flatMap.mp hm
  obtain ⟨i, hi, rfl⟩ := List.mem_map.mp hr
  have hi' := List.mem_range.mp hi
  have a := k.len _ (getD_mem' (z := []) (show i < m.1.length by omega))
  have b := k.len _ (getD_mem' (z := []) (show 0 < m.1.length by omega))
  rw [cpRow_len]; omega
/-! ### rooms more -/
def wmNum (n size : Int) : Nat → Int
  | 0 => n
  | a + 1 => wmNum n size a / (if a = 0 then 4 else size)
def wmRow (ns : List Int) (len0 : Nat) (size : Int) (k : Nat) : List Int := (List.range len0).map fun a => wmNum (drawW ns (12 + (k : Int))) size (a + 1) % size
def withMore (ns : List Int) (m : Mc) (many : Int) : Mc :=
  (m.1 ++ (List.range many.toNat).map (fun k => wmRow ns (m.1.getD 0 []).length ((m.2.length : Int) + many) k), m.2 ++ (List.range many.toNat).map fun (k : Nat) => drawW ns (12 + (k : Int)) % 4)
theorem wm_div (size : Int) (a : Nat) : ([4, size] : List Int).getD (if decide ((0 : Int) < (a : Int)) = true then 1 else 0 : Int).toNat 0 = if a = 0 then 4 else size := by
  by_cases h : a = 0
  · subst h; rfl
  · rw [if_neg h, if_pos (decide_eq_true (by omega))]; rfl
theorem wm_pos {size : Int} (h : 0 < size) (h2 : size < 1000) (a : Nat) : 0 < ([4, size] : List Int).getD (if decide ((0 : Int) < (a : Int)) = true then 1 else 0 : Int).toNat 0 ∧ ([4, size] : List Int).getD (if decide ((0 : Int) < (a : Int)) = true then 1 else 0 : Int).toNat 0 < 1073741824 := by
  rw [wm_div]
  split <;> omega
theorem wmRow_len (ns : List Int) (len0 : Nat) (size : Int) (k : Nat) : (wmRow ns len0 size k).length = len0 := by unfold wmRow; rw [List.length_map, List.length_range]
theorem withMore_ok {ns : List Int} {m : Mc} {L many : Int} (k : Okm m L) (h : 0 ≤ many) : Okm (withMore ns m many) L ∧ (withMore ns m many).1.length = m.1.length + many.toNat := by
  have sg := k.sg
  have hp := k.pos
  have len : (withMore ns m many).1.length = m.1.length + many.toNat := by unfold withMore; rw [List.length_append, List.length_map, List.length_range]
  have len2 : (withMore ns m many).2.length = m.1.length + many.toNat := by unfold withMore; rw [List.length_append, List.length_map, List.length_range, sg]
  have h0 : (m.1.getD 0 []) ∈ m.1 := getD_mem' hp
  refine ⟨⟨by omega, by omega, fun r hr => ?_, fun r hr x hx => ?_⟩, len⟩
  · unfold withMore at hr
    rcases List.mem_append.mp hr with hr | hr
    · exact k.len r hr
    · obtain ⟨i, _, rfl⟩ := List.mem_map.mp hr
      rw [wmRow_len]; exact k.len _ h0
  · rw [len]
    unfold withMore at hr
    rcases List.mem_append.mp hr with hr | hr
    · have := k.nx r hr x hx; omega
    · obtain ⟨i, _, rfl⟩ := List.mem_map.mp hr
      unfold wmRow at hx
      obtain ⟨a, _, rfl⟩ := List.mem_map.mp hx
      have c := Int.emod_nonneg (wmNum (drawW ns (12 + (i : Int))) ((m.2.length : Int) + many) (a + 1)) (show (m.2.length : Int) + many ≠ 0 by omega)
      have d := Int.emod_lt_of_pos (wmNum (drawW ns (12 + (i : Int))) ((m.2.length : Int) + many) (a + 1)) (show 0 < (m.2.length : Int) + many by omega)
      omega
/-! ### rooms called by other numbers -/
def clIns (os : List Int) (n : Int) (k : Nat) : List Int := os.take (1 + n % (os.length : Int) : Int).toNat ++ [1 + (k : Int)] ++ os.drop (1 + n % (os.length : Int) : Int).toNat
def clOrd (n0 : Int) : Nat → List Int × Int
  | 0 => ([0], n0)
  | k + 1 => (clIns (clOrd n0 k).1 (clOrd n0 k).2 k, (clOrd n0 k).2 / (((clIns (clOrd n0 k).1 (clOrd n0 k).2 k).length : Int) - 1))
theorem clOrd_len (n0 : Int) (k : Nat) : (clOrd n0 k).1.length = k + 1 := by
  induction k with
  | zero => rfl
  | succ k ih =>
    show (clIns (clOrd n0 k).1 (clOrd n0 k).2 k).length = _
    unfold clIns
    rw [List.length_append, List.length_append, List.length_singleton, List.length_take, List.length_drop]
    omega
theorem clOrd_mem (n0 : Int) (k : Nat) : ∀ x, x ∈ (clOrd n0 k).1 ↔ 0 ≤ x ∧ x ≤ (k : Int) := by
  induction k with
  | zero => intro x; show x ∈ [(0 : Int)] ↔ _; rw [List.mem_singleton]; omega
  | succ k ih =>
    intro x
    show x ∈ clIns (clOrd n0 k).1 (clOrd n0 k).2 k ↔ _
    unfold clIns
    have tk : ∀ n, (x ∈ (clOrd n0 k).1.take n ∨ x ∈ (clOrd n0 k).1.drop n) ↔ x ∈ (clOrd n0 k).1 := fun n => by
      rw [← List.mem_append, List.take_append_drop]
    rw [List.mem_append, List.mem_append, List.mem_singleton, or_right_comm, tk, ih]
    omega
def called (m : Mc) (n0 : Int) : Mc :=
  ((clOrd n0 (m.2.length - 1)).1.map fun old => (m.1.getD old.toNat []).map fun room => ((clOrd n0 (m.2.length - 1)).1.idxOf room : Int), (clOrd n0 (m.2.length - 1)).1.map fun old => m.2.getD old.toNat 0)
theorem called_ok {m : Mc} {L n0 : Int} (k : Okm m L) : Okm (called m n0) L ∧ (called m n0).1.length = m.1.length := by
  have sg := k.sg
  have hp := k.pos
  have hl := clOrd_len n0 (m.2.length - 1)
  have hm := clOrd_mem n0 (m.2.length - 1)
  have len : (called m n0).1.length = m.1.length := by unfold called; rw [List.length_map]; omega
  have len2 : (called m n0).2.length = m.1.length := by unfold called; rw [List.length_map]; omega
  refine ⟨⟨by omega, by omega, fun r hr => ?_, fun r hr x hx => ?_⟩, len⟩
  · unfold called at hr
    obtain ⟨o, ho, rfl⟩ := List.mem_map.mp hr
    have := (hm o).mp ho
    rw [List.length_map]
    exact k.len _ (getD_mem' (by omega))
  · rw [len]
    unfold called at hr
    obtain ⟨o, ho, rfl⟩ := List.mem_map.mp hr
    have h1 := (hm o).mp ho
    obtain ⟨y, hy, rfl⟩ := List.mem_map.mp hx
    have h2 := k.nx _ (getD_mem' (by omega)) y hy
    have h3 := List.idxOf_lt_length_iff.mpr ((hm y).mpr (by omega))
    omega
theorem least_iff {m o : Mc} {L : Int} (k : Okm m L) (k' : Okm o L) (h : m.1.length ≤ 100) (h' : o.1.length ≤ 100) : leastL m = leastL o ↔ ∃ ps, cmpL m o = .inr ps := by
  constructor
  · intro e
    rcases hc : cmpL m o with p | ps
    · have := cmp_unlike k k' h h' hc
      exact absurd (least_same k k' e p this.1) this.2
    · exact ⟨ps, rfl⟩
  · rintro ⟨ps, hc⟩
    exact least_canon k k' (cmp_alike k k' h h' hc)
end My

set_option Elab.async false
set_option linter.all false
set_option maxRecDepth 100000
set_option maxHeartbeats 4000000
namespace My
open PySem Fw
/-! ### machines that read the figures the other way -/
abbrev Vc := List Int
def nxV (m : Mc) (f : Vc) (l : Nat) : Vc := m.1.map fun row => f.getD (row.getD l 0).toNat 0
def nxs (m : Mc) (f : Vc) : List Vc := (List.range (m.1.getD 0 []).length).map fun l => nxV m f l
def turnF (m : Mc) : Nat → Nat → List Vc → Option (List Vc)
  | 0, _, _ => none
  | n + 1, a, os => if a < os.length then (if 100 < (growA os (nxs m (os.getD a []))).length then none else turnF m n (a + 1) (growA os (nxs m (os.getD a [])))) else some os
@[irreducible] def turnL (m : Mc) : Option (List Vc) := turnF m 102 0 [m.2]
def turnM (m : Mc) (os : List Vc) : Mc := (os.map fun f => (nxs m f).map fun g => (idxA os g : Int), os.map fun f => f.getD 0 0)
def PrV (m : Mc) (f : Vc) : Prop := f.length = m.1.length ∧ ∃ w, okW ((m.1.getD 0 []).length : Int) w ∧ f = w.foldl (fun g l => nxV m g l.toNat) m.2
structure Tu (m : Mc) (a : Nat) (os : List Vc) : Prop where
  r : Rch (nxs m) [] m.2 (PrV m) a os
  few : os.length ≤ 100
  eq : turnF m (102 - a) a os = turnL m
theorem nxV_len (m : Mc) (f : Vc) (l : Nat) : (nxV m f l).length = m.1.length := by unfold nxV; rw [List.length_map]
theorem nxs_len (m : Mc) (f : Vc) : (nxs m f).length = (m.1.getD 0 []).length := by unfold nxs; rw [List.length_map, List.length_range]
theorem nxs_at {m : Mc} {f : Vc} {i : Nat} (h : i < (m.1.getD 0 []).length) : (nxs m f)[i]? = some (nxV m f i) := by unfold nxs; rw [List.getElem?_map, List.getElem?_range h]; rfl
theorem prV_zero {m : Mc} {L : Int} (k : Okm m L) : PrV m m.2 := ⟨k.sg, [], okW_nil, rfl⟩
theorem prV_next {m : Mc} : ∀ f, PrV m f → ∀ g, g ∈ nxs m f → PrV m g := fun f ⟨h1, w, hw, e⟩ g hg => by
  unfold nxs at hg
  obtain ⟨l, hl, rfl⟩ := List.mem_map.mp hg
  have hl' := List.mem_range.mp hl
  refine ⟨nxV_len _ _ _, w ++ [(l : Int)], fun x hx => ?_, ?_⟩
  · rcases List.mem_append.mp hx with hx | hx
    · exact hw x hx
    · rw [List.mem_singleton.mp hx]; omega
  · rw [List.foldl_append, ← e]
    show nxV m f l = nxV m f ((l : Int)).toNat
    rw [Int.toNat_natCast]
theorem Tu.zero {m : Mc} {L : Int} (k : Okm m L) : Tu m 0 [m.2] := ⟨Rch.zero (prV_zero k), by simp, by unfold turnL; rfl⟩
theorem Tu.next {m : Mc} {a : Nat} {os : List Vc} (h : Tu m a os) (ha : a < os.length) (hf : (growA os (nxs m (os.getD a []))).length ≤ 100) : Tu m (a + 1) (growA os (nxs m (os.getD a []))) := by
  have hfw := h.few
  refine ⟨h.r.next prV_next ha, hf, ?_⟩
  rw [← h.eq, show 102 - a = (102 - (a + 1)) + 1 by omega]
  show _ = if a < os.length then _ else _
  rw [if_pos ha, if_neg (by omega)]
theorem Tu.over {m : Mc} {a : Nat} {os : List Vc} (h : Tu m a os) (ha : a < os.length) (hf : ¬ (growA os (nxs m (os.getD a []))).length ≤ 100) : turnL m = none := by
  have hfw := h.few
  rw [← h.eq, show 102 - a = (102 - (a + 1)) + 1 by omega]
  show (if a < os.length then _ else _) = _
  rw [if_pos ha, if_pos (by omega)]
theorem Tu.done {m : Mc} {a : Nat} {os : List Vc} (h : Tu m a os) (ha : ¬ a < os.length) : turnL m = some os := by
  have hfw := h.few
  have hle := h.r.le
  rw [← h.eq, show 102 - a = (101 - a) + 1 by omega]
  show (if a < os.length then _ else _) = _
  rw [if_neg ha]
section
variable {α : Type} [DecidableEq α]
theorem idxA_lt {os : List α} {x : α} (h : x ∈ os) : idxA os x < os.length := List.idxOf_lt_length_iff.mpr h
theorem idxA_at {os : List α} {x : α} (z : α) (h : x ∈ os) : os.getD (idxA os x) z = x := by
  have hlt : os.idxOf x < os.length := List.idxOf_lt_length_iff.mpr h
  have := List.getElem_idxOf hlt
  show os.getD (os.idxOf x) z = x
  rw [List.getD_eq_getElem?_getD, List.getElem?_eq_getElem hlt]
  exact this
theorem idxA_nd {os : List α} (nd : os.Nodup) {j : Nat} (z : α) (h : j < os.length) : idxA os (os.getD j z) = j := by
  have e : os.getD j z = os[j] := by rw [List.getD_eq_getElem?_getD, List.getElem?_eq_getElem h]; rfl
  rw [e]
  exact nd.idxOf_getElem j h
theorem idxA_new {X t : List α} {g : α} (h : g ∉ X) : idxA (X ++ g :: t) g = X.length := by
  show List.idxOf g _ = _
  rw [List.idxOf_append, if_neg h]
  simp
end
theorem idxA_pre {α : Type} [DecidableEq α] {os t : List α} {x : α} (h : x ∈ os) : idxA (os ++ t) x = idxA os x := idx_pre h
theorem growA_len_mono {α : Type} [DecidableEq α] (os row : List α) (i : Nat) : (growA os (row.take i)).length ≤ (growA os row).length := by
  obtain ⟨t, ht⟩ := growA_pre (row.drop i) (growA os (row.take i))
  rw [growA_app, List.take_append_drop] at ht
  rw [ht, List.length_append]; omega
theorem growA_len_le {α : Type} [DecidableEq α] (os row : List α) : (growA os row).length ≤ os.length + row.length := by
  induction row generalizing os with
  | nil => exact Nat.le_refl _
  | cons x row ih =>
    have := ih (addA os x)
    show (growA (addA os x) row).length ≤ _
    have h2 : (addA os x).length ≤ os.length + 1 := by unfold addA; split <;> simp
    rw [List.length_cons]; omega
/-- the rows so far -/
def rowsT (m : Mc) (os : List Vc) (a : Nat) : List (List Int) := (os.take a).map fun f => (nxs m f).map fun g => (idxA os g : Int)
def lineT (m : Mc) (f : Vc) (os : List Vc) (i : Nat) : List Int := ((nxs m f).take i).map fun g => (idxA os g : Int)
theorem lineT_succ {m : Mc} {f : Vc} {os : List Vc} {i : Nat} (h : i < (m.1.getD 0 []).length) :
    lineT m f (growA os ((nxs m f).take (i + 1))) (i + 1) = lineT m f (growA os ((nxs m f).take i)) i ++ [(idxA (growA os ((nxs m f).take (i + 1))) (nxV m f i) : Int)] := by
  unfold lineT
  rw [take_next (nxs_at h), List.map_append, List.map_cons, List.map_nil]
  congr 1
  refine List.map_congr_left fun g hg => ?_
  have hm : g ∈ growA os ((nxs m f).take i) := growA_mem.mpr (.inr hg)
  rw [growA_snoc]
  obtain ⟨t, ht⟩ := addA_pre (growA os ((nxs m f).take i)) (nxV m f i)
  rw [ht, idxA_pre hm]
theorem growT_succ {m : Mc} {f : Vc} {os : List Vc} {i : Nat} (h : i < (m.1.getD 0 []).length) : growA os ((nxs m f).take (i + 1)) = addA (growA os ((nxs m f).take i)) (nxV m f i) := by
  rw [take_next (nxs_at h), growA_snoc]
theorem rowsT_succ {m : Mc} {a : Nat} {os : List Vc} (h : Tu m a os) (ha : a < os.length) :
    rowsT m (growA os (nxs m (os.getD a []))) (a + 1) = rowsT m os a ++ [(nxs m (os.getD a [])).map fun g => (idxA (growA os (nxs m (os.getD a []))) g : Int)] := by
  obtain ⟨t, ht⟩ := growA_pre (nxs m (os.getD a [])) os
  unfold rowsT
  have hg : (growA os (nxs m (os.getD a [])))[a]? = some (os.getD a []) := by
    rw [ht, List.getElem?_append_left ha, getD_some [] ha]
  rw [take_next hg, List.map_append, List.map_cons, List.map_nil]
  congr 1
  rw [ht, List.take_append_of_le_length (by omega)]
  refine List.map_congr_left fun f hf => List.map_congr_left fun g hg' => ?_
  obtain ⟨j, hj, e⟩ := List.mem_iff_getElem.mp hf
  rw [List.length_take] at hj
  rw [List.getElem_take] at e
  have : g ∈ os := h.r.cl j (by omega) g (by
    rw [List.getD_eq_getElem?_getD, List.getElem?_eq_getElem (by omega)]
    show g ∈ nxs m (os[j]'(by omega))
    rw [e]; exact hg')
  rw [idxA_pre this]
theorem rowsT_all (m : Mc) (os : List Vc) : rowsT m os os.length = (turnM m os).1 := by unfold rowsT turnM; rw [List.take_length]
/-- what is behind a list of letters -/
def vrun (m : Mc) (f : Vc) (w : List Int) : Vc := w.foldl (fun g l => nxV m g l.toNat) f
theorem vrun_at {m : Mc} {L : Int} (k : Okm m L) : ∀ (w : List Int) (f : Vc) (r : Int), okW L w → inR m r → (vrun m f w).getD r.toNat 0 = f.getD (w.reverse.foldl (step m) r).toNat 0
  | [], f, r, _, _ => rfl
  | l :: w, f, r, hw, hr => by
    obtain ⟨a, b⟩ := okW_cons.mp hw
    show (vrun m (nxV m f l.toNat) w).getD r.toNat 0 = _
    rw [vrun_at k w _ r b hr, List.reverse_cons, List.foldl_append]
    have hrv : ∀ x, x ∈ w.reverse → 0 ≤ x ∧ x < L := fun x hx => b x (List.mem_reverse.mp hx)
    have h2 := k.foldl w.reverse r hrv hr
    generalize w.reverse.foldl (step m) r = s at h2
    unfold nxV
    rw [getD_map' _ [] 0 (by omega)]
    rfl
theorem vrun_beh {m : Mc} {L : Int} (k : Okm m L) {w : List Int} (hw : okW L w) : (vrun m m.2 w).getD 0 0 = beh m 0 w.reverse := vrun_at k w m.2 0 hw (inR_zero k)
structure Turned (m : Mc) (L : Int) (os : List Vc) : Prop where
  ok : Okm (turnM m os) L
  few : os.length ≤ 100
  len : (turnM m os).1.length = os.length
  beh : ∀ w, okW L w → My.beh (turnM m os) 0 w = My.beh m 0 w.reverse
  re : reached (turnM m os) = turnM m os
  room : ∀ (f : Vc), f ∈ os → ∀ w, okW L w → My.beh (turnM m os) (idxA os f : Int) w = (vrun m f w).getD 0 0
  nd : os.Nodup
  pr : ∀ f, f ∈ os → PrV m f
def rangeI (n : Nat) : List Int := (List.range n).map fun (i : Nat) => (i : Int)
theorem rangeI_len (n : Nat) : (rangeI n).length = n := by unfold rangeI; rw [List.length_map, List.length_range]
theorem rangeI_mem {n : Nat} {x : Int} : x ∈ rangeI n ↔ 0 ≤ x ∧ x < n := by
  unfold rangeI
  constructor
  · intro h
    obtain ⟨i, hi, rfl⟩ := List.mem_map.mp h
    have := List.mem_range.mp hi
    omega
  · rintro ⟨a, b⟩
    exact List.mem_map.mpr ⟨x.toNat, List.mem_range.mpr (by omega), by omega⟩
theorem rangeI_succ (n : Nat) : rangeI (n + 1) = rangeI n ++ [(n : Int)] := by unfold rangeI; rw [List.range_succ, List.map_append]; rfl
theorem rangeI_at {n i : Nat} (h : i < n) : (rangeI n).getD i 0 = i := by unfold rangeI; exact getD_rangeMap (fun (i : Nat) => (i : Int)) 0 h
theorem rangeI_nd (n : Nat) : (rangeI n).Nodup := by
  unfold rangeI
  unfold List.Nodup
  rw [List.pairwise_map]
  exact (List.nodup_range (n := n)).imp fun {a b} h e => h (by omega)
theorem idx_rangeI {n : Nat} {x : Int} (h : 0 ≤ x ∧ x < n) : (rangeI n).idxOf x = x.toNat := by
  have := idxA_nd (rangeI_nd n) (j := x.toNat) 0 (by rw [rangeI_len]; omega)
  rw [rangeI_at (by omega), show ((x.toNat : Nat) : Int) = x by omega] at this
  exact this
theorem grow_range {os : List Vc} (nd : os.Nodup) : ∀ (row : List Vc) (X : List Vc), (∃ t, os = growA X row ++ t) → grow (rangeI X.length) (row.map fun g => (idxA os g : Int)) = rangeI (growA X row).length
  | [], X, _ => rfl
  | g :: row, X, ⟨t, ht⟩ => by
    show grow (addNew (rangeI X.length) (idxA os g : Int)) (row.map _) = rangeI (growA (addA X g) row).length
    have ht' : os = growA (addA X g) row ++ t := ht
    have e : addNew (rangeI X.length) (idxA os g : Int) = rangeI (addA X g).length := by
      obtain ⟨u, hu⟩ := growA_pre row (addA X g)
      by_cases hg : g ∈ X
      · have h1 : idxA os g = idxA X g := by
          rw [ht', hu, addA_old hg, List.append_assoc, idxA_pre hg]
        have h2 := idxA_lt hg
        rw [addA_old hg, addNew_old (rangeI_mem.mpr (by rw [h1]; omega))]
      · have h1 : idxA os g = X.length := by
          rw [ht', hu, addA_new hg, List.append_assoc, List.append_assoc]
          exact idxA_new hg
        rw [addA_new hg, h1, addNew_new (fun z => by have := rangeI_mem.mp z; omega), List.length_append, List.length_singleton, rangeI_succ]
    rw [e]
    exact grow_range nd row (addA X g) ⟨t, ht'⟩
theorem turnM_row {m : Mc} {os : List Vc} {i : Nat} (h : i < os.length) : (turnM m os).1.getD i [] = (nxs m (os.getD i [])).map fun g => (idxA os g : Int) := by
  unfold turnM
  exact getD_map' _ [] [] h
theorem turned_of {m : Mc} {L : Int} (k : Okm m L) {a : Nat} {os : List Vc} (h : Tu m a os) (ha : ¬ a < os.length) : Turned m L os := by
  have hl := lets_is k
  have hL : ((m.1.getD 0 []).length : Int) = L := hl
  have cl : ∀ f, f ∈ os → ∀ g, g ∈ nxs m f → g ∈ os := fun f hf g hg => by
    obtain ⟨j, hj, e⟩ := List.mem_iff_getElem.mp hf
    refine h.r.cl j (by omega) g ?_
    rw [List.getD_eq_getElem?_getD, List.getElem?_eq_getElem hj]
    show g ∈ nxs m os[j]
    rw [e]; exact hg
  have len : (turnM m os).1.length = os.length := by unfold turnM; rw [List.length_map]
  have ok : Okm (turnM m os) L := by
    refine ⟨by rw [len]; exact h.r.ne, by rw [len]; unfold turnM; rw [List.length_map], fun r hr => ?_, fun r hr x hx => ?_⟩
    · unfold turnM at hr
      obtain ⟨f, hf, rfl⟩ := List.mem_map.mp hr
      rw [List.length_map, nxs_len]; exact hL
    · rw [len]
      unfold turnM at hr
      obtain ⟨f, hf, rfl⟩ := List.mem_map.mp hr
      obtain ⟨g, hg, rfl⟩ := List.mem_map.mp hx
      have := idxA_lt (cl f hf g hg)
      omega
  have at_ : ∀ f, f ∈ os → os.getD (idxA os f) [] = f := fun f hf => idxA_at [] hf
  have st : ∀ f, f ∈ os → ∀ l, 0 ≤ l → l < L → step (turnM m os) (idxA os f : Int) l = (idxA os (nxV m f l.toNat) : Int) ∧ nxV m f l.toNat ∈ os := fun f hf l h0 h1 => by
    have hlt : idxA os f < os.length := idxA_lt hf
    have hn := nxs_at (m := m) (f := f) (i := l.toNat) (by omega)
    refine ⟨?_, cl f hf _ (List.mem_of_getElem? hn)⟩
    unfold step
    rw [Int.toNat_natCast, turnM_row hlt, at_ f hf, getD_map' _ [] 0 (by rw [nxs_len]; omega)]
    congr 2
    rw [List.getD_eq_getElem?_getD, hn]; rfl
  have room : ∀ (w : List Int) (f : Vc), f ∈ os → okW L w → My.beh (turnM m os) (idxA os f : Int) w = (vrun m f w).getD 0 0 := by
    intro w
    induction w with
    | nil =>
      intro f hf _
      have hlt : idxA os f < os.length := idxA_lt hf
      show (turnM m os).2.getD ((idxA os f : Int)).toNat 0 = f.getD 0 0
      rw [Int.toNat_natCast]
      unfold turnM
      show (os.map fun f => f.getD 0 0).getD (idxA os f) 0 = _
      rw [getD_map' _ [] 0 hlt, at_ f hf]
    | cons l w ih =>
      intro f hf hw
      obtain ⟨a1, b1⟩ := okW_cons.mp hw
      obtain ⟨s1, s2⟩ := st f hf l a1.1 a1.2
      rw [beh_cons, s1, ih _ s2 b1]
      rfl
  have hd0 : idxA os m.2 = 0 := by
    have h1 := idxA_nd h.r.nd (j := 0) [] h.r.ne
    rw [h.r.hd] at h1
    exact h1
  have hm2 : m.2 ∈ os := by
    have := getD_mem' (z := ([] : Vc)) h.r.ne
    rw [h.r.hd] at this
    exact this
  refine ⟨ok, h.few, len, fun w hw => ?_, ?_, fun f hf w hw => room w f hf hw, h.r.nd, h.r.al⟩
  · have := room w m.2 hm2 hw
    rw [hd0] at this
    rw [← vrun_beh k hw]
    exact this
  · -- as reached
    have oa : ∀ n, a ≤ n → ordA (nxs m) [] m.2 n = os := h.r.done (by omega)
    have pre : ∀ n, ∃ t, os = ordA (nxs m) [] m.2 n ++ t := fun n => by
      have key : ∀ d, ∃ t, ordA (nxs m) [] m.2 (n + d) = ordA (nxs m) [] m.2 n ++ t := by
        intro d
        induction d with
        | zero => exact ⟨[], (List.append_nil _).symm⟩
        | succ d ih =>
          obtain ⟨t, ht⟩ := ih
          rw [show n + (d + 1) = (n + d) + 1 by omega, ordA_succ]
          unfold stepA
          split
          · obtain ⟨u, hu⟩ := growA_pre (nxs m ((ordA (nxs m) [] m.2 (n + d)).getD (n + d) [])) (ordA (nxs m) [] m.2 (n + d))
            exact ⟨t ++ u, by rw [hu, ht, List.append_assoc]⟩
          · exact ⟨t, ht⟩
      obtain ⟨t, ht⟩ := key a
      rw [oa (n + a) (by omega)] at ht
      exact ⟨t, ht⟩
    have bf : ∀ n, n ≤ os.length → Bf (turnM m os) (n : Int) (rangeI (ordA (nxs m) [] m.2 n).length) ∧ n ≤ (ordA (nxs m) [] m.2 n).length := by
      intro n
      induction n with
      | zero =>
        intro _
        rw [ordA_zero]
        exact ⟨Bf.zero ok, Nat.zero_le _⟩
      | succ n ih =>
        intro hn
        obtain ⟨b1, b2⟩ := ih (by omega)
        have hlt : n < (ordA (nxs m) [] m.2 n).length := by
          by_cases hz : n < (ordA (nxs m) [] m.2 n).length
          · exact hz
          · -- then it is closed already
            have e1 : ordA (nxs m) [] m.2 (n + 1) = ordA (nxs m) [] m.2 n := by
              rw [ordA_succ]; unfold stepA; rw [if_neg hz]
            have e2 : ∀ d, ordA (nxs m) [] m.2 (n + d) = ordA (nxs m) [] m.2 n := by
              intro d
              induction d with
              | zero => rfl
              | succ d ih2 =>
                rw [show n + (d + 1) = (n + d) + 1 by omega, ordA_succ]
                unfold stepA
                rw [ih2, if_neg (by omega)]
            have := e2 a
            rw [oa (n + a) (by omega)] at this
            rw [← this] at hz
            omega
        have b3 := b1.next ok (by rw [rangeI_len]; omega)
        obtain ⟨t, ht⟩ := pre (n + 1)
        have e3 : ordA (nxs m) [] m.2 (n + 1) = growA (ordA (nxs m) [] m.2 n) (nxs m ((ordA (nxs m) [] m.2 n).getD n [])) := by
          rw [ordA_succ]; unfold stepA; rw [if_pos hlt]
        obtain ⟨t0, ht0⟩ := pre n
        have e4 : os.getD n [] = (ordA (nxs m) [] m.2 n).getD n [] := by rw [ht0]; exact getD_preA hlt
        have e5 : nxt (turnM m os).1 ((rangeI (ordA (nxs m) [] m.2 n).length).getD ((n : Int)).toNat 0) = (nxs m ((ordA (nxs m) [] m.2 n).getD n [])).map fun g => (idxA os g : Int) := by
          rw [Int.toNat_natCast, rangeI_at hlt]
          unfold nxt
          rw [Int.toNat_natCast, turnM_row (by omega), e4]
        rw [e5, grow_range h.r.nd _ _ ⟨t, by rw [← e3]; exact ht⟩, ← e3] at b3
        refine ⟨by rw [show ((n + 1 : Nat) : Int) = (n : Int) + 1 by omega]; exact b3, ?_⟩
        have hl1 : (ordA (nxs m) [] m.2 n).length ≤ (ordA (nxs m) [] m.2 (n + 1)).length := by
          obtain ⟨u, hu⟩ := growA_pre (nxs m ((ordA (nxs m) [] m.2 n).getD n [])) (ordA (nxs m) [] m.2 n)
          rw [e3, hu, List.length_append]; omega
        omega
    have hle := h.r.le
    have eN : ordA (nxs m) [] m.2 os.length = os := oa _ hle
    have b := (bf os.length (Nat.le_refl _)).1
    rw [eN] at b
    obtain ⟨o1, o2, o3⟩ := b.done (by rw [rangeI_len]; omega)
    unfold reached
    rw [← o1]
    have r1 : ((rangeI os.length).map fun old => (nxt (turnM m os).1 old).map fun r => ((rangeI os.length).idxOf r : Int)) = (turnM m os).1 := by
      refine List.ext_getElem? fun i => ?_
      rw [List.getElem?_map]
      by_cases hi : i < os.length
      · have g1 : (rangeI os.length)[i]? = some (i : Int) := by rw [getD_some 0 (by rw [rangeI_len]; exact hi), rangeI_at hi]
        rw [g1, getD_some [] (by rw [len]; exact hi)]
        show some ((nxt (turnM m os).1 (i : Int)).map _) = _
        unfold nxt
        rw [Int.toNat_natCast]
        congr 1
        have hmem : (turnM m os).1.getD i [] ∈ (turnM m os).1 := getD_mem' (by rw [len]; exact hi)
        have : ∀ r, r ∈ (turnM m os).1.getD i [] → (((rangeI os.length).idxOf r : Nat) : Int) = r := fun r hr => by
          have hx := ok.nx _ hmem r hr
          rw [len] at hx
          rw [idx_rangeI hx]; omega
        exact (List.map_congr_left this).trans (List.map_id _)
      · rw [List.getElem?_eq_none (by rw [rangeI_len]; omega), List.getElem?_eq_none (by rw [len]; omega)]; rfl
    have r2 : ((rangeI os.length).map fun old => (turnM m os).2.getD old.toNat 0) = (turnM m os).2 := by
      have l2 : (turnM m os).2.length = os.length := by unfold turnM; rw [List.length_map]
      unfold rangeI
      rw [List.map_map]
      exact list_of_getD' l2
    exact Prod.ext r1 r2
theorem turned_all {m : Mc} {L : Int} (k : Okm m L) {os : List Vc} (h : turnL m = some os) : Turned m L os := by
  have key : ∀ (n a : Nat) (o : List Vc), 102 - a = n → Tu m a o → Turned m L os := by
    intro n
    induction n with
    | zero =>
      intro a o hn t
      have := t.r.le
      have := t.few
      omega
    | succ n ih =>
      intro a o hn t
      by_cases ha : a < o.length
      · by_cases hf : (growA o (nxs m (o.getD a []))).length ≤ 100
        · exact ih (a + 1) _ (by omega) (t.next ha hf)
        · rw [t.over ha hf] at h; cases h
      · rw [t.done ha] at h
        cases h
        exact turned_of k t ha
  exact key 102 0 _ rfl (Tu.zero k)
end My

set_option Elab.async false
set_option linter.all false
set_option maxRecDepth 100000
set_option maxHeartbeats 4000000
namespace My
open Fw
/-! ### draws -/
/-! ### figures -/
def figsF (b : Int) : Nat → Int → List Int
  | 0, _ => []
  | f + 1, p => if p ≤ 0 then [] else figsF b f (p / b) ++ [p % b]
def figs (b p : Int) : List Int := figsF b p.toNat p
theorem figsF_fuel {b : Int} (hb : 2 ≤ b) : ∀ (f g : Nat) (p : Int), p.toNat ≤ f → p.toNat ≤ g → figsF b f p = figsF b g p
  | 0, 0, _, _, _ => rfl
  | 0, g + 1, p, h, _ => by
    unfold figsF
    rw [if_pos (by omega)]
  | f + 1, 0, p, _, h => by
    unfold figsF
    rw [if_pos (by omega)]
  | f + 1, g + 1, p, h1, h2 => by
    unfold figsF
    by_cases hp : p ≤ 0
    · rw [if_pos hp, if_pos hp]
    · rw [if_neg hp, if_neg hp]
      have hd : p / b < p := Int.ediv_lt_self_of_pos_of_ne_one (by omega) (by omega)
      have h0 : 0 ≤ p / b := Int.ediv_nonneg (by omega) (by omega)
      rw [figsF_fuel hb f g (p / b) (by omega) (by omega)]
theorem figs_zero (b : Int) {p : Int} (h : p ≤ 0) : figs b p = [] := by
  unfold figs
  rw [show p.toNat = 0 by omega]; rfl
theorem div_lt {b p : Int} (hb : 2 ≤ b) (h : 0 < p) : p / b < p := Int.ediv_lt_self_of_pos_of_ne_one (by omega) (by omega)
theorem div_nn {b p : Int} (hb : 2 ≤ b) (h : 0 ≤ p) : 0 ≤ p / b := Int.ediv_nonneg h (by omega)
theorem figs_step {b p : Int} (hb : 2 ≤ b) (h : 0 < p) : figs b p = figs b (p / b) ++ [p % b] := by
  have hd := div_lt hb h
  have h0 := div_nn hb (Int.le_of_lt h)
  unfold figs
  obtain ⟨f, hf⟩ : ∃ f, p.toNat = f + 1 := ⟨p.toNat - 1, by omega⟩
  rw [hf]
  show (if p ≤ 0 then [] else figsF b f (p / b) ++ [p % b]) = _
  rw [if_neg (by omega), figsF_fuel hb f (p / b).toNat (p / b) (by omega) (Nat.le_refl _)]
theorem figs_mem {b : Int} (hb : 2 ≤ b) : ∀ (n : Nat) (p : Int), p.toNat = n → ∀ x, x ∈ figs b p → 0 ≤ x ∧ x < b := by
  intro n
  induction n using Nat.strongRecOn with
  | _ n ih =>
    intro p hp x hx
    by_cases h : p ≤ 0
    · rw [figs_zero b h] at hx; cases hx
    · rw [figs_step hb (by omega)] at hx
      have hd := div_lt hb (show 0 < p by omega)
      have h0 := div_nn hb (show 0 ≤ p by omega)
      rcases List.mem_append.mp hx with hx | hx
      · exact ih _ (by omega) _ rfl x hx
      · rw [List.mem_singleton.mp hx]
        exact ⟨Int.emod_nonneg _ (by omega), Int.emod_lt_of_pos _ (by omega)⟩
theorem figs_bd {b p : Int} (hb : 2 ≤ b) : ∀ x, x ∈ figs b p → 0 ≤ x ∧ x < b := figs_mem hb _ p rfl
theorem figs_len {b : Int} (hb : 2 ≤ b) : ∀ (n : Nat) (p : Int), p < 2 ^ n → (figs b p).length ≤ n
  | 0, p, h => by rw [figs_zero b (by omega)]; exact Nat.le_refl _
  | n + 1, p, h => by
    by_cases hp : p ≤ 0
    · rw [figs_zero b hp]; exact Nat.zero_le _
    · rw [figs_step hb (by omega), List.length_append, List.length_singleton]
      refine Nat.succ_le_succ (figs_len hb n (p / b) ?_)
      have h2 : p / b ≤ p / 2 := by
        have := Int.ediv_mul_le p (show b ≠ 0 by omega)
        have h0 := div_nn hb (show 0 ≤ p by omega)
        have : p / b * 2 ≤ p := Int.le_trans (Int.mul_le_mul_of_nonneg_left hb h0) this
        omega
      have e : (2 : Int) ^ (n + 1) = 2 ^ n * 2 := Int.pow_succ ..
      omega
def Far (p : Int) : Prop := p < 2 ^ 2000
theorem figs_far {b p : Int} (hb : 2 ≤ b) (h : Far p) : (figs b p).length ≤ 2000 := figs_len hb 2000 p h
theorem far_of {p : Int} (h : p ≤ 10 ^ 70) : Far p := by
  unfold Far
  exact Int.lt_of_le_of_lt h (by decide +kernel)
def numOf (b : Int) (fs : List Int) : Int := fs.foldl (fun p f => p * b + f) 0
theorem numOf_app (b : Int) (fs : List Int) (f : Int) : numOf b (fs ++ [f]) = numOf b fs * b + f := by
  unfold numOf
  rw [List.foldl_append]; rfl
theorem numOf_figs {b : Int} (hb : 2 ≤ b) : ∀ (n : Nat) (p : Int), p.toNat = n → 0 ≤ p → numOf b (figs b p) = p := by
  intro n
  induction n using Nat.strongRecOn with
  | _ n ih =>
    intro p hp h0
    by_cases h : p = 0
    · subst h; rw [figs_zero b (by omega)]; rfl
    · have hd := div_lt hb (show 0 < p by omega)
      have h1 := div_nn hb h0
      rw [figs_step hb (by omega), numOf_app, ih _ (by omega) _ rfl h1, Int.mul_comm]
      exact Int.mul_ediv_add_emod p b
theorem numOf_zeros (b : Int) (n : Nat) (fs : List Int) : numOf b (List.replicate n 0 ++ fs) = numOf b fs := by
  unfold numOf
  rw [List.foldl_append]
  congr 1
  induction n with
  | zero => rfl
  | succ n ih => rw [List.replicate_succ, List.foldl_cons]; simpa using ih
theorem numOf_zfigs {b p : Int} (hb : 2 ≤ b) (h : 0 ≤ p) (n : Nat) : numOf b (List.replicate n 0 ++ figs b p) = p := by rw [numOf_zeros, numOf_figs hb _ p rfl h]
end My

set_option Elab.async false
set_option linter.all false
set_option maxRecDepth 100000
set_option maxHeartbeats 4000000
/-! several except clauses; a call that raises within a test; extend -/
namespace Fw
open PySem L2
section
variable {K : PySem.W.Frag} {B0 : Hp} {ρ : List Sd} {te ta tb : TE} {d : Da} {P : Po} {C : Addr} {c : Value} {Wout : WX} {ts : Addr → Value → Option Addr → TS} {l : List (Value × (Addr → Value → Option Addr → TS))}
theorem j_ifX {a b : TS} (h : EvX K B0 te ρ) : J K B0 (tIfS (tTest te) a b) ρ P := fun φ τ D σ H l n r bk ct s => h φ τ σ H _ l s
theorem c_here (he : PySem.W.exmOne K (.ref C) c = some true) (h : ∀ a, J K B0 (ts a (.ref C) none) ρ P) : J K B0 (fun D σ H => wMany K Wout D ((c, ts) :: l) (.ref C) none σ H) ρ P :=
  fun φ τ D σ H l n r bk ct s => ⟨true, he, fun _ a _ => h a φ τ D σ H l n r bk ct s, fun z => Bool.noConfusion z⟩
theorem c_next (he : PySem.W.exmOne K (.ref C) c = some false) (h : J K B0 (fun D σ H => wMany K Wout D l (.ref C) none σ H) ρ P) : J K B0 (fun D σ H => wMany K Wout D ((c, ts) :: l) (.ref C) none σ H) ρ P :=
  fun φ τ D σ H l n r bk ct s => ⟨false, he, (fun z => Bool.noConfusion z), fun _ => h φ τ D σ H l n r bk ct s⟩
theorem j_try_many {tb : WX → TS} (hb : Thrown K B0 tb ρ C) (h : J K B0 (fun D σ H => wMany K Wout D l (.ref C) none σ H) ρ P) : J K B0 (fun D σ H => tb (wMany K Wout D l) D σ H) ρ P :=
  fun φ τ D σ H l n r bk ct s => hb _ φ τ σ D H l s fun H' s' => h φ τ D σ H' l n r bk ct s'
theorem j_many_thru {tb : WX → TS} (h : ∀ W, J K B0 (tb W) ρ P) : J K B0 (fun D σ H => tb (wMany K Wout D l) D σ H) ρ P := fun φ τ D σ H l n r bk ct s => h _ φ τ D σ H l n r bk ct s
/-- xs.extend(ys), ys of plain things -/
theorem j_extend {k : Nat} {ds es : List Da} (h : EvF K te ρ (.lst es)) (im : Da.imms es = true) (hk : ρ[k]? = some (some (true, .lst ds))) (hl : ds.length < 50000) (hl2 : es.length < 50000) (q : P.nx (ρ.set k (ow (.lst (ds ++ es))))) :
    J K B0 (tDrop (tBM K "list" rExtend (tVar k) (tCons te tNil))) ρ P := fun φ τ D σ H l nx r bk ct s => by
  have s0 := Sta.push (d := .non) (v := .non) (F := []) s (Ex.refl H) .non (fun _ z => nomatch z) List.nodup_nil
  obtain ⟨p, xs, G, F1, B, hv, hp, _⟩ := s0.rewL (i := φ.length + k) (ds := ds) (by rw [get_app rfl]; exact hk)
  rw [get_app l.symm] at hv
  refine ⟨.ref p, hv, .inl ⟨rfl, xs, .of hp⟩, ?_⟩
  refine h σ H _ (Rs.f l s) fun v H2 Fv e2 ov _ _ => ?_
  obtain ⟨a, vs, G0, rfl, _, h1, h2⟩ := ov.lst_inv
  have s2 := Sta.push (d := .non) (v := .non) (F := []) (s.ex e2) (Ex.refl H2) .non (fun _ z => nomatch z) List.nodup_nil
  obtain ⟨p', xs', G', F1', B1, hv', hp', ws, ha, eB, nd1, pG, pF, k1⟩ := s2.rewL (i := φ.length + k) (ds := ds) (by rw [get_app rfl]; exact hk)
  rw [get_app l.symm, hv] at hv'
  cases hv'
  have q2 := k1 (xs' ++ vs) (ds ++ es) (G' ++ []) (ws.append (h2.sh.own im)) (fun a m => by
    rw [List.append_nil] at m; exact .inl m) (by rw [List.append_nil]; exact (List.nodup_append.mp nd1).2.1)
  rw [set_app rfl] at q2
  have l1 := ws.length
  have l2 := h2.length
  exact ⟨p, a, xs', vs, rfl, rfl, hp', h1, by
    rw [l1, l2]
    exact Nat.le_trans (Nat.le_of_lt (Nat.add_lt_add hl hl2)) (by decide), nx _ _ _ q q2⟩
end
end Fw
namespace Fw
open PySem L2
section
variable {K : PySem.W.Frag} {B0 : Hp} {ρ : List Sd} {P : Po} {Wout : WX} {l : List (Value × (Addr → Value → Option Addr → TS))} {S : Sp} {t : TA} {g : TG} {c : Value} {i : Nat} {ts : Addr → Value → Option Addr → TS}
theorem j_many_asg (h : ∀ W, J K B0 (tAsg (tCallS S (WE W) t) g) ρ P) : J K B0 (fun D σ H => tAsg (tCallS S (WE (wMany K Wout D l)) t) g D σ H) ρ P := fun φ τ D σ H l n r bk ct s => h _ φ τ D σ H l n r bk ct s
theorem j_many_drop (h : ∀ W, J K B0 (tDrop (tCallS S (WE W) t)) ρ P) : J K B0 (fun D σ H => tDrop (tCallS S (WE (wMany K Wout D l)) t) D σ H) ρ P := fun φ τ D σ H l n r bk ct s => h _ φ τ D σ H l n r bk ct s
theorem j_try_asgT (h : ∀ W, J K B0 (tAsg (tCallS S (WE W) t) g) ρ P) : J K B0 (fun D σ H => tAsg (tCallS S (WE (wAs K c i ts Wout D)) t) g D σ H) ρ P := fun φ τ D σ H l n r bk ct s => h _ φ τ D σ H l n r bk ct s
theorem j_try_dropT (h : ∀ W, J K B0 (tDrop (tCallS S (WE W) t)) ρ P) : J K B0 (fun D σ H => tDrop (tCallS S (WE (wAs K c i ts Wout D)) t) D σ H) ρ P := fun φ τ D σ H l n r bk ct s => h _ φ τ D σ H l n r bk ct s
end
end Fw

set_option Elab.async false
set_option linter.all false
set_option maxRecDepth 100000
set_option maxHeartbeats 4000000
namespace My
open PySem Fw
/-! ### the law's own least form -/
theorem marks_al {m : Mc} {L : Int} (k : Okm m L) : ∀ i j, inR m i → inR m j → ((marksL m).getD i.toNat 0 = (marksL m).getD j.toNat 0 ↔ alA m L i j) := by
  have key : ∀ (f n many : Nat) (lots : List Int), m.1.length + 1 - n = f → Ma m L n many lots → ∀ i j, inR m i → inR m j → ((marksL m).getD i.toNat 0 = (marksL m).getD j.toNat 0 ↔ alA m L i j) := by
    intro f
    induction f with
    | zero =>
      intro n many lots hf h
      have := h.bound
      have := h.le
      have := h.few
      have hn : ¬ many < (distinct lots).length := by omega
      rw [← h.end_ hn]
      exact h.done k hn
    | succ f ih =>
      intro n many lots hf h
      by_cases hn : many < (distinct lots).length
      · exact ih (n + 1) _ _ (by omega) (h.next k hn)
      · rw [← h.end_ hn]
        exact h.done k hn
  exact key _ 0 0 _ rfl (Ma.start k)
theorem marks_mk {m : Mc} {L : Int} (k : Okm m L) : ∃ ks : List (Int × List Int), ks.length = m.1.length ∧ marksL m = markA ks := by
  have key : ∀ (f many : Nat) (lots : List Int), (∃ ks : List (Int × List Int), ks.length = m.1.length ∧ lots = markA ks) → ∃ ks : List (Int × List Int), ks.length = m.1.length ∧ marksF m f many lots = markA ks := by
    intro f
    induction f with
    | zero => intro many lots h; exact h
    | succ f ih =>
      intro many lots h
      show ∃ ks : List (Int × List Int), _ ∧ (if many < (distinct lots).length then marksF m f (distinct lots).length (markA (keysL m lots)) else lots) = markA ks
      split
      · exact ih _ _ ⟨_, keysL_len _ _, rfl⟩
      · exact h
  unfold marksL
  show ∃ ks : List (Int × List Int), _ ∧ (if 0 < (distinct m.2).length then marksF m (m.1.length + 1) (distinct m.2).length (markA (keysL m m.2)) else m.2) = markA ks
  have hs := k.sg
  have hp := k.pos
  have : m.2.getD 0 0 ∈ distinct m.2 := grow0_mem.mpr (getD_mem' (by omega))
  rw [if_pos (List.length_pos_of_mem this)]
  exact key _ _ _ ⟨_, keysL_len _ _, rfl⟩
def markM (m : Mc) : Mc := (m.1.map fun row => row.map fun r => (marksL m).getD (r : Int).toNat 0, m.2)
def lawLeast (m : Mc) : Mc := reached (markM (reached m))
structure Mk (m : Mc) (L : Int) : Prop where
  ok : Okm (markM m) L
  inr : ∀ r, inR m r → inR m ((marksL m).getD r.toNat 0)
  idem : ∀ r, inR m r → (marksL m).getD ((marksL m).getD r.toNat 0).toNat 0 = (marksL m).getD r.toNat 0
  zero : (marksL m).getD 0 0 = 0
  st : ∀ r l, inR m r → 0 ≤ l → l < L → step (markM m) r l = (marksL m).getD (step m r l).toNat 0
  beh : ∀ w r, okW L w → inR m r → My.beh (markM m) r w = My.beh m r w
theorem mark_ok {m : Mc} {L : Int} (k : Okm m L) : Mk m L := by
  obtain ⟨ks, hkl, hks⟩ := marks_mk k
  have hp := k.pos
  have val : ∀ i : Nat, i < m.1.length → (marksL m).getD i 0 = (idxA ks (ks.getD i (0, [])) : Nat) := fun i hi => by
    rw [hks]
    unfold markA
    exact getD_map' _ (0, []) 0 (by omega)
  have inr : ∀ r, inR m r → inR m ((marksL m).getD r.toNat 0) := fun r hr => by
    have h1 := hr.1
    have h2 := hr.2
    rw [val _ (by omega)]
    have := idxA_lt (getD_mem' (z := (0, [])) (show r.toNat < ks.length by omega))
    exact ⟨by omega, by omega⟩
  have idem : ∀ r, inR m r → (marksL m).getD ((marksL m).getD r.toNat 0).toNat 0 = (marksL m).getD r.toNat 0 := fun r hr => by
    have h1 := hr.1
    have h2 := hr.2
    have hm := getD_mem' (z := (0, [])) (show r.toNat < ks.length by omega)
    have := idxA_lt hm
    rw [val r.toNat (by omega), Int.toNat_natCast, val _ (by omega), idxA_at (0, []) hm]
  have zero : (marksL m).getD 0 0 = 0 := by
    rw [val 0 hp]
    cases ks with
    | nil => simp at hkl; omega
    | cons x ks =>
      have := idxA_new (X := []) (t := ks) (g := x) (fun h => nomatch h)
      show ((idxA ([] ++ x :: ks) x : Nat) : Int) = 0
      rw [this]; rfl
  have st : ∀ r l, inR m r → 0 ≤ l → l < L → step (markM m) r l = (marksL m).getD (step m r l).toNat 0 := fun r l hr h0 h1 => by
    have a := hr.1
    have b := hr.2
    have rl := k.row hr.1 hr.2
    unfold step markM
    show ((m.1.map fun row => row.map fun r => (marksL m).getD (r : Int).toNat 0).getD r.toNat []).getD l.toNat 0 = _
    rw [getD_map' _ [] [] (by omega), getD_map' _ 0 0 (by omega)]
  have ok : Okm (markM m) L := by
    unfold markM
    refine ⟨by rw [List.length_map]; exact hp, by rw [List.length_map]; exact k.sg, fun r hr => ?_, fun r hr x hx => ?_⟩
    · obtain ⟨q, hq, rfl⟩ := List.mem_map.mp hr
      rw [List.length_map]; exact k.len q hq
    · obtain ⟨q, hq, rfl⟩ := List.mem_map.mp hr
      obtain ⟨y, hy, rfl⟩ := List.mem_map.mp hx
      rw [List.length_map]
      exact inr y (k.nx q hq y hy)
  refine ⟨ok, inr, idem, zero, st, ?_⟩
  intro w
  induction w with
  | nil => intro r _ _; rfl
  | cons l w ih =>
    intro r hw hr
    obtain ⟨a, b⟩ := okW_cons.mp hw
    have hs := inR_step k hr a
    rw [beh_cons, beh_cons, st r l hr a.1 a.2, ih _ b (inr _ hs)]
    exact (marks_al k _ _ (inr _ hs) hs).mp (idem _ hs) w b
theorem lawLeast_is {m : Mc} {L : Int} (k : Okm m L) : lawLeast m = leastL m := by
  have kr := (reached_ok k).1
  have mk := mark_ok kr
  have ls := least_ok k
  have hP : ∀ o, o ∈ ord (markM (reached m)) → inR (reached m) o ∧ (marksL (reached m)).getD o.toNat 0 = o := ord_ind mk.ok ⟨inR_zero kr, mk.zero⟩ fun o ⟨p1, p2⟩ ho x hx => by
    have hro : inR (markM (reached m)) o := by
      refine ⟨p1.1, ?_⟩
      unfold markM
      rw [List.length_map]; exact p1.2
    obtain ⟨l, h0, h1, rfl⟩ := of_nxt mk.ok hro hx
    rw [mk.st o l p1 h0 h1]
    have hs := inR_step kr p1 ⟨h0, h1⟩
    exact ⟨mk.inr _ hs, mk.idem _ hs⟩
  have red : Red (reached (markM (reached m))) L := fun i j hi hj a => by
    obtain ⟨ok, cl⟩ := ord_all mk.ok
    have l1 : (reached (markM (reached m))).1.length = (ord (markM (reached m))).length := by unfold reached; rw [List.length_map]
    have at_ : ∀ i, inR (reached (markM (reached m))) i → ∃ o, o ∈ ord (markM (reached m)) ∧ ((ord (markM (reached m))).idxOf o : Int) = i := fun i hi => by
      have h1 := hi.1
      have h2 := hi.2
      rw [l1] at h2
      refine ⟨(ord (markM (reached m))).getD i.toNat 0, getD_mem' (by omega), ?_⟩
      rw [idx_at ok.nd (by omega)]; omega
    obtain ⟨o, ho, rfl⟩ := at_ i hi
    obtain ⟨p, hp, rfl⟩ := at_ j hj
    have po := hP o ho
    have pp := hP p hp
    have : alA (reached m) L o p := fun w hw => by
      rw [← mk.beh w o hw po.1, ← mk.beh w p hw pp.1, ← reached_beh mk.ok ho hw, ← reached_beh mk.ok hp hw]
      exact a w hw
    have := (marks_al kr o p po.1 pp.1).mpr this
    rw [po.2, pp.2] at this
    rw [this]
  have kq := (reached_ok mk.ok).1
  have := canon ls.ok kq ls.red red fun w hw => by
    rw [ls.beh w hw, reached_beh0 mk.ok hw, mk.beh w 0 hw (inR_zero kr), reached_beh0 k hw]
  rw [reached_idem mk.ok, ls.re] at this
  exact this
/-! ### turned and turned again -/
theorem turned_red {m : Mc} {L : Int} (k : Okm m L) (all : ∀ r, inR m r → ∃ w, okW L w ∧ w.foldl (step m) 0 = r) {os : List Vc} (t : Turned m L os) : Red (turnM m os) L := fun i j hi hj a => by
  have h1 := hi.1
  have h2 := hi.2
  have h3 := hj.1
  have h4 := hj.2
  rw [t.len] at h2 h4
  have mi : os.getD i.toNat [] ∈ os := getD_mem' (by omega)
  have mj : os.getD j.toNat [] ∈ os := getD_mem' (by omega)
  have ei : ((idxA os (os.getD i.toNat []) : Nat) : Int) = i := by rw [idxA_nd t.nd [] (by omega)]; omega
  have ej : ((idxA os (os.getD j.toNat []) : Nat) : Int) = j := by rw [idxA_nd t.nd [] (by omega)]; omega
  have li := (t.pr _ mi).1
  have lj := (t.pr _ mj).1
  have same : os.getD i.toNat [] = os.getD j.toNat [] := by
    refine List.ext_getElem? fun q => ?_
    by_cases hq : q < m.1.length
    · rw [getD_some 0 (by rw [li]; exact hq), getD_some 0 (by rw [lj]; exact hq)]
      congr 1
      obtain ⟨w, hw, e⟩ := all (q : Int) ⟨by omega, by omega⟩
      have hwr : okW L w.reverse := fun x hx => hw x (List.mem_reverse.mp hx)
      have b1 := t.room _ mi w.reverse hwr
      have b2 := t.room _ mj w.reverse hwr
      rw [ei] at b1
      rw [ej] at b2
      have v1 := vrun_at k w.reverse (os.getD i.toNat []) 0 hwr (inR_zero k)
      have v2 := vrun_at k w.reverse (os.getD j.toNat []) 0 hwr (inR_zero k)
      rw [List.reverse_reverse, e, Int.toNat_natCast] at v1 v2
      have := a w.reverse hwr
      rw [b1, b2] at this
      rw [← v1, ← v2]
      exact this
    · rw [List.getElem?_eq_none (by omega), List.getElem?_eq_none (by omega)]
  rw [← ei, ← ej, same]
/-- each room of a machine as reached is come to -/
theorem reach_all {m : Mc} {L : Int} (k : Okm m L) (h : reached m = m) : ∀ r, inR m r → ∃ w, okW L w ∧ w.foldl (step m) 0 = r := fun r hr => by
  have hP : ∀ o, o ∈ ord m → ∃ w, okW L w ∧ w.foldl (step m) 0 = o := ord_ind k ⟨[], okW_nil, rfl⟩ fun o ⟨w, hw, e⟩ ho x hx => by
    obtain ⟨l, h0, h1, rfl⟩ := of_nxt k ((ord_all k).1.rg o ho) hx
    refine ⟨w ++ [l], fun y hy => ?_, by rw [List.foldl_append, e]; rfl⟩
    rcases List.mem_append.mp hy with hy | hy
    · exact hw y hy
    · rw [List.mem_singleton.mp hy]; exact ⟨h0, h1⟩
  have e := ord_num k
  rw [h] at e
  have ok := (ord_all k).1
  have l1 : m.1.length = (ord m).length := by
    have : (reached m).1.length = (ord m).length := by unfold reached; rw [List.length_map]
    rw [h] at this; exact this
  refine hP r ?_
  have h1 := hr.1
  have h2 := hr.2
  have : (ord m).getD r.toNat 0 = r := by
    have h3 : (ord m).getD r.toNat 0 = ((ord m).map fun o => ((ord m).idxOf o : Int)).getD r.toNat 0 := congrArg (fun l : List Int => l.getD r.toNat 0) e
    rw [getD_map' _ 0 0 (by omega), idx_at ok.nd (by omega)] at h3
    rw [h3]; omega
  rw [← this]
  exact getD_mem' (by omega)
/-- the vectors of a machine that was itself turned are few -/
theorem turn_back_few {b : Mc} {L : Int} (k : Okm b L) {m : Mc} (km : Okm m L) (re : reached b = b) (hb : ∀ w, okW L w → beh b 0 w = beh m 0 w.reverse) :
    ∀ (f g : Vc), PrV b f → PrV b g → (∀ r, inR m r → True) → ∀ w v, okW L w → okW L v → f = vrun b b.2 w → g = vrun b b.2 v → w.foldl (step m) 0 = v.foldl (step m) 0 → f = g := fun f g pf pg _ w v hw hv ef eg e => by
  refine List.ext_getElem? fun q => ?_
  by_cases hq : q < b.1.length
  · rw [getD_some 0 (by rw [pf.1]; exact hq), getD_some 0 (by rw [pg.1]; exact hq)]
    congr 1
    obtain ⟨u, hu, eu⟩ := reach_all k re (q : Int) ⟨by omega, by omega⟩
    have rd : ∀ w, okW L w → (vrun b b.2 w).getD q 0 = beh m (w.foldl (step m) 0) u.reverse := fun w hw => by
      have hwr : okW L w.reverse := fun x hx => hw x (List.mem_reverse.mp hx)
      have h1 := vrun_at k w b.2 (q : Int) hw ⟨by omega, by omega⟩
      rw [Int.toNat_natCast] at h1
      rw [h1, ← eu, ← List.foldl_append]
      have h2 := hb (u ++ w.reverse) (fun x hx => (List.mem_append.mp hx).elim (hu x) (hwr x))
      have h3 : beh b 0 (u ++ w.reverse) = b.2.getD ((u ++ w.reverse).foldl (step b) 0).toNat 0 := rfl
      rw [← h3, h2, List.reverse_append, List.reverse_reverse]
      unfold beh
      rw [List.foldl_append]
    rw [ef, eg, rd w hw, rd v hv, e]
  · have := pf.1
    have := pg.1
    rw [List.getElem?_eq_none (by omega), List.getElem?_eq_none (by omega)]
theorem turnL_some {b : Mc} {L : Int} (k : Okm b L) {m : Mc} (km : Okm m L) (hm : m.1.length ≤ 100) (re : reached b = b) (hb : ∀ w, okW L w → beh b 0 w = beh m 0 w.reverse) : ∃ os, turnL b = some os := by
  classical
  have hL : ((b.1.getD 0 []).length : Int) = L := lets_is k
  have few : ∀ os : List Vc, os.Nodup → (∀ f, f ∈ os → PrV b f) → os.length ≤ m.1.length := fun os nd pr => by
    let ω : Vc → List Int := fun f => if h : PrV b f then Classical.choose h.2 else []
    have ω1 : ∀ f, PrV b f → okW L (ω f) ∧ f = vrun b b.2 (ω f) := fun f h => by
      have := Classical.choose_spec h.2
      show okW L (if h : PrV b f then _ else []) ∧ f = vrun b b.2 (if h : PrV b f then _ else [])
      rw [dif_pos h, ← hL]
      exact this
    have inj := few_of_nodup m.1.length (os.map fun f => (ω f).foldl (step m) 0) ?_ ?_
    · rwa [List.length_map] at inj
    · unfold List.Nodup
      rw [List.pairwise_map]
      refine List.Pairwise.imp_of_mem (fun {f g} hf hg ne e => ne ?_) nd
      have a := ω1 f (pr f hf)
      have c := ω1 g (pr g hg)
      exact turn_back_few k km re hb f g (pr f hf) (pr g hg) (fun _ _ => trivial) _ _ a.1 c.1 a.2 c.2 e
    · intro x hx
      obtain ⟨f, hf, rfl⟩ := List.mem_map.mp hx
      exact km.foldl _ 0 (ω1 f (pr f hf)).1 (inR_zero km)
  have key : ∀ (n a : Nat) (o : List Vc), 102 - a = n → Tu b a o → ∃ os, turnL b = some os := by
    intro n
    induction n with
    | zero =>
      intro a o hn t
      have := t.r.le
      have := t.few
      omega
    | succ n ih =>
      intro a o hn t
      by_cases ha : a < o.length
      · have nx := t.r.next prV_next ha
        have := few _ nx.nd nx.al
        exact ih (a + 1) _ (by omega) (t.next ha (by omega))
      · exact ⟨o, t.done ha⟩
  exact key 102 0 _ rfl (Tu.zero k)
/-- what the row's least form is turned to -/
theorem turn_twice {m : Mc} {L : Int} (k : Okm m L) (hm : m.1.length ≤ 100) {os : List Vc} (h : turnL (leastL m) = some os) :
    leastL (turnM (leastL m) os) = turnM (leastL m) os ∧ ∃ os2, turnL (turnM (leastL m) os) = some os2 ∧ turnM (turnM (leastL m) os) os2 = leastL m := by
  have ls := least_ok k
  have t := turned_all ls.ok h
  have red := turned_red ls.ok (reach_all ls.ok ls.re) t
  have e1 : leastL (turnM (leastL m) os) = turnM (leastL m) os := by rw [least_of_red t.ok red, t.re]
  obtain ⟨os2, h2⟩ := turnL_some t.ok ls.ok (by have := ls.le; omega) t.re t.beh
  have t2 := turned_all t.ok h2
  have red2 := turned_red t.ok (reach_all t.ok t.re) t2
  refine ⟨e1, os2, h2, ?_⟩
  have := canon t2.ok ls.ok red2 ls.red fun w hw => by
    have hwr : okW L w.reverse := fun x hx => hw x (List.mem_reverse.mp hx)
    rw [t2.beh w hw, t.beh w.reverse hwr, List.reverse_reverse]
  rw [ls.re, t2.re] at this
  exact this.symm
end My
namespace My
theorem base_bad {n : Int} (h : n < 2 ∨ 5 < n) : (decide (n < 2) || decide (5 < n)) = true := by rcases h with h | h <;> simp [h]
theorem base_good {n : Int} (h : 2 ≤ n) (h2 : n ≤ 5) : (decide (n < 2) || decide (5 < n)) = false := by rw [decide_eq_false (by omega), decide_eq_false (by omega)]; rfl
def placeBy (n : Int) : Int := n / 2 % ([40, 10 ^ (40 : Int).toNat] : List Int).getD (n % 2 : Int).toNat 0
theorem placeBy_bd (n : Int) : 0 ≤ placeBy n ∧ placeBy n < 10 ^ 40 := by
  unfold placeBy
  have h : n % 2 = 0 ∨ n % 2 = 1 := by omega
  rcases h with h | h <;> rw [h]
  · have a := Int.emod_nonneg (n / 2) (show (40 : Int) ≠ 0 by decide)
    have b := Int.emod_lt_of_pos (n / 2) (show (0 : Int) < 40 by decide)
    exact ⟨a, Int.lt_trans b (by decide)⟩
  · exact ⟨Int.emod_nonneg (n / 2) (by decide), Int.emod_lt_of_pos (n / 2) (by decide)⟩
end My
namespace My
theorem pick10 (i : Int) (h0 : 0 ≤ i) (h1 : i < 10) : 1 ≤ ([2, 3, 4, 5, 2, 3, 2, 5, 1, 6] : List Int).getD i.toNat 0 ∧ ([2, 3, 4, 5, 2, 3, 2, 5, 1, 6] : List Int).getD i.toNat 0 ≤ 6 := by
  have : i = 0 ∨ i = 1 ∨ i = 2 ∨ i = 3 ∨ i = 4 ∨ i = 5 ∨ i = 6 ∨ i = 7 ∨ i = 8 ∨ i = 9 := by omega
  rcases this with rfl | rfl | rfl | rfl | rfl | rfl | rfl | rfl | rfl | rfl <;> decide
end My

set_option Elab.async false
set_option linter.all false
set_option maxRecDepth 100000
set_option maxHeartbeats 4000000
namespace My
open PySem Fw
/-! ### lists of letters, shorter ones ahead -/
theorem snoc_ind {α : Type} {P : List α → Prop} (h0 : P []) (hs : ∀ w x, P w → P (w ++ [x])) : ∀ w, P w := fun w => by
  have key : ∀ v : List α, P v.reverse := by
    intro v
    induction v with
    | nil => exact h0
    | cons x v ih => rw [List.reverse_cons]; exact hs _ _ ih
  have := key w.reverse
  rwa [List.reverse_reverse] at this
def sl (L : Int) (w : List Int) : Int := w.foldl (fun a l => a * L + l + 1) 0
theorem sl_snoc (L : Int) (w : List Int) (l : Int) : sl L (w ++ [l]) = sl L w * L + l + 1 := by unfold sl; rw [List.foldl_append]; rfl
theorem okW_snoc {L l : Int} {w : List Int} : okW L (w ++ [l]) ↔ okW L w ∧ 0 ≤ l ∧ l < L := by
  constructor
  · intro h
    exact ⟨fun x hx => h x (List.mem_append_left _ hx), h l (by simp)⟩
  · rintro ⟨h, a⟩ x hx
    rcases List.mem_append.mp hx with hx | hx
    · exact h x hx
    · rw [List.mem_singleton.mp hx]; exact a
theorem mulL {L a b : Int} (hL : 0 ≤ L) (h : a < b) : a * L + L ≤ b * L := by
  have := Int.mul_le_mul_of_nonneg_right (show a + 1 ≤ b by omega) hL
  rw [Int.add_mul, Int.one_mul] at this
  exact this
theorem mulL' {L a b : Int} (hL : 0 ≤ L) (h : a ≤ b) : a * L ≤ b * L := Int.mul_le_mul_of_nonneg_right h hL
theorem mul1 {L a : Int} (hL : 1 ≤ L) (h : 0 ≤ a) : a ≤ a * L := by
  have := Int.mul_le_mul_of_nonneg_left hL h
  rwa [Int.mul_one] at this
theorem sl_nn {L : Int} (hL : 1 ≤ L) : ∀ w, okW L w → 0 ≤ sl L w := by
  refine snoc_ind (fun _ => Int.le_refl _) fun w l ih h => ?_
  obtain ⟨a, b, c⟩ := okW_snoc.mp h
  rw [sl_snoc]
  have := mul1 hL (ih a)
  have := ih a
  omega
theorem sl_len {L : Int} (hL : 1 ≤ L) : ∀ u, okW L u → ∀ v, okW L v → u.length < v.length → sl L u < sl L v := by
  refine snoc_ind (P := fun u => okW L u → ∀ v, okW L v → u.length < v.length → sl L u < sl L v) (fun _ => ?_) (fun u l ih hu => ?_)
  · refine snoc_ind (P := fun v => okW L v → ([] : List Int).length < v.length → sl L [] < sl L v) (fun _ h => by simp at h) fun v l _ hv _ => ?_
    obtain ⟨a, b, c⟩ := okW_snoc.mp hv
    rw [sl_snoc]
    have h0 := sl_nn hL v a
    have := mul1 hL h0
    show (0 : Int) < _
    omega
  · refine snoc_ind (P := fun v => okW L v → (u ++ [l]).length < v.length → sl L (u ++ [l]) < sl L v) (fun _ h => by simp at h) fun v k _ hv h => ?_
    obtain ⟨a, b, c⟩ := okW_snoc.mp hu
    obtain ⟨a', b', c'⟩ := okW_snoc.mp hv
    simp only [List.length_append, List.length_singleton] at h
    have := ih a v a' (by omega)
    rw [sl_snoc, sl_snoc]
    have := mulL (L := L) (by omega) this
    omega
theorem sl_inj {L : Int} (hL : 1 ≤ L) : ∀ u, okW L u → ∀ v, okW L v → sl L u = sl L v → u = v := by
  have len : ∀ u, okW L u → ∀ v, okW L v → sl L u = sl L v → u.length = v.length := fun u hu v hv e => by
    rcases Nat.lt_trichotomy u.length v.length with h | h | h
    · have := sl_len hL u hu v hv h; omega
    · exact h
    · have := sl_len hL v hv u hu h; omega
  refine snoc_ind (P := fun u => okW L u → ∀ v, okW L v → sl L u = sl L v → u = v) (fun hu v hv e => ?_) (fun u l ih hu => ?_)
  · have := len _ hu v hv e
    exact (List.length_eq_zero_iff.mp this.symm).symm
  · refine snoc_ind (P := fun v => okW L v → sl L (u ++ [l]) = sl L v → u ++ [l] = v) (fun hv e => ?_) fun v k _ hv e => ?_
    · have := len _ hu _ hv e
      exact List.length_eq_zero_iff.mp this
    · obtain ⟨a, b, c⟩ := okW_snoc.mp hu
      obtain ⟨a', b', c'⟩ := okW_snoc.mp hv
      rw [sl_snoc, sl_snoc] at e
      have e2 : sl L u = sl L v := by
        rcases Int.lt_trichotomy (sl L u) (sl L v) with h | h | h
        · have := mulL (L := L) (by omega) h; omega
        · exact h
        · have := mulL (L := L) (by omega) h; omega
      rw [e2] at e
      rw [ih a v a' e2, show l = k by omega]
section
variable {α : Type} [DecidableEq α]
def addG (os : List (α × List Int)) (q : α × List Int) : List (α × List Int) := if q.1 ∈ os.map (·.1) then os else os ++ [q]
def turnG (nx : α → Nat → α) (q : α × List Int) (os : List (α × List Int)) (n : Nat) : List (α × List Int) := (List.range n).foldl (fun o k => addG o (nx q.1 k, q.2 ++ [(k : Int)])) os
theorem turnG_succ (nx : α → Nat → α) (q : α × List Int) (os : List (α × List Int)) (n : Nat) : turnG nx q os (n + 1) = addG (turnG nx q os n) (nx q.1 n, q.2 ++ [(n : Int)]) := by
  unfold turnG
  rw [List.range_succ, List.foldl_append]; rfl
theorem addG_pre (os : List (α × List Int)) (q : α × List Int) : ∃ t, addG os q = os ++ t := by
  unfold addG
  split
  · exact ⟨[], (List.append_nil _).symm⟩
  · exact ⟨[q], rfl⟩
theorem turnG_pre (nx : α → Nat → α) (q : α × List Int) (os : List (α × List Int)) : ∀ n, ∃ t, turnG nx q os n = os ++ t
  | 0 => ⟨[], (List.append_nil _).symm⟩
  | n + 1 => by
    obtain ⟨t, ht⟩ := turnG_pre nx q os n
    obtain ⟨u, hu⟩ := addG_pre (turnG nx q os n) (nx q.1 n, q.2 ++ [(n : Int)])
    exact ⟨t ++ u, by rw [turnG_succ, hu, ht, List.append_assoc]⟩
def runG (nx : α → Nat → α) (z : α) (w : List Int) : α := w.foldl (fun s l => nx s (l : Int).toNat) z
theorem runG_snoc (nx : α → Nat → α) (z : α) (w : List Int) (l : Int) : runG nx z (w ++ [l]) = nx (runG nx z w) l.toNat := by unfold runG; rw [List.foldl_append]; rfl
def dn (a n j l : Nat) : Prop := j < a ∨ j = a ∧ l < n
/-- the items so far: n letters of item a are gone through -/
structure Sl (nx : α → Nat → α) (z : α) (L a n : Nat) (os : List (α × List Int)) : Prop where
  ne : 0 < os.length
  hd : os.getD 0 (z, []) = (z, [])
  run : ∀ q, q ∈ os → okW L q.2 ∧ runG nx z q.2 = q.1
  by_ : ∀ q, q ∈ os → q.2 = [] ∨ ∃ j l, dn a n j l ∧ l < L ∧ j < os.length ∧ q.2 = (os.getD j (z, [])).2 ++ [(l : Int)]
  srt : ∀ i j, i < j → j < os.length → sl L (os.getD i (z, [])).2 < sl L (os.getD j (z, [])).2
  cov : ∀ j l, dn a n j l → l < L → j < os.length → ∃ i, i < os.length ∧ (os.getD i (z, [])).1 = nx (os.getD j (z, [])).1 l ∧ sl L (os.getD i (z, [])).2 ≤ sl L (os.getD j (z, [])).2 * L + l + 1
variable {nx : α → Nat → α} {z : α} {L a n : Nat} {os : List (α × List Int)}
theorem Sl.zero (nx : α → Nat → α) (z : α) (L : Nat) : Sl nx z L 0 0 [(z, [])] := by
  refine ⟨by simp, rfl, fun q hq => ?_, fun q hq => ?_, fun i j h1 h2 => ?_, fun j l h => ?_⟩
  · rw [List.mem_singleton.mp hq]; exact ⟨okW_nil, rfl⟩
  · rw [List.mem_singleton.mp hq]; exact .inl rfl
  · simp at h2; omega
  · rcases h with h | h <;> omega
theorem getD_app {β : Type} {xs ys : List β} {i : Nat} (z : β) (h : i < xs.length) : (xs ++ ys).getD i z = xs.getD i z := by
  rw [List.getD_eq_getElem?_getD, List.getD_eq_getElem?_getD, List.getElem?_append_left h]
theorem getD_last {β : Type} {xs : List β} (x z : β) : (xs ++ [x]).getD xs.length z = x := by
  rw [List.getD_eq_getElem?_getD, List.getElem?_append_right (Nat.le_refl _)]; simp
/-- what is already there is no greater than the next one -/
theorem Sl.below (h : Sl nx z L a n os) (ha : a < os.length) : ∀ q, q ∈ os → sl L q.2 < sl L (os.getD a (z, [])).2 * L + n + 1 := fun q hq => by
  have hL : 0 ≤ (L : Int) := by omega
  have hz := h.run _ (getD_mem' (z := (z, [])) ha)
  rcases h.by_ q hq with e | ⟨j, l, hd, hl, hj, e⟩
  · rw [e]
    show (0 : Int) < _
    have hn : 0 ≤ sl L (os.getD a (z, [])).2 := by
      by_cases hL1 : 1 ≤ (L : Int)
      · exact sl_nn hL1 _ hz.1
      · have : (os.getD a (z, [])).2 = [] := by
          cases hh : (os.getD a (z, [])).2 with
          | nil => rfl
          | cons x w =>
            have := hz.1 x (by rw [hh]; simp)
            omega
        rw [this]; exact Int.le_refl _
    have := Int.mul_nonneg hn hL
    omega
  · rw [e, sl_snoc]
    rcases hd with hd | ⟨rfl, hd⟩
    · have := mulL hL (h.srt j a hd ha)
      omega
    · omega
theorem Sl.add (h : Sl nx z L a n os) (ha : a < os.length) (hn : n < L) : Sl nx z L a (n + 1) (addG os (nx (os.getD a (z, [])).1 n, (os.getD a (z, [])).2 ++ [(n : Int)])) := by
  have bl := h.below ha
  have hz := h.run _ (getD_mem' (z := (z, [])) ha)
  have up : ∀ j l, dn a n j l → dn a (n + 1) j l := fun j l hd => by unfold dn at *; omega
  unfold addG
  split
  · rename_i hm
    refine ⟨h.ne, h.hd, h.run, fun q hq => ?_, h.srt, fun j l hd hl hj => ?_⟩
    · rcases h.by_ q hq with e | ⟨j, l, hd, r⟩
      · exact .inl e
      · exact .inr ⟨j, l, up _ _ hd, r⟩
    · by_cases hh : dn a n j l
      · exact h.cov j l hh hl hj
      · have : j = a ∧ l = n := by unfold dn at *; omega
        obtain ⟨rfl, rfl⟩ := this
        obtain ⟨q, hq, e⟩ := List.mem_map.mp hm
        obtain ⟨i, hi, e2⟩ := List.mem_iff_getElem.mp hq
        refine ⟨i, hi, ?_, ?_⟩
        · rw [List.getD_eq_getElem?_getD, List.getElem?_eq_getElem hi]
          show (os[i]).1 = _
          rw [e2, e]
        · have := bl q hq
          rw [List.getD_eq_getElem?_getD, List.getElem?_eq_getElem hi]
          show sl L (os[i]).2 ≤ _
          rw [e2]; omega
  · rename_i hm
    have gl : ∀ i, i < os.length → (os ++ [(nx (os.getD a (z, [])).1 n, (os.getD a (z, [])).2 ++ [(n : Int)])]).getD i (z, []) = os.getD i (z, []) := fun i hi => getD_app _ hi
    have gn : (os ++ [(nx (os.getD a (z, [])).1 n, (os.getD a (z, [])).2 ++ [(n : Int)])]).getD os.length (z, []) = _ := getD_last _ _
    have ln : (os ++ [(nx (os.getD a (z, [])).1 n, (os.getD a (z, [])).2 ++ [(n : Int)])]).length = os.length + 1 := by rw [List.length_append, List.length_singleton]
    refine ⟨by rw [ln]; omega, by rw [gl 0 h.ne]; exact h.hd, fun q hq => ?_, fun q hq => ?_, fun i j h1 h2 => ?_, fun j l hd hl hj => ?_⟩
    · rcases List.mem_append.mp hq with hq | hq
      · exact h.run q hq
      · rw [List.mem_singleton.mp hq]
        refine ⟨okW_snoc.mpr ⟨hz.1, by omega, by omega⟩, ?_⟩
        show runG nx z (_ ++ [_]) = _
        rw [runG_snoc, hz.2, Int.toNat_natCast]
    · rcases List.mem_append.mp hq with hq | hq
      · rcases h.by_ q hq with e | ⟨j, l, hd, hl, hj, e⟩
        · exact .inl e
        · exact .inr ⟨j, l, up _ _ hd, hl, by rw [ln]; omega, by rw [gl j hj]; exact e⟩
      · rw [List.mem_singleton.mp hq]
        exact .inr ⟨a, n, .inr ⟨rfl, by omega⟩, hn, by rw [ln]; omega, by rw [gl a ha]⟩
    · rw [ln] at h2
      rw [gl i (by omega)]
      by_cases e : j = os.length
      · subst e
        rw [gn, sl_snoc]
        exact bl _ (getD_mem' (by omega))
      · rw [gl j (by omega)]
        exact h.srt i j h1 (by omega)
    · rw [ln] at hj
      by_cases hh : dn a n j l
      · by_cases e : j = os.length
        · unfold dn at hh; omega
        · obtain ⟨i, hi, e1, e2⟩ := h.cov j l hh hl (by omega)
          exact ⟨i, by rw [ln]; omega, by rw [gl i hi, gl j (by omega)]; exact e1, by rw [gl i hi, gl j (by omega)]; exact e2⟩
      · have : j = a ∧ l = n := by unfold dn at *; omega
        obtain ⟨rfl, rfl⟩ := this
        exact ⟨os.length, by rw [ln]; omega, by rw [gn, gl j ha], by rw [gn, gl j ha, sl_snoc]; exact Int.le_refl _⟩
theorem Sl.turn (h : Sl nx z L a 0 os) (ha : a < os.length) : ∀ n, n ≤ L → Sl nx z L a n (turnG nx (os.getD a (z, [])) os n)
  | 0, _ => h
  | n + 1, hn => by
    have ih := Sl.turn h ha n (by omega)
    obtain ⟨t, ht⟩ := turnG_pre nx (os.getD a (z, [])) os n
    have hg : (turnG nx (os.getD a (z, [])) os n).getD a (z, []) = os.getD a (z, []) := by rw [ht]; exact getD_app _ ha
    have := ih.add (by rw [ht, List.length_append]; omega) (by omega)
    rw [hg] at this
    rw [turnG_succ]
    exact this
theorem Sl.over (h : Sl nx z L a L os) : Sl nx z L (a + 1) 0 os := by
  have up : ∀ j l, l < L → (dn a L j l ↔ dn (a + 1) 0 j l) := fun j l hl => by unfold dn; omega
  refine ⟨h.ne, h.hd, h.run, fun q hq => ?_, h.srt, fun j l hd hl hj => h.cov j l ((up j l hl).mpr hd) hl hj⟩
  rcases h.by_ q hq with e | ⟨j, l, hd, hl, r⟩
  · exact .inl e
  · exact .inr ⟨j, l, (up j l hl).mp hd, hl, r⟩
/-- each list: its room is met by one no greater, or it is no less than the next one -/
theorem Sl.cover (h : Sl nx z L a n os) (ha : a < os.length) (hL : 1 ≤ L) (hn : n ≤ L) : ∀ v, okW L v → (∃ i, i < os.length ∧ (os.getD i (z, [])).1 = runG nx z v ∧ sl L (os.getD i (z, [])).2 ≤ sl L v) ∨ sl L (os.getD a (z, [])).2 * L + n + 1 ≤ sl L v := by
  have hL' : 1 ≤ (L : Int) := by omega
  have hL0 : 0 ≤ (L : Int) := by omega
  refine snoc_ind (P := fun v => okW L v → _) (fun _ => .inl ⟨0, h.ne, by rw [h.hd]; rfl, by rw [h.hd]; exact Int.le_refl _⟩) fun v l ih hv => ?_
  obtain ⟨a1, a2, a3⟩ := okW_snoc.mp hv
  rw [sl_snoc, runG_snoc]
  rcases ih a1 with ⟨i, hi, e1, e2⟩ | hge
  · have m1 := mulL' hL0 e2
    by_cases hd : dn a n i l.toNat
    · obtain ⟨k, hk, f1, f2⟩ := h.cov i l.toNat hd (by omega) hi
      exact .inl ⟨k, hk, by rw [f1, e1], by omega⟩
    · refine .inr ?_
      by_cases e : i = a
      · subst e
        have : n ≤ l.toNat := by unfold dn at hd; omega
        omega
      · have hai : a < i := by unfold dn at hd; omega
        have := mulL hL0 (h.srt a i hai hi)
        omega
  · right
    have := sl_nn hL' v a1
    have := mul1 hL' this
    omega
/-- the first one with the property P -/
theorem Sl.first (h : Sl nx z L a 0 os) (ha : a < os.length) (hL : 1 ≤ L) {P : α → Prop} (hP : ∀ j, j < a → ¬ P (os.getD j (z, [])).1) : ∀ v, okW L v → P (runG nx z v) → sl L (os.getD a (z, [])).2 ≤ sl L v := fun v hv hp => by
  have hL' : 1 ≤ (L : Int) := by omega
  have hz := h.run _ (getD_mem' (z := (z, [])) ha)
  have hnn := sl_nn hL' _ hz.1
  rcases h.cover ha hL (Nat.zero_le _) v hv with ⟨i, hi, e1, e2⟩ | hge
  · by_cases hia : i < a
    · rw [← e1] at hp; exact absurd hp (hP i hia)
    · by_cases e : i = a
      · subst e; exact e2
      · have := h.srt a i (by omega) hi; omega
  · have := mul1 hL' hnn
    omega
/-- all are gone through -/
theorem Sl.all (h : Sl nx z L a 0 os) (ha : ¬ a < os.length) : ∀ v, okW L v → ∃ i, i < os.length ∧ (os.getD i (z, [])).1 = runG nx z v := by
  refine snoc_ind (P := fun v => okW L v → _) (fun _ => ⟨0, h.ne, by rw [h.hd]; rfl⟩) fun v l ih hv => ?_
  obtain ⟨a1, a2, a3⟩ := okW_snoc.mp hv
  obtain ⟨i, hi, e1⟩ := ih a1
  obtain ⟨k, hk, f1, _⟩ := h.cov i l.toNat (.inl (by omega)) (by omega) hi
  exact ⟨k, hk, by rw [f1, e1, runG_snoc]⟩
end
/-! ### the least list that parts two machines -/
theorem addI_G (os : List It1) (q : It1) : addI os q = addG os q := by
  unfold addI addG
  by_cases h : q.1 ∈ os.map (·.1)
  · rw [if_pos h, if_pos h]
  · rw [if_neg h, if_neg h]
theorem turnI_G (one other : Mc) (q : It1) (os : List It1) : ∀ n : Nat, turnI one other q os n = turnG (nextP one other) q os n
  | 0 => rfl
  | n + 1 => by rw [turnI_succ, turnG_succ, turnI_G one other q os n, addI_G]
theorem runG_pair (one other : Mc) : ∀ w : List Int, runG (nextP one other) (0, 0) w = (w.foldl (step one) 0, w.foldl (step other) 0) := by
  refine snoc_ind rfl fun w l ih => ?_
  rw [runG_snoc, ih, List.foldl_append, List.foldl_append]
  rfl
theorem cmp_min {one other : Mc} {L : Int} (h1 : Okm one L) (h2 : Okm other L) (hL : 1 ≤ L) (hA : one.1.length ≤ 100) (hB : other.1.length ≤ 100) {p : List Int} (e : cmpL one other = .inl p) : ∀ v, okW L v → beh one 0 v ≠ beh other 0 v → sl L p ≤ sl L v := by
  have hl : ((one.1.getD 0 []).length : Int) = L := lets_is h1
  have key : ∀ (n a : Nat) (os : List It1), 10001 - a = n → Ci one other a os → Sl (nextP one other) (0, 0) (one.1.getD 0 []).length a 0 os → ∀ v, okW L v → beh one 0 v ≠ beh other 0 v → sl L p ≤ sl L v := by
    intro n
    induction n with
    | zero =>
      intro a os hn c _
      have := c.few hA hB
      have := c.le
      omega
    | succ n ih =>
      intro a os hn c s
      by_cases ha : a < os.length
      · by_cases hs : sgn one other (os.getD a z1).1
        · exact ih (a + 1) _ (by omega) (c.next h1 h2 hA hB ha hs) (by rw [turnI_G]; exact (s.turn ha _ (Nat.le_refl _)).over)
        · rw [c.part hA hB ha hs] at e
          cases e
          intro v hv hne
          have := s.first ha (by omega) (P := fun q => ¬ sgn one other q) (fun j hj hq => hq (c.sg j hj)) v (by rw [hl]; exact hv) (by
            rw [runG_pair]
            exact hne)
          rw [hl] at this
          exact this
      · rw [c.done ha] at e; cases e
  exact key 10001 0 _ rfl (Ci.zero h1 h2) (Sl.zero _ _ _)
end My

set_option Elab.async false
set_option linter.all false
set_option maxRecDepth 100000
set_option maxHeartbeats 4000000
namespace My
open Fw
/-! ### columns -/
def manyOf (rows : List (List Int)) : Int := maxD 0 ((rows.map fun row => row.length).map fun (n : Nat) => (n : Int))
def colAt (many k : Int) (row : List Int) : Int := if decide (0 ≤ k - many + row.length) = true then row.getD (k - many + row.length).toNat 0 else 0
def colsR (rows : List (List Int)) : List (List Int) := (List.range (manyOf rows).toNat).map fun (k : Nat) => rows.map fun row => colAt (manyOf rows) k row
def cols (b : Int) (places : List Int) : List (List Int) := colsR (places.map fun place => figs b place)
theorem manyOf_ge {rows : List (List Int)} {r : List Int} (h : r ∈ rows) : (r.length : Int) ≤ manyOf rows := by
  unfold manyOf maxD
  have hm : (r.length : Int) ∈ (rows.map fun row => row.length).map fun (n : Nat) => (n : Int) := by
    rw [List.map_map]
    exact List.mem_map.mpr ⟨r, h, rfl⟩
  rw [if_neg (fun z => by rw [z] at hm; cases hm)]
  exact maxL_ge hm
theorem manyOf_bd {n : Nat} {rows : List (List Int)} (h : ∀ r, r ∈ rows → r.length ≤ n) : 0 ≤ manyOf rows ∧ manyOf rows ≤ n := by
  unfold manyOf maxD
  split
  · omega
  · rename_i hne
    have := maxL_mem hne
    rw [List.map_map] at this ⊢
    obtain ⟨r, hr, e⟩ := List.mem_map.mp this
    rw [← e]
    have := h r hr
    simp only [Function.comp_def]
    omega
theorem rows_far {b : Int} {places : List Int} (hb : 2 ≤ b) (h : ∀ p, p ∈ places → Far p) : ∀ r, r ∈ (places.map fun place => figs b place) → r.length ≤ 2000 := by
  intro r hr
  obtain ⟨p, hp, rfl⟩ := List.mem_map.mp hr
  exact figs_far hb (h p hp)
def padRow (many : Int) (row : List Int) : List Int := List.replicate (many - row.length).toNat 0 ++ row
theorem padRow_len {many : Int} {row : List Int} (h : (row.length : Int) ≤ many) : (padRow many row).length = many.toNat := by
  unfold padRow
  rw [List.length_append, List.length_replicate]; omega
theorem padRow_at {many : Int} {row : List Int} {k : Nat} (h : (row.length : Int) ≤ many) (hk : k < many.toNat) : (padRow many row).getD k 0 = colAt many k row := by
  unfold padRow colAt
  rw [List.getD_eq_getElem?_getD]
  by_cases hc : 0 ≤ (k : Int) - many + row.length
  · rw [if_pos (decide_eq_true hc), List.getElem?_append_right (by rw [List.length_replicate]; omega), List.length_replicate, List.getD_eq_getElem?_getD]
    congr 2
    omega
  · rw [if_neg (by rw [decide_eq_false hc]; decide), List.getElem?_append_left (by rw [List.length_replicate]; omega), List.getElem?_replicate]
    rw [if_pos (by omega)]; rfl
/-- the columns, as the law makes them -/
def colsL (rows : List (List Int)) : List (List Int) := (List.range (manyOf rows).toNat).map fun (k : Nat) => (rows.map fun row => padRow (manyOf rows) row).map fun row => row.getD k 0
theorem colsL_eq (rows : List (List Int)) : colsL rows = colsR rows := by
  unfold colsL colsR
  refine List.map_congr_left fun k hk => ?_
  rw [List.map_map]
  refine List.map_congr_left fun row hr => ?_
  exact padRow_at (manyOf_ge hr) (List.mem_range.mp hk)
def numsOf (b : Int) (many : Int) (cs : List (List Int)) : List Int := (List.range many.toNat).map fun (k : Nat) => numOf b (cs.map fun c => c.getD k 0)
theorem cols_len {b : Int} {ps : List Int} : ∀ c, c ∈ cols b ps → c.length = ps.length := by
  intro c hc
  unfold cols colsR at hc
  obtain ⟨k, _, rfl⟩ := List.mem_map.mp hc
  rw [List.length_map, List.length_map]
theorem list_of_getD {xs : List Int} {n : Nat} (h : xs.length = n) : ((List.range n).map fun k => xs.getD k 0) = xs := by
  subst h
  refine List.ext_getElem? fun i => ?_
  rw [List.getElem?_map]
  by_cases hi : i < xs.length
  · rw [List.getElem?_range hi, getD_some 0 hi]; rfl
  · rw [List.getElem?_eq_none (by rw [List.length_range]; omega), List.getElem?_eq_none (by omega)]; rfl
theorem numsOf_cols {b : Int} (hb : 2 ≤ b) {ps : List Int} (h0 : ∀ p, p ∈ ps → 0 ≤ p) (z : Nat) : numsOf b ps.length (List.replicate z (List.replicate ps.length 0) ++ cols b ps) = ps := by
  unfold numsOf
  have key : ∀ k, k < ps.length → numOf b ((List.replicate z (List.replicate ps.length 0) ++ cols b ps).map fun (c : List Int) => c.getD k 0) = ps.getD k 0 := by
    intro k hk
    have e1 : (List.replicate z (List.replicate ps.length (0 : Int))).map (fun c => c.getD k 0) = List.replicate z 0 := by
      rw [List.map_replicate, List.getD_eq_getElem?_getD, List.getElem?_replicate, if_pos hk]; rfl
    have e2 : (cols b ps).map (fun c => c.getD k 0) = padRow (manyOf (ps.map fun place => figs b place)) (figs b (ps.getD k 0)) := by
      unfold cols
      rw [← colsL_eq]
      unfold colsL
      rw [List.map_map, List.map_map]
      have hm : figs b (ps.getD k 0) ∈ (ps.map fun place => figs b place) := List.mem_map.mpr ⟨_, getD_mem' hk, rfl⟩
      rw [← list_of_getD (padRow_len (manyOf_ge hm))]
      refine List.map_congr_left fun j _ => ?_
      simp only [Function.comp_def, List.map_map]
      rw [getD_map' _ 0 0 hk]
    rw [List.map_append, e1, e2, numOf_zeros]
    unfold padRow
    rw [numOf_zeros, numOf_figs hb _ _ rfl (h0 _ (getD_mem' hk))]
  rw [show ((ps.length : Int)).toNat = ps.length by omega]
  have := list_of_getD (xs := ps) rfl
  refine Eq.trans (List.map_congr_left fun k hk => ?_) this
  exact key k (List.mem_range.mp hk)
/-! ### k02 -/
def placeAt (ns : List Int) (k : Int) : Int := ns.getD (1 + k).toNat 0 / 3 % ([9, 1000, 10 ^ (40 : Int).toNat] : List Int).getD (ns.getD (1 + k).toNat 0 % 3 : Int).toNat 0
def places0 (ns : List Int) : List Int := (List.range (spread ns 0 / 8 % 5).toNat).map fun (k : Nat) => placeAt ns k
def places2 (ns : List Int) : List Int := if (decide (1 < ((places0 ns).length : Int)) && decide (spread ns 0 / 40 % 3 = 1)) = true then (places0 ns).set 1 ((places0 ns).getD 0 0) else places0 ns
theorem modAt_pos (t : Int) : 0 < ([9, 1000, 10 ^ (40 : Int).toNat] : List Int).getD (t % 3 : Int).toNat 0 := pick3 (q := fun x => 0 < x) (by omega) (by omega) (by decide) (by decide) (by decide +kernel)
theorem placeAt_bd (ns : List Int) (k : Int) : 0 ≤ placeAt ns k ∧ Far (placeAt ns k) := by
  unfold placeAt
  refine pick3 (q := fun x => 0 ≤ ns.getD (1 + k).toNat 0 / 3 % x ∧ Far (ns.getD (1 + k).toNat 0 / 3 % x)) (by omega) (by omega) ⟨by omega, far_of (by omega)⟩ ⟨by omega, far_of (by omega)⟩ ⟨?_, far_of ?_⟩
  · exact Int.emod_nonneg _ (by decide +kernel)
  · have : (10 : Int) ^ (40 : Int).toNat ≤ 10 ^ 70 := by decide +kernel
    have h := Int.emod_lt_of_pos (ns.getD (1 + k).toNat 0 / 3) (show (0 : Int) < 10 ^ (40 : Int).toNat by decide +kernel)
    omega
theorem places0_bd (ns : List Int) : ∀ p, p ∈ places0 ns → 0 ≤ p ∧ Far p := by
  intro p hp
  obtain ⟨k, _, rfl⟩ := List.mem_map.mp hp
  exact placeAt_bd ns k
theorem places2_bd (ns : List Int) : ∀ p, p ∈ places2 ns → 0 ≤ p ∧ Far p := by
  intro p hp
  unfold places2 at hp
  split at hp
  · rename_i hc
    rcases List.mem_or_eq_of_mem_set hp with hp | rfl
    · exact places0_bd ns p hp
    · rw [Bool.and_eq_true] at hc
      have := of_decide_eq_true hc.1
      exact places0_bd ns _ (getD_mem' (by omega))
  · exact places0_bd ns p hp
theorem places2_len (ns : List Int) : (places2 ns).length ≤ 4 := by
  have h : (places0 ns).length ≤ 4 := by
    unfold places0
    rw [List.length_map, List.length_range]; omega
  unfold places2
  split
  · rw [List.length_set]; exact h
  · exact h
theorem cols_rows {b : Int} {ps : List Int} : (cols b ps).length = (manyOf (ps.map fun place => figs b place)).toNat := by
  unfold cols colsR
  rw [List.length_map, List.length_range]
theorem cols_few {b : Int} {ps : List Int} (hb : 2 ≤ b) (h : ∀ p, p ∈ ps → Far p) : (cols b ps).length ≤ 2000 := by
  rw [cols_rows]
  have := manyOf_bd (rows_far hb h)
  omega
/-! columns told by a code -/
def cdiv (b c : Int) : Nat → Int
  | 0 => c
  | n + 1 => cdiv b c n / b
def lowD (b c : Int) : Nat → List Int
  | 0 => []
  | n + 1 => (cdiv b c n % b) :: lowD b c n
theorem lowD_len (b c : Int) : ∀ n, (lowD b c n).length = n
  | 0 => rfl
  | n + 1 => by show (lowD b c n).length + 1 = n + 1; rw [lowD_len b c n]
theorem cdiv_snoc {b N x : Int} (hb : 2 ≤ b) (h0 : 0 ≤ x) (h1 : x < b) : ∀ n, cdiv b (N * b + x) (n + 1) = cdiv b N n
  | 0 => by
    show (N * b + x) / b = N
    rw [Int.add_comm, Int.add_mul_ediv_right _ _ (by omega), Int.ediv_eq_zero_of_lt h0 h1]; omega
  | n + 1 => by
    show cdiv b (N * b + x) (n + 1) / b = cdiv b N n / b
    rw [cdiv_snoc hb h0 h1 n]
theorem lowD_snoc {b N x : Int} (hb : 2 ≤ b) (h0 : 0 ≤ x) (h1 : x < b) : ∀ n, lowD b (N * b + x) (n + 1) = lowD b N n ++ [x]
  | 0 => by
    show [(N * b + x) % b] = [x]
    rw [Int.add_comm, Int.add_mul_emod_self_right, Int.emod_eq_of_lt h0 h1]
  | n + 1 => by
    show (cdiv b (N * b + x) (n + 1) % b) :: lowD b (N * b + x) (n + 1) = (cdiv b N n % b) :: lowD b N n ++ [x]
    rw [cdiv_snoc hb h0 h1 n, lowD_snoc hb h0 h1 n]; rfl
theorem lowD_numOf {b : Int} (hb : 2 ≤ b) : ∀ (n : Nat) (col : List Int), col.length = n → (∀ x, x ∈ col → 0 ≤ x ∧ x < b) → lowD b (numOf b col) n = col
  | 0, col, h, _ => by rw [List.length_eq_zero_iff.mp h]; rfl
  | n + 1, col, h, hx => by
    obtain ⟨l, x, rfl⟩ : ∃ l x, col = l ++ [x] := ⟨col.dropLast, col.getLast (by intro z; rw [z] at h; cases h), (List.dropLast_concat_getLast _).symm⟩
    have hl : l.length = n := by rw [List.length_append, List.length_singleton] at h; omega
    have hxx := hx x (List.mem_append_right _ (List.mem_singleton.mpr rfl))
    rw [numOf_app, lowD_snoc hb hxx.1 hxx.2, lowD_numOf hb n l hl fun y hy => hx y (List.mem_append_left _ hy)]
end My

set_option Elab.async false
set_option linter.all false
set_option maxRecDepth 100000
set_option maxHeartbeats 4000000
namespace My
open PySem Fw
/-! ### machines drawn room by room -/
def cellW (ns : List Int) (k : Int) : Int := ((if k < (ns.length : Int) then ns.getD k.toNat 0 % 10 ^ (18 : Int).toNat else 0) * 48271 + 16807 * k) % 2147483647 * 69621 % 2147483629
theorem cellW_lo (ns : List Int) (k : Int) : 0 ≤ cellW ns k := by unfold cellW; omega
def dwRow (cell rooms letters : Int) : List Int := (List.range letters.toNat).map fun (j : Nat) => (cell + 7 * (j : Int) + 1) * ((j : Int) * (j : Int) + 48271) % 1000003 / 5 % rooms
def dwRows (ns : List Int) (at_ rooms letters : Int) : List (List Int) := (List.range rooms.toNat).map fun (r : Nat) => dwRow (cellW ns (at_ + (r : Int))) rooms letters
def dwSigns (ns : List Int) (at_ rooms last : Int) : List Int := (List.range rooms.toNat).map fun (r : Nat) => (cellW ns (at_ + (r : Int)) % 1000003 + (r : Int)) * 69621 % 65539 / 3 % (last + 1)
def dwMach (ns : List Int) (at_ rooms letters last : Int) : Mc := ((dwRows ns at_ rooms letters).set 0 (((dwRows ns at_ rooms letters).getD 0 []).set 0 0), dwSigns ns at_ rooms last)
theorem dwRow_len (cell rooms letters : Int) : (dwRow cell rooms letters).length = letters.toNat := by unfold dwRow; rw [List.length_map, List.length_range]
theorem dwRows_len (ns : List Int) (at_ rooms letters : Int) : (dwRows ns at_ rooms letters).length = rooms.toNat := by unfold dwRows; rw [List.length_map, List.length_range]
theorem dwRows_0 {ns : List Int} {at_ rooms letters : Int} (h : 0 < rooms) : ((dwRows ns at_ rooms letters).getD 0 []).length = letters.toNat := by
  unfold dwRows
  rw [List.getD_eq_getElem?_getD, List.getElem?_map, List.getElem?_range (by omega)]
  exact dwRow_len _ _ _
theorem dwMach_len {ns : List Int} {at_ rooms letters last : Int} : (dwMach ns at_ rooms letters last).1.length = rooms.toNat := by
  unfold dwMach; rw [List.length_set, dwRows_len]
theorem dwMach_ok {ns : List Int} {at_ rooms letters last : Int} (h1 : 0 < rooms) (h2 : 0 < letters) : Okm (dwMach ns at_ rooms letters last) letters := by
  have rowL : ∀ r, r ∈ dwRows ns at_ rooms letters → (r.length : Int) = letters ∧ ∀ x, x ∈ r → 0 ≤ x ∧ x < rooms := fun r hr => by
    obtain ⟨k, _, rfl⟩ := List.mem_map.mp hr
    refine ⟨by rw [dwRow_len]; omega, fun x hx => ?_⟩
    obtain ⟨j, _, rfl⟩ := List.mem_map.mp hx
    exact ⟨Int.emod_nonneg _ (by omega), Int.emod_lt_of_pos _ h1⟩
  have m0 : (dwRows ns at_ rooms letters).getD 0 [] ∈ dwRows ns at_ rooms letters := getD_mem' (by rw [dwRows_len]; omega)
  refine ⟨by rw [dwMach_len]; omega, by rw [dwMach_len]; unfold dwMach dwSigns; rw [List.length_map, List.length_range], fun r hr => ?_, fun r hr x hx => ?_⟩
  · rcases List.mem_or_eq_of_mem_set hr with hr | rfl
    · exact (rowL r hr).1
    · rw [List.length_set]; exact (rowL _ m0).1
  · rw [dwMach_len]
    have key : 0 ≤ x ∧ x < rooms := by
      rcases List.mem_or_eq_of_mem_set hr with hr | rfl
      · exact (rowL r hr).2 x hx
      · rcases List.mem_or_eq_of_mem_set hx with hx | rfl
        · exact (rowL _ m0).2 x hx
        · omega
    omega
theorem dwMach_front {ns : List Int} {at_ rooms letters last : Int} (h1 : 0 < rooms) (h2 : 0 < letters) : step (dwMach ns at_ rooms letters last) 0 0 = 0 := by
  unfold step dwMach
  show (((dwRows ns at_ rooms letters).set 0 _).getD 0 []).getD 0 0 = 0
  have := dwRows_len ns at_ rooms letters
  have h0 := dwRows_0 (ns := ns) (at_ := at_) (letters := letters) h1
  have e : ((dwRows ns at_ rooms letters).set 0 (((dwRows ns at_ rooms letters).getD 0 []).set 0 0)).getD 0 [] = ((dwRows ns at_ rooms letters).getD 0 []).set 0 0 := by
    rw [List.getD_eq_getElem?_getD, List.getElem?_set, if_pos rfl, if_pos (by omega)]; rfl
  rw [e, List.getD_eq_getElem?_getD, List.getElem?_set, if_pos rfl, if_pos (by omega)]; rfl
theorem dwMach_sign {ns : List Int} {at_ rooms letters last : Int} (h : 0 ≤ last) : ∀ s, s ∈ (dwMach ns at_ rooms letters last).2 → 0 ≤ s ∧ s ≤ last := fun s hs => by
  obtain ⟨k, _, rfl⟩ := List.mem_map.mp hs
  have := Int.emod_nonneg ((cellW ns (at_ + (k : Int)) % 1000003 + (k : Int)) * 69621 % 65539 / 3) (show last + 1 ≠ 0 by omega)
  have := Int.emod_lt_of_pos ((cellW ns (at_ + (k : Int)) % 1000003 + (k : Int)) * 69621 % 65539 / 3) (show 0 < last + 1 by omega)
  omega
/-! ### the first list that is taken -/
structure Fst (m : Mc) (L : Int) (w : List Int) : Prop where
  ok : okW L w
  yes : beh m 0 w = 1
  min : ∀ v, okW L v → beh m 0 v = 1 → sl L w ≤ sl L v
theorem fst_or {m : Mc} {L : Int} (hL : 1 ≤ L) : (∃ w, Fst m L w) ∨ ∀ v, okW L v → beh m 0 v ≠ 1 := by
  classical
  by_cases h : ∃ v, okW L v ∧ beh m 0 v = 1
  · left
    have key : ∀ (n : Nat) v, (sl L v).toNat = n → okW L v → beh m 0 v = 1 → ∃ w, Fst m L w := by
      intro n
      induction n using Nat.strongRecOn with
      | ind n ih =>
        intro v hn hv hb
        by_cases hm : ∃ u, okW L u ∧ beh m 0 u = 1 ∧ sl L u < sl L v
        · obtain ⟨u, h1, h2, h3⟩ := hm
          have := sl_nn hL u h1
          exact ih (sl L u).toNat (by omega) u rfl h1 h2
        · exact ⟨v, hv, hb, fun u h1 h2 => by
            by_cases hh : sl L u < sl L v
            · exact absurd ⟨u, h1, h2, hh⟩ hm
            · omega⟩
    obtain ⟨v, h1, h2⟩ := h
    exact key _ v rfl h1 h2
  · exact .inr fun v h1 h2 => h ⟨v, h1, h2⟩
theorem Fst.one {m : Mc} {L : Int} (hL : 1 ≤ L) {w v : List Int} (h : Fst m L w) (hv : okW L v) (hb : beh m 0 v = 1) (hm : ∀ u, okW L u → beh m 0 u = 1 → sl L v ≤ sl L u) : v = w := by
  have a := h.min v hv hb
  have b := hm w h.ok h.yes
  exact sl_inj hL v hv w h.ok (by omega)
theorem Fst.least {m : Mc} {L : Int} (k : Okm m L) {w : List Int} (h : Fst m L w) : Fst (leastL m) L w := by
  have ls := least_ok k
  exact ⟨h.ok, by rw [ls.beh w h.ok]; exact h.yes, fun v hv hb => h.min v hv (by rw [← ls.beh v hv]; exact hb)⟩
def nxR (m : Mc) (r : Int) (k : Nat) : Int := (m.1.getD r.toNat []).getD k 0
theorem runG_R (m : Mc) (w : List Int) : runG (nxR m) 0 w = w.foldl (step m) 0 := rfl
abbrev It2 := Int × List Int
abbrev z2 : It2 := (0, [])
structure Fq (m : Mc) (L a n : Nat) (os : List It2) : Prop where
  s : Sl (nxR m) 0 L a n os
  nd : (os.map (·.1)).Nodup
  al : ∀ q, q ∈ os → inR m q.1
  ln : ∀ j, j < os.length → (os.getD j z2).2.length ≤ j
theorem Fq.zero {m : Mc} {L : Int} (k : Okm m L) : Fq m L.toNat 0 0 [z2] := ⟨Sl.zero _ _ _, by simp, fun q hq => by rw [List.mem_singleton.mp hq]; exact inR_zero k, fun j hj => by
  have : j = 0 := by simpa using hj
  subst this; exact Nat.le_refl _⟩
theorem Fq.few {m : Mc} {L a n : Nat} {os : List It2} (h : Fq m L a n os) : os.length ≤ m.1.length := by
  have := few_of_nodup m.1.length (os.map (·.1)) h.nd fun x hx => by
    obtain ⟨q, hq, rfl⟩ := List.mem_map.mp hx
    exact h.al q hq
  rwa [List.length_map] at this
theorem addG_nd {os : List It2} {q : It2} (h : (os.map (·.1)).Nodup) : ((addG os q).map (·.1)).Nodup := by
  unfold addG
  split
  · exact h
  · rename_i hq
    rw [List.map_append]
    exact List.nodup_append.mpr ⟨h, by simp, fun a ha b hb e => hq (by
      have hb' : b = q.1 := List.mem_singleton.mp hb
      rw [← hb', ← e]; exact ha)⟩
theorem Fq.add {m : Mc} {L : Int} (k : Okm m L) {a n : Nat} {os : List It2} (h : Fq m L.toNat a n os) (ha : a < os.length) (hn : n < L.toNat) : Fq m L.toNat a (n + 1) (addG os (nxR m (os.getD a z2).1 n, (os.getD a z2).2 ++ [(n : Int)])) := by
  have hz := h.al _ (getD_mem' (z := z2) ha)
  have hn' := inR_step k hz (show 0 ≤ (n : Int) ∧ (n : Int) < L by omega)
  have hnx : inR m (nxR m (os.getD a z2).1 n) := hn'
  have hl := h.ln a ha
  refine ⟨h.s.add ha hn, addG_nd h.nd, fun q hq => ?_, fun j hj => ?_⟩
  · unfold addG at hq
    split at hq
    · exact h.al q hq
    · rcases List.mem_append.mp hq with hq | hq
      · exact h.al q hq
      · rw [List.mem_singleton.mp hq]; exact hnx
  · unfold addG at hj ⊢
    split
    · rename_i hm
      rw [if_pos hm] at hj
      exact h.ln j hj
    · rename_i hm
      rw [if_neg hm, List.length_append, List.length_singleton] at hj
      by_cases e : j = os.length
      · subst e
        have hgl := getD_last (xs := os) (nxR m (os.getD a z2).1 n, (os.getD a z2).2 ++ [(n : Int)]) z2
        rw [hgl]
        show ((os.getD a z2).2 ++ [(n : Int)]).length ≤ os.length
        rw [List.length_append, List.length_singleton]; omega
      · rw [getD_app z2 (by omega)]
        exact h.ln j (by omega)
theorem Fq.turn {m : Mc} {L : Int} (k : Okm m L) {a : Nat} {os : List It2} (h : Fq m L.toNat a 0 os) (ha : a < os.length) : ∀ n, n ≤ L.toNat → Fq m L.toNat a n (turnG (nxR m) (os.getD a z2) os n)
  | 0, _ => h
  | n + 1, hn => by
    have ih := Fq.turn k h ha n (by omega)
    obtain ⟨t, ht⟩ := turnG_pre (nxR m) (os.getD a z2) os n
    have hg : (turnG (nxR m) (os.getD a z2) os n).getD a z2 = os.getD a z2 := by rw [ht]; exact getD_app _ ha
    have := ih.add k (by rw [ht, List.length_append]; omega) (by omega)
    rw [hg] at this
    rw [turnG_succ]
    exact this
theorem Fq.over {m : Mc} {L a : Nat} {os : List It2} (h : Fq m L a L os) : Fq m L (a + 1) 0 os := ⟨h.s.over, h.nd, h.al, h.ln⟩
/-- an item with the sign that is looked for, the first one of these -/
theorem Fq.found {m : Mc} {L : Int} (hL : 1 ≤ L) {a : Nat} {os : List It2} (h : Fq m L.toNat a 0 os) (ha : a < os.length) (hno : ∀ j, j < a → sgR m (os.getD j z2).1 ≠ 1) (hy : sgR m (os.getD a z2).1 = 1) {w : List Int} (f : Fst m L w) : (os.getD a z2).2 = w := by
  have e : ((L.toNat : Nat) : Int) = L := by omega
  have hz := h.s.run _ (getD_mem' (z := z2) ha)
  rw [e] at hz
  refine f.one hL hz.1 ?_ fun u hu hb => ?_
  · unfold beh; rw [← runG_R, hz.2]; exact hy
  · have := h.s.first ha (by omega) (P := fun q => sgR m q = 1) (fun j hj => hno j hj) u (by rw [e]; exact hu) hb
    rw [e] at this; exact this
/-- the next one has the sign that is looked for, and none before it -/
theorem Fq.found_next {m : Mc} {L : Int} (hL : 1 ≤ L) {a n : Nat} {os : List It2} (h : Fq m L.toNat a n os) (ha : a < os.length) (hn : n < L.toNat) (hno : ∀ q, q ∈ os → sgR m q.1 ≠ 1) (hy : sgR m (nxR m (os.getD a z2).1 n) = 1) {w : List Int} (f : Fst m L w) : (os.getD a z2).2 ++ [(n : Int)] = w := by
  have e : ((L.toNat : Nat) : Int) = L := by omega
  have hz := h.s.run _ (getD_mem' (z := z2) ha)
  rw [e] at hz
  refine f.one hL (okW_snoc.mpr ⟨hz.1, by omega, by omega⟩) ?_ fun u hu hb => ?_
  · unfold beh; rw [← runG_R, runG_snoc, hz.2, Int.toNat_natCast]; exact hy
  · rw [sl_snoc]
    rcases h.s.cover ha (by omega) (by omega) u (by rw [e]; exact hu) with ⟨i, hi, e1, _⟩ | hge
    · exfalso
      refine hno _ (getD_mem' (z := z2) hi) ?_
      rw [e1]; exact hb
    · rw [e] at hge; exact hge
theorem Fq.none {m : Mc} {L : Int} (hL : 1 ≤ L) {a : Nat} {os : List It2} (h : Fq m L.toNat a 0 os) (ha : ¬ a < os.length) (hno : ∀ j, j < os.length → sgR m (os.getD j z2).1 ≠ 1) : ∀ v, okW L v → beh m 0 v ≠ 1 := fun v hv hb => by
  have e : ((L.toNat : Nat) : Int) = L := by omega
  obtain ⟨i, hi, e1⟩ := h.s.all ha v (by rw [e]; exact hv)
  refine hno i hi ?_
  rw [e1]; exact hb
end My

set_option Elab.async false
set_option linter.all false
set_option maxRecDepth 100000
set_option maxHeartbeats 4000000
namespace My
open PySem Fw
/-! ### the places of a list of columns' codes -/
def figAt (b : Int) (many k : Nat) (l : Int) : Int := l / b ^ (many - 1 - k) % b
def plF (b : Int) (many : Nat) (ls : List Int) : List Int := (List.range many).map fun (k : Nat) => numOf b (ls.map (figAt b many k))
def plI (b : Int) (many : Nat) (ls : List Int) (l : Int) (i : Nat) : List Int := (List.range many).map fun (k : Nat) => if k < i then numOf b (ls.map (figAt b many k)) * b + figAt b many k l else numOf b (ls.map (figAt b many k))
theorem plF_len (b : Int) (many : Nat) (ls : List Int) : (plF b many ls).length = many := by unfold plF; rw [List.length_map, List.length_range]
theorem plI_len (b : Int) (many : Nat) (ls : List Int) (l : Int) (i : Nat) : (plI b many ls l i).length = many := by unfold plI; rw [List.length_map, List.length_range]
theorem plI_zero (b : Int) (many : Nat) (ls : List Int) (l : Int) : plI b many ls l 0 = plF b many ls := by
  unfold plI plF
  exact List.map_congr_left fun k _ => if_neg (by omega)
theorem plI_all (b : Int) (many : Nat) (ls : List Int) (l : Int) : plI b many ls l many = plF b many (ls ++ [l]) := by
  unfold plI plF
  refine List.map_congr_left fun k hk => ?_
  rw [if_pos (List.mem_range.mp hk), List.map_append, List.map_cons, List.map_nil, numOf_app]
theorem plI_at {b : Int} {many : Nat} {ls : List Int} {l : Int} {i k : Nat} (h : k < many) : (plI b many ls l i).getD k 0 = if k < i then numOf b (ls.map (figAt b many k)) * b + figAt b many k l else numOf b (ls.map (figAt b many k)) := by
  unfold plI
  rw [List.getD_eq_getElem?_getD, List.getElem?_map, List.getElem?_range h]; rfl
theorem plI_succ {b : Int} {many : Nat} {ls : List Int} {l : Int} {i : Nat} (h : i < many) : (plI b many ls l i).set i ((plI b many ls l i).getD i 0 * b + figAt b many i l) = plI b many ls l (i + 1) := by
  refine List.ext_getElem? fun k => ?_
  rw [List.getElem?_set]
  by_cases e : i = k
  · subst e
    rw [if_pos rfl, if_pos (by rw [plI_len]; exact h), plI_at h, if_neg (by omega), getD_some 0 (by rw [plI_len]; exact h), plI_at h, if_pos (by omega)]
  · rw [if_neg e]
    by_cases hk : k < many
    · rw [getD_some 0 (by rw [plI_len]; exact hk), getD_some 0 (by rw [plI_len]; exact hk), plI_at hk, plI_at hk]
      by_cases hki : k < i
      · rw [if_pos hki, if_pos (by omega)]
      · rw [if_neg hki, if_neg (by omega)]
    · rw [List.getElem?_eq_none (by rw [plI_len]; omega), List.getElem?_eq_none (by rw [plI_len]; omega)]
theorem cdiv_pow {b : Int} (hb : 2 ≤ b) (c : Int) : ∀ n, cdiv b c n = c / b ^ n
  | 0 => by show c = c / b ^ 0; rw [Int.pow_zero, Int.ediv_one]
  | n + 1 => by
    show cdiv b c n / b = _
    rw [cdiv_pow hb c n, Int.pow_succ, Int.ediv_ediv_of_nonneg (Int.pow_nonneg (by omega))]
theorem lowD_at {b : Int} (hb : 2 ≤ b) (c : Int) : ∀ (many k : Nat), k < many → (lowD b c many).getD k 0 = figAt b many k c
  | many + 1, 0, _ => by
    show cdiv b c many % b = _
    unfold figAt
    rw [cdiv_pow hb]; rfl
  | many + 1, k + 1, h => by
    show (lowD b c many).getD k 0 = _
    rw [lowD_at hb c many k (by omega)]
    unfold figAt
    rw [show many + 1 - 1 - (k + 1) = many - 1 - k by omega]
theorem nums_pl {b : Int} (hb : 2 ≤ b) (many : Nat) (ls : List Int) : numsOf b (many : Int) (ls.map fun l => lowD b l many) = plF b many ls := by
  unfold numsOf plF
  rw [Int.toNat_natCast]
  refine List.map_congr_left fun k hk => ?_
  rw [List.map_map]
  congr 1
  refine List.map_congr_left fun l _ => ?_
  exact lowD_at hb l many k (List.mem_range.mp hk)
theorem plF_nil (b : Int) (many : Nat) : plF b many [] = (List.range many).map fun _ => (0 : Int) := rfl
end My
namespace My
open PySem Fw
theorem Fst.len {m : Mc} {L : Int} (hL : 1 ≤ L) (k : Okm m L) {w : List Int} (f : Fst m L w) : w.length ≤ m.1.length := by
  refine Classical.byContradiction fun hc => ?_
  let rs : List Int := (List.range (w.length + 1)).map fun i => (w.take i).foldl (step m) 0
  have hin : ∀ x, x ∈ rs → inR m x := fun x hx => by
    obtain ⟨i, _, rfl⟩ := List.mem_map.mp hx
    exact k.foldl _ 0 (fun l hl => f.ok l (List.mem_of_mem_take hl)) (inR_zero k)
  by_cases nd : rs.Nodup
  · have := few_of_nodup m.1.length rs nd hin
    rw [List.length_map, List.length_range] at this
    omega
  · have hne : ∃ i j, i < j ∧ j ≤ w.length ∧ (w.take i).foldl (step m) 0 = (w.take j).foldl (step m) 0 := Classical.byContradiction fun hz => by
      refine nd (List.pairwise_iff_getElem.mpr fun i j hi hj hij e => hz ⟨i, j, hij, ?_, ?_⟩)
      · rw [List.length_map, List.length_range] at hj; omega
      · simpa [rs] using e
    obtain ⟨i, j, hij, hj, e⟩ := hne
    have hok : okW L (w.take i ++ w.drop j) := fun l hl => by
      rcases List.mem_append.mp hl with hl | hl
      · exact f.ok l (List.mem_of_mem_take hl)
      · exact f.ok l (List.mem_of_mem_drop hl)
    have hb : beh m 0 (w.take i ++ w.drop j) = 1 := by
      have h1 := f.yes
      unfold beh at h1 ⊢
      rw [List.foldl_append, e, ← List.foldl_append, List.take_append_drop]; exact h1
    have hlen := sl_len hL _ hok w f.ok (by rw [List.length_append, List.length_take, List.length_drop]; omega)
    have := f.min _ hok hb
    omega
theorem signs_ok {m : Mc} {L : Int} (k : Okm m L) {ss : List Int} (h : ss.length = m.1.length) : Okm (m.1, ss) L := ⟨k.pos, h, k.len, k.nx⟩
theorem pow_small {b : Int} (h2 : 2 ≤ b) (h5 : b ≤ 5) {n : Nat} (hn : n ≤ 3) : 0 < b ^ n ∧ b ^ n < 1000 := by
  have hb : b = 2 ∨ b = 3 ∨ b = 4 ∨ b = 5 := by omega
  have hq : n = 0 ∨ n = 1 ∨ n = 2 ∨ n = 3 := by omega
  rcases hb with rfl | rfl | rfl | rfl <;> rcases hq with rfl | rfl | rfl | rfl <;> decide
def metT (os : List It2) : List (Int × Bool) := os.map fun q => (q.1, true)
theorem metT_keys (os : List It2) : (metT os).map (·.1) = os.map (·.1) := by unfold metT; rw [List.map_map]; rfl
theorem metT_in {os : List It2} {x : Int} : (look (metT os) x).isSome = decide (x ∈ os.map (·.1)) := by
  rw [Bool.eq_iff_iff, look_some_iff, metT_keys, decide_eq_true_eq]
theorem metT_put {os : List It2} {x : Int} {l : List Int} (h : x ∉ os.map (·.1)) : put (metT os) x true = metT (os ++ [(x, l)]) := by
  rw [put_new]
  · unfold metT; rw [List.map_append]; rfl
  · cases e : look (metT os) x with
    | none => rfl
    | some v =>
      have : (look (metT os) x).isSome = true := by rw [e]; rfl
      rw [metT_in] at this
      exact absurd (of_decide_eq_true this) h
theorem metT_len (os : List It2) : (metT os).length = os.length := by unfold metT; rw [List.length_map]
theorem drop_next {α : Type} {xs : List α} {a : Nat} (z : α) (h : a < xs.length) : xs.drop a = xs.getD a z :: xs.drop (a + 1) := by
  rw [List.drop_eq_getElem_cons h, List.getD_eq_getElem?_getD, List.getElem?_eq_getElem h]; rfl
theorem beh_snoc (m : Mc) (w : List Int) (l : Int) : beh m 0 (w ++ [l]) = sgR m (step m (w.foldl (step m) 0) l) := by
  unfold beh; rw [List.foldl_append]; rfl
end My

set_option Elab.async false
set_option linter.all false
set_option maxRecDepth 100000
set_option maxHeartbeats 4000000
/-! the last item; removing -/
namespace Fw
open PySem L2
theorem atI_last {α : Type} {xs : List α} {v : α} (h : 0 < xs.length) (e : xs[xs.length - 1]? = some v) : atI xs (-1) = some v := by
  unfold atI ixN
  rw [if_neg (by omega), if_pos (by omega)]
  rw [show ((-1 : Int) + (xs.length : Int)).toNat = xs.length - 1 by omega]
  exact e
theorem at_last {α : Type} {xs : List α} {f : α → Da} (z : α) (h : 0 < xs.length) : atI (xs.map f) (-1) = some (f (xs.getD (xs.length - 1) z)) := by
  refine atI_last (by rw [List.length_map]; exact h) ?_
  rw [List.length_map, List.getElem?_map, getD_some z (by omega)]; rfl
section
variable {K : PySem.W.Frag} {B0 : Hp} {ρ : List Sd} {te ta tb : TE} {d : Da} {P : Po}
/-- xs[-1] = v -/
theorem j_setLast {k n : Nat} {ds : List Da} {ti : TE} (h : EvB K te ρ d) (im : d.imm = true) (ims : Da.imms ds = true) (hk : ρ[k]? = some (some (true, .lst ds))) (hi : EvB K ti ρ (.int (-1))) (hn : 0 < ds.length) (en : n = ds.length - 1) (q : P.nx (ρ.set k (ow (.lst (ds.set n d))))) :
    J K B0 (tAsg te (gSub (tVar k) ti rSetL)) ρ P := fun φ τ D σ H l nx r bk ct s => by
  refine h σ H _ (Rs.f l s) fun v H1 e1 sv => ?_
  have s2 := Sta.push (s.ex e1) (Ex.refl H1) (sv.own im) (fun _ z => nomatch z) List.nodup_nil
  obtain ⟨p, xs, G, F1, B, hv, hp, _⟩ := s2.rewL (i := φ.length + k) (ds := ds) (by rw [get_app rfl]; exact hk)
  rw [get_app l.symm] at hv
  refine ⟨.ref p, hv, ?_⟩
  refine hi.int ((Rs.f l s).mono e1) fun H2 e2 => ?_
  have s3 := Sta.push (s.ex (e1.trans e2)) (Ex.refl H2) ((sv.mono e2).own im) (fun _ z => nomatch z) List.nodup_nil
  obtain ⟨p', xs', G', F1', B1, hv', hp', ws, a, eB, nd1, pG, pF, k1⟩ := s3.rewL (i := φ.length + k) (ds := ds) (by rw [get_app rfl]; exact hk)
  rw [get_app l.symm, hv] at hv'
  cases hv'
  have hl : xs'.length = ds.length := ws.length
  refine ⟨p, xs', -1, n, rfl, rfl, hp', ?_, ?_⟩
  · subst en
    unfold ixN
    rw [if_neg (by omega), if_pos (by omega)]
    congr 1
    omega
  · have q2 := k1 (xs'.set n v) (ds.set n d) [] ((ws.sh.setA n (sv.mono e2)).own (imms_set ims im)) (fun a m => nomatch m) List.nodup_nil
    rw [set_app rfl] at q2
    exact nx _ _ _ q q2
end
end Fw
namespace Fw
open PySem L2
section
variable {K : PySem.W.Frag} {B0 : Hp} {ρ : List Sd} {te ta tb : TE} {d : Da} {P : Po} {H : Hp} {σ : L2.St}
/-- the first item taken out of an own list -/
theorem Sta.popL {i : Nat} {ds : List Da} (h : Sta K B0 ρ σ H) (hi : ρ[i]? = some (some (true, .lst (d :: ds)))) :
    ∃ p v xs, σ[i]? = some (some (.ref p)) ∧ H p = some (.lst (v :: xs)) ∧ xs.length = ds.length ∧ Sta K B0 (ow d :: ρ.set i (ow (.lst ds))) (some v :: σ) (upd H p (.lst xs)) := by
  obtain ⟨B, G0, e1, e2, sl, nd⟩ := h
  obtain ⟨w0, hv, _⟩ := (sl.rs e2).2 i true _ hi
  obtain ⟨C1, C2, C3, rfl, c, k⟩ := sl.rew hi hv
  cases c with
  | ow w f =>
    obtain ⟨p, xs, G, rfl, rfl, hp, ws⟩ := w.lst_inv
    cases ws with
    | @cons v vs _ _ F1 G1 wv wt =>
      obtain ⟨m1, m2, m3⟩ := List.nodup_append.mp nd
      obtain ⟨q1, q2, q3⟩ := List.nodup_append.mp m2
      obtain ⟨r1, r2⟩ := List.nodup_cons.mp q1
      have nt := noTup_lst hp
      have p1 : p ∉ C1 := fun z => m3 p z p (List.mem_append_left _ List.mem_cons_self) rfl
      have p3 : p ∉ C3 := fun z => q3 p List.mem_cons_self p z rfl
      have pF : p ∉ F1 := fun z => r1 (List.mem_append_left _ z)
      have pG : p ∉ G1 := fun z => r1 (List.mem_append_right _ z)
      refine ⟨p, v, vs, hv, hp, wt.length, B, F1 ++ (C1 ++ ((p :: G1) ++ C3)), e1, e2.mut (f p List.mem_cons_self) nt, .cons (.ow (wv.upd nt pF) fun a ha => f a (List.mem_cons_of_mem _ (List.mem_append_left _ ha))) (k nt p1 p3 (.ow (.lst upd_same (wt.upd nt pG)) fun a ha => ?_)), ?_⟩
      · rcases List.mem_cons.mp ha with rfl | ha
        · exact f _ List.mem_cons_self
        · exact f a (List.mem_cons_of_mem _ (List.mem_append_right _ ha))
      · refine (List.Perm.nodup_iff ?_).mp nd
        refine List.perm_iff_count.mpr fun a => ?_
        simp only [List.count_append, List.count_cons]
        omega
/-- a, b = xs.pop(0) -/
theorem j_popT {k n : Nat} {ks : List Nat} {es ds : List Da} (hk : ρ[k]? = some (some (true, .lst (.tup es :: ds)))) (hi : EvB K tb ρ (.int 0)) (hl : ds.length < 100000) (hn : es.length = n) (hl2 : n = ks.length) (hks : ∀ j, j ∈ ks → j < (ρ.set k (ow (.lst ds))).length)
    (q : P.nx (setAll (ρ.set k (ow (.lst ds))) ks (es.map ow))) : J K B0 (tAsg (tBM K "list" rPopAt (tVar k) (tCons tb tNil)) (gTup K n (gNs ks))) ρ P := fun φ τ D σ H l nx r bk ct s => by
  have hkF : (φ ++ ρ)[φ.length + k]? = some (some (true, .lst (.tup es :: ds))) := by rw [get_app rfl]; exact hk
  obtain ⟨p, v, xs, hv, hp, _, _⟩ := s.popL hkF
  rw [get_app l.symm] at hv
  refine ⟨.ref p, hv, .inl ⟨rfl, _, .of hp⟩, ?_⟩
  refine hi.int (Rs.f l s) fun H1 e1 => ?_
  obtain ⟨p', v', xs', hv', hp', hxl, s2⟩ := (s.ex e1).popL hkF
  rw [get_app l.symm, hv] at hv'
  cases hv'
  refine ⟨p, v' :: xs', 0, 0, v', rfl, rfl, hp', by decide, by decide, ?_, rfl, ?_⟩
  · have h0 : (0 : Int) < ((v' :: xs').length : Int) := by rw [List.length_cons]; omega
    simp [seqIndex?]
  · show _
    rw [set_app rfl] at s2
    obtain ⟨B, F, e1', e2', sl, nd⟩ := s2
    cases sl with
    | cons a b =>
      cases a with
      | ow a f =>
        obtain ⟨p2, ys, rfl, h1, h2⟩ := a.tup_inv
        refine ⟨p2, ys, rfl, h1, h2.length.trans hn, gNs_ok (by rw [h2.length, hn, hl2]) ?_⟩
        refine nx _ _ _ q (Sta.putAll (ss := es.map ow) l (by rw [List.length_map]; exact h2.length) (by rw [List.length_map, hn, hl2]) hks ?_)
        exact ⟨B, _, e1', e2', (Slots.ofOwns h2 f).join b, nd⟩
end
end Fw

set_option Elab.async false
set_option linter.all false
set_option maxRecDepth 100000
set_option maxHeartbeats 4000000
set_option pp.maxSteps 1200
namespace My
open PySem L2 Fw
def topS (i : Nat) : Stmt := PySem.Challenge.pw_figurewheel_k44_first_of.main.body.getD i (.Pass ⟨0, 0, 0, 0⟩)
structure Zb (mg : Str → Option Value) : Prop where
  all : mg "all" = none
  bool : mg "bool" = none
  divmod : mg "divmod" = none
  enumerate : mg "enumerate" = none
  int : mg "int" = none
  isinstance : mg "isinstance" = none
  len : mg "len" = none
  list : mg "list" = none
  min : mg "min" = none
  range : mg "range" = none
  set : mg "set" = none
  tuple : mg "tuple" = none
section
variable {P : Program} {w : World} {K : PySem.W.Frag} {mg : Str → Option Value} {base : Heap}
def G_look_at_base : List Da → Da → Prop := fun ds d => ∃ (base : Int), ds = [(Da.int base)] ∧ (2 ≤ base) ∧ (base ≤ 5) ∧ d = Da.non
abbrev s_look_at_base : Stmt := topS 4
theorem sc_look_at_base : FnScope ["base"] ["base"] (defScope s_look_at_base) := ⟨rfl, rfl, rfl, by decide +kernel, rfl, by decide +kernel, by decide +kernel⟩
theorem ok_look_at_base {f : Addr} {fd : FuncData} (F : Fun K "look_at_base" "look_at_base" s_look_at_base f fd) : FnOk P w K mg base CX0 1 f fd ["base"] (spF K G_look_at_base) := by
  refine fnok_of (k := 0) F sc_look_at_base (fun ds d h => ?_) (fun cdv A outer s H E hr => ?_)
  · obtain ⟨_, h, _⟩ := h; rw [h]; rfl
  · have hu := hu_of hr
    have hv := hv_of hr
    have hu0 := hr.units0
    refine ⟨_, (pss_one (ps_if (PW.pt (pw_or (pt_cmpR op_lt (pv 0) pe_int (nomark _)) (pw_or1 (pt_cmpR op_gt (pv 0) pe_int (nomark _))))) pss_never pss_nil)), ?_⟩
    rintro ds d ⟨base, rfl, hp0, hp1, rfl⟩
    show J K H _ [sh (Da.int base)] _
    refine j_no (et_or (et_test (ev_C0 (ev_var (k := 0) rfl) ev_int)) (fun hq => (et_test (ev_C0 (ev_var (k := 0) rfl) ev_int)))) (by rw [decide_eq_false (by omega), decide_eq_false (by omega)]; rfl) ?_
    refine j_next ?_
    rfl
theorem kn_look_at_base (S : Stands K mg "look_at_base" s_look_at_base) : Known P w K mg base "look_at_base" 1 (spF K G_look_at_base) 1 [] :=
  known_of (ps := ["base"]) S (fun _ _ _ _ _ _ us hl => match us, hl with | [_], _ => rfl) fun f fd F => ok_look_at_base F
def G_number_of : List Da → Da → Prop := fun ds d => ∃ (figures : List (Int)) (base : Int), ds = [(Da.lst (figures.map Da.int)), (Da.int base)] ∧ (2 ≤ base) ∧ (base ≤ 5) ∧ d = (Da.int (numOf base figures))
abbrev s_number_of : Stmt := topS 5
theorem sc_number_of : FnScope ["figures", "base", "place", "figure"] ["figures", "base"] (defScope s_number_of) := ⟨rfl, rfl, rfl, by decide +kernel, rfl, by decide +kernel, by decide +kernel⟩
theorem ok_number_of (g_look_at_base : Known P w K mg base "look_at_base" 1 (spF K G_look_at_base) 1 []) {f : Addr} {fd : FuncData} (F : FunD K "number_of" "number_of" (defArgs s_number_of) (defBody s_number_of) (defScope s_number_of) [V.int 2] [] f fd) : FnOk P w K mg base CX0 2 f fd ["figures", "base"] (spF K G_number_of) := by
  refine fnokD_of (k := 1) F sc_number_of (fun ds d h => ?_) (fun cdv A outer s H E hr => ?_)
  · obtain ⟨_, _, h, _⟩ := h; rw [h]; rfl
  · have hu := hu_of hr
    have hv := hv_of hr
    have hu0 := hr.units0
    refine ⟨_, (pss_cons (ps_expr (pe_known g_look_at_base (hr.mono (by decide)) (pa_cons (pv 1) pa_nil)))
      (pss_cons (ps_set (i := 2) sc_number_of.nd rfl (Or.inl rfl) pe_int)
      (pss_cons (ps_for PassesOwn.never rfl (show PI _ _ _ (iList K _) from pi_list (pv 0)) (pg_name (i := 3) sc_number_of.nd rfl (Or.inl rfl))
        (pss_one (ps_set (i := 2) sc_number_of.nd rfl (Or.inl rfl) (pe_op op_add (pe_op op_mulK (pv 2) (pv 1)) (pv 3)))))
      (pss_one (ps_ret (pv 2)))))), ?_⟩
    rintro ds d ⟨figures, base, rfl, hp0, hp1, rfl⟩
    show J K H _ [sh (Da.lst (figures.map Da.int)), sh (Da.int base), no, no] _
    refine j_seq (j_drop (EvF.g ((ev_call (ds := [(Da.int base)]) (d := Da.non) (ea_cons (ev_var (k := 1) rfl) ea_nil) ⟨base, rfl, (by first | omega | (simp only [List.length_map, List.length_range, List.length_append, List.length_cons, List.length_nil, List.length_replicate, List.length_set, List.length_take, List.length_drop, List.length_reverse] ; omega) | decide | assumption), (by first | omega | (simp only [List.length_map, List.length_range, List.length_append, List.length_cons, List.length_nil, List.length_replicate, List.length_set, List.length_take, List.length_drop, List.length_reverse] ; omega) | decide | assumption), rfl⟩))) ?_)
    show J K H _ [sh (Da.lst (figures.map Da.int)), sh (Da.int base), no, no] _
    refine j_seq (j_asg (d := (Da.int 0)) (EvF.m ((EvB.f (ev_int) rfl))) (Nat.le_of_ble_eq_true rfl) ?_)
    show J K H _ [sh (Da.lst (figures.map Da.int)), sh (Da.int base), ow (Da.int 0), no] _
    refine j_seq (j_for [] (k := 3) figures Da.int (ev_shv (k := 0) rfl) (fun i ρ => ρ = [sh (Da.lst (figures.map Da.int)), sh (Da.int base), ow (Da.int (numOf base (figures.take i))), no]) ?_ ?_ ?_ ?_)
    · rfl
    · rintro i ρ rfl; exact Nat.le_of_ble_eq_true rfl
    · rintro i x ρ hx rfl
      show J K H _ [sh (Da.lst (figures.map Da.int)), sh (Da.int base), ow (Da.int (numOf base (figures.take i))), sh (Da.int x)] _
      refine j_asg (d := (Da.int ((numOf base (figures.take i) * base) + x))) (EvF.m ((EvB.f ((ev_add (ev_mulK (ev_var (k := 2) rfl) (ev_var (k := 1) rfl) (CMul.ok (Or.inr ⟨by omega, by omega⟩))) (ev_var (k := 3) rfl))) rfl))) (Nat.le_of_ble_eq_true rfl) ?_
      show [_, _, ow (Da.int _), no] = [_, _, ow (Da.int _), no]
      rw [show numOf base (figures.take (i + 1)) = numOf base (figures.take i) * base + x from foldl_take _ _ hx]
    rintro ρ rfl
    show J K H _ [sh (Da.lst (figures.map Da.int)), sh (Da.int base), ow (Da.int (numOf base (figures.take figures.length))), no] _
    refine j_ret (d := (Da.int (numOf base (figures.take figures.length)))) (EvF.m ((EvB.f ((ev_var (k := 2) rfl)) rfl))) ?_
    show Da.int _ = Da.int _
    rw [List.take_length]
theorem kn_number_of (g_look_at_base : Known P w K mg base "look_at_base" 1 (spF K G_look_at_base) 1 []) (S : StandsD K mg "number_of" s_number_of [V.int 2]) : Known P w K mg base "number_of" 2 (spF K G_number_of) 2 [] :=
  knownD_of (ps := ["figures", "base"]) S 2 1 (by simp) rfl (fun T kV doc pm an cdv ct us its h1 h2 => match us, h1, its, h2 with | [_, _], _, [_], _ => ⟨_, rfl, rfl⟩) fun f fd F => ok_number_of g_look_at_base F
theorem kn_number_ofD (g_look_at_base : Known P w K mg base "look_at_base" 1 (spF K G_look_at_base) 1 []) (S : StandsD K mg "number_of" s_number_of [V.int 2]) : Known P w K mg base "number_of" 2 (spF K G_number_of) 2 [V.int 2] :=
  knownD_of (ps := ["figures", "base"]) S 1 0 (by simp) rfl (fun T kV doc pm an cdv ct us its h1 h2 => match us, h1, its, h2 with | [_], _, [_], _ => ⟨_, rfl, rfl⟩) fun f fd F => ok_number_of g_look_at_base F
def G_numbers_of : List Da → Da → Prop := fun ds d => ∃ (columns : List (List (Int))) (many : Int) (base : Int), ds = [(Da.lst (columns.map (eV Da.int))), (Da.int many), (Da.int base)] ∧ (∀ c, c ∈ columns → (c.length : Int) = many) ∧ (columns.length ≤ 10000) ∧ (0 ≤ many) ∧ (many ≤ 1000) ∧ (2 ≤ base) ∧ (base ≤ 5) ∧ d = (Da.lst ((numsOf base many columns).map Da.int))
abbrev s_numbers_of : Stmt := topS 6
theorem sc_numbers_of : FnScope ["columns", "many", "base", "column", "k"] ["columns", "many", "base"] (defScope s_numbers_of) := ⟨rfl, rfl, rfl, by decide +kernel, rfl, by decide +kernel, by decide +kernel⟩
theorem ok_numbers_of (Z : Zb mg) (g_look_at_base : Known P w K mg base "look_at_base" 1 (spF K G_look_at_base) 1 []) (g_number_of : Known P w K mg base "number_of" 2 (spF K G_number_of) 2 []) {f : Addr} {fd : FuncData} (F : FunD K "numbers_of" "numbers_of" (defArgs s_numbers_of) (defBody s_numbers_of) (defScope s_numbers_of) [V.int 2] [] f fd) : FnOk P w K mg base CX0 3 f fd ["columns", "many", "base"] (spF K G_numbers_of) := by
  refine fnokD_of (k := 2) F sc_numbers_of (fun ds d h => ?_) (fun cdv A outer s H E hr => ?_)
  · obtain ⟨_, _, _, h, _⟩ := h; rw [h]; rfl
  · have hu := hu_of hr
    have hv := hv_of hr
    have hu0 := hr.units0
    refine ⟨_, (pss_cons (ps_expr (pe_known g_look_at_base (hr.mono (by decide)) (pa_cons (pv 2) pa_nil)))
      (pss_one (ps_ret (pe_lc (own := [("k", 4)]) (g := gName 4) rfl sc_numbers_of.nd (pi_range1 (by rfl) Z.range (pa_cons (pv 1) pa_nil)) (blkOk_by (own := [("k", 4)]) (N := ["columns", "many", "base", "column", "k"]) (sc := defScope s_numbers_of) (by decide +kernel)) (fun _ _ _ _ _ => pg_name (i := 4) sc_numbers_of.nd rfl (Or.inr rfl)) (fun _ _ _ _ _ => pts_nil) (fun _ _ _ _ _ => (pe_known g_number_of (hr.mono (by decide)) (pa_cons (pe_lc (own := [("column", 3)]) (g := gName 3) rfl sc_numbers_of.nd (show PI _ _ _ (iList K _) from pi_list (pv 0)) (blkOk_by (own := [("column", 3)]) (N := ["columns", "many", "base", "column", "k"]) (sc := _) (by rfl)) (fun _ _ _ _ _ => pg_name (i := 3) sc_numbers_of.nd rfl (Or.inl rfl)) (fun _ _ _ _ _ => pts_nil) (fun _ _ _ _ _ => (pe_ix (r := rIx K) ix_seq (pv 3) (pv 4) (fun _ _ => rfl)))) (pa_cons (pv 2) pa_nil)))))))), ?_⟩
    rintro ds d ⟨columns, many, base, rfl, hp0, hp1, hp2, hp3, hp4, hp5, rfl⟩
    show J K H _ [sh (Da.lst (columns.map (eV Da.int))), sh (Da.int many), sh (Da.int base), no, no] _
    refine j_seq (j_drop (EvF.g ((ev_call (ds := [(Da.int base)]) (d := Da.non) (ea_cons (ev_var (k := 2) rfl) ea_nil) ⟨base, rfl, (by first | omega | (simp only [List.length_map, List.length_range, List.length_append, List.length_cons, List.length_nil, List.length_replicate, List.length_set, List.length_take, List.length_drop, List.length_reverse] ; omega) | (have hcl := hp0 _ h_column; omega) | decide | assumption), (by first | omega | (simp only [List.length_map, List.length_range, List.length_append, List.length_cons, List.length_nil, List.length_replicate, List.length_set, List.length_take, List.length_drop, List.length_reverse] ; omega) | (have hcl := hp0 _ h_column; omega) | decide | assumption), rfl⟩))) ?_)
    show J K H _ [sh (Da.lst (columns.map (eV Da.int))), sh (Da.int many), sh (Da.int base), no, no] _
    refine j_ret (d := (Da.lst (((List.range (many : Int).toNat).map fun (k : Nat) => numOf base (columns.map fun (column : List (Int)) => (column.getD k 0))).map Da.int))) ((EvF.is (d1 := (Da.lst (((List.range (many : Int).toNat).map fun (k : Nat) => numOf base (columns.map fun (column : List (Int)) => (column.getD k 0))).map Da.int))) (ef_lcR (n := many) (g := fun (k : Nat) => (Da.int (numOf base (columns.map fun (column : List (Int)) => (column.getD k 0))))) (ea_cons (ev_var (k := 1) rfl) ea_nil) (by decide) (by first | omega | (simp only [List.length_map, List.length_range, List.length_append, List.length_cons, List.length_nil, List.length_replicate, List.length_set, List.length_take, List.length_drop, List.length_reverse] ; omega) | (have hcl := hp0 _ h_column; omega) | decide) (fun k h_k => (ev_call (ds := [(Da.lst ((columns.map fun (column : List (Int)) => (column.getD k 0)).map Da.int)), (Da.int base)]) (d := (Da.int (numOf base (columns.map fun (column : List (Int)) => (column.getD k 0))))) (ea_cons (EvF.g ((EvF.is (d1 := (Da.lst ((columns.map fun (column : List (Int)) => (column.getD k 0)).map Da.int))) (ef_lc columns (eV Da.int) (fun (column : List (Int)) => (Da.int (column.getD k 0))) (ev_var (k := 0) rfl) (by decide) (by first | omega | (simp only [List.length_map, List.length_range, List.length_append, List.length_cons, List.length_nil, List.length_replicate, List.length_set, List.length_take, List.length_drop, List.length_reverse] ; omega) | (have hcl := hp0 _ h_column; omega) | decide) (fun column h_column => (EvB.f ((ev_ixT (ds := column.map Da.int) (i := (k : Int)) (d := (Da.int (column.getD k 0))) (ev_var (k := 3) rfl) (ev_var (k := 4) rfl) (at_mapN 0 (by first | omega | (simp only [List.length_map, List.length_range, List.length_append, List.length_cons, List.length_nil, List.length_replicate, List.length_set, List.length_take, List.length_drop, List.length_reverse] ; omega) | (have hcl := hp0 _ h_column; omega) | decide)))) rfl))) (by first | (simp only [List.map_map, Function.comp_def]; done) | (simp only [List.map_map, Function.comp_def, eV, eL, eP, eP3]; done) | rfl)))) (ea_cons (ev_var (k := 2) rfl) ea_nil)) ⟨(columns.map fun (column : List (Int)) => (column.getD k 0)), base, rfl, (by first | omega | (simp only [List.length_map, List.length_range, List.length_append, List.length_cons, List.length_nil, List.length_replicate, List.length_set, List.length_take, List.length_drop, List.length_reverse] ; omega) | (have hcl := hp0 _ h_column; omega) | decide | assumption), (by first | omega | (simp only [List.length_map, List.length_range, List.length_append, List.length_cons, List.length_nil, List.length_replicate, List.length_set, List.length_take, List.length_drop, List.length_reverse] ; omega) | (have hcl := hp0 _ h_column; omega) | decide | assumption), rfl⟩)) (by first | omega | (simp only [List.length_map, List.length_range, List.length_append, List.length_cons, List.length_nil, List.length_replicate, List.length_set, List.length_take, List.length_drop, List.length_reverse] ; omega) | (have hcl := hp0 _ h_column; omega) | decide)) (by first | (simp only [List.map_map, Function.comp_def]; done) | (simp only [List.map_map, Function.comp_def, eV, eL, eP, eP3]; done) | rfl))).m ?_
    first | rfl | simp
theorem kn_numbers_of (Z : Zb mg) (g_look_at_base : Known P w K mg base "look_at_base" 1 (spF K G_look_at_base) 1 []) (g_number_of : Known P w K mg base "number_of" 2 (spF K G_number_of) 2 []) (S : StandsD K mg "numbers_of" s_numbers_of [V.int 2]) : Known P w K mg base "numbers_of" 3 (spF K G_numbers_of) 3 [] :=
  knownD_of (ps := ["columns", "many", "base"]) S 3 1 (by simp) rfl (fun T kV doc pm an cdv ct us its h1 h2 => match us, h1, its, h2 with | [_, _, _], _, [_], _ => ⟨_, rfl, rfl⟩) fun f fd F => ok_numbers_of Z g_look_at_base g_number_of F
theorem kn_numbers_ofD (Z : Zb mg) (g_look_at_base : Known P w K mg base "look_at_base" 1 (spF K G_look_at_base) 1 []) (g_number_of : Known P w K mg base "number_of" 2 (spF K G_number_of) 2 []) (S : StandsD K mg "numbers_of" s_numbers_of [V.int 2]) : Known P w K mg base "numbers_of" 3 (spF K G_numbers_of) 3 [V.int 2] :=
  knownD_of (ps := ["columns", "many", "base"]) S 2 0 (by simp) rfl (fun T kV doc pm an cdv ct us its h1 h2 => match us, h1, its, h2 with | [_, _], _, [_], _ => ⟨_, rfl, rfl⟩) fun f fd F => ok_numbers_of Z g_look_at_base g_number_of F
def G_column_of : List Da → Da → Prop := fun ds d => ∃ (code : Int) (many : Int) (base : Int), ds = [(Da.int code), (Da.int many), (Da.int base)] ∧ (0 ≤ many) ∧ (many ≤ 1000) ∧ (2 ≤ base) ∧ (base ≤ 5) ∧ d = (Da.tup ((lowD base code many.toNat).map Da.int))
abbrev s_column_of : Stmt := topS 7
theorem sc_column_of : FnScope ["code", "many", "base", "figures", "k", "figure"] ["code", "many", "base"] (defScope s_column_of) := ⟨rfl, rfl, rfl, by decide +kernel, rfl, by decide +kernel, by decide +kernel⟩
theorem ok_column_of (Z : Zb mg) (g_look_at_base : Known P w K mg base "look_at_base" 1 (spF K G_look_at_base) 1 []) {f : Addr} {fd : FuncData} (F : FunD K "column_of" "column_of" (defArgs s_column_of) (defBody s_column_of) (defScope s_column_of) [V.int 2] [] f fd) : FnOk P w K mg base CX0 2 f fd ["code", "many", "base"] (spF K G_column_of) := by
  refine fnokD_of (k := 1) F sc_column_of (fun ds d h => ?_) (fun cdv A outer s H E hr => ?_)
  · obtain ⟨_, _, _, h, _⟩ := h; rw [h]; rfl
  · have hu := hu_of hr
    have hv := hv_of hr
    have hu0 := hr.units0
    refine ⟨_, (pss_cons (ps_expr (pe_known g_look_at_base (hr.mono (by decide)) (pa_cons (pv 2) pa_nil)))
      (pss_cons (ps_set (i := 3) sc_column_of.nd rfl (Or.inl rfl) (pe_lst pa_nil))
      (pss_cons (ps_for PassesOwn.never rfl (pi_range1 (by rfl) Z.range (pa_cons (pv 1) pa_nil)) (pg_name (i := 4) sc_column_of.nd rfl (Or.inl rfl))
        (pss_cons (ps_asg (pe_callB call_divmod (by rfl) Z.divmod (by decide +kernel) (pa_cons (pv 0) (pa_cons (pv 2) pa_nil))) (pg_tup rfl (pgs_cons (pg_name (i := 0) sc_column_of.nd rfl (Or.inl rfl)) (pgs_cons (pg_name (i := 5) sc_column_of.nd rfl (Or.inl rfl)) pgs_nil))))
      (pss_one (ps_expr (pe_bm PySem.F.plainAttrs_list PySem.F.slot_list_insert PySem.F.type_list_insert mt_insert (pv 3) (pa_cons pe_int (pa_cons (pv 5) pa_nil)))))))
      (pss_one (ps_ret (pe_callTy (T := "tuple") (r := rTupOf K) call_tuple_of (by rfl) Z.tuple (by decide +kernel) (pa_cons (pv 3) pa_nil))))))), ?_⟩
    rintro ds d ⟨code, many, base, rfl, hp0, hp1, hp2, hp3, rfl⟩
    show J K H _ [sh (Da.int code), sh (Da.int many), sh (Da.int base), no, no, no] _
    refine j_seq (j_drop (EvF.g ((ev_call (ds := [(Da.int base)]) (d := Da.non) (ea_cons (ev_var (k := 2) rfl) ea_nil) ⟨base, rfl, (by first | omega | (simp only [List.length_map, List.length_range, List.length_append, List.length_cons, List.length_nil, List.length_replicate, List.length_set, List.length_take, List.length_drop, List.length_reverse] ; omega) | decide | assumption), (by first | omega | (simp only [List.length_map, List.length_range, List.length_append, List.length_cons, List.length_nil, List.length_replicate, List.length_set, List.length_take, List.length_drop, List.length_reverse] ; omega) | decide | assumption), rfl⟩))) ?_)
    show J K H _ [sh (Da.int code), sh (Da.int many), sh (Da.int base), no, no, no] _
    refine j_seq (j_asg (d := (Da.lst ([].map Da.int))) ((ef_lst (ds := []) eaf_nil (Nat.le_of_ble_eq_true rfl))).m (Nat.le_of_ble_eq_true rfl) ?_)
    show J K H _ [sh (Da.int code), sh (Da.int many), sh (Da.int base), ow (Da.lst ([].map Da.int)), no, no] _
    refine j_own (k := 0) rfl rfl ?_
    show J K H _ [ow (Da.int code), sh (Da.int many), sh (Da.int base), ow (Da.lst ([].map Da.int)), no, no] _
    refine j_seq (j_range1 [5] (k := 4) (n := many) (ea_cons (ev_var (k := 1) rfl) ea_nil) (by first | omega | (simp only [List.length_map, List.length_range, List.length_append, List.length_cons, List.length_nil, List.length_replicate, List.length_set, List.length_take, List.length_drop, List.length_reverse] ; omega) | decide) (fun i ρ => ρ = [ow (Da.int (cdiv base code i)), sh (Da.int many), sh (Da.int base), ow (Da.lst ((lowD base code i).map Da.int)), no, no]) ?_ ?_ ?_ ?_ (by first | omega | (simp only [List.length_map, List.length_range, List.length_append, List.length_cons, List.length_nil, List.length_replicate, List.length_set, List.length_take, List.length_drop, List.length_reverse] ; omega) | decide))
    · rfl
    · rintro i ρ rfl; exact Nat.le_of_ble_eq_true rfl
    · rintro i ρ hi rfl
      have hll := lowD_len base code i
      show J K H _ [ow (Da.int (cdiv base code i)), sh (Da.int many), sh (Da.int base), ow (Da.lst ((lowD base code i).map Da.int)), ow (Da.int (i : Nat)), no] _
      refine j_seq (j_asgT (ks := [0, 5]) (ds := [(Da.int (cdiv base code i / base)), (Da.int (cdiv base code i % base))]) ((ef_divmod (ev_var (k := 0) rfl) (ev_var (k := 2) rfl) ⟨(by first | omega | (simp only [List.length_map, List.length_range, List.length_append, List.length_cons, List.length_nil, List.length_replicate, List.length_set, List.length_take, List.length_drop, List.length_reverse] ; omega) | decide), (by first | omega | (simp only [List.length_map, List.length_range, List.length_append, List.length_cons, List.length_nil, List.length_replicate, List.length_set, List.length_take, List.length_drop, List.length_reverse] ; omega) | decide)⟩)).m rfl rfl (by simp) ?_)
      show J K H _ [ow (Da.int (cdiv base code i / base)), sh (Da.int many), sh (Da.int base), ow (Da.lst ((lowD base code i).map Da.int)), ow (Da.int (i : Nat)), ow (Da.int (cdiv base code i % base))] _
      refine j_insert0 (k := 3) (ds := (lowD base code i).map Da.int) (d := (Da.int (cdiv base code i % base))) (ev_var (k := 5) rfl) rfl rfl (by first | omega | (simp only [List.length_map, List.length_range, List.length_append, List.length_cons, List.length_nil, List.length_replicate, List.length_set, List.length_take, List.length_drop, List.length_reverse] ; omega) | decide) ?_ ev_int insert0_ok
      rfl
    rintro ρ rfl
    show J K H _ [ow (Da.int (cdiv base code (many : Int).toNat)), sh (Da.int many), sh (Da.int base), ow (Da.lst ((lowD base code (many : Int).toNat).map Da.int)), no, no] _
    refine j_ret (d := (Da.tup ((lowD base code (many : Int).toNat).map Da.int))) ((ef_tupL (ev_var (k := 3) rfl) (imms_map _ (fun _ => rfl) _))).m ?_
    rfl
theorem kn_column_of (Z : Zb mg) (g_look_at_base : Known P w K mg base "look_at_base" 1 (spF K G_look_at_base) 1 []) (S : StandsD K mg "column_of" s_column_of [V.int 2]) : Known P w K mg base "column_of" 2 (spF K G_column_of) 3 [] :=
  knownD_of (ps := ["code", "many", "base"]) S 3 1 (by simp) rfl (fun T kV doc pm an cdv ct us its h1 h2 => match us, h1, its, h2 with | [_, _, _], _, [_], _ => ⟨_, rfl, rfl⟩) fun f fd F => ok_column_of Z g_look_at_base F
theorem kn_column_ofD (Z : Zb mg) (g_look_at_base : Known P w K mg base "look_at_base" 1 (spF K G_look_at_base) 1 []) (S : StandsD K mg "column_of" s_column_of [V.int 2]) : Known P w K mg base "column_of" 2 (spF K G_column_of) 3 [V.int 2] :=
  knownD_of (ps := ["code", "many", "base"]) S 2 0 (by simp) rfl (fun T kV doc pm an cdv ct us its h1 h2 => match us, h1, its, h2 with | [_, _], _, [_], _ => ⟨_, rfl, rfl⟩) fun f fd F => ok_column_of Z g_look_at_base F
def G_first_letters : List Da → Da → Prop := fun ds d => (∃ (machine : (List (List (Int)) × List (Int))) (L : Int) (w : List Int), ds = [(Da.tup [(Da.tup (machine.1.map (eV Da.int))), (Da.tup (machine.2.map Da.int))])] ∧ (Okm machine L) ∧ (1 ≤ L) ∧ (machine.1.length ≤ 1000) ∧ (L ≤ 1000) ∧ (Fst machine L w) ∧ d = (Da.lst (w.map Da.int))) ∨ (∃ (machine : (List (List (Int)) × List (Int))) (L : Int), ds = [(Da.tup [(Da.tup (machine.1.map (eV Da.int))), (Da.tup (machine.2.map Da.int))])] ∧ (Okm machine L) ∧ (1 ≤ L) ∧ (machine.1.length ≤ 1000) ∧ (L ≤ 1000) ∧ (∀ v, okW L v → beh machine 0 v ≠ 1) ∧ d = Da.non)
abbrev s_first_letters : Stmt := topS 9
theorem sc_first_letters : FnScope ["machine", "waiting", "met", "room", "letters", "letter", "other"] ["machine"] (defScope s_first_letters) := ⟨rfl, rfl, rfl, by decide +kernel, rfl, by decide +kernel, by decide +kernel⟩
theorem ok_first_letters (Z : Zb mg) {f : Addr} {fd : FuncData} (F : Fun K "first_letters" "first_letters" s_first_letters f fd) : FnOk P w K mg base CX0 1 f fd ["machine"] (spF K G_first_letters) := by
  refine fnok_of (k := 0) F sc_first_letters (fun ds d h => ?_) (fun cdv A outer s H E hr => ?_)
  · rcases h with ⟨_, _, _, h, _⟩ | ⟨_, _, h, _⟩ <;> (rw [h]; rfl)
  · have hu := hu_of hr
    have hv := hv_of hr
    have hu0 := hr.units0
    refine ⟨_, (pss_cons (ps_if (pt_cmpR op_eq (pe_ix (r := rIx K) ix_seq (pe_ix (r := rIx K) ix_seq (pv 0) pe_int (fun _ _ => rfl)) pe_int (fun _ _ => rfl)) pe_int (nomark _)) (pss_one (ps_ret (pe_lst pa_nil))) pss_nil)
      (pss_cons (ps_set (i := 1) sc_first_letters.nd rfl (Or.inl rfl) (pe_lst (pa_cons (pe_tup (pa_cons pe_int (pa_cons (pe_lst pa_nil) pa_nil))) pa_nil)))
      (pss_cons (ps_set (i := 2) sc_first_letters.nd rfl (Or.inl rfl) (pe_gdisp1 hv pe_int pe_bl))
      (pss_cons (ps_while PassesOwn.never (pt_cmpR op_gt (pe_callB (r := rLenV K) call_len (by rfl) Z.len (by decide +kernel) (pa_cons (pv 1) pa_nil)) pe_int (nomark _)) (pss_cons (ps_asg (show PE _ _ (tBM K "list" rPopAt _ _) from pe_bm PySem.F.plainAttrs_list PySem.F.slot_list_pop PySem.F.type_list_pop mt_popAt (pv 1) (pa_cons pe_int pa_nil)) (pg_tup rfl (pgs_cons (pg_name (i := 3) sc_first_letters.nd rfl (Or.inl rfl)) (pgs_cons (pg_name (i := 4) sc_first_letters.nd rfl (Or.inl rfl)) pgs_nil))))
      (pss_one (ps_for PassesOwn.never rfl (show PI _ _ _ (iEnumT K _) from pi_enumT (by rfl) Z.enumerate (pa_cons (pe_ix (r := rIx K) ix_seq (pe_ix (r := rIx K) ix_seq (pv 0) pe_int (fun _ _ => rfl)) (pv 3) (fun _ _ => rfl)) pa_nil)) (pg_tup rfl (pgs_cons (pg_name (i := 5) sc_first_letters.nd rfl (Or.inl rfl)) (pgs_cons (pg_name (i := 6) sc_first_letters.nd rfl (Or.inl rfl)) pgs_nil)))
        (pss_one (ps_if (pt_cmp (pc_gnotin hv (pv 6) (pv 2))) (pss_cons (ps_gput hv (pv 2) (pv 6) pe_bl rfl)
      (pss_cons (ps_if (pt_cmpR op_eq (pe_ix (r := rIx K) ix_seq (pe_ix (r := rIx K) ix_seq (pv 0) pe_int (fun _ _ => rfl)) (pv 6) (fun _ _ => rfl)) pe_int (nomark _)) (pss_one (ps_ret (pe_op op_catR (pv 4) (pe_lst (pa_cons (pv 5) pa_nil))))) pss_nil)
      (pss_one (ps_expr (pe_bm PySem.F.plainAttrs_list PySem.F.slot_list_append PySem.F.type_list_append mt_append (pv 1) (pa_cons (pe_tup (pa_cons (pv 6) (pa_cons (pe_op op_catR (pv 4) (pe_lst (pa_cons (pv 5) pa_nil))) pa_nil))) pa_nil)))))) pss_nil))))))
      (pss_one (ps_ret pe_non)))))), ?_⟩
    intro ds d h
    rcases h with ⟨machine, L, w, rfl, hp0, hp1, hp2, hp3, hp4, rfl⟩ | ⟨machine, L, rfl, hp0, hp1, hp2, hp3, hp4, rfl⟩
    · have hps := hp0.pos
      have hsg := hp0.sg
      show J K H _ [sh (Da.tup [(Da.tup (machine.1.map (eV Da.int))), (Da.tup (machine.2.map Da.int))]), no, no, no, no, no, no] _
      refine j_seq (j_if (et_test (ev_eqI (ev_ixT (ds := machine.2.map Da.int) (i := 0) (d := (Da.int (machine.2.getD 0 0))) (ev_ixT (ds := [(Da.tup (machine.1.map (eV Da.int))), (Da.tup (machine.2.map Da.int))]) (i := 1) (d := (Da.tup (machine.2.map Da.int))) (ev_var (k := 0) rfl) ev_int rfl) ev_int (atI_map (k := 0) rfl (getD_some 0 (by first | omega | (simp only [List.length_map, List.length_range, List.length_append, List.length_cons, List.length_nil, List.length_replicate, List.length_set, List.length_take, List.length_drop, List.length_reverse] ; omega) | decide)))) ev_int)) (fun hc => ?_) (fun hc => ?_))
      · have hy : sgR machine ((([z2] : List It2).getD 0 z2).1) = 1 := of_decide_eq_true hc
        refine j_ret (d := (Da.lst ([].map Da.int))) ((ef_lst (ds := []) eaf_nil (Nat.le_of_ble_eq_true rfl))).m ?_
        show Da.lst _ = Da.lst _
        rw [← (Fq.zero hp0).found hp1 Nat.one_pos (fun j hj => absurd hj (Nat.not_lt_zero _)) hy hp4]; rfl
      · refine j_next ?_
        show J K H _ [sh (Da.tup [(Da.tup (machine.1.map (eV Da.int))), (Da.tup (machine.2.map Da.int))]), no, no, no, no, no, no] _
        have hn0 : sgR machine 0 ≠ 1 := of_decide_eq_false hc
        refine j_seq (j_asg (d := (Da.lst ([(0, [])].map (eP Da.int (eL Da.int))))) ((ef_lst (ds := [(Da.tup [(Da.int 0), (Da.lst ([].map Da.int))])]) (eaf_cons (ef_tup (ds := [(Da.int 0), (Da.lst ([].map Da.int))]) (eaf_cons (EvB.f (ev_int) rfl) (eaf_cons (ef_lst (ds := []) eaf_nil (Nat.le_of_ble_eq_true rfl)) eaf_nil)) (Nat.le_of_ble_eq_true rfl)) eaf_nil) (Nat.le_of_ble_eq_true rfl))).m (Nat.le_of_ble_eq_true rfl) ?_)
        show J K H _ [sh (Da.tup [(Da.tup (machine.1.map (eV Da.int))), (Da.tup (machine.2.map Da.int))]), ow (Da.lst ([(0, [])].map (eP Da.int (eL Da.int)))), no, no, no, no, no] _
        refine j_seq (j_asg (d := ((eD false Da.int Da.bl) [((0 : Int), (true : Bool))])) ((ef_disp1 kkI (ek := Da.int) (ev := Da.bl) (x := 0) (v := true) ev_int (EvB.f (ev_bl) rfl))).m (Nat.le_of_ble_eq_true rfl) ?_)
        show J K H _ [sh (Da.tup [(Da.tup (machine.1.map (eV Da.int))), (Da.tup (machine.2.map Da.int))]), ow (Da.lst ([(0, [])].map (eP Da.int (eL Da.int)))), ow ((eD false Da.int Da.bl) [((0 : Int), (true : Bool))]), no, no, no, no] _
        refine j_seq (j_while [3, 4, 5, 6] (fun b : Nat × List It2 => [sh (Da.tup [(Da.tup (machine.1.map (eV Da.int))), (Da.tup (machine.2.map Da.int))]), ow (Da.lst ((b.2.drop b.1).map (eP Da.int (eL Da.int)))), ow ((eD false Da.int Da.bl) (metT b.2)), no, no, no, no]) (fun b : Nat × List It2 => Fq machine L.toNat b.1 0 b.2 ∧ b.1 ≤ b.2.length ∧ ∀ q, q ∈ b.2 → sgR machine q.1 ≠ 1) (fun b : Nat × List It2 => (machine.1.length - b.1 : Nat)) (0, [z2]) rfl ?_ ?_)
        · exact ⟨Fq.zero hp0, Nat.zero_le _, fun q hq => by rw [List.mem_singleton.mp hq]; exact hn0⟩
        rintro ⟨a, os⟩ hI
        obtain ⟨hF, hA, hN⟩ : Fq machine L.toNat a 0 os ∧ a ≤ os.length ∧ ∀ q, q ∈ os → sgR machine q.1 ≠ 1 := hI
        refine ⟨(decide (0 < (((os.drop a).length) : Int))), (et_test (ev_C0 (EvB.is (d1 := Da.int ((os.drop a).length : Nat)) (ev_len (ev_var (k := 1) rfl)) (by simp only [List.length_map])) ev_int)), fun hc => ?_, fun hc => ?_⟩
        · have ha : a < os.length := by
            have hc' := of_decide_eq_true hc
            rw [List.length_drop] at hc'
            omega
          have hfew := hF.few
          obtain ⟨rm, ls, hq⟩ : ∃ rm ls, os.getD a z2 = (rm, ls) := ⟨_, _, rfl⟩
          have hdr : os.drop a = (rm, ls) :: os.drop (a + 1) := by rw [drop_next z2 ha, hq]
          have hmq : (rm, ls) ∈ os := hq ▸ getD_mem' ha
          have hrm : inR machine rm := hF.al _ hmq
          have hr1 := hrm.1
          have hr2 := hrm.2
          have hrow := hp0.row hr1 hr2
          have hll : ls.length ≤ a := by have := hF.ln a ha; rw [hq] at this; exact this
          show J K H _ [sh (Da.tup [(Da.tup (machine.1.map (eV Da.int))), (Da.tup (machine.2.map Da.int))]), ow (Da.lst ((os.drop a).map (eP Da.int (eL Da.int)))), ow ((eD false Da.int Da.bl) (metT os)), no, no, no, no] _
          rw [hdr]
          refine j_seq (j_popT (k := 1) (ks := [3, 4]) (es := [(Da.int rm), (Da.lst (ls.map Da.int))]) (ds := (os.drop (a + 1)).map (eP Da.int (eL Da.int))) rfl ev_int (by first | omega | (simp only [List.length_map, List.length_range, List.length_append, List.length_cons, List.length_nil, List.length_replicate, List.length_set, List.length_take, List.length_drop, List.length_reverse] ; omega) | decide) rfl rfl (by simp) ?_)
          show J K H _ [sh (Da.tup [(Da.tup (machine.1.map (eV Da.int))), (Da.tup (machine.2.map Da.int))]), ow (Da.lst ((os.drop (a + 1)).map (eP Da.int (eL Da.int)))), ow ((eD false Da.int Da.bl) (metT os)), ow (Da.int rm), ow (Da.lst (ls.map Da.int)), no, no] _
          refine j_forW [] (ks := [5, 6]) (e := (fun p : (Nat × Int) => [.int (p.1 : Nat), Da.int p.2])) (wkS_enumT (xs := (machine.1.getD (rm : Int).toNat [])) (e0 := Da.int) (((ev_ixT (ds := machine.1.map (eV Da.int)) (i := rm) (d := (Da.tup ((machine.1.getD (rm : Int).toNat []).map Da.int))) (ev_ixT (ds := [(Da.tup (machine.1.map (eV Da.int))), (Da.tup (machine.2.map Da.int))]) (i := 0) (d := (Da.tup (machine.1.map (eV Da.int)))) (ev_var (k := 0) rfl) ev_int rfl) (ev_var (k := 3) rfl) (at_map [] (by first | omega | (simp only [List.length_map, List.length_range, List.length_append, List.length_cons, List.length_nil, List.length_replicate, List.length_set, List.length_take, List.length_drop, List.length_reverse] ; omega) | decide) (by first | omega | (simp only [List.length_map, List.length_range, List.length_append, List.length_cons, List.length_nil, List.length_replicate, List.length_set, List.length_take, List.length_drop, List.length_reverse] ; omega) | decide)))).s (imm_V (fun _ => rfl) _))) (fun i ρ => (∀ q, q ∈ (turnG (nxR machine) (rm, ls) os i) → sgR machine q.1 ≠ 1) ∧ ρ = [sh (Da.tup [(Da.tup (machine.1.map (eV Da.int))), (Da.tup (machine.2.map Da.int))]), ow (Da.lst ((((turnG (nxR machine) (rm, ls) os i)).drop (a + 1)).map (eP Da.int (eL Da.int)))), ow ((eD false Da.int Da.bl) (metT (turnG (nxR machine) (rm, ls) os i))), ow (Da.int rm), ow (Da.lst (ls.map Da.int)), no, no]) ?_ ?_ (fun _ => rfl) ?_ ?_
          · exact ⟨hN, rfl⟩
          · rintro i ρ ⟨hf0, rfl⟩; exact lt_all (n := 7) rfl rfl
          · rintro i x ρ hx ⟨hf0, rfl⟩
            have hil := (List.getElem?_eq_some_iff.mp hx).1
            rw [num_len] at hil
            have hx1 := (num_at hx).1
            have hx2 : x.2 = nxR machine rm i := by
              have := (num_at hx).2
              rw [nxR, List.getD_eq_getElem?_getD, this]; rfl
            have hT := hF.turn hp0 ha i (by omega)
            rw [hq] at hT
            have hTf := hT.few
            have hTl := metT_len (turnG (nxR machine) (rm, ls) os i)
            obtain ⟨tt, htt⟩ := turnG_pre (nxR machine) (rm, ls) os i
            have hTa : a < ((turnG (nxR machine) (rm, ls) os i)).length := by rw [htt, List.length_append]; omega
            have hTg : ((turnG (nxR machine) (rm, ls) os i)).getD a z2 = (rm, ls) := by rw [htt, getD_app _ ha]; exact hq
            have hxr : inR machine x.2 := by rw [hx2]; exact inR_step hp0 hrm (show 0 ≤ (i : Int) ∧ (i : Int) < L by omega)
            have hxr1 := hxr.1
            have hxr2 := hxr.2
            have hdl : (((turnG (nxR machine) (rm, ls) os i)).drop (a + 1)).length ≤ 1000 := by rw [List.length_drop]; omega
            show J K H _ [sh (Da.tup [(Da.tup (machine.1.map (eV Da.int))), (Da.tup (machine.2.map Da.int))]), ow (Da.lst ((((turnG (nxR machine) (rm, ls) os i)).drop (a + 1)).map (eP Da.int (eL Da.int)))), ow ((eD false Da.int Da.bl) (metT (turnG (nxR machine) (rm, ls) os i))), ow (Da.int rm), ow (Da.lst (ls.map Da.int)), sh (Da.int (x.1 : Nat)), sh (Da.int x.2)] _
            refine j_if (et_test (ev_dnotin kkI (ev := Da.bl) (l := (metT (turnG (nxR machine) (rm, ls) os i))) (x := x.2) (ev_var (k := 6) rfl) (ev_var (k := 2) rfl))) (fun hc => ?_) (fun hc => ?_)
            · have hnew : x.2 ∉ ((turnG (nxR machine) (rm, ls) os i)).map (·.1) := by
                rw [metT_in] at hc
                simpa using hc
              refine j_seq (j_dput kkI (k := 2) (l := (metT (turnG (nxR machine) (rm, ls) os i))) (x := x.2) (v := true) (ev := Da.bl) ev_bl (ev_var (k := 6) rfl) (fun _ => rfl) rfl (by first | omega | (simp only [List.length_map, List.length_range, List.length_append, List.length_cons, List.length_nil, List.length_replicate, List.length_set, List.length_take, List.length_drop, List.length_reverse] ; omega) | decide) ?_)
              show J K H _ [sh (Da.tup [(Da.tup (machine.1.map (eV Da.int))), (Da.tup (machine.2.map Da.int))]), ow (Da.lst ((((turnG (nxR machine) (rm, ls) os i)).drop (a + 1)).map (eP Da.int (eL Da.int)))), ow ((eD false Da.int Da.bl) (put (metT (turnG (nxR machine) (rm, ls) os i)) x.2 true)), ow (Da.int rm), ow (Da.lst (ls.map Da.int)), sh (Da.int (x.1 : Nat)), sh (Da.int x.2)] _
              refine j_seq (j_if (et_test (ev_eqI (ev_ixT (ds := machine.2.map Da.int) (i := x.2) (d := (Da.int (machine.2.getD (x.2 : Int).toNat 0))) (ev_ixT (ds := [(Da.tup (machine.1.map (eV Da.int))), (Da.tup (machine.2.map Da.int))]) (i := 1) (d := (Da.tup (machine.2.map Da.int))) (ev_var (k := 0) rfl) ev_int rfl) (ev_var (k := 6) rfl) (at_map 0 (by first | omega | (simp only [List.length_map, List.length_range, List.length_append, List.length_cons, List.length_nil, List.length_replicate, List.length_set, List.length_take, List.length_drop, List.length_reverse] ; omega) | decide) (by first | omega | (simp only [List.length_map, List.length_range, List.length_append, List.length_cons, List.length_nil, List.length_replicate, List.length_set, List.length_take, List.length_drop, List.length_reverse] ; omega) | decide))) ev_int)) (fun hc => ?_) (fun hc => ?_))
              · have hy10 : sgR machine x.2 = 1 := of_decide_eq_true hc
                refine j_ret (d := (Da.lst (((ls : List Int) ++ [(x.1 : Int)]).map Da.int))) ((EvF.is (d1 := (Da.lst (((ls : List Int) ++ [(x.1 : Int)]).map Da.int))) (ef_cat (ds := ls.map Da.int) (es := [(x.1 : Int)].map Da.int) (ev_var (k := 4) rfl) (EvF.g ((ef_lst (ds := [(Da.int (x.1 : Int))]) (eaf_cons (EvB.f ((ev_var (k := 5) rfl)) rfl) eaf_nil) (Nat.le_of_ble_eq_true rfl)))) (imms_map _ (fun _ => rfl) _) (imms_map _ (fun _ => rfl) _) (by first | omega | (simp only [List.length_map, List.length_range, List.length_append, List.length_cons, List.length_nil, List.length_replicate, List.length_set, List.length_take, List.length_drop, List.length_reverse] ; omega) | decide)) (by simp only [List.map_append]))).m ?_
                have hfn := hT.found_next hp1 hTa (show i < L.toNat by omega) hf0 (by rw [hTg, ← hx2]; exact hy10) hp4
                rw [hTg] at hfn
                show Da.lst _ = Da.lst _
                rw [hx1, ← hfn]
              · refine j_next ?_
                show J K H _ [sh (Da.tup [(Da.tup (machine.1.map (eV Da.int))), (Da.tup (machine.2.map Da.int))]), ow (Da.lst ((((turnG (nxR machine) (rm, ls) os i)).drop (a + 1)).map (eP Da.int (eL Da.int)))), ow ((eD false Da.int Da.bl) (put (metT (turnG (nxR machine) (rm, ls) os i)) x.2 true)), ow (Da.int rm), ow (Da.lst (ls.map Da.int)), sh (Da.int (x.1 : Nat)), sh (Da.int x.2)] _
                have hs10 : sgR machine x.2 ≠ 1 := of_decide_eq_false hc
                refine j_append (k := 1) (ds := (((turnG (nxR machine) (rm, ls) os i)).drop (a + 1)).map (eP Da.int (eL Da.int))) (d := (Da.tup [(Da.int x.2), (Da.lst (((ls : List Int) ++ [(x.1 : Int)]).map Da.int))])) ((ef_tup (ds := [(Da.int x.2), (Da.lst (((ls : List Int) ++ [(x.1 : Int)]).map Da.int))]) (eaf_cons (EvB.f ((ev_var (k := 6) rfl)) rfl) (eaf_cons (EvF.is (d1 := (Da.lst (((ls : List Int) ++ [(x.1 : Int)]).map Da.int))) (ef_cat (ds := ls.map Da.int) (es := [(x.1 : Int)].map Da.int) (ev_var (k := 4) rfl) (EvF.g ((ef_lst (ds := [(Da.int (x.1 : Int))]) (eaf_cons (EvB.f ((ev_var (k := 5) rfl)) rfl) eaf_nil) (Nat.le_of_ble_eq_true rfl)))) (imms_map _ (fun _ => rfl) _) (imms_map _ (fun _ => rfl) _) (by first | omega | (simp only [List.length_map, List.length_range, List.length_append, List.length_cons, List.length_nil, List.length_replicate, List.length_set, List.length_take, List.length_drop, List.length_reverse] ; omega) | decide)) (by simp only [List.map_append])) eaf_nil)) (Nat.le_of_ble_eq_true rfl))).m rfl rfl (by first | omega | (simp only [List.length_map, List.length_range, List.length_append, List.length_cons, List.length_nil, List.length_replicate, List.length_set, List.length_take, List.length_drop, List.length_reverse] ; omega) | decide) ?_
                rw [show ((((turnG (nxR machine) (rm, ls) os i)).drop (a + 1)).map (eP Da.int (eL Da.int)) ++ [(Da.tup [(Da.int x.2), (Da.lst (((ls : List Int) ++ [(x.1 : Int)]).map Da.int))])] : List Da) = ((((turnG (nxR machine) (rm, ls) os i)).drop (a + 1)) ++ [(x.2, ((ls : List Int) ++ [(x.1 : Int)]))]).map (eP Da.int (eL Da.int)) from app_one (eP Da.int (eL Da.int)) (((turnG (nxR machine) (rm, ls) os i)).drop (a + 1)) (x.2, ((ls : List Int) ++ [(x.1 : Int)]))]
                first
                  | (refine ⟨fun q hq' => ?_, ?_⟩
                     · rw [turnG_succ, addG, if_neg (by rw [← hx2]; exact hnew)] at hq'
                       rcases List.mem_append.mp hq' with h | h
                       · exact hf0 q h
                       · rw [List.mem_singleton.mp h, ← hx2]; exact hs10
                     · show [_, ow (Da.lst _), ow (eD _ _ _ _), _, _, no, no] = [_, ow (Da.lst _), ow (eD _ _ _ _), _, _, no, no]
                       rw [turnG_succ, addG, if_neg (by rw [← hx2]; exact hnew), ← hx2, hx1, metT_put (l := ls ++ [(i : Int)]) hnew, List.drop_append_of_le_length (by omega)])
                  | (refine ⟨fun q hq' => ?_, ?_⟩
                     · rw [turnG_succ, addG, if_pos (by rw [← hx2]; exact hold)] at hq'
                       exact hf0 q hq'
                     · show [_, ow (Da.lst _), ow (eD _ _ _ _), _, _, no, no] = [_, ow (Da.lst _), ow (eD _ _ _ _), _, _, no, no]
                       rw [turnG_succ, addG, if_pos (by rw [← hx2]; exact hold)])
            · refine j_next ?_
              have hold : x.2 ∈ ((turnG (nxR machine) (rm, ls) os i)).map (·.1) := by
                rw [metT_in] at hc
                simpa using hc
              first
                | (refine ⟨fun q hq' => ?_, ?_⟩
                   · rw [turnG_succ, addG, if_neg (by rw [← hx2]; exact hnew)] at hq'
                     rcases List.mem_append.mp hq' with h | h
                     · exact hf0 q h
                     · rw [List.mem_singleton.mp h, ← hx2]; exact hs10
                   · show [_, ow (Da.lst _), ow (eD _ _ _ _), _, _, no, no] = [_, ow (Da.lst _), ow (eD _ _ _ _), _, _, no, no]
                     rw [turnG_succ, addG, if_neg (by rw [← hx2]; exact hnew), ← hx2, hx1, metT_put (l := ls ++ [(i : Int)]) hnew, List.drop_append_of_le_length (by omega)])
                | (refine ⟨fun q hq' => ?_, ?_⟩
                   · rw [turnG_succ, addG, if_pos (by rw [← hx2]; exact hold)] at hq'
                     exact hf0 q hq'
                   · show [_, ow (Da.lst _), ow (eD _ _ _ _), _, _, no, no] = [_, ow (Da.lst _), ow (eD _ _ _ _), _, _, no, no]
                     rw [turnG_succ, addG, if_pos (by rw [← hx2]; exact hold)])
          rintro ρ ⟨hf0, rfl⟩
          refine ⟨((a + 1), (turnG (nxR machine) (rm, ls) os (num (machine.1.getD (rm : Int).toNat [])).length)), rfl, ?_, ?_⟩
          · have hTn := hF.turn hp0 ha (num (machine.1.getD (rm : Int).toNat [])).length (by rw [num_len]; omega)
            rw [hq] at hTn
            refine ⟨?_, ?_, hf0⟩
            · have := hTn
              rw [show (num (machine.1.getD (rm : Int).toNat [])).length = L.toNat by rw [num_len]; omega] at this ⊢
              exact this.over
            · obtain ⟨tt, htt⟩ := turnG_pre (nxR machine) (rm, ls) os (num (machine.1.getD (rm : Int).toNat [])).length
              show a + 1 ≤ _
              rw [htt, List.length_append]; omega
          · show machine.1.length - (a + 1) < machine.1.length - a
            omega
        have hdn : ¬ a < os.length := by
          have hc' := of_decide_eq_false hc
          rw [List.length_drop] at hc'
          omega
        show J K H _ [sh (Da.tup [(Da.tup (machine.1.map (eV Da.int))), (Da.tup (machine.2.map Da.int))]), ow (Da.lst ((os.drop a).map (eP Da.int (eL Da.int)))), ow ((eD false Da.int Da.bl) (metT os)), no, no, no, no] _
        refine j_ret (d := Da.non) (EvF.m ((EvB.f (ev_non) rfl))) ?_
        exact absurd hp4.yes (hF.none hp1 hdn (fun j hj => hN _ (getD_mem' hj)) _ hp4.ok)
    · have hps := hp0.pos
      have hsg := hp0.sg
      show J K H _ [sh (Da.tup [(Da.tup (machine.1.map (eV Da.int))), (Da.tup (machine.2.map Da.int))]), no, no, no, no, no, no] _
      refine j_seq (j_if (et_test (ev_eqI (ev_ixT (ds := machine.2.map Da.int) (i := 0) (d := (Da.int (machine.2.getD 0 0))) (ev_ixT (ds := [(Da.tup (machine.1.map (eV Da.int))), (Da.tup (machine.2.map Da.int))]) (i := 1) (d := (Da.tup (machine.2.map Da.int))) (ev_var (k := 0) rfl) ev_int rfl) ev_int (atI_map (k := 0) rfl (getD_some 0 (by first | omega | (simp only [List.length_map, List.length_range, List.length_append, List.length_cons, List.length_nil, List.length_replicate, List.length_set, List.length_take, List.length_drop, List.length_reverse] ; omega) | decide)))) ev_int)) (fun hc => ?_) (fun hc => ?_))
      · have hy : sgR machine ((([z2] : List It2).getD 0 z2).1) = 1 := of_decide_eq_true hc
        refine j_ret (d := (Da.lst ([].map Da.int))) ((ef_lst (ds := []) eaf_nil (Nat.le_of_ble_eq_true rfl))).m ?_
        exact absurd hy (hp4 [] okW_nil)
      · refine j_next ?_
        show J K H _ [sh (Da.tup [(Da.tup (machine.1.map (eV Da.int))), (Da.tup (machine.2.map Da.int))]), no, no, no, no, no, no] _
        have hn0 : sgR machine 0 ≠ 1 := of_decide_eq_false hc
        refine j_seq (j_asg (d := (Da.lst ([(0, [])].map (eP Da.int (eL Da.int))))) ((ef_lst (ds := [(Da.tup [(Da.int 0), (Da.lst ([].map Da.int))])]) (eaf_cons (ef_tup (ds := [(Da.int 0), (Da.lst ([].map Da.int))]) (eaf_cons (EvB.f (ev_int) rfl) (eaf_cons (ef_lst (ds := []) eaf_nil (Nat.le_of_ble_eq_true rfl)) eaf_nil)) (Nat.le_of_ble_eq_true rfl)) eaf_nil) (Nat.le_of_ble_eq_true rfl))).m (Nat.le_of_ble_eq_true rfl) ?_)
        show J K H _ [sh (Da.tup [(Da.tup (machine.1.map (eV Da.int))), (Da.tup (machine.2.map Da.int))]), ow (Da.lst ([(0, [])].map (eP Da.int (eL Da.int)))), no, no, no, no, no] _
        refine j_seq (j_asg (d := ((eD false Da.int Da.bl) [((0 : Int), (true : Bool))])) ((ef_disp1 kkI (ek := Da.int) (ev := Da.bl) (x := 0) (v := true) ev_int (EvB.f (ev_bl) rfl))).m (Nat.le_of_ble_eq_true rfl) ?_)
        show J K H _ [sh (Da.tup [(Da.tup (machine.1.map (eV Da.int))), (Da.tup (machine.2.map Da.int))]), ow (Da.lst ([(0, [])].map (eP Da.int (eL Da.int)))), ow ((eD false Da.int Da.bl) [((0 : Int), (true : Bool))]), no, no, no, no] _
        refine j_seq (j_while [3, 4, 5, 6] (fun b : Nat × List It2 => [sh (Da.tup [(Da.tup (machine.1.map (eV Da.int))), (Da.tup (machine.2.map Da.int))]), ow (Da.lst ((b.2.drop b.1).map (eP Da.int (eL Da.int)))), ow ((eD false Da.int Da.bl) (metT b.2)), no, no, no, no]) (fun b : Nat × List It2 => Fq machine L.toNat b.1 0 b.2 ∧ b.1 ≤ b.2.length ∧ ∀ q, q ∈ b.2 → sgR machine q.1 ≠ 1) (fun b : Nat × List It2 => (machine.1.length - b.1 : Nat)) (0, [z2]) rfl ?_ ?_)
        · exact ⟨Fq.zero hp0, Nat.zero_le _, fun q hq => by rw [List.mem_singleton.mp hq]; exact hn0⟩
        rintro ⟨a, os⟩ hI
        obtain ⟨hF, hA, hN⟩ : Fq machine L.toNat a 0 os ∧ a ≤ os.length ∧ ∀ q, q ∈ os → sgR machine q.1 ≠ 1 := hI
        refine ⟨(decide (0 < (((os.drop a).length) : Int))), (et_test (ev_C0 (EvB.is (d1 := Da.int ((os.drop a).length : Nat)) (ev_len (ev_var (k := 1) rfl)) (by simp only [List.length_map])) ev_int)), fun hc => ?_, fun hc => ?_⟩
        · have ha : a < os.length := by
            have hc' := of_decide_eq_true hc
            rw [List.length_drop] at hc'
            omega
          have hfew := hF.few
          obtain ⟨rm, ls, hq⟩ : ∃ rm ls, os.getD a z2 = (rm, ls) := ⟨_, _, rfl⟩
          have hdr : os.drop a = (rm, ls) :: os.drop (a + 1) := by rw [drop_next z2 ha, hq]
          have hmq : (rm, ls) ∈ os := hq ▸ getD_mem' ha
          have hrm : inR machine rm := hF.al _ hmq
          have hr1 := hrm.1
          have hr2 := hrm.2
          have hrow := hp0.row hr1 hr2
          have hll : ls.length ≤ a := by have := hF.ln a ha; rw [hq] at this; exact this
          show J K H _ [sh (Da.tup [(Da.tup (machine.1.map (eV Da.int))), (Da.tup (machine.2.map Da.int))]), ow (Da.lst ((os.drop a).map (eP Da.int (eL Da.int)))), ow ((eD false Da.int Da.bl) (metT os)), no, no, no, no] _
          rw [hdr]
          refine j_seq (j_popT (k := 1) (ks := [3, 4]) (es := [(Da.int rm), (Da.lst (ls.map Da.int))]) (ds := (os.drop (a + 1)).map (eP Da.int (eL Da.int))) rfl ev_int (by first | omega | (simp only [List.length_map, List.length_range, List.length_append, List.length_cons, List.length_nil, List.length_replicate, List.length_set, List.length_take, List.length_drop, List.length_reverse] ; omega) | decide) rfl rfl (by simp) ?_)
          show J K H _ [sh (Da.tup [(Da.tup (machine.1.map (eV Da.int))), (Da.tup (machine.2.map Da.int))]), ow (Da.lst ((os.drop (a + 1)).map (eP Da.int (eL Da.int)))), ow ((eD false Da.int Da.bl) (metT os)), ow (Da.int rm), ow (Da.lst (ls.map Da.int)), no, no] _
          refine j_forW [] (ks := [5, 6]) (e := (fun p : (Nat × Int) => [.int (p.1 : Nat), Da.int p.2])) (wkS_enumT (xs := (machine.1.getD (rm : Int).toNat [])) (e0 := Da.int) (((ev_ixT (ds := machine.1.map (eV Da.int)) (i := rm) (d := (Da.tup ((machine.1.getD (rm : Int).toNat []).map Da.int))) (ev_ixT (ds := [(Da.tup (machine.1.map (eV Da.int))), (Da.tup (machine.2.map Da.int))]) (i := 0) (d := (Da.tup (machine.1.map (eV Da.int)))) (ev_var (k := 0) rfl) ev_int rfl) (ev_var (k := 3) rfl) (at_map [] (by first | omega | (simp only [List.length_map, List.length_range, List.length_append, List.length_cons, List.length_nil, List.length_replicate, List.length_set, List.length_take, List.length_drop, List.length_reverse] ; omega) | decide) (by first | omega | (simp only [List.length_map, List.length_range, List.length_append, List.length_cons, List.length_nil, List.length_replicate, List.length_set, List.length_take, List.length_drop, List.length_reverse] ; omega) | decide)))).s (imm_V (fun _ => rfl) _))) (fun i ρ => (∀ q, q ∈ (turnG (nxR machine) (rm, ls) os i) → sgR machine q.1 ≠ 1) ∧ ρ = [sh (Da.tup [(Da.tup (machine.1.map (eV Da.int))), (Da.tup (machine.2.map Da.int))]), ow (Da.lst ((((turnG (nxR machine) (rm, ls) os i)).drop (a + 1)).map (eP Da.int (eL Da.int)))), ow ((eD false Da.int Da.bl) (metT (turnG (nxR machine) (rm, ls) os i))), ow (Da.int rm), ow (Da.lst (ls.map Da.int)), no, no]) ?_ ?_ (fun _ => rfl) ?_ ?_
          · exact ⟨hN, rfl⟩
          · rintro i ρ ⟨hf0, rfl⟩; exact lt_all (n := 7) rfl rfl
          · rintro i x ρ hx ⟨hf0, rfl⟩
            have hil := (List.getElem?_eq_some_iff.mp hx).1
            rw [num_len] at hil
            have hx1 := (num_at hx).1
            have hx2 : x.2 = nxR machine rm i := by
              have := (num_at hx).2
              rw [nxR, List.getD_eq_getElem?_getD, this]; rfl
            have hT := hF.turn hp0 ha i (by omega)
            rw [hq] at hT
            have hTf := hT.few
            have hTl := metT_len (turnG (nxR machine) (rm, ls) os i)
            obtain ⟨tt, htt⟩ := turnG_pre (nxR machine) (rm, ls) os i
            have hTa : a < ((turnG (nxR machine) (rm, ls) os i)).length := by rw [htt, List.length_append]; omega
            have hTg : ((turnG (nxR machine) (rm, ls) os i)).getD a z2 = (rm, ls) := by rw [htt, getD_app _ ha]; exact hq
            have hxr : inR machine x.2 := by rw [hx2]; exact inR_step hp0 hrm (show 0 ≤ (i : Int) ∧ (i : Int) < L by omega)
            have hxr1 := hxr.1
            have hxr2 := hxr.2
            have hdl : (((turnG (nxR machine) (rm, ls) os i)).drop (a + 1)).length ≤ 1000 := by rw [List.length_drop]; omega
            show J K H _ [sh (Da.tup [(Da.tup (machine.1.map (eV Da.int))), (Da.tup (machine.2.map Da.int))]), ow (Da.lst ((((turnG (nxR machine) (rm, ls) os i)).drop (a + 1)).map (eP Da.int (eL Da.int)))), ow ((eD false Da.int Da.bl) (metT (turnG (nxR machine) (rm, ls) os i))), ow (Da.int rm), ow (Da.lst (ls.map Da.int)), sh (Da.int (x.1 : Nat)), sh (Da.int x.2)] _
            refine j_if (et_test (ev_dnotin kkI (ev := Da.bl) (l := (metT (turnG (nxR machine) (rm, ls) os i))) (x := x.2) (ev_var (k := 6) rfl) (ev_var (k := 2) rfl))) (fun hc => ?_) (fun hc => ?_)
            · have hnew : x.2 ∉ ((turnG (nxR machine) (rm, ls) os i)).map (·.1) := by
                rw [metT_in] at hc
                simpa using hc
              refine j_seq (j_dput kkI (k := 2) (l := (metT (turnG (nxR machine) (rm, ls) os i))) (x := x.2) (v := true) (ev := Da.bl) ev_bl (ev_var (k := 6) rfl) (fun _ => rfl) rfl (by first | omega | (simp only [List.length_map, List.length_range, List.length_append, List.length_cons, List.length_nil, List.length_replicate, List.length_set, List.length_take, List.length_drop, List.length_reverse] ; omega) | decide) ?_)
              show J K H _ [sh (Da.tup [(Da.tup (machine.1.map (eV Da.int))), (Da.tup (machine.2.map Da.int))]), ow (Da.lst ((((turnG (nxR machine) (rm, ls) os i)).drop (a + 1)).map (eP Da.int (eL Da.int)))), ow ((eD false Da.int Da.bl) (put (metT (turnG (nxR machine) (rm, ls) os i)) x.2 true)), ow (Da.int rm), ow (Da.lst (ls.map Da.int)), sh (Da.int (x.1 : Nat)), sh (Da.int x.2)] _
              refine j_seq (j_if (et_test (ev_eqI (ev_ixT (ds := machine.2.map Da.int) (i := x.2) (d := (Da.int (machine.2.getD (x.2 : Int).toNat 0))) (ev_ixT (ds := [(Da.tup (machine.1.map (eV Da.int))), (Da.tup (machine.2.map Da.int))]) (i := 1) (d := (Da.tup (machine.2.map Da.int))) (ev_var (k := 0) rfl) ev_int rfl) (ev_var (k := 6) rfl) (at_map 0 (by first | omega | (simp only [List.length_map, List.length_range, List.length_append, List.length_cons, List.length_nil, List.length_replicate, List.length_set, List.length_take, List.length_drop, List.length_reverse] ; omega) | decide) (by first | omega | (simp only [List.length_map, List.length_range, List.length_append, List.length_cons, List.length_nil, List.length_replicate, List.length_set, List.length_take, List.length_drop, List.length_reverse] ; omega) | decide))) ev_int)) (fun hc => ?_) (fun hc => ?_))
              · have hy10 : sgR machine x.2 = 1 := of_decide_eq_true hc
                refine j_ret (d := (Da.lst (((ls : List Int) ++ [(x.1 : Int)]).map Da.int))) ((EvF.is (d1 := (Da.lst (((ls : List Int) ++ [(x.1 : Int)]).map Da.int))) (ef_cat (ds := ls.map Da.int) (es := [(x.1 : Int)].map Da.int) (ev_var (k := 4) rfl) (EvF.g ((ef_lst (ds := [(Da.int (x.1 : Int))]) (eaf_cons (EvB.f ((ev_var (k := 5) rfl)) rfl) eaf_nil) (Nat.le_of_ble_eq_true rfl)))) (imms_map _ (fun _ => rfl) _) (imms_map _ (fun _ => rfl) _) (by first | omega | (simp only [List.length_map, List.length_range, List.length_append, List.length_cons, List.length_nil, List.length_replicate, List.length_set, List.length_take, List.length_drop, List.length_reverse] ; omega) | decide)) (by simp only [List.map_append]))).m ?_
                refine absurd ?_ (hp4 (ls ++ [(i : Int)]) (okW_snoc.mpr ⟨?_, by omega, by omega⟩))
                · have hrn := (hF.s.run _ hmq).2
                  rw [beh_snoc, ← runG_R, hrn]
                  rw [hx2] at hy10; exact hy10
                · have := (hF.s.run _ hmq).1
                  rw [show ((L.toNat : Nat) : Int) = L by omega] at this; exact this
              · refine j_next ?_
                show J K H _ [sh (Da.tup [(Da.tup (machine.1.map (eV Da.int))), (Da.tup (machine.2.map Da.int))]), ow (Da.lst ((((turnG (nxR machine) (rm, ls) os i)).drop (a + 1)).map (eP Da.int (eL Da.int)))), ow ((eD false Da.int Da.bl) (put (metT (turnG (nxR machine) (rm, ls) os i)) x.2 true)), ow (Da.int rm), ow (Da.lst (ls.map Da.int)), sh (Da.int (x.1 : Nat)), sh (Da.int x.2)] _
                have hs10 : sgR machine x.2 ≠ 1 := of_decide_eq_false hc
                refine j_append (k := 1) (ds := (((turnG (nxR machine) (rm, ls) os i)).drop (a + 1)).map (eP Da.int (eL Da.int))) (d := (Da.tup [(Da.int x.2), (Da.lst (((ls : List Int) ++ [(x.1 : Int)]).map Da.int))])) ((ef_tup (ds := [(Da.int x.2), (Da.lst (((ls : List Int) ++ [(x.1 : Int)]).map Da.int))]) (eaf_cons (EvB.f ((ev_var (k := 6) rfl)) rfl) (eaf_cons (EvF.is (d1 := (Da.lst (((ls : List Int) ++ [(x.1 : Int)]).map Da.int))) (ef_cat (ds := ls.map Da.int) (es := [(x.1 : Int)].map Da.int) (ev_var (k := 4) rfl) (EvF.g ((ef_lst (ds := [(Da.int (x.1 : Int))]) (eaf_cons (EvB.f ((ev_var (k := 5) rfl)) rfl) eaf_nil) (Nat.le_of_ble_eq_true rfl)))) (imms_map _ (fun _ => rfl) _) (imms_map _ (fun _ => rfl) _) (by first | omega | (simp only [List.length_map, List.length_range, List.length_append, List.length_cons, List.length_nil, List.length_replicate, List.length_set, List.length_take, List.length_drop, List.length_reverse] ; omega) | decide)) (by simp only [List.map_append])) eaf_nil)) (Nat.le_of_ble_eq_true rfl))).m rfl rfl (by first | omega | (simp only [List.length_map, List.length_range, List.length_append, List.length_cons, List.length_nil, List.length_replicate, List.length_set, List.length_take, List.length_drop, List.length_reverse] ; omega) | decide) ?_
                rw [show ((((turnG (nxR machine) (rm, ls) os i)).drop (a + 1)).map (eP Da.int (eL Da.int)) ++ [(Da.tup [(Da.int x.2), (Da.lst (((ls : List Int) ++ [(x.1 : Int)]).map Da.int))])] : List Da) = ((((turnG (nxR machine) (rm, ls) os i)).drop (a + 1)) ++ [(x.2, ((ls : List Int) ++ [(x.1 : Int)]))]).map (eP Da.int (eL Da.int)) from app_one (eP Da.int (eL Da.int)) (((turnG (nxR machine) (rm, ls) os i)).drop (a + 1)) (x.2, ((ls : List Int) ++ [(x.1 : Int)]))]
                first
                  | (refine ⟨fun q hq' => ?_, ?_⟩
                     · rw [turnG_succ, addG, if_neg (by rw [← hx2]; exact hnew)] at hq'
                       rcases List.mem_append.mp hq' with h | h
                       · exact hf0 q h
                       · rw [List.mem_singleton.mp h, ← hx2]; exact hs10
                     · show [_, ow (Da.lst _), ow (eD _ _ _ _), _, _, no, no] = [_, ow (Da.lst _), ow (eD _ _ _ _), _, _, no, no]
                       rw [turnG_succ, addG, if_neg (by rw [← hx2]; exact hnew), ← hx2, hx1, metT_put (l := ls ++ [(i : Int)]) hnew, List.drop_append_of_le_length (by omega)])
                  | (refine ⟨fun q hq' => ?_, ?_⟩
                     · rw [turnG_succ, addG, if_pos (by rw [← hx2]; exact hold)] at hq'
                       exact hf0 q hq'
                     · show [_, ow (Da.lst _), ow (eD _ _ _ _), _, _, no, no] = [_, ow (Da.lst _), ow (eD _ _ _ _), _, _, no, no]
                       rw [turnG_succ, addG, if_pos (by rw [← hx2]; exact hold)])
            · refine j_next ?_
              have hold : x.2 ∈ ((turnG (nxR machine) (rm, ls) os i)).map (·.1) := by
                rw [metT_in] at hc
                simpa using hc
              first
                | (refine ⟨fun q hq' => ?_, ?_⟩
                   · rw [turnG_succ, addG, if_neg (by rw [← hx2]; exact hnew)] at hq'
                     rcases List.mem_append.mp hq' with h | h
                     · exact hf0 q h
                     · rw [List.mem_singleton.mp h, ← hx2]; exact hs10
                   · show [_, ow (Da.lst _), ow (eD _ _ _ _), _, _, no, no] = [_, ow (Da.lst _), ow (eD _ _ _ _), _, _, no, no]
                     rw [turnG_succ, addG, if_neg (by rw [← hx2]; exact hnew), ← hx2, hx1, metT_put (l := ls ++ [(i : Int)]) hnew, List.drop_append_of_le_length (by omega)])
                | (refine ⟨fun q hq' => ?_, ?_⟩
                   · rw [turnG_succ, addG, if_pos (by rw [← hx2]; exact hold)] at hq'
                     exact hf0 q hq'
                   · show [_, ow (Da.lst _), ow (eD _ _ _ _), _, _, no, no] = [_, ow (Da.lst _), ow (eD _ _ _ _), _, _, no, no]
                     rw [turnG_succ, addG, if_pos (by rw [← hx2]; exact hold)])
          rintro ρ ⟨hf0, rfl⟩
          refine ⟨((a + 1), (turnG (nxR machine) (rm, ls) os (num (machine.1.getD (rm : Int).toNat [])).length)), rfl, ?_, ?_⟩
          · have hTn := hF.turn hp0 ha (num (machine.1.getD (rm : Int).toNat [])).length (by rw [num_len]; omega)
            rw [hq] at hTn
            refine ⟨?_, ?_, hf0⟩
            · have := hTn
              rw [show (num (machine.1.getD (rm : Int).toNat [])).length = L.toNat by rw [num_len]; omega] at this ⊢
              exact this.over
            · obtain ⟨tt, htt⟩ := turnG_pre (nxR machine) (rm, ls) os (num (machine.1.getD (rm : Int).toNat [])).length
              show a + 1 ≤ _
              rw [htt, List.length_append]; omega
          · show machine.1.length - (a + 1) < machine.1.length - a
            omega
        have hdn : ¬ a < os.length := by
          have hc' := of_decide_eq_false hc
          rw [List.length_drop] at hc'
          omega
        show J K H _ [sh (Da.tup [(Da.tup (machine.1.map (eV Da.int))), (Da.tup (machine.2.map Da.int))]), ow (Da.lst ((os.drop a).map (eP Da.int (eL Da.int)))), ow ((eD false Da.int Da.bl) (metT os)), no, no, no, no] _
        refine j_ret (d := Da.non) (EvF.m ((EvB.f (ev_non) rfl))) ?_
        rfl
theorem kn_first_letters (Z : Zb mg) (S : Stands K mg "first_letters" s_first_letters) : Known P w K mg base "first_letters" 1 (spF K G_first_letters) 1 [] :=
  known_of (ps := ["machine"]) S (fun _ _ _ _ _ _ us hl => match us, hl with | [_], _ => rfl) fun f fd F => ok_first_letters Z F
def G_first_of : List Da → Da → Prop := fun ds d => (∃ (relation : (Int × List (Str) × (List (List (Int)) × List (Int)))) (L : Int) (w : List Int), ds = [(Da.tup [(Da.int relation.1), (Da.tup (relation.2.1.map Da.str)), (Da.tup [(Da.tup (relation.2.2.1.map (eV Da.int))), (Da.tup (relation.2.2.2.map Da.int))])])] ∧ (Okm relation.2.2 L) ∧ (1 ≤ L) ∧ (relation.2.2.1.length ≤ 100) ∧ (L ≤ 1000) ∧ (2 ≤ relation.1) ∧ (relation.1 ≤ 5) ∧ (relation.2.1.length ≤ 4) ∧ (Fst relation.2.2 L w) ∧ d = (Da.lst ((plF relation.1 relation.2.1.length w).map Da.int))) ∨ (∃ (relation : (Int × List (Str) × (List (List (Int)) × List (Int)))) (L : Int), ds = [(Da.tup [(Da.int relation.1), (Da.tup (relation.2.1.map Da.str)), (Da.tup [(Da.tup (relation.2.2.1.map (eV Da.int))), (Da.tup (relation.2.2.2.map Da.int))])])] ∧ (Okm relation.2.2 L) ∧ (1 ≤ L) ∧ (relation.2.2.1.length ≤ 100) ∧ (L ≤ 1000) ∧ (2 ≤ relation.1) ∧ (relation.1 ≤ 5) ∧ (relation.2.1.length ≤ 4) ∧ (∀ v, okW L v → beh relation.2.2 0 v ≠ 1) ∧ d = Da.non)
abbrev s_first_of : Stmt := topS 10
theorem sc_first_of : FnScope ["relation", "base", "names", "machine", "letters", "letter"] ["relation"] (defScope s_first_of) := ⟨rfl, rfl, rfl, by decide +kernel, rfl, by decide +kernel, by decide +kernel⟩
theorem ok_first_of (Z : Zb mg) (g_first_letters : Known P w K mg base "first_letters" 1 (spF K G_first_letters) 1 []) (g_numbers_of : Known P w K mg base "numbers_of" 3 (spF K G_numbers_of) 3 []) (g_column_of : Known P w K mg base "column_of" 2 (spF K G_column_of) 3 []) {f : Addr} {fd : FuncData} (F : Fun K "first_of" "first_of" s_first_of f fd) : FnOk P w K mg base CX0 4 f fd ["relation"] (spF K G_first_of) := by
  refine fnok_of (k := 3) F sc_first_of (fun ds d h => ?_) (fun cdv A outer s H E hr => ?_)
  · rcases h with ⟨_, _, _, h, _⟩ | ⟨_, _, h, _⟩ <;> (rw [h]; rfl)
  · have hu := hu_of hr
    have hv := hv_of hr
    have hu0 := hr.units0
    refine ⟨_, (pss_cons (ps_asg (pv 0) (pg_tup rfl (pgs_cons (pg_name (i := 1) sc_first_of.nd rfl (Or.inr rfl)) (pgs_cons (pg_name (i := 2) sc_first_of.nd rfl (Or.inr rfl)) (pgs_cons (pg_name (i := 3) sc_first_of.nd rfl (Or.inl rfl)) pgs_nil)))))
      (pss_cons (ps_set (i := 4) sc_first_of.nd rfl (Or.inl rfl) (pe_known g_first_letters (hr.mono (by decide)) (pa_cons (pv 3) pa_nil)))
      (pss_cons (ps_if (pt_cmpR op_isN (pv 4) pe_non (nomark _)) (pss_one (ps_ret pe_non)) pss_nil)
      (pss_one (ps_ret (pe_known g_numbers_of (hr.mono (by decide)) (pa_cons (pe_lc (own := [("letter", 5)]) (g := gName 5) rfl sc_first_of.nd (show PI _ _ _ (iList K _) from pi_list (pv 4)) (blkOk_by (own := [("letter", 5)]) (N := ["relation", "base", "names", "machine", "letters", "letter"]) (sc := defScope s_first_of) (by decide +kernel)) (fun _ _ _ _ _ => pg_name (i := 5) sc_first_of.nd rfl (Or.inl rfl)) (fun _ _ _ _ _ => pts_nil) (fun _ _ _ _ _ => (pe_known g_column_of (hr.mono (by decide)) (pa_cons (pv 5) (pa_cons (pe_callB (r := rLenV K) call_len (by rfl) Z.len (by decide +kernel) (pa_cons (pv 2) pa_nil)) (pa_cons (pv 1) pa_nil)))))) (pa_cons (pe_callB (r := rLenV K) call_len (by rfl) Z.len (by decide +kernel) (pa_cons (pv 2) pa_nil)) (pa_cons (pv 1) pa_nil))))))))), ?_⟩
    intro ds d h
    rcases h with ⟨relation, L, w, rfl, hp0, hp1, hp2, hp3, hp4, hp5, hp6, hp7, rfl⟩ | ⟨relation, L, rfl, hp0, hp1, hp2, hp3, hp4, hp5, hp6, hp7, rfl⟩
    · have hwl := hp7.len hp1 hp0
      show J K H _ [sh (Da.tup [(Da.int relation.1), (Da.tup (relation.2.1.map Da.str)), (Da.tup [(Da.tup (relation.2.2.1.map (eV Da.int))), (Da.tup (relation.2.2.2.map Da.int))])]), no, no, no, no, no] _
      refine j_seq (j_asgT (ks := [1, 2, 3]) (ds := [(Da.int relation.1), (Da.tup (relation.2.1.map Da.str)), (Da.tup [(Da.tup (relation.2.2.1.map (eV Da.int))), (Da.tup (relation.2.2.2.map Da.int))])]) (EvF.m ((EvB.f ((ev_var (k := 0) rfl)) (imm_P3 rfl (imm_V (fun _ => rfl) _) (imm_P (imm_V (fun _ => (imm_V (fun _ => rfl) _)) _) (imm_V (fun _ => rfl) _)))))) rfl rfl (by simp) ?_)
      show J K H _ [sh (Da.tup [(Da.int relation.1), (Da.tup (relation.2.1.map Da.str)), (Da.tup [(Da.tup (relation.2.2.1.map (eV Da.int))), (Da.tup (relation.2.2.2.map Da.int))])]), ow (Da.int relation.1), ow (Da.tup (relation.2.1.map Da.str)), ow (Da.tup [(Da.tup (relation.2.2.1.map (eV Da.int))), (Da.tup (relation.2.2.2.map Da.int))]), no, no] _
      refine j_seq (j_asg (d := (Da.lst (w.map Da.int))) ((ev_call (ds := [(Da.tup [(Da.tup (relation.2.2.1.map (eV Da.int))), (Da.tup (relation.2.2.2.map Da.int))])]) (d := (Da.lst (w.map Da.int))) (ea_cons (ev_var (k := 3) rfl) ea_nil) (.inl ⟨relation.2.2, L, w, rfl, (by first | omega | (simp only [List.length_map, List.length_range, List.length_append, List.length_cons, List.length_nil, List.length_replicate, List.length_set, List.length_take, List.length_drop, List.length_reverse] ; omega) | decide | assumption), (by first | omega | (simp only [List.length_map, List.length_range, List.length_append, List.length_cons, List.length_nil, List.length_replicate, List.length_set, List.length_take, List.length_drop, List.length_reverse] ; omega) | decide | assumption), (by first | omega | (simp only [List.length_map, List.length_range, List.length_append, List.length_cons, List.length_nil, List.length_replicate, List.length_set, List.length_take, List.length_drop, List.length_reverse] ; omega) | decide | assumption), (by first | omega | (simp only [List.length_map, List.length_range, List.length_append, List.length_cons, List.length_nil, List.length_replicate, List.length_set, List.length_take, List.length_drop, List.length_reverse] ; omega) | decide | assumption), (by first | omega | (simp only [List.length_map, List.length_range, List.length_append, List.length_cons, List.length_nil, List.length_replicate, List.length_set, List.length_take, List.length_drop, List.length_reverse] ; omega) | decide | assumption), rfl⟩))).m (Nat.le_of_ble_eq_true rfl) ?_)
      show J K H _ [sh (Da.tup [(Da.int relation.1), (Da.tup (relation.2.1.map Da.str)), (Da.tup [(Da.tup (relation.2.2.1.map (eV Da.int))), (Da.tup (relation.2.2.2.map Da.int))])]), ow (Da.int relation.1), ow (Da.tup (relation.2.1.map Da.str)), ow (Da.tup [(Da.tup (relation.2.2.1.map (eV Da.int))), (Da.tup (relation.2.2.2.map Da.int))]), ow (Da.lst (w.map Da.int)), no] _
      refine j_seq (j_no (et_test (EvB.is (ev_isN (d := (Da.lst (w.map Da.int))) (ev_var (k := 4) rfl)) rfl)) rfl ?_)
      refine j_next ?_
      show J K H _ [sh (Da.tup [(Da.int relation.1), (Da.tup (relation.2.1.map Da.str)), (Da.tup [(Da.tup (relation.2.2.1.map (eV Da.int))), (Da.tup (relation.2.2.2.map Da.int))])]), ow (Da.int relation.1), ow (Da.tup (relation.2.1.map Da.str)), ow (Da.tup [(Da.tup (relation.2.2.1.map (eV Da.int))), (Da.tup (relation.2.2.2.map Da.int))]), ow (Da.lst (w.map Da.int)), no] _
      refine j_ret (d := (Da.lst ((numsOf relation.1 (relation.2.1.length : Int) (w.map fun (letter : Int) => lowD relation.1 letter (relation.2.1.length : Int).toNat)).map Da.int))) ((ev_call (ds := [(Da.lst ((w.map fun (letter : Int) => lowD relation.1 letter (relation.2.1.length : Int).toNat).map (eV Da.int))), (Da.int (relation.2.1.length : Nat)), (Da.int relation.1)]) (d := (Da.lst ((numsOf relation.1 (relation.2.1.length : Int) (w.map fun (letter : Int) => lowD relation.1 letter (relation.2.1.length : Int).toNat)).map Da.int))) (ea_cons (EvF.g ((EvF.is (d1 := (Da.lst ((w.map fun (letter : Int) => lowD relation.1 letter (relation.2.1.length : Int).toNat).map (eV Da.int)))) (ef_lc w Da.int (fun (letter : Int) => (Da.tup ((lowD relation.1 letter (relation.2.1.length : Int).toNat).map Da.int))) (ev_var (k := 4) rfl) (by decide) (by first | omega | (simp only [List.length_map, List.length_range, List.length_append, List.length_cons, List.length_nil, List.length_replicate, List.length_set, List.length_take, List.length_drop, List.length_reverse] ; omega) | decide) (fun letter h_letter => (ev_call (ds := [(Da.int letter), (Da.int (relation.2.1.length : Nat)), (Da.int relation.1)]) (d := (Da.tup ((lowD relation.1 letter (relation.2.1.length : Int).toNat).map Da.int))) (ea_cons (ev_var (k := 5) rfl) (ea_cons (EvB.is (d1 := Da.int (relation.2.1.length : Nat)) (ev_lenT (ev_var (k := 2) rfl)) (by simp only [List.length_map])) (ea_cons (ev_var (k := 1) rfl) ea_nil))) ⟨letter, (relation.2.1.length : Int), relation.1, rfl, (by first | omega | (simp only [List.length_map, List.length_range, List.length_append, List.length_cons, List.length_nil, List.length_replicate, List.length_set, List.length_take, List.length_drop, List.length_reverse] ; omega) | decide | assumption), (by first | omega | (simp only [List.length_map, List.length_range, List.length_append, List.length_cons, List.length_nil, List.length_replicate, List.length_set, List.length_take, List.length_drop, List.length_reverse] ; omega) | decide | assumption), (by first | omega | (simp only [List.length_map, List.length_range, List.length_append, List.length_cons, List.length_nil, List.length_replicate, List.length_set, List.length_take, List.length_drop, List.length_reverse] ; omega) | decide | assumption), (by first | omega | (simp only [List.length_map, List.length_range, List.length_append, List.length_cons, List.length_nil, List.length_replicate, List.length_set, List.length_take, List.length_drop, List.length_reverse] ; omega) | decide | assumption), rfl⟩))) (by first | (simp only [List.map_map, Function.comp_def]; done) | (simp only [List.map_map, Function.comp_def, eV, eL, eP, eP3]; done) | rfl)))) (ea_cons (EvB.is (d1 := Da.int (relation.2.1.length : Nat)) (ev_lenT (ev_var (k := 2) rfl)) (by simp only [List.length_map])) (ea_cons (ev_var (k := 1) rfl) ea_nil))) ⟨(w.map fun (letter : Int) => lowD relation.1 letter (relation.2.1.length : Int).toNat), (relation.2.1.length : Int), relation.1, rfl, (fun c hc => by obtain ⟨l, _, rfl⟩ := List.mem_map.mp hc; rw [lowD_len]; omega), (by first | omega | (simp only [List.length_map, List.length_range, List.length_append, List.length_cons, List.length_nil, List.length_replicate, List.length_set, List.length_take, List.length_drop, List.length_reverse] ; omega) | decide | assumption), (by first | omega | (simp only [List.length_map, List.length_range, List.length_append, List.length_cons, List.length_nil, List.length_replicate, List.length_set, List.length_take, List.length_drop, List.length_reverse] ; omega) | decide | assumption), (by first | omega | (simp only [List.length_map, List.length_range, List.length_append, List.length_cons, List.length_nil, List.length_replicate, List.length_set, List.length_take, List.length_drop, List.length_reverse] ; omega) | decide | assumption), (by first | omega | (simp only [List.length_map, List.length_range, List.length_append, List.length_cons, List.length_nil, List.length_replicate, List.length_set, List.length_take, List.length_drop, List.length_reverse] ; omega) | decide | assumption), (by first | omega | (simp only [List.length_map, List.length_range, List.length_append, List.length_cons, List.length_nil, List.length_replicate, List.length_set, List.length_take, List.length_drop, List.length_reverse] ; omega) | decide | assumption), rfl⟩)).m ?_
      show Da.lst _ = Da.lst _
      rw [Int.toNat_natCast, nums_pl hp4]
    · skip
      show J K H _ [sh (Da.tup [(Da.int relation.1), (Da.tup (relation.2.1.map Da.str)), (Da.tup [(Da.tup (relation.2.2.1.map (eV Da.int))), (Da.tup (relation.2.2.2.map Da.int))])]), no, no, no, no, no] _
      refine j_seq (j_asgT (ks := [1, 2, 3]) (ds := [(Da.int relation.1), (Da.tup (relation.2.1.map Da.str)), (Da.tup [(Da.tup (relation.2.2.1.map (eV Da.int))), (Da.tup (relation.2.2.2.map Da.int))])]) (EvF.m ((EvB.f ((ev_var (k := 0) rfl)) (imm_P3 rfl (imm_V (fun _ => rfl) _) (imm_P (imm_V (fun _ => (imm_V (fun _ => rfl) _)) _) (imm_V (fun _ => rfl) _)))))) rfl rfl (by simp) ?_)
      show J K H _ [sh (Da.tup [(Da.int relation.1), (Da.tup (relation.2.1.map Da.str)), (Da.tup [(Da.tup (relation.2.2.1.map (eV Da.int))), (Da.tup (relation.2.2.2.map Da.int))])]), ow (Da.int relation.1), ow (Da.tup (relation.2.1.map Da.str)), ow (Da.tup [(Da.tup (relation.2.2.1.map (eV Da.int))), (Da.tup (relation.2.2.2.map Da.int))]), no, no] _
      refine j_seq (j_asg (d := Da.non) ((ev_call (ds := [(Da.tup [(Da.tup (relation.2.2.1.map (eV Da.int))), (Da.tup (relation.2.2.2.map Da.int))])]) (d := Da.non) (ea_cons (ev_var (k := 3) rfl) ea_nil) (.inr ⟨relation.2.2, L, rfl, (by first | omega | (simp only [List.length_map, List.length_range, List.length_append, List.length_cons, List.length_nil, List.length_replicate, List.length_set, List.length_take, List.length_drop, List.length_reverse] ; omega) | decide | assumption), (by first | omega | (simp only [List.length_map, List.length_range, List.length_append, List.length_cons, List.length_nil, List.length_replicate, List.length_set, List.length_take, List.length_drop, List.length_reverse] ; omega) | decide | assumption), (by first | omega | (simp only [List.length_map, List.length_range, List.length_append, List.length_cons, List.length_nil, List.length_replicate, List.length_set, List.length_take, List.length_drop, List.length_reverse] ; omega) | decide | assumption), (by first | omega | (simp only [List.length_map, List.length_range, List.length_append, List.length_cons, List.length_nil, List.length_replicate, List.length_set, List.length_take, List.length_drop, List.length_reverse] ; omega) | decide | assumption), (by first | omega | (simp only [List.length_map, List.length_range, List.length_append, List.length_cons, List.length_nil, List.length_replicate, List.length_set, List.length_take, List.length_drop, List.length_reverse] ; omega) | decide | assumption), rfl⟩))).m (Nat.le_of_ble_eq_true rfl) ?_)
      show J K H _ [sh (Da.tup [(Da.int relation.1), (Da.tup (relation.2.1.map Da.str)), (Da.tup [(Da.tup (relation.2.2.1.map (eV Da.int))), (Da.tup (relation.2.2.2.map Da.int))])]), ow (Da.int relation.1), ow (Da.tup (relation.2.1.map Da.str)), ow (Da.tup [(Da.tup (relation.2.2.1.map (eV Da.int))), (Da.tup (relation.2.2.2.map Da.int))]), ow Da.non, no] _
      refine j_seq (j_yes (et_test (EvB.is (ev_isN (d := Da.non) (ev_var (k := 4) rfl)) rfl)) rfl ?_)
      refine j_ret (d := Da.non) (EvF.m ((EvB.f (ev_non) rfl))) ?_
      rfl
theorem kn_first_of (Z : Zb mg) (g_first_letters : Known P w K mg base "first_letters" 1 (spF K G_first_letters) 1 []) (g_numbers_of : Known P w K mg base "numbers_of" 3 (spF K G_numbers_of) 3 []) (g_column_of : Known P w K mg base "column_of" 2 (spF K G_column_of) 3 []) (S : Stands K mg "first_of" s_first_of) : Known P w K mg base "first_of" 4 (spF K G_first_of) 1 [] :=
  known_of (ps := ["relation"]) S (fun _ _ _ _ _ _ us hl => match us, hl with | [_], _ => rfl) fun f fd F => ok_first_of Z g_first_letters g_numbers_of g_column_of F
def G_as_reached : List Da → Da → Prop := fun ds d => ∃ (machine : (List (List (Int)) × List (Int))) (L : Int), ds = [(Da.tup [(Da.tup (machine.1.map (eV Da.int))), (Da.tup (machine.2.map Da.int))])] ∧ (Okm machine L) ∧ (machine.1.length ≤ 1000) ∧ (L ≤ 1000) ∧ d = (Da.tup [(Da.tup (((reached machine).1).map (eV Da.int))), (Da.tup (((reached machine).2).map Da.int))])
abbrev s_as_reached : Stmt := topS 12
theorem sc_as_reached : FnScope ["machine", "rows", "order", "numbers", "at", "room", "fresh", "old"] ["machine"] (defScope s_as_reached) := ⟨rfl, rfl, rfl, by decide +kernel, rfl, by decide +kernel, by decide +kernel⟩
theorem ok_as_reached (Z : Zb mg) {f : Addr} {fd : FuncData} (F : Fun K "as_reached" "as_reached" s_as_reached f fd) : FnOk P w K mg base CX0 1 f fd ["machine"] (spF K G_as_reached) := by
  refine fnok_of (k := 0) F sc_as_reached (fun ds d h => ?_) (fun cdv A outer s H E hr => ?_)
  · obtain ⟨_, _, h, _⟩ := h; rw [h]; rfl
  · have hu := hu_of hr
    have hv := hv_of hr
    have hu0 := hr.units0
    refine ⟨_, (pss_cons (ps_set (i := 1) sc_as_reached.nd rfl (Or.inr rfl) (pe_ix (r := rIx K) ix_seq (pv 0) pe_int (fun _ _ => rfl)))
      (pss_cons (ps_set (i := 2) sc_as_reached.nd rfl (Or.inl rfl) (pe_lst (pa_cons pe_int pa_nil)))
      (pss_cons (ps_set (i := 3) sc_as_reached.nd rfl (Or.inr rfl) (pe_gdisp1 hv pe_int pe_int))
      (pss_cons (ps_set (i := 4) sc_as_reached.nd rfl (Or.inl rfl) pe_int)
      (pss_cons (ps_while PassesOwn.never (pt_cmpR op_lt (pv 4) (pe_callB (r := rLenV K) call_len (by rfl) Z.len (by decide +kernel) (pa_cons (pv 2) pa_nil)) (nomark _)) (pss_cons (ps_for PassesOwn.never rfl (show PI _ _ _ (iTup K _) from pi_tup (pe_ix (r := rIx K) ix_seq (pv 1) (pe_ix (r := rIx K) ix_seq (pv 2) (pv 4) (fun _ _ => rfl)) (fun _ _ => rfl))) (pg_name (i := 5) sc_as_reached.nd rfl (Or.inl rfl))
        (pss_one (ps_if (pt_cmp (pc_gnotin hv (pv 5) (pv 3))) (pss_cons (ps_gput hv (pv 3) (pv 5) (pe_callB (r := rLenV K) call_len (by rfl) Z.len (by decide +kernel) (pa_cons (pv 2) pa_nil)) rfl)
      (pss_one (ps_expr (pe_bm PySem.F.plainAttrs_list PySem.F.slot_list_append PySem.F.type_list_append mt_append (pv 2) (pa_cons (pv 5) pa_nil))))) pss_nil)))
      (pss_one (ps_set (i := 4) sc_as_reached.nd rfl (Or.inl rfl) (pe_op op_add (pv 4) pe_int)))))
      (pss_cons (ps_set (i := 6) sc_as_reached.nd rfl (Or.inl rfl) (pe_callTy (T := "tuple") (r := rTupOf K) call_tuple_of (by rfl) Z.tuple (by decide +kernel) (pa_cons (pe_lc (own := [("old", 7)]) (g := gName 7) rfl sc_as_reached.nd (show PI _ _ _ (iList K _) from pi_list (pv 2)) (blkOk_by (own := [("old", 7)]) (N := ["machine", "rows", "order", "numbers", "at", "room", "fresh", "old"]) (sc := defScope s_as_reached) (by decide +kernel)) (fun _ _ _ _ _ => pg_name (i := 7) sc_as_reached.nd rfl (Or.inl rfl)) (fun _ _ _ _ _ => pts_nil) (fun _ _ _ _ _ => (pe_callTy (T := "tuple") (r := rTupOf K) call_tuple_of (by rfl) Z.tuple (by decide +kernel) (pa_cons (pe_lc (own := [("room", 5)]) (g := gName 5) rfl sc_as_reached.nd (show PI _ _ _ (iTup K _) from pi_tup (pe_ix (r := rIx K) ix_seq (pv 1) (pv 7) (fun _ _ => rfl))) (blkOk_by (own := [("room", 5)]) (N := ["machine", "rows", "order", "numbers", "at", "room", "fresh", "old"]) (sc := _) (by rfl)) (fun _ _ _ _ _ => pg_name (i := 5) sc_as_reached.nd rfl (Or.inl rfl)) (fun _ _ _ _ _ => pts_nil) (fun _ _ _ _ _ => (pe_gget hv (pv 3) (pv 5) (fun _ _ => rfl)))) pa_nil)))) pa_nil)))
      (pss_one (ps_ret (pe_tup (pa_cons (pv 6) (pa_cons (pe_callTy (T := "tuple") (r := rTupOf K) call_tuple_of (by rfl) Z.tuple (by decide +kernel) (pa_cons (pe_lc (own := [("old", 7)]) (g := gName 7) rfl sc_as_reached.nd (show PI _ _ _ (iList K _) from pi_list (pv 2)) (blkOk_by (own := [("old", 7)]) (N := ["machine", "rows", "order", "numbers", "at", "room", "fresh", "old"]) (sc := defScope s_as_reached) (by decide +kernel)) (fun _ _ _ _ _ => pg_name (i := 7) sc_as_reached.nd rfl (Or.inl rfl)) (fun _ _ _ _ _ => pts_nil) (fun _ _ _ _ _ => (pe_ix (r := rIx K) ix_seq (pe_ix (r := rIx K) ix_seq (pv 0) pe_int (fun _ _ => rfl)) (pv 7) (fun _ _ => rfl)))) pa_nil)) pa_nil))))))))))), ?_⟩
    rintro ds d ⟨machine, L, rfl, hp0, hp1, hp2, rfl⟩
    show J K H _ [sh (Da.tup [(Da.tup (machine.1.map (eV Da.int))), (Da.tup (machine.2.map Da.int))]), no, no, no, no, no, no, no] _
    refine j_seq (j_asg (d := (Da.tup (machine.1.map (eV Da.int)))) (EvF.m ((EvB.f ((ev_ixT (ds := [(Da.tup (machine.1.map (eV Da.int))), (Da.tup (machine.2.map Da.int))]) (i := 0) (d := (Da.tup (machine.1.map (eV Da.int)))) (ev_var (k := 0) rfl) ev_int rfl)) (imm_V (fun _ => (imm_V (fun _ => rfl) _)) _)))) (Nat.le_of_ble_eq_true rfl) ?_)
    show J K H _ [sh (Da.tup [(Da.tup (machine.1.map (eV Da.int))), (Da.tup (machine.2.map Da.int))]), ow (Da.tup (machine.1.map (eV Da.int))), no, no, no, no, no, no] _
    refine j_seq (j_asg (d := (Da.lst ([0].map Da.int))) ((ef_lst (ds := [(Da.int 0)]) (eaf_cons (EvB.f (ev_int) rfl) eaf_nil) (Nat.le_of_ble_eq_true rfl))).m (Nat.le_of_ble_eq_true rfl) ?_)
    show J K H _ [sh (Da.tup [(Da.tup (machine.1.map (eV Da.int))), (Da.tup (machine.2.map Da.int))]), ow (Da.tup (machine.1.map (eV Da.int))), ow (Da.lst ([0].map Da.int)), no, no, no, no, no] _
    refine j_seq (j_asg (d := ((eD false Da.int Da.int) [((0 : Int), (0 : Int))])) ((ef_disp1 kkI (ek := Da.int) (ev := Da.int) (x := 0) (v := 0) ev_int (EvB.f (ev_int) rfl))).m (Nat.le_of_ble_eq_true rfl) ?_)
    show J K H _ [sh (Da.tup [(Da.tup (machine.1.map (eV Da.int))), (Da.tup (machine.2.map Da.int))]), ow (Da.tup (machine.1.map (eV Da.int))), ow (Da.lst ([0].map Da.int)), ow ((eD false Da.int Da.int) [((0 : Int), (0 : Int))]), no, no, no, no] _
    refine j_seq (j_asg (d := (Da.int 0)) (EvF.m ((EvB.f (ev_int) rfl))) (Nat.le_of_ble_eq_true rfl) ?_)
    show J K H _ [sh (Da.tup [(Da.tup (machine.1.map (eV Da.int))), (Da.tup (machine.2.map Da.int))]), ow (Da.tup (machine.1.map (eV Da.int))), ow (Da.lst ([0].map Da.int)), ow ((eD false Da.int Da.int) [((0 : Int), (0 : Int))]), ow (Da.int 0), no, no, no] _
    refine j_seq (j_while [5] (fun b : List (Int) × Int => [sh (Da.tup [(Da.tup (machine.1.map (eV Da.int))), (Da.tup (machine.2.map Da.int))]), ow (Da.tup (machine.1.map (eV Da.int))), ow (Da.lst (b.1.map Da.int)), ow ((eD false Da.int Da.int) (tab b.1)), ow (Da.int b.2), no, no, no]) (fun b : List (Int) × Int => Bf machine b.2 b.1) (fun b : List (Int) × Int => (machine.1.length - b.2.toNat : Nat)) ([0], 0) rfl ?_ ?_)
    · exact Bf.zero hp0
    rintro ⟨os, a⟩ hI
    have hB : Bf machine a os := hI
    refine ⟨(decide (a < (os.length : Int))), (et_test (ev_C0 (ev_var (k := 4) rfl) (EvB.is (d1 := Da.int (os.length : Nat)) (ev_len (ev_var (k := 2) rfl)) (by simp only [List.length_map])))), fun hc => ?_, fun hc => ?_⟩
    · have ha := of_decide_eq_true hc
      have hr := hB.room ha
      have a0 := hB.a0
      show J K H _ [sh (Da.tup [(Da.tup (machine.1.map (eV Da.int))), (Da.tup (machine.2.map Da.int))]), ow (Da.tup (machine.1.map (eV Da.int))), ow (Da.lst (os.map Da.int)), ow ((eD false Da.int Da.int) (tab os)), ow (Da.int a), no, no, no] _
      refine j_seq (j_forT [] (k := 5) (machine.1.getD ((os.getD (a : Int).toNat 0) : Int).toNat []) Da.int (((ev_ixT (ds := machine.1.map (eV Da.int)) (i := (os.getD (a : Int).toNat 0)) (d := (Da.tup ((machine.1.getD ((os.getD (a : Int).toNat 0) : Int).toNat []).map Da.int))) (ev_var (k := 1) rfl) (ev_ixL (ds := os.map Da.int) (i := a) (d := (Da.int (os.getD (a : Int).toNat 0))) (ev_var (k := 2) rfl) (ev_var (k := 4) rfl) (at_map 0 (by first | omega | (simp only [List.length_map, List.length_range, List.length_append, List.length_cons, List.length_nil, List.length_replicate, List.length_set, List.length_take, List.length_drop, List.length_reverse] ; omega) | (first | exact tab_has (hcl _ h_old _ h_room) | (have hg := hok.rg _ h_old; have hsg := hp0.sg; have hlx := hp0.row hg.1 hg.2; omega)) | decide) (by first | omega | (simp only [List.length_map, List.length_range, List.length_append, List.length_cons, List.length_nil, List.length_replicate, List.length_set, List.length_take, List.length_drop, List.length_reverse] ; omega) | (first | exact tab_has (hcl _ h_old _ h_room) | (have hg := hok.rg _ h_old; have hsg := hp0.sg; have hlx := hp0.row hg.1 hg.2; omega)) | decide))) (at_map [] (by first | omega | (simp only [List.length_map, List.length_range, List.length_append, List.length_cons, List.length_nil, List.length_replicate, List.length_set, List.length_take, List.length_drop, List.length_reverse] ; omega) | (first | exact tab_has (hcl _ h_old _ h_room) | (have hg := hok.rg _ h_old; have hsg := hp0.sg; have hlx := hp0.row hg.1 hg.2; omega)) | decide) (by first | omega | (simp only [List.length_map, List.length_range, List.length_append, List.length_cons, List.length_nil, List.length_replicate, List.length_set, List.length_take, List.length_drop, List.length_reverse] ; omega) | (first | exact tab_has (hcl _ h_old _ h_room) | (have hg := hok.rg _ h_old; have hsg := hp0.sg; have hlx := hp0.row hg.1 hg.2; omega)) | decide)))).s (imm_V (fun _ => rfl) _)) (fun i ρ => ρ = [sh (Da.tup [(Da.tup (machine.1.map (eV Da.int))), (Da.tup (machine.2.map Da.int))]), ow (Da.tup (machine.1.map (eV Da.int))), ow (Da.lst ((((machine.1.getD (os.getD a.toNat 0).toNat []).take i).foldl addNew os).map Da.int)), ow ((eD false Da.int Da.int) (tab (((machine.1.getD (os.getD a.toNat 0).toNat []).take i).foldl addNew os))), ow (Da.int a), no, no, no]) ?_ ?_ ?_ ?_)
      · rfl
      · rintro i ρ rfl; exact Nat.le_of_ble_eq_true rfl
      · rintro i x ρ hx rfl
        have hrow : ∀ y, y ∈ (machine.1.getD (os.getD a.toNat 0).toNat []).take i → 0 ≤ y ∧ y < (machine.1.length : Int) := fun y hy => hp0.nx _ (getD_mem' (by omega)) y (List.mem_of_mem_take hy)
        have hOk := hB.ok.grow hrow
        have hfew := hOk.few
        have htl := tab_len (grow os ((machine.1.getD (os.getD a.toNat 0).toNat []).take i))
        unfold grow at hfew htl
        show J K H _ [sh (Da.tup [(Da.tup (machine.1.map (eV Da.int))), (Da.tup (machine.2.map Da.int))]), ow (Da.tup (machine.1.map (eV Da.int))), ow (Da.lst ((((machine.1.getD (os.getD a.toNat 0).toNat []).take i).foldl addNew os).map Da.int)), ow ((eD false Da.int Da.int) (tab (((machine.1.getD (os.getD a.toNat 0).toNat []).take i).foldl addNew os))), ow (Da.int a), sh (Da.int x), no, no] _
        refine j_if (et_test (ev_dnotin kkI (ev := Da.int) (l := (tab (((machine.1.getD (os.getD a.toNat 0).toNat []).take i).foldl addNew os))) (x := x) (ev_var (k := 5) rfl) (ev_var (k := 3) rfl))) (fun hc => ?_) (fun hc => ?_)
        · refine j_seq (j_dput kkI (k := 3) (l := (tab (((machine.1.getD (os.getD a.toNat 0).toNat []).take i).foldl addNew os))) (x := x) (v := (((((machine.1.getD (os.getD a.toNat 0).toNat []).take i).foldl addNew os).length) : Int)) (ev := Da.int) (EvB.is (d1 := Da.int ((((machine.1.getD (os.getD a.toNat 0).toNat []).take i).foldl addNew os).length : Nat)) (ev_len (ev_var (k := 2) rfl)) (by simp only [List.length_map])) (ev_var (k := 5) rfl) (fun _ => rfl) rfl (by first | omega | (simp only [List.length_map, List.length_range, List.length_append, List.length_cons, List.length_nil, List.length_replicate, List.length_set, List.length_take, List.length_drop, List.length_reverse] ; omega) | (first | exact tab_has (hcl _ h_old _ h_room) | (have hg := hok.rg _ h_old; have hsg := hp0.sg; have hlx := hp0.row hg.1 hg.2; omega)) | decide) ?_)
          show J K H _ [sh (Da.tup [(Da.tup (machine.1.map (eV Da.int))), (Da.tup (machine.2.map Da.int))]), ow (Da.tup (machine.1.map (eV Da.int))), ow (Da.lst ((((machine.1.getD (os.getD a.toNat 0).toNat []).take i).foldl addNew os).map Da.int)), ow ((eD false Da.int Da.int) (put (tab (((machine.1.getD (os.getD a.toNat 0).toNat []).take i).foldl addNew os)) x (((((machine.1.getD (os.getD a.toNat 0).toNat []).take i).foldl addNew os).length) : Int))), ow (Da.int a), sh (Da.int x), no, no] _
          refine j_append (k := 2) (ds := (((machine.1.getD (os.getD a.toNat 0).toNat []).take i).foldl addNew os).map Da.int) (d := (Da.int x)) (EvF.m ((EvB.f ((ev_var (k := 5) rfl)) rfl))) rfl rfl (by first | omega | (simp only [List.length_map, List.length_range, List.length_append, List.length_cons, List.length_nil, List.length_replicate, List.length_set, List.length_take, List.length_drop, List.length_reverse] ; omega) | (first | exact tab_has (hcl _ h_old _ h_room) | (have hg := hok.rg _ h_old; have hsg := hp0.sg; have hlx := hp0.row hg.1 hg.2; omega)) | decide) ?_
          rw [show ((((machine.1.getD (os.getD a.toNat 0).toNat []).take i).foldl addNew os).map Da.int ++ [(Da.int x)] : List Da) = ((((machine.1.getD (os.getD a.toNat 0).toNat []).take i).foldl addNew os) ++ [x]).map Da.int from app_one Da.int (((machine.1.getD (os.getD a.toNat 0).toNat []).take i).foldl addNew os) x]
          show [_, _, ow (Da.lst _), ow (eD _ _ _ _), _, no, no, no] = [_, _, ow (Da.lst _), ow (eD _ _ _ _), _, no, no, no]
          rw [grow_take hx]
          rw [tab_in] at hc
          first
            | (have hn : x ∉ (((machine.1.getD (os.getD a.toNat 0).toNat []).take i).foldl addNew os) := by simpa using hc
               rw [addNew_new hn, tab_put hn])
            | (have hn : x ∈ (((machine.1.getD (os.getD a.toNat 0).toNat []).take i).foldl addNew os) := by simpa using hc
               rw [addNew_old hn])
        · refine j_next ?_
          show [_, _, ow (Da.lst _), ow (eD _ _ _ _), _, no, no, no] = [_, _, ow (Da.lst _), ow (eD _ _ _ _), _, no, no, no]
          rw [grow_take hx]
          rw [tab_in] at hc
          first
            | (have hn : x ∉ (((machine.1.getD (os.getD a.toNat 0).toNat []).take i).foldl addNew os) := by simpa using hc
               rw [addNew_new hn, tab_put hn])
            | (have hn : x ∈ (((machine.1.getD (os.getD a.toNat 0).toNat []).take i).foldl addNew os) := by simpa using hc
               rw [addNew_old hn])
      rintro ρ rfl
      rw [List.take_length]
      show J K H _ [sh (Da.tup [(Da.tup (machine.1.map (eV Da.int))), (Da.tup (machine.2.map Da.int))]), ow (Da.tup (machine.1.map (eV Da.int))), ow (Da.lst ((grow os (machine.1.getD (os.getD a.toNat 0).toNat [])).map Da.int)), ow ((eD false Da.int Da.int) (tab (grow os (machine.1.getD (os.getD a.toNat 0).toNat [])))), ow (Da.int a), no, no, no] _
      refine j_asg (d := (Da.int (a + 1))) (EvF.m ((EvB.f ((ev_add (ev_var (k := 4) rfl) ev_int)) rfl))) (Nat.le_of_ble_eq_true rfl) ?_
      refine ⟨(grow os (machine.1.getD (os.getD a.toNat 0).toNat []), (a + 1)), rfl, ?_, ?_⟩
      · exact hB.next hp0 ha
      · have hn := hB.next hp0 ha
        have hf := hB.ok.few
        show machine.1.length - (a + 1).toNat < machine.1.length - a.toNat
        omega
    obtain ⟨hO, hok, hcl⟩ := hB.done (of_decide_eq_false hc)
    have hfew := hok.few
    show J K H _ [sh (Da.tup [(Da.tup (machine.1.map (eV Da.int))), (Da.tup (machine.2.map Da.int))]), ow (Da.tup (machine.1.map (eV Da.int))), ow (Da.lst (os.map Da.int)), ow ((eD false Da.int Da.int) (tab os)), ow (Da.int a), no, no, no] _
    refine j_seq (j_asg (d := (Da.tup ((os.map fun (old : Int) => ((machine.1.getD (old : Int).toNat []).map fun (room : Int) => ((look (tab os) room).getD 0))).map (eV Da.int)))) ((ef_tupL (EvF.g ((EvF.is (d1 := (Da.lst ((os.map fun (old : Int) => ((machine.1.getD (old : Int).toNat []).map fun (room : Int) => ((look (tab os) room).getD 0))).map (eV Da.int)))) (ef_lc os Da.int (fun (old : Int) => (Da.tup (((machine.1.getD (old : Int).toNat []).map fun (room : Int) => ((look (tab os) room).getD 0)).map Da.int))) (ev_var (k := 2) rfl) (by decide) (by first | omega | (simp only [List.length_map, List.length_range, List.length_append, List.length_cons, List.length_nil, List.length_replicate, List.length_set, List.length_take, List.length_drop, List.length_reverse] ; omega) | (first | exact tab_has (hcl _ h_old _ h_room) | (have hg := hok.rg _ h_old; have hsg := hp0.sg; have hlx := hp0.row hg.1 hg.2; omega)) | decide) (fun old h_old => (ef_tupL (EvF.g ((EvF.is (d1 := (Da.lst (((machine.1.getD (old : Int).toNat []).map fun (room : Int) => ((look (tab os) room).getD 0)).map Da.int))) (ef_lcT (machine.1.getD (old : Int).toNat []) Da.int (fun (room : Int) => (Da.int ((look (tab os) room).getD 0))) (ev_ixT (ds := machine.1.map (eV Da.int)) (i := old) (d := (Da.tup ((machine.1.getD (old : Int).toNat []).map Da.int))) (ev_var (k := 1) rfl) (ev_var (k := 7) rfl) (at_map [] (by first | omega | (simp only [List.length_map, List.length_range, List.length_append, List.length_cons, List.length_nil, List.length_replicate, List.length_set, List.length_take, List.length_drop, List.length_reverse] ; omega) | (first | exact tab_has (hcl _ h_old _ h_room) | (have hg := hok.rg _ h_old; have hsg := hp0.sg; have hlx := hp0.row hg.1 hg.2; omega)) | decide) (by first | omega | (simp only [List.length_map, List.length_range, List.length_append, List.length_cons, List.length_nil, List.length_replicate, List.length_set, List.length_take, List.length_drop, List.length_reverse] ; omega) | (first | exact tab_has (hcl _ h_old _ h_room) | (have hg := hok.rg _ h_old; have hsg := hp0.sg; have hlx := hp0.row hg.1 hg.2; omega)) | decide))) (by decide) (by first | omega | (simp only [List.length_map, List.length_range, List.length_append, List.length_cons, List.length_nil, List.length_replicate, List.length_set, List.length_take, List.length_drop, List.length_reverse] ; omega) | (first | exact tab_has (hcl _ h_old _ h_room) | (have hg := hok.rg _ h_old; have hsg := hp0.sg; have hlx := hp0.row hg.1 hg.2; omega)) | decide) (fun room h_room => (EvB.f ((ev_dget kkI (ev := Da.int) (l := (tab os)) (x := room) (ev_var (k := 3) rfl) (ev_var (k := 5) rfl) (look_getD 0 (by first | omega | (simp only [List.length_map, List.length_range, List.length_append, List.length_cons, List.length_nil, List.length_replicate, List.length_set, List.length_take, List.length_drop, List.length_reverse] ; omega) | (first | exact tab_has (hcl _ h_old _ h_room) | (have hg := hok.rg _ h_old; have hsg := hp0.sg; have hlx := hp0.row hg.1 hg.2; omega)) | decide | assumption)))) rfl))) (by first | (simp only [List.map_map, Function.comp_def]; done) | (simp only [List.map_map, Function.comp_def, eV, eL, eP, eP3]; done) | rfl)))) (imms_map _ (fun _ => rfl) _)))) (by first | (simp only [List.map_map, Function.comp_def]; done) | (simp only [List.map_map, Function.comp_def, eV, eL, eP, eP3]; done) | rfl)))) (imms_map _ (fun _ => (imm_V (fun _ => rfl) _)) _))).m (Nat.le_of_ble_eq_true rfl) ?_)
    show J K H _ [sh (Da.tup [(Da.tup (machine.1.map (eV Da.int))), (Da.tup (machine.2.map Da.int))]), ow (Da.tup (machine.1.map (eV Da.int))), ow (Da.lst (os.map Da.int)), ow ((eD false Da.int Da.int) (tab os)), ow (Da.int a), no, ow (Da.tup ((os.map fun (old : Int) => ((machine.1.getD (old : Int).toNat []).map fun (room : Int) => ((look (tab os) room).getD 0))).map (eV Da.int))), no] _
    refine j_ret (d := (Da.tup [(Da.tup ((os.map fun (old : Int) => ((machine.1.getD (old : Int).toNat []).map fun (room : Int) => ((look (tab os) room).getD 0))).map (eV Da.int))), (Da.tup ((os.map fun (old : Int) => (machine.2.getD (old : Int).toNat 0)).map Da.int))])) ((ef_tup (ds := [(Da.tup ((os.map fun (old : Int) => ((machine.1.getD (old : Int).toNat []).map fun (room : Int) => ((look (tab os) room).getD 0))).map (eV Da.int))), (Da.tup ((os.map fun (old : Int) => (machine.2.getD (old : Int).toNat 0)).map Da.int))]) (eaf_cons (EvB.f ((ev_var (k := 6) rfl)) (imm_V (fun _ => (imm_V (fun _ => rfl) _)) _)) (eaf_cons (ef_tupL (EvF.g ((EvF.is (d1 := (Da.lst ((os.map fun (old : Int) => (machine.2.getD (old : Int).toNat 0)).map Da.int))) (ef_lc os Da.int (fun (old : Int) => (Da.int (machine.2.getD (old : Int).toNat 0))) (ev_var (k := 2) rfl) (by decide) (by first | omega | (simp only [List.length_map, List.length_range, List.length_append, List.length_cons, List.length_nil, List.length_replicate, List.length_set, List.length_take, List.length_drop, List.length_reverse] ; omega) | (first | exact tab_has (hcl _ h_old _ h_room) | (have hg := hok.rg _ h_old; have hsg := hp0.sg; have hlx := hp0.row hg.1 hg.2; omega)) | decide) (fun old h_old => (EvB.f ((ev_ixT (ds := machine.2.map Da.int) (i := old) (d := (Da.int (machine.2.getD (old : Int).toNat 0))) (ev_ixT (ds := [(Da.tup (machine.1.map (eV Da.int))), (Da.tup (machine.2.map Da.int))]) (i := 1) (d := (Da.tup (machine.2.map Da.int))) (ev_var (k := 0) rfl) ev_int rfl) (ev_var (k := 7) rfl) (at_map 0 (by first | omega | (simp only [List.length_map, List.length_range, List.length_append, List.length_cons, List.length_nil, List.length_replicate, List.length_set, List.length_take, List.length_drop, List.length_reverse] ; omega) | (first | exact tab_has (hcl _ h_old _ h_room) | (have hg := hok.rg _ h_old; have hsg := hp0.sg; have hlx := hp0.row hg.1 hg.2; omega)) | decide) (by first | omega | (simp only [List.length_map, List.length_range, List.length_append, List.length_cons, List.length_nil, List.length_replicate, List.length_set, List.length_take, List.length_drop, List.length_reverse] ; omega) | (first | exact tab_has (hcl _ h_old _ h_room) | (have hg := hok.rg _ h_old; have hsg := hp0.sg; have hlx := hp0.row hg.1 hg.2; omega)) | decide)))) rfl))) (by first | (simp only [List.map_map, Function.comp_def]; done) | (simp only [List.map_map, Function.comp_def, eV, eL, eP, eP3]; done) | rfl)))) (imms_map _ (fun _ => rfl) _)) eaf_nil)) (Nat.le_of_ble_eq_true rfl))).m ?_
    show Da.tup [Da.tup _, Da.tup _] = Da.tup [Da.tup _, Da.tup _]
    unfold reached
    rw [← hO, ← reach_rows hcl]
    rfl
theorem kn_as_reached (Z : Zb mg) (S : Stands K mg "as_reached" s_as_reached) : Known P w K mg base "as_reached" 1 (spF K G_as_reached) 1 [] :=
  known_of (ps := ["machine"]) S (fun _ _ _ _ _ _ us hl => match us, hl with | [_], _ => rfl) fun f fd F => ok_as_reached Z F
def G_numbered : List Da → Da → Prop := fun ds d => (∃ (keys : List (Int)), ds = [(Da.tup (keys.map Da.int))] ∧ (keys.length ≤ 1000) ∧ d = (Da.lst ((numA keys).map Da.int))) ∨ (∃ (keys : List ((Int × List (Int)))), ds = [(Da.lst (keys.map (eP Da.int (eV Da.int))))] ∧ (keys.length ≤ 1000) ∧ d = (Da.lst ((numA keys).map Da.int)))
abbrev s_numbered : Stmt := topS 13
theorem sc_numbered : FnScope ["keys", "numbers", "found", "key"] ["keys"] (defScope s_numbered) := ⟨rfl, rfl, rfl, by decide +kernel, rfl, by decide +kernel, by decide +kernel⟩
theorem ok_numbered (Z : Zb mg) {f : Addr} {fd : FuncData} (F : Fun K "numbered" "numbered" s_numbered f fd) : FnOk P w K mg base CX0 1 f fd ["keys"] (spF K G_numbered) := by
  refine fnok_of (k := 0) F sc_numbered (fun ds d h => ?_) (fun cdv A outer s H E hr => ?_)
  · rcases h with ⟨_, h, _⟩ | ⟨_, h, _⟩ <;> (rw [h]; rfl)
  · have hu := hu_of hr
    have hv := hv_of hr
    have hu0 := hr.units0
    refine ⟨_, (pss_cons (ps_set (i := 1) sc_numbered.nd rfl (Or.inl rfl) pe_gnew)
      (pss_cons (ps_set (i := 2) sc_numbered.nd rfl (Or.inl rfl) (pe_lst pa_nil))
      (pss_cons (ps_for PassesOwn.never rfl (show PI _ _ _ (iSeqA K _) from pi_seqA (pv 0)) (pg_name (i := 3) sc_numbered.nd rfl (Or.inl rfl))
        (pss_cons (ps_if (pt_cmp (pc_gnotin hv (pv 3) (pv 1))) (pss_one (ps_gput hv (pv 1) (pv 3) (pe_callB (r := rLenG) call_lenG (by rfl) Z.len (by decide +kernel) (pa_cons (pv 1) pa_nil)) rfl)) pss_nil)
      (pss_one (ps_expr (pe_bm PySem.F.plainAttrs_list PySem.F.slot_list_append PySem.F.type_list_append mt_append (pv 2) (pa_cons (pe_gget hv (pv 1) (pv 3) (fun _ _ => rfl)) pa_nil))))))
      (pss_one (ps_ret (pv 2)))))), ?_⟩
    intro ds d h
    rcases h with ⟨keys, rfl, hp0, rfl⟩ | ⟨keys, rfl, hp0, rfl⟩
    · show J K H _ [sh (Da.tup (keys.map Da.int)), no, no, no] _
      refine j_seq (j_asg (d := ((eD false Da.int Da.int) [])) ((ef_dnew (t := false) (ek := Da.int) (ev := Da.int))).m (Nat.le_of_ble_eq_true rfl) ?_)
      show J K H _ [sh (Da.tup (keys.map Da.int)), ow ((eD false Da.int Da.int) []), no, no] _
      refine j_seq (j_asg (d := (Da.lst ([].map Da.int))) ((ef_lst (ds := []) eaf_nil (Nat.le_of_ble_eq_true rfl))).m (Nat.le_of_ble_eq_true rfl) ?_)
      show J K H _ [sh (Da.tup (keys.map Da.int)), ow ((eD false Da.int Da.int) []), ow (Da.lst ([].map Da.int)), no] _
      refine j_seq (j_forW [] (ks := [3]) (e := (fun p : Int => [Da.int p])) (wkS_tupA (xs := keys) (e0 := Da.int) (e := (fun p : Int => [Da.int p])) (ev_shv (k := 0) rfl) (fun _ => tg_name)) (fun i ρ => ρ = [sh (Da.tup (keys.map Da.int)), ow ((eD false Da.int Da.int) (tabA (growA [] (keys.take i)))), ow (Da.lst ((numP keys i).map Da.int)), no]) ?_ ?_ (fun _ => rfl) ?_ ?_)
      · rfl
      · rintro i ρ rfl; exact lt_all (n := 4) rfl rfl
      · rintro i x ρ hx rfl
        have hgl := grow0_len (keys.take i)
        have htl := tabA_len (growA [] (keys.take i))
        have hil := (List.getElem?_eq_some_iff.mp hx).1
        rw [List.length_take] at hgl
        have hnl := numP_len keys i
        show J K H _ [sh (Da.tup (keys.map Da.int)), ow ((eD false Da.int Da.int) (tabA (growA [] (keys.take i)))), ow (Da.lst ((numP keys i).map Da.int)), sh (Da.int x)] _
        refine j_mid [] (M := [sh (Da.tup (keys.map Da.int)), ow ((eD false Da.int Da.int) (tabA (addA (growA [] (keys.take i)) x))), ow (Da.lst ((numP keys i).map Da.int)), sh (Da.int x)]) (j_if (et_test (ev_dnotin kkI (ev := Da.int) (l := (tabA (growA [] (keys.take i)))) (x := x) (ev_var (k := 3) rfl) (ev_var (k := 1) rfl))) (fun hc => ?_) (fun hc => ?_)) ?_
        · refine j_dput kkI (k := 1) (l := (tabA (growA [] (keys.take i)))) (x := x) (v := (((tabA (growA [] (keys.take i))).length) : Int)) (ev := Da.int) (ev_lenD (ek := Da.int) (ev := Da.int) (l := (tabA (growA [] (keys.take i)))) (ev_var (k := 1) rfl)) (ev_var (k := 3) rfl) (fun _ => rfl) rfl (by first | omega | (simp only [List.length_map, List.length_range, List.length_append, List.length_cons, List.length_nil, List.length_replicate, List.length_set, List.length_take, List.length_drop, List.length_reverse] ; omega) | exact tabA_has (addA_mem.mpr (.inr rfl)) | decide) ?_
          show [sh (Da.tup (keys.map Da.int)), ow ((eD false Da.int Da.int) (put (tabA (growA [] (keys.take i))) x (((tabA (growA [] (keys.take i))).length) : Int))), ow (Da.lst ((numP keys i).map Da.int)), sh (Da.int x)] = [sh (Da.tup (keys.map Da.int)), ow ((eD false Da.int Da.int) (tabA (addA (growA [] (keys.take i)) x))), ow (Da.lst ((numP keys i).map Da.int)), sh (Da.int x)]
          rw [tabA_in] at hc
          first
            | (have hn : x ∉ growA [] (keys.take i) := by simpa using hc
               rw [addA_new hn, htl, tabA_put hn])
            | (have hn : x ∈ growA [] (keys.take i) := by simpa using hc
               rw [addA_old hn])
        · refine j_next ?_
          show [sh (Da.tup (keys.map Da.int)), ow ((eD false Da.int Da.int) (tabA (growA [] (keys.take i)))), ow (Da.lst ((numP keys i).map Da.int)), sh (Da.int x)] = [sh (Da.tup (keys.map Da.int)), ow ((eD false Da.int Da.int) (tabA (addA (growA [] (keys.take i)) x))), ow (Da.lst ((numP keys i).map Da.int)), sh (Da.int x)]
          rw [tabA_in] at hc
          first
            | (have hn : x ∉ growA [] (keys.take i) := by simpa using hc
               rw [addA_new hn, htl, tabA_put hn])
            | (have hn : x ∈ growA [] (keys.take i) := by simpa using hc
               rw [addA_old hn])
        show J K H _ [sh (Da.tup (keys.map Da.int)), ow ((eD false Da.int Da.int) (tabA (addA (growA [] (keys.take i)) x))), ow (Da.lst ((numP keys i).map Da.int)), sh (Da.int x)] _
        refine j_append (k := 2) (ds := (numP keys i).map Da.int) (d := (Da.int ((look (tabA (addA (growA [] (keys.take i)) x)) x).getD 0))) (EvF.m ((EvB.f ((ev_dget kkI (ev := Da.int) (l := (tabA (addA (growA [] (keys.take i)) x))) (x := x) (ev_var (k := 1) rfl) (ev_var (k := 3) rfl) (look_getD 0 (by first | omega | (simp only [List.length_map, List.length_range, List.length_append, List.length_cons, List.length_nil, List.length_replicate, List.length_set, List.length_take, List.length_drop, List.length_reverse] ; omega) | exact tabA_has (addA_mem.mpr (.inr rfl)) | decide | assumption)))) rfl))) rfl rfl (by first | omega | (simp only [List.length_map, List.length_range, List.length_append, List.length_cons, List.length_nil, List.length_replicate, List.length_set, List.length_take, List.length_drop, List.length_reverse] ; omega) | exact tabA_has (addA_mem.mpr (.inr rfl)) | decide) ?_
        rw [show ((numP keys i).map Da.int ++ [(Da.int ((look (tabA (addA (growA [] (keys.take i)) x)) x).getD 0))] : List Da) = ((numP keys i) ++ [((look (tabA (addA (growA [] (keys.take i)) x)) x).getD 0)]).map Da.int from app_one Da.int (numP keys i) ((look (tabA (addA (growA [] (keys.take i)) x)) x).getD 0)]
        show [_, ow (eD _ _ _ _), ow (Da.lst _), no] = [_, ow (eD _ _ _ _), ow (Da.lst _), no]
        rw [grow0_take hx, numP_succ hx, tabA_look (addA_mem.mpr (.inr rfl))]
        rfl
      rintro ρ rfl
      show J K H _ [sh (Da.tup (keys.map Da.int)), ow ((eD false Da.int Da.int) (tabA (growA [] (keys.take keys.length)))), ow (Da.lst ((numP keys keys.length).map Da.int)), no] _
      refine j_ret (d := (Da.lst ((numP keys keys.length).map Da.int))) (ev_move (k := 2) rfl) ?_
      show Da.lst _ = Da.lst _
      rw [numP_all]
    · show J K H _ [sh (Da.lst (keys.map (eP Da.int (eV Da.int)))), no, no, no] _
      refine j_seq (j_asg (d := ((eD true (eP Da.int (eV Da.int)) Da.int) [])) ((ef_dnew (t := true) (ek := (eP Da.int (eV Da.int))) (ev := Da.int))).m (Nat.le_of_ble_eq_true rfl) ?_)
      show J K H _ [sh (Da.lst (keys.map (eP Da.int (eV Da.int)))), ow ((eD true (eP Da.int (eV Da.int)) Da.int) []), no, no] _
      refine j_seq (j_asg (d := (Da.lst ([].map Da.int))) ((ef_lst (ds := []) eaf_nil (Nat.le_of_ble_eq_true rfl))).m (Nat.le_of_ble_eq_true rfl) ?_)
      show J K H _ [sh (Da.lst (keys.map (eP Da.int (eV Da.int)))), ow ((eD true (eP Da.int (eV Da.int)) Da.int) []), ow (Da.lst ([].map Da.int)), no] _
      refine j_seq (j_forW [] (ks := [3]) (e := (fun p : (Int × List (Int)) => [(eP Da.int (eV Da.int)) p])) (wkS_listA (xs := keys) (e0 := (eP Da.int (eV Da.int))) (e := (fun p : (Int × List (Int)) => [(eP Da.int (eV Da.int)) p])) (ev_shv (k := 0) rfl) (fun _ => tg_name)) (fun i ρ => ρ = [sh (Da.lst (keys.map (eP Da.int (eV Da.int)))), ow ((eD true (eP Da.int (eV Da.int)) Da.int) (tabA (growA [] (keys.take i)))), ow (Da.lst ((numP keys i).map Da.int)), no]) ?_ ?_ (fun _ => rfl) ?_ ?_)
      · rfl
      · rintro i ρ rfl; exact lt_all (n := 4) rfl rfl
      · rintro i x ρ hx rfl
        have hgl := grow0_len (keys.take i)
        have htl := tabA_len (growA [] (keys.take i))
        have hil := (List.getElem?_eq_some_iff.mp hx).1
        rw [List.length_take] at hgl
        have hnl := numP_len keys i
        show J K H _ [sh (Da.lst (keys.map (eP Da.int (eV Da.int)))), ow ((eD true (eP Da.int (eV Da.int)) Da.int) (tabA (growA [] (keys.take i)))), ow (Da.lst ((numP keys i).map Da.int)), sh (Da.tup [(Da.int x.1), (Da.tup (x.2.map Da.int))])] _
        refine j_mid [] (M := [sh (Da.lst (keys.map (eP Da.int (eV Da.int)))), ow ((eD true (eP Da.int (eV Da.int)) Da.int) (tabA (addA (growA [] (keys.take i)) x))), ow (Da.lst ((numP keys i).map Da.int)), sh (Da.tup [(Da.int x.1), (Da.tup (x.2.map Da.int))])]) (j_if (et_test (ev_dnotin kkIV (ev := Da.int) (l := (tabA (growA [] (keys.take i)))) (x := x) (ev_var (k := 3) rfl) (ev_var (k := 1) rfl))) (fun hc => ?_) (fun hc => ?_)) ?_
        · refine j_dput kkIV (k := 1) (l := (tabA (growA [] (keys.take i)))) (x := x) (v := (((tabA (growA [] (keys.take i))).length) : Int)) (ev := Da.int) (ev_lenD (ek := (eP Da.int (eV Da.int))) (ev := Da.int) (l := (tabA (growA [] (keys.take i)))) (ev_var (k := 1) rfl)) (ev_var (k := 3) rfl) (fun _ => rfl) rfl (by first | omega | (simp only [List.length_map, List.length_range, List.length_append, List.length_cons, List.length_nil, List.length_replicate, List.length_set, List.length_take, List.length_drop, List.length_reverse] ; omega) | exact tabA_has (addA_mem.mpr (.inr rfl)) | decide) ?_
          show [sh (Da.lst (keys.map (eP Da.int (eV Da.int)))), ow ((eD true (eP Da.int (eV Da.int)) Da.int) (put (tabA (growA [] (keys.take i))) x (((tabA (growA [] (keys.take i))).length) : Int))), ow (Da.lst ((numP keys i).map Da.int)), sh (Da.tup [(Da.int x.1), (Da.tup (x.2.map Da.int))])] = [sh (Da.lst (keys.map (eP Da.int (eV Da.int)))), ow ((eD true (eP Da.int (eV Da.int)) Da.int) (tabA (addA (growA [] (keys.take i)) x))), ow (Da.lst ((numP keys i).map Da.int)), sh (Da.tup [(Da.int x.1), (Da.tup (x.2.map Da.int))])]
          rw [tabA_in] at hc
          first
            | (have hn : x ∉ growA [] (keys.take i) := by simpa using hc
               rw [addA_new hn, htl, tabA_put hn])
            | (have hn : x ∈ growA [] (keys.take i) := by simpa using hc
               rw [addA_old hn])
        · refine j_next ?_
          show [sh (Da.lst (keys.map (eP Da.int (eV Da.int)))), ow ((eD true (eP Da.int (eV Da.int)) Da.int) (tabA (growA [] (keys.take i)))), ow (Da.lst ((numP keys i).map Da.int)), sh (Da.tup [(Da.int x.1), (Da.tup (x.2.map Da.int))])] = [sh (Da.lst (keys.map (eP Da.int (eV Da.int)))), ow ((eD true (eP Da.int (eV Da.int)) Da.int) (tabA (addA (growA [] (keys.take i)) x))), ow (Da.lst ((numP keys i).map Da.int)), sh (Da.tup [(Da.int x.1), (Da.tup (x.2.map Da.int))])]
          rw [tabA_in] at hc
          first
            | (have hn : x ∉ growA [] (keys.take i) := by simpa using hc
               rw [addA_new hn, htl, tabA_put hn])
            | (have hn : x ∈ growA [] (keys.take i) := by simpa using hc
               rw [addA_old hn])
        show J K H _ [sh (Da.lst (keys.map (eP Da.int (eV Da.int)))), ow ((eD true (eP Da.int (eV Da.int)) Da.int) (tabA (addA (growA [] (keys.take i)) x))), ow (Da.lst ((numP keys i).map Da.int)), sh (Da.tup [(Da.int x.1), (Da.tup (x.2.map Da.int))])] _
        refine j_append (k := 2) (ds := (numP keys i).map Da.int) (d := (Da.int ((look (tabA (addA (growA [] (keys.take i)) x)) x).getD 0))) (EvF.m ((EvB.f ((ev_dget kkIV (ev := Da.int) (l := (tabA (addA (growA [] (keys.take i)) x))) (x := x) (ev_var (k := 1) rfl) (ev_var (k := 3) rfl) (look_getD 0 (by first | omega | (simp only [List.length_map, List.length_range, List.length_append, List.length_cons, List.length_nil, List.length_replicate, List.length_set, List.length_take, List.length_drop, List.length_reverse] ; omega) | exact tabA_has (addA_mem.mpr (.inr rfl)) | decide | assumption)))) rfl))) rfl rfl (by first | omega | (simp only [List.length_map, List.length_range, List.length_append, List.length_cons, List.length_nil, List.length_replicate, List.length_set, List.length_take, List.length_drop, List.length_reverse] ; omega) | exact tabA_has (addA_mem.mpr (.inr rfl)) | decide) ?_
        rw [show ((numP keys i).map Da.int ++ [(Da.int ((look (tabA (addA (growA [] (keys.take i)) x)) x).getD 0))] : List Da) = ((numP keys i) ++ [((look (tabA (addA (growA [] (keys.take i)) x)) x).getD 0)]).map Da.int from app_one Da.int (numP keys i) ((look (tabA (addA (growA [] (keys.take i)) x)) x).getD 0)]
        show [_, ow (eD _ _ _ _), ow (Da.lst _), no] = [_, ow (eD _ _ _ _), ow (Da.lst _), no]
        rw [grow0_take hx, numP_succ hx, tabA_look (addA_mem.mpr (.inr rfl))]
        rfl
      rintro ρ rfl
      show J K H _ [sh (Da.lst (keys.map (eP Da.int (eV Da.int)))), ow ((eD true (eP Da.int (eV Da.int)) Da.int) (tabA (growA [] (keys.take keys.length)))), ow (Da.lst ((numP keys keys.length).map Da.int)), no] _
      refine j_ret (d := (Da.lst ((numP keys keys.length).map Da.int))) (ev_move (k := 2) rfl) ?_
      show Da.lst _ = Da.lst _
      rw [numP_all]
theorem kn_numbered (Z : Zb mg) (S : Stands K mg "numbered" s_numbered) : Known P w K mg base "numbered" 1 (spF K G_numbered) 1 [] :=
  known_of (ps := ["keys"]) S (fun _ _ _ _ _ _ us hl => match us, hl with | [_], _ => rfl) fun f fd F => ok_numbered Z F
def G_lots_of : List Da → Da → Prop := fun ds d => ∃ (machine : (List (List (Int)) × List (Int))) (L : Int), ds = [(Da.tup [(Da.tup (machine.1.map (eV Da.int))), (Da.tup (machine.2.map Da.int))])] ∧ (Okm machine L) ∧ (machine.1.length ≤ 1000) ∧ (L ≤ 1000) ∧ d = (Da.lst ((lotsL machine).map Da.int))
abbrev s_lots_of : Stmt := topS 14
theorem sc_lots_of : FnScope ["machine", "lots", "many", "room", "k", "row"] ["machine"] (defScope s_lots_of) := ⟨rfl, rfl, rfl, by decide +kernel, rfl, by decide +kernel, by decide +kernel⟩
theorem ok_lots_of (Z : Zb mg) (g_numbered : Known P w K mg base "numbered" 1 (spF K G_numbered) 1 []) {f : Addr} {fd : FuncData} (F : Fun K "lots_of" "lots_of" s_lots_of f fd) : FnOk P w K mg base CX0 2 f fd ["machine"] (spF K G_lots_of) := by
  refine fnok_of (k := 1) F sc_lots_of (fun ds d h => ?_) (fun cdv A outer s H E hr => ?_)
  · obtain ⟨_, _, h, _⟩ := h; rw [h]; rfl
  · have hu := hu_of hr
    have hv := hv_of hr
    have hu0 := hr.units0
    refine ⟨_, (pss_cons (ps_set (i := 1) sc_lots_of.nd rfl (Or.inr rfl) (pe_known g_numbered (hr.mono (by decide)) (pa_cons (pe_ix (r := rIx K) ix_seq (pv 0) pe_int (fun _ _ => rfl)) pa_nil)))
      (pss_cons (ps_set (i := 2) sc_lots_of.nd rfl (Or.inl rfl) pe_int)
      (pss_cons (ps_while PassesOwn.never (pt_cmpR op_ne (pv 2) (pe_lenSetD (by rfl) Z.len (by rfl) Z.set (pv 1)) (nomark _)) (pss_cons (ps_set (i := 2) sc_lots_of.nd rfl (Or.inl rfl) (pe_lenSetD (by rfl) Z.len (by rfl) Z.set (pv 1)))
      (pss_one (ps_set (i := 1) sc_lots_of.nd rfl (Or.inr rfl) (pe_known g_numbered (hr.mono (by decide)) (pa_cons (pe_lc (own := [("k", 4), ("row", 5)]) (g := (gTup K 2 (gNs [4, 5]))) rfl sc_lots_of.nd (show PI _ _ _ (iEnumT K _) from pi_enumT (by rfl) Z.enumerate (pa_cons (pe_ix (r := rIx K) ix_seq (pv 0) pe_int (fun _ _ => rfl)) pa_nil)) (blkOk_by (own := [("k", 4), ("row", 5)]) (N := ["machine", "lots", "many", "room", "k", "row"]) (sc := defScope s_lots_of) (by decide +kernel)) (fun _ _ _ _ _ => (pg_tup rfl (pgs_cons (pg_name (i := 4) sc_lots_of.nd rfl (Or.inl rfl)) (pgs_cons (pg_name (i := 5) sc_lots_of.nd rfl (Or.inl rfl)) pgs_nil)))) (fun _ _ _ _ _ => pts_nil) (fun _ _ _ _ _ => (pe_tup (pa_cons (pe_ix (r := rIx K) ix_seq (pv 1) (pv 4) (fun _ _ => rfl)) (pa_cons (pe_callTy (T := "tuple") (r := rTupOf K) call_tuple_of (by rfl) Z.tuple (by decide +kernel) (pa_cons (pe_lc (own := [("room", 3)]) (g := gName 3) rfl sc_lots_of.nd (show PI _ _ _ (iTup K _) from pi_tup (pv 5)) (blkOk_by (own := [("room", 3)]) (N := ["machine", "lots", "many", "room", "k", "row"]) (sc := _) (by rfl)) (fun _ _ _ _ _ => pg_name (i := 3) sc_lots_of.nd rfl (Or.inl rfl)) (fun _ _ _ _ _ => pts_nil) (fun _ _ _ _ _ => (pe_ix (r := rIx K) ix_seq (pv 1) (pv 3) (fun _ _ => rfl)))) pa_nil)) pa_nil))))) pa_nil))))))
      (pss_one (ps_ret (pv 1)))))), ?_⟩
    rintro ds d ⟨machine, L, rfl, hp0, hp1, hp2, rfl⟩
    have hsg := hp0.sg
    show J K H _ [sh (Da.tup [(Da.tup (machine.1.map (eV Da.int))), (Da.tup (machine.2.map Da.int))]), no, no, no, no, no] _
    refine j_seq (j_asg (d := (Da.lst ((numA machine.2).map Da.int))) ((ev_call (ds := [(Da.tup (machine.2.map Da.int))]) (d := (Da.lst ((numA machine.2).map Da.int))) (ea_cons (ev_ixT (ds := [(Da.tup (machine.1.map (eV Da.int))), (Da.tup (machine.2.map Da.int))]) (i := 1) (d := (Da.tup (machine.2.map Da.int))) (ev_var (k := 0) rfl) ev_int rfl) ea_nil) (.inl ⟨machine.2, rfl, (by first | omega | (simp only [List.length_map, List.length_range, List.length_append, List.length_cons, List.length_nil, List.length_replicate, List.length_set, List.length_take, List.length_drop, List.length_reverse] ; omega) | (have hni := num_in h_x_k_row; first | omega | (have hrl := hp0.len _ hni.2; omega) | (have hnx := hp0.nx _ hni.2 _ h_room; omega)) | decide | assumption), rfl⟩))).m (Nat.le_of_ble_eq_true rfl) ?_)
    show J K H _ [sh (Da.tup [(Da.tup (machine.1.map (eV Da.int))), (Da.tup (machine.2.map Da.int))]), ow (Da.lst ((numA machine.2).map Da.int)), no, no, no, no] _
    refine j_seq (j_asg (d := (Da.int 0)) (EvF.m ((EvB.f (ev_int) rfl))) (Nat.le_of_ble_eq_true rfl) ?_)
    show J K H _ [sh (Da.tup [(Da.tup (machine.1.map (eV Da.int))), (Da.tup (machine.2.map Da.int))]), ow (Da.lst ((numA machine.2).map Da.int)), ow (Da.int 0), no, no, no] _
    refine j_seq (j_while [3, 4, 5] (fun b : List (Int) × Int × Nat => [sh (Da.tup [(Da.tup (machine.1.map (eV Da.int))), (Da.tup (machine.2.map Da.int))]), ow (Da.lst (b.1.map Da.int)), ow (Da.int b.2.1), no, no, no]) (fun b : List (Int) × Int × Nat => 0 ≤ b.2.1 ∧ Li machine L b.2.2 b.2.1.toNat b.1) (fun b : List (Int) × Int × Nat => (machine.1.length + 1 - b.2.1.toNat : Nat)) ((numA machine.2), 0, 0) rfl ?_ ?_)
    · exact ⟨Int.le_refl _, Li.start hp0⟩
    rintro ⟨lots, many, n⟩ hI
    obtain ⟨hM, hLi⟩ : 0 ≤ many ∧ Li machine L n many.toNat lots := hI
    have hb := hLi.bound
    have hlen := hLi.len
    have hfw := hLi.few
    refine ⟨(!decide (many = (((distinct lots).length) : Int))), (et_test (ev_neI (ev_var (k := 2) rfl) (ev_lenSetD (ns := lots) (ev_var (k := 1) rfl) (by first | omega | (simp only [List.length_map, List.length_range, List.length_append, List.length_cons, List.length_nil, List.length_replicate, List.length_set, List.length_take, List.length_drop, List.length_reverse] ; omega) | (have hni := num_in h_x_k_row; first | omega | (have hrl := hp0.len _ hni.2; omega) | (have hnx := hp0.nx _ hni.2 _ h_room; omega)) | decide)))), fun hc => ?_, fun hc => ?_⟩
    · have hkl := keysL_len machine lots
      unfold keysL at hkl
      have hne : many.toNat ≠ (distinct lots).length := by
        have : ¬ many = ((distinct lots).length : Int) := by simpa using hc
        omega
      show J K H _ [sh (Da.tup [(Da.tup (machine.1.map (eV Da.int))), (Da.tup (machine.2.map Da.int))]), ow (Da.lst (lots.map Da.int)), ow (Da.int many), no, no, no] _
      refine j_seq (j_asg (d := (Da.int (((distinct lots).length) : Nat))) (EvF.m ((EvB.f ((ev_lenSetD (ns := lots) (ev_var (k := 1) rfl) (by first | omega | (simp only [List.length_map, List.length_range, List.length_append, List.length_cons, List.length_nil, List.length_replicate, List.length_set, List.length_take, List.length_drop, List.length_reverse] ; omega) | (have hni := num_in h_x_k_row; first | omega | (have hrl := hp0.len _ hni.2; omega) | (have hnx := hp0.nx _ hni.2 _ h_room; omega)) | decide))) rfl))) (Nat.le_of_ble_eq_true rfl) ?_)
      show J K H _ [sh (Da.tup [(Da.tup (machine.1.map (eV Da.int))), (Da.tup (machine.2.map Da.int))]), ow (Da.lst (lots.map Da.int)), ow (Da.int (((distinct lots).length) : Nat)), no, no, no] _
      refine j_asg (d := (Da.lst ((numA ((num machine.1).map fun (x_k_row : (Nat × List (Int))) => ((lots.getD x_k_row.1 0), (x_k_row.2.map fun (room : Int) => (lots.getD (room : Int).toNat 0))))).map Da.int))) ((ev_call (ds := [(Da.lst (((num machine.1).map fun (x_k_row : (Nat × List (Int))) => ((lots.getD x_k_row.1 0), (x_k_row.2.map fun (room : Int) => (lots.getD (room : Int).toNat 0)))).map (eP Da.int (eV Da.int))))]) (d := (Da.lst ((numA ((num machine.1).map fun (x_k_row : (Nat × List (Int))) => ((lots.getD x_k_row.1 0), (x_k_row.2.map fun (room : Int) => (lots.getD (room : Int).toNat 0))))).map Da.int))) (ea_cons (EvF.g ((EvF.is (d1 := (Da.lst (((num machine.1).map fun (x_k_row : (Nat × List (Int))) => ((lots.getD x_k_row.1 0), (x_k_row.2.map fun (room : Int) => (lots.getD (room : Int).toNat 0)))).map (eP Da.int (eV Da.int))))) (ef_lcW (ks := [4, 5]) (e := (fun p : (Nat × List (Int)) => [.int (p.1 : Nat), (eV Da.int) p.2])) (wkE_enumT (xs := machine.1) (e0 := (eV Da.int)) (ev_ixT (ds := [(Da.tup (machine.1.map (eV Da.int))), (Da.tup (machine.2.map Da.int))]) (i := 0) (d := (Da.tup (machine.1.map (eV Da.int)))) (ev_var (k := 0) rfl) ev_int rfl)) (fun (x_k_row : (Nat × List (Int))) => (Da.tup [(Da.int (lots.getD x_k_row.1 0)), (Da.tup ((x_k_row.2.map fun (room : Int) => (lots.getD (room : Int).toNat 0)).map Da.int))])) (by decide) (by first | (simp only [num_len] ; omega) | omega | (simp only [List.length_map, List.length_range, List.length_append, List.length_cons, List.length_nil, List.length_replicate, List.length_set, List.length_take, List.length_drop, List.length_reverse] ; omega) | (have hni := num_in h_x_k_row; first | omega | (have hrl := hp0.len _ hni.2; omega) | (have hnx := hp0.nx _ hni.2 _ h_room; omega)) | decide) (fun x_k_row h_x_k_row => (ef_tup (ds := [(Da.int (lots.getD x_k_row.1 0)), (Da.tup ((x_k_row.2.map fun (room : Int) => (lots.getD (room : Int).toNat 0)).map Da.int))]) (eaf_cons (EvB.f ((ev_ixL (ds := lots.map Da.int) (i := (x_k_row.1 : Int)) (d := (Da.int (lots.getD x_k_row.1 0))) (ev_var (k := 1) rfl) (ev_var (k := 4) rfl) (at_mapN 0 (by first | omega | (simp only [List.length_map, List.length_range, List.length_append, List.length_cons, List.length_nil, List.length_replicate, List.length_set, List.length_take, List.length_drop, List.length_reverse] ; omega) | (have hni := num_in h_x_k_row; first | omega | (have hrl := hp0.len _ hni.2; omega) | (have hnx := hp0.nx _ hni.2 _ h_room; omega)) | decide)))) rfl) (eaf_cons (ef_tupL (EvF.g ((EvF.is (d1 := (Da.lst ((x_k_row.2.map fun (room : Int) => (lots.getD (room : Int).toNat 0)).map Da.int))) (ef_lcT x_k_row.2 Da.int (fun (room : Int) => (Da.int (lots.getD (room : Int).toNat 0))) (ev_var (k := 5) rfl) (by decide) (by first | omega | (simp only [List.length_map, List.length_range, List.length_append, List.length_cons, List.length_nil, List.length_replicate, List.length_set, List.length_take, List.length_drop, List.length_reverse] ; omega) | (have hni := num_in h_x_k_row; first | omega | (have hrl := hp0.len _ hni.2; omega) | (have hnx := hp0.nx _ hni.2 _ h_room; omega)) | decide) (fun room h_room => (EvB.f ((ev_ixL (ds := lots.map Da.int) (i := room) (d := (Da.int (lots.getD (room : Int).toNat 0))) (ev_var (k := 1) rfl) (ev_var (k := 3) rfl) (at_map 0 (by first | omega | (simp only [List.length_map, List.length_range, List.length_append, List.length_cons, List.length_nil, List.length_replicate, List.length_set, List.length_take, List.length_drop, List.length_reverse] ; omega) | (have hni := num_in h_x_k_row; first | omega | (have hrl := hp0.len _ hni.2; omega) | (have hnx := hp0.nx _ hni.2 _ h_room; omega)) | decide) (by first | omega | (simp only [List.length_map, List.length_range, List.length_append, List.length_cons, List.length_nil, List.length_replicate, List.length_set, List.length_take, List.length_drop, List.length_reverse] ; omega) | (have hni := num_in h_x_k_row; first | omega | (have hrl := hp0.len _ hni.2; omega) | (have hnx := hp0.nx _ hni.2 _ h_room; omega)) | decide)))) rfl))) (by first | (simp only [List.map_map, Function.comp_def]; done) | (simp only [List.map_map, Function.comp_def, eV, eL, eP, eP3]; done) | rfl)))) (imms_map _ (fun _ => rfl) _)) eaf_nil)) (Nat.le_of_ble_eq_true rfl)))) (by first | (simp only [List.map_map, Function.comp_def]; done) | (simp only [List.map_map, Function.comp_def, eV, eL, eP, eP3]; done) | rfl)))) ea_nil) (.inr ⟨((num machine.1).map fun (x_k_row : (Nat × List (Int))) => ((lots.getD x_k_row.1 0), (x_k_row.2.map fun (room : Int) => (lots.getD (room : Int).toNat 0)))), rfl, (by first | omega | (simp only [List.length_map, List.length_range, List.length_append, List.length_cons, List.length_nil, List.length_replicate, List.length_set, List.length_take, List.length_drop, List.length_reverse] ; omega) | (have hni := num_in h_x_k_row; first | omega | (have hrl := hp0.len _ hni.2; omega) | (have hnx := hp0.nx _ hni.2 _ h_room; omega)) | decide | assumption), rfl⟩))).m (Nat.le_of_ble_eq_true rfl) ?_
      refine ⟨(numA ((num machine.1).map fun (x_k_row : (Nat × List (Int))) => ((lots.getD x_k_row.1 0), (x_k_row.2.map fun (room : Int) => (lots.getD (room : Int).toNat 0)))), (distinct lots).length, (n + 1)), rfl, ?_, ?_⟩
      · refine ⟨by show (0 : Int) ≤ ((distinct lots).length : Int); omega, ?_⟩
        show Li machine L (n + 1) (((distinct lots).length : Nat) : Int).toNat _
        rw [Int.toNat_natCast]
        exact hLi.next hp0 hne
      · show machine.1.length + 1 - (((distinct lots).length : Nat) : Int).toNat < machine.1.length + 1 - many.toNat
        rw [Int.toNat_natCast]
        omega
    have hbl := hLi.bound
    obtain ⟨hE, _, _⟩ := hLi.done hp0 (by
      have : many = ((distinct lots).length : Int) := by simpa using hc
      omega)
    show J K H _ [sh (Da.tup [(Da.tup (machine.1.map (eV Da.int))), (Da.tup (machine.2.map Da.int))]), ow (Da.lst (lots.map Da.int)), ow (Da.int many), no, no, no] _
    refine j_ret (d := (Da.lst (lots.map Da.int))) (ev_move (k := 1) rfl) ?_
    show Da.lst _ = Da.lst _
    rw [hE]
theorem kn_lots_of (Z : Zb mg) (g_numbered : Known P w K mg base "numbered" 1 (spF K G_numbered) 1 []) (S : Stands K mg "lots_of" s_lots_of) : Known P w K mg base "lots_of" 2 (spF K G_lots_of) 1 [] :=
  known_of (ps := ["machine"]) S (fun _ _ _ _ _ _ us hl => match us, hl with | [_], _ => rfl) fun f fd F => ok_lots_of Z g_numbered F
def G_least : List Da → Da → Prop := fun ds d => ∃ (machine : (List (List (Int)) × List (Int))) (L : Int), ds = [(Da.tup [(Da.tup (machine.1.map (eV Da.int))), (Da.tup (machine.2.map Da.int))])] ∧ (Okm machine L) ∧ (machine.1.length ≤ 1000) ∧ (L ≤ 1000) ∧ d = (Da.tup [(Da.tup (((leastL machine).1).map (eV Da.int))), (Da.tup (((leastL machine).2).map Da.int))])
abbrev s_least : Stmt := topS 15
theorem sc_least : FnScope ["machine", "reached", "lots", "rows", "signs", "k", "room"] ["machine"] (defScope s_least) := ⟨rfl, rfl, rfl, by decide +kernel, rfl, by decide +kernel, by decide +kernel⟩
theorem ok_least (Z : Zb mg) (g_as_reached : Known P w K mg base "as_reached" 1 (spF K G_as_reached) 1 []) (g_lots_of : Known P w K mg base "lots_of" 2 (spF K G_lots_of) 1 []) {f : Addr} {fd : FuncData} (F : Fun K "least" "least" s_least f fd) : FnOk P w K mg base CX0 3 f fd ["machine"] (spF K G_least) := by
  refine fnok_of (k := 2) F sc_least (fun ds d h => ?_) (fun cdv A outer s H E hr => ?_)
  · obtain ⟨_, _, h, _⟩ := h; rw [h]; rfl
  · have hu := hu_of hr
    have hv := hv_of hr
    have hu0 := hr.units0
    refine ⟨_, (pss_cons (ps_set (i := 1) sc_least.nd rfl (Or.inl rfl) (pe_known g_as_reached (hr.mono (by decide)) (pa_cons (pv 0) pa_nil)))
      (pss_cons (ps_set (i := 2) sc_least.nd rfl (Or.inr rfl) (pe_known g_lots_of (hr.mono (by decide)) (pa_cons (pv 1) pa_nil)))
      (pss_cons (ps_set (i := 3) sc_least.nd rfl (Or.inl rfl) (pe_lst pa_nil))
      (pss_cons (ps_set (i := 4) sc_least.nd rfl (Or.inl rfl) (pe_lst pa_nil))
      (pss_cons (ps_for PassesOwn.never rfl (pi_range1 (by rfl) Z.range (pa_cons (pe_callB (r := rLenV K) call_len (by rfl) Z.len (by decide +kernel) (pa_cons (pv 2) pa_nil)) pa_nil)) (pg_name (i := 5) sc_least.nd rfl (Or.inl rfl))
        (pss_one (ps_if (pt_cmpR op_eq (pe_ix (r := rIx K) ix_seq (pv 2) (pv 5) (fun _ _ => rfl)) (pe_callB (r := rLenV K) call_len (by rfl) Z.len (by decide +kernel) (pa_cons (pv 3) pa_nil)) (nomark _)) (pss_cons (ps_expr (pe_bm PySem.F.plainAttrs_list PySem.F.slot_list_append PySem.F.type_list_append mt_append (pv 3) (pa_cons (pe_callTy (T := "tuple") (r := rTupOf K) call_tuple_of (by rfl) Z.tuple (by decide +kernel) (pa_cons (pe_lc (own := [("room", 6)]) (g := gName 6) rfl sc_least.nd (show PI _ _ _ (iTup K _) from pi_tup (pe_ix (r := rIx K) ix_seq (pe_ix (r := rIx K) ix_seq (pv 1) pe_int (fun _ _ => rfl)) (pv 5) (fun _ _ => rfl))) (blkOk_by (own := [("room", 6)]) (N := ["machine", "reached", "lots", "rows", "signs", "k", "room"]) (sc := defScope s_least) (by decide +kernel)) (fun _ _ _ _ _ => pg_name (i := 6) sc_least.nd rfl (Or.inl rfl)) (fun _ _ _ _ _ => pts_nil) (fun _ _ _ _ _ => (pe_ix (r := rIx K) ix_seq (pv 2) (pv 6) (fun _ _ => rfl)))) pa_nil)) pa_nil)))
      (pss_one (ps_expr (pe_bm PySem.F.plainAttrs_list PySem.F.slot_list_append PySem.F.type_list_append mt_append (pv 4) (pa_cons (pe_ix (r := rIx K) ix_seq (pe_ix (r := rIx K) ix_seq (pv 1) pe_int (fun _ _ => rfl)) (pv 5) (fun _ _ => rfl)) pa_nil))))) pss_nil)))
      (pss_one (ps_ret (pe_known g_as_reached (hr.mono (by decide)) (pa_cons (pe_tup (pa_cons (pe_callTy (T := "tuple") (r := rTupOf K) call_tuple_of (by rfl) Z.tuple (by decide +kernel) (pa_cons (pv 3) pa_nil)) (pa_cons (pe_callTy (T := "tuple") (r := rTupOf K) call_tuple_of (by rfl) Z.tuple (by decide +kernel) (pa_cons (pv 4) pa_nil)) pa_nil))) pa_nil))))))))), ?_⟩
    rintro ds d ⟨machine, L, rfl, hp0, hp1, hp2, rfl⟩
    show J K H _ [sh (Da.tup [(Da.tup (machine.1.map (eV Da.int))), (Da.tup (machine.2.map Da.int))]), no, no, no, no, no, no] _
    refine j_seq (j_asg (d := (Da.tup [(Da.tup (((reached machine).1).map (eV Da.int))), (Da.tup (((reached machine).2).map Da.int))])) ((ev_call (ds := [(Da.tup [(Da.tup (machine.1.map (eV Da.int))), (Da.tup (machine.2.map Da.int))])]) (d := (Da.tup [(Da.tup (((reached machine).1).map (eV Da.int))), (Da.tup (((reached machine).2).map Da.int))])) (ea_cons (ev_var (k := 0) rfl) ea_nil) ⟨machine, L, rfl, (by first | omega | (simp only [List.length_map, List.length_range, List.length_append, List.length_cons, List.length_nil, List.length_replicate, List.length_set, List.length_take, List.length_drop, List.length_reverse] ; omega) | (first | exact hq.ok | (have hnx := hr1.nx _ (getD_mem' (z := []) hir) _ h_room; omega)) | decide | assumption), (by first | omega | (simp only [List.length_map, List.length_range, List.length_append, List.length_cons, List.length_nil, List.length_replicate, List.length_set, List.length_take, List.length_drop, List.length_reverse] ; omega) | (first | exact hq.ok | (have hnx := hr1.nx _ (getD_mem' (z := []) hir) _ h_room; omega)) | decide | assumption), (by first | omega | (simp only [List.length_map, List.length_range, List.length_append, List.length_cons, List.length_nil, List.length_replicate, List.length_set, List.length_take, List.length_drop, List.length_reverse] ; omega) | (first | exact hq.ok | (have hnx := hr1.nx _ (getD_mem' (z := []) hir) _ h_room; omega)) | decide | assumption), rfl⟩)).m (Nat.le_of_ble_eq_true rfl) ?_)
    show J K H _ [sh (Da.tup [(Da.tup (machine.1.map (eV Da.int))), (Da.tup (machine.2.map Da.int))]), ow (Da.tup [(Da.tup (((reached machine).1).map (eV Da.int))), (Da.tup (((reached machine).2).map Da.int))]), no, no, no, no, no] _
    generalize h_re : (reached machine : (List (List (Int)) × List (Int))) = re
    have hr0 := reached_ok hp0
    rw [h_re] at hr0
    have hr1 := hr0.1
    have hr2 := hr0.2
    have hr3 := hr1.sg
    refine j_seq (j_asg (d := (Da.lst ((lotsL re).map Da.int))) ((ev_call (ds := [(Da.tup [(Da.tup (re.1.map (eV Da.int))), (Da.tup (re.2.map Da.int))])]) (d := (Da.lst ((lotsL re).map Da.int))) (ea_cons (ev_var (k := 1) rfl) ea_nil) ⟨re, L, rfl, (by first | omega | (simp only [List.length_map, List.length_range, List.length_append, List.length_cons, List.length_nil, List.length_replicate, List.length_set, List.length_take, List.length_drop, List.length_reverse] ; omega) | (first | exact hq.ok | (have hnx := hr1.nx _ (getD_mem' (z := []) hir) _ h_room; omega)) | decide | assumption), (by first | omega | (simp only [List.length_map, List.length_range, List.length_append, List.length_cons, List.length_nil, List.length_replicate, List.length_set, List.length_take, List.length_drop, List.length_reverse] ; omega) | (first | exact hq.ok | (have hnx := hr1.nx _ (getD_mem' (z := []) hir) _ h_room; omega)) | decide | assumption), (by first | omega | (simp only [List.length_map, List.length_range, List.length_append, List.length_cons, List.length_nil, List.length_replicate, List.length_set, List.length_take, List.length_drop, List.length_reverse] ; omega) | (first | exact hq.ok | (have hnx := hr1.nx _ (getD_mem' (z := []) hir) _ h_room; omega)) | decide | assumption), rfl⟩)).m (Nat.le_of_ble_eq_true rfl) ?_)
    show J K H _ [sh (Da.tup [(Da.tup (machine.1.map (eV Da.int))), (Da.tup (machine.2.map Da.int))]), ow (Da.tup [(Da.tup (re.1.map (eV Da.int))), (Da.tup (re.2.map Da.int))]), ow (Da.lst ((lotsL re).map Da.int)), no, no, no, no] _
    generalize h_lots : (lotsL re : List (Int)) = lots
    have hlo := lots_ok hr1
    rw [h_lots] at hlo
    have hll := hlo.len
    have hq := quot_ok hr1 hlo
    have hqle := hq.le
    unfold quot at hqle
    refine j_seq (j_asg (d := (Da.lst ([].map Da.int))) ((ef_lst (ds := []) eaf_nil (Nat.le_of_ble_eq_true rfl))).m (Nat.le_of_ble_eq_true rfl) ?_)
    show J K H _ [sh (Da.tup [(Da.tup (machine.1.map (eV Da.int))), (Da.tup (machine.2.map Da.int))]), ow (Da.tup [(Da.tup (re.1.map (eV Da.int))), (Da.tup (re.2.map Da.int))]), ow (Da.lst (lots.map Da.int)), ow (Da.lst ([].map Da.int)), no, no, no] _
    refine j_seq (j_asg (d := (Da.lst ([].map Da.int))) ((ef_lst (ds := []) eaf_nil (Nat.le_of_ble_eq_true rfl))).m (Nat.le_of_ble_eq_true rfl) ?_)
    show J K H _ [sh (Da.tup [(Da.tup (machine.1.map (eV Da.int))), (Da.tup (machine.2.map Da.int))]), ow (Da.tup [(Da.tup (re.1.map (eV Da.int))), (Da.tup (re.2.map Da.int))]), ow (Da.lst (lots.map Da.int)), ow (Da.lst ([].map Da.int)), ow (Da.lst ([].map Da.int)), no, no] _
    refine j_seq (j_range1 [6] (k := 5) (n := (lots.length : Int)) (ea_cons (EvB.is (d1 := Da.int (lots.length : Nat)) (ev_len (ev_var (k := 2) rfl)) (by simp only [List.length_map])) ea_nil) (by first | omega | (simp only [List.length_map, List.length_range, List.length_append, List.length_cons, List.length_nil, List.length_replicate, List.length_set, List.length_take, List.length_drop, List.length_reverse] ; omega) | (first | exact hq.ok | (have hnx := hr1.nx _ (getD_mem' (z := []) hir) _ h_room; omega)) | decide) (fun i ρ => ρ = [sh (Da.tup [(Da.tup (machine.1.map (eV Da.int))), (Da.tup (machine.2.map Da.int))]), ow (Da.tup [(Da.tup (re.1.map (eV Da.int))), (Da.tup (re.2.map Da.int))]), ow (Da.lst (lots.map Da.int)), ow (Da.lst (((quotN re lots i).1).map (eV Da.int))), ow (Da.lst (((quotN re lots i).2).map Da.int)), no, no]) ?_ ?_ ?_ ?_ (by first | omega | (simp only [List.length_map, List.length_range, List.length_append, List.length_cons, List.length_nil, List.length_replicate, List.length_set, List.length_take, List.length_drop, List.length_reverse] ; omega) | (first | exact hq.ok | (have hnx := hr1.nx _ (getD_mem' (z := []) hir) _ h_room; omega)) | decide))
    · rfl
    · rintro i ρ rfl; exact Nat.le_of_ble_eq_true rfl
    · rintro i ρ hi rfl
      have hrow := hr1.row (r := (i : Int)) (by omega) (by omega)
      rw [Int.toNat_natCast] at hrow
      have hpk := pick_len lots i
      have hql := quotN_len re lots i
      have hql2 := quotN_len2 re lots i
      have hir : i < re.1.length := by omega
      show J K H _ [sh (Da.tup [(Da.tup (machine.1.map (eV Da.int))), (Da.tup (machine.2.map Da.int))]), ow (Da.tup [(Da.tup (re.1.map (eV Da.int))), (Da.tup (re.2.map Da.int))]), ow (Da.lst (lots.map Da.int)), ow (Da.lst (((quotN re lots i).1).map (eV Da.int))), ow (Da.lst (((quotN re lots i).2).map Da.int)), ow (Da.int (i : Nat)), no] _
      refine j_if (et_test (ev_eqI (ev_ixL (ds := lots.map Da.int) (i := (i : Int)) (d := (Da.int (lots.getD i 0))) (ev_var (k := 2) rfl) (ev_var (k := 5) rfl) (at_mapN 0 (by first | omega | (simp only [List.length_map, List.length_range, List.length_append, List.length_cons, List.length_nil, List.length_replicate, List.length_set, List.length_take, List.length_drop, List.length_reverse] ; omega) | (first | exact hq.ok | (have hnx := hr1.nx _ (getD_mem' (z := []) hir) _ h_room; omega)) | decide))) (EvB.is (d1 := Da.int (((quotN re lots i).1).length : Nat)) (ev_len (ev_var (k := 3) rfl)) (by simp only [List.length_map])))) (fun hc => ?_) (fun hc => ?_)
      · refine j_seq (j_append (k := 3) (ds := ((quotN re lots i).1).map (eV Da.int)) (d := (Da.tup (((re.1.getD i []).map fun (room : Int) => (lots.getD (room : Int).toNat 0)).map Da.int))) ((ef_tupL (EvF.g ((EvF.is (d1 := (Da.lst (((re.1.getD i []).map fun (room : Int) => (lots.getD (room : Int).toNat 0)).map Da.int))) (ef_lcT (re.1.getD i []) Da.int (fun (room : Int) => (Da.int (lots.getD (room : Int).toNat 0))) (ev_ixT (ds := re.1.map (eV Da.int)) (i := (i : Int)) (d := (Da.tup ((re.1.getD i []).map Da.int))) (ev_ixT (ds := [(Da.tup (re.1.map (eV Da.int))), (Da.tup (re.2.map Da.int))]) (i := 0) (d := (Da.tup (re.1.map (eV Da.int)))) (ev_var (k := 1) rfl) ev_int rfl) (ev_var (k := 5) rfl) (at_mapN [] (by first | omega | (simp only [List.length_map, List.length_range, List.length_append, List.length_cons, List.length_nil, List.length_replicate, List.length_set, List.length_take, List.length_drop, List.length_reverse] ; omega) | (first | exact hq.ok | (have hnx := hr1.nx _ (getD_mem' (z := []) hir) _ h_room; omega)) | decide))) (by decide) (by first | omega | (simp only [List.length_map, List.length_range, List.length_append, List.length_cons, List.length_nil, List.length_replicate, List.length_set, List.length_take, List.length_drop, List.length_reverse] ; omega) | (first | exact hq.ok | (have hnx := hr1.nx _ (getD_mem' (z := []) hir) _ h_room; omega)) | decide) (fun room h_room => (EvB.f ((ev_ixL (ds := lots.map Da.int) (i := room) (d := (Da.int (lots.getD (room : Int).toNat 0))) (ev_var (k := 2) rfl) (ev_var (k := 6) rfl) (at_map 0 (by first | omega | (simp only [List.length_map, List.length_range, List.length_append, List.length_cons, List.length_nil, List.length_replicate, List.length_set, List.length_take, List.length_drop, List.length_reverse] ; omega) | (first | exact hq.ok | (have hnx := hr1.nx _ (getD_mem' (z := []) hir) _ h_room; omega)) | decide) (by first | omega | (simp only [List.length_map, List.length_range, List.length_append, List.length_cons, List.length_nil, List.length_replicate, List.length_set, List.length_take, List.length_drop, List.length_reverse] ; omega) | (first | exact hq.ok | (have hnx := hr1.nx _ (getD_mem' (z := []) hir) _ h_room; omega)) | decide)))) rfl))) (by first | (simp only [List.map_map, Function.comp_def]; done) | (simp only [List.map_map, Function.comp_def, eV, eL, eP, eP3]; done) | rfl)))) (imms_map _ (fun _ => rfl) _))).m rfl rfl (by first | omega | (simp only [List.length_map, List.length_range, List.length_append, List.length_cons, List.length_nil, List.length_replicate, List.length_set, List.length_take, List.length_drop, List.length_reverse] ; omega) | (first | exact hq.ok | (have hnx := hr1.nx _ (getD_mem' (z := []) hir) _ h_room; omega)) | decide) ?_)
        rw [show (((quotN re lots i).1).map (eV Da.int) ++ [(Da.tup (((re.1.getD i []).map fun (room : Int) => (lots.getD (room : Int).toNat 0)).map Da.int))] : List Da) = ((quotN re lots i).1 ++ [((re.1.getD i []).map fun (room : Int) => (lots.getD (room : Int).toNat 0))]).map (eV Da.int) from app_one (eV Da.int) ((quotN re lots i).1) ((re.1.getD i []).map fun (room : Int) => (lots.getD (room : Int).toNat 0))]
        show J K H _ [sh (Da.tup [(Da.tup (machine.1.map (eV Da.int))), (Da.tup (machine.2.map Da.int))]), ow (Da.tup [(Da.tup (re.1.map (eV Da.int))), (Da.tup (re.2.map Da.int))]), ow (Da.lst (lots.map Da.int)), ow (Da.lst (((quotN re lots i).1 ++ [((re.1.getD i []).map fun (room : Int) => (lots.getD (room : Int).toNat 0))]).map (eV Da.int))), ow (Da.lst (((quotN re lots i).2).map Da.int)), ow (Da.int (i : Nat)), no] _
        refine j_append (k := 4) (ds := ((quotN re lots i).2).map Da.int) (d := (Da.int (re.2.getD i 0))) (EvF.m ((EvB.f ((ev_ixT (ds := re.2.map Da.int) (i := (i : Int)) (d := (Da.int (re.2.getD i 0))) (ev_ixT (ds := [(Da.tup (re.1.map (eV Da.int))), (Da.tup (re.2.map Da.int))]) (i := 1) (d := (Da.tup (re.2.map Da.int))) (ev_var (k := 1) rfl) ev_int rfl) (ev_var (k := 5) rfl) (at_mapN 0 (by first | omega | (simp only [List.length_map, List.length_range, List.length_append, List.length_cons, List.length_nil, List.length_replicate, List.length_set, List.length_take, List.length_drop, List.length_reverse] ; omega) | (first | exact hq.ok | (have hnx := hr1.nx _ (getD_mem' (z := []) hir) _ h_room; omega)) | decide)))) rfl))) rfl rfl (by first | omega | (simp only [List.length_map, List.length_range, List.length_append, List.length_cons, List.length_nil, List.length_replicate, List.length_set, List.length_take, List.length_drop, List.length_reverse] ; omega) | (first | exact hq.ok | (have hnx := hr1.nx _ (getD_mem' (z := []) hir) _ h_room; omega)) | decide) ?_
        rw [show (((quotN re lots i).2).map Da.int ++ [(Da.int (re.2.getD i 0))] : List Da) = ((quotN re lots i).2 ++ [(re.2.getD i 0)]).map Da.int from app_one Da.int ((quotN re lots i).2) (re.2.getD i 0)]
        show [_, _, _, ow (Da.lst _), ow (Da.lst _), no, no] = [_, _, _, ow (Da.lst _), ow (Da.lst _), no, no]
        rw [hql] at hc
        first
          | rw [quotN_yes (of_decide_eq_true hc)]
          | rw [quotN_no (of_decide_eq_false hc)]
      · refine j_next ?_
        show [_, _, _, ow (Da.lst _), ow (Da.lst _), no, no] = [_, _, _, ow (Da.lst _), ow (Da.lst _), no, no]
        rw [hql] at hc
        first
          | rw [quotN_yes (of_decide_eq_true hc)]
          | rw [quotN_no (of_decide_eq_false hc)]
    rintro ρ rfl
    show J K H _ [sh (Da.tup [(Da.tup (machine.1.map (eV Da.int))), (Da.tup (machine.2.map Da.int))]), ow (Da.tup [(Da.tup (re.1.map (eV Da.int))), (Da.tup (re.2.map Da.int))]), ow (Da.lst (lots.map Da.int)), ow (Da.lst (((quotN re lots lots.length).1).map (eV Da.int))), ow (Da.lst (((quotN re lots lots.length).2).map Da.int)), no, no] _
    refine j_ret (d := (Da.tup [(Da.tup (((reached ((quotN re lots lots.length).1, (quotN re lots lots.length).2)).1).map (eV Da.int))), (Da.tup (((reached ((quotN re lots lots.length).1, (quotN re lots lots.length).2)).2).map Da.int))])) ((ev_call (ds := [(Da.tup [(Da.tup (((quotN re lots lots.length).1).map (eV Da.int))), (Da.tup (((quotN re lots lots.length).2).map Da.int))])]) (d := (Da.tup [(Da.tup (((reached ((quotN re lots lots.length).1, (quotN re lots lots.length).2)).1).map (eV Da.int))), (Da.tup (((reached ((quotN re lots lots.length).1, (quotN re lots lots.length).2)).2).map Da.int))])) (ea_cons (EvF.g ((ef_tup (ds := [(Da.tup (((quotN re lots lots.length).1).map (eV Da.int))), (Da.tup (((quotN re lots lots.length).2).map Da.int))]) (eaf_cons (ef_tupL (ev_var (k := 3) rfl) (imms_map _ (fun _ => (imm_V (fun _ => rfl) _)) _)) (eaf_cons (ef_tupL (ev_var (k := 4) rfl) (imms_map _ (fun _ => rfl) _)) eaf_nil)) (Nat.le_of_ble_eq_true rfl)))) ea_nil) ⟨((quotN re lots lots.length).1, (quotN re lots lots.length).2), L, rfl, (by first | omega | (simp only [List.length_map, List.length_range, List.length_append, List.length_cons, List.length_nil, List.length_replicate, List.length_set, List.length_take, List.length_drop, List.length_reverse] ; omega) | (first | exact hq.ok | (have hnx := hr1.nx _ (getD_mem' (z := []) hir) _ h_room; omega)) | decide | assumption), (by first | omega | (simp only [List.length_map, List.length_range, List.length_append, List.length_cons, List.length_nil, List.length_replicate, List.length_set, List.length_take, List.length_drop, List.length_reverse] ; omega) | (first | exact hq.ok | (have hnx := hr1.nx _ (getD_mem' (z := []) hir) _ h_room; omega)) | decide | assumption), (by first | omega | (simp only [List.length_map, List.length_range, List.length_append, List.length_cons, List.length_nil, List.length_replicate, List.length_set, List.length_take, List.length_drop, List.length_reverse] ; omega) | (first | exact hq.ok | (have hnx := hr1.nx _ (getD_mem' (z := []) hir) _ h_room; omega)) | decide | assumption), rfl⟩)).m ?_
    show Da.tup [Da.tup _, Da.tup _] = Da.tup [Da.tup _, Da.tup _]
    unfold leastL
    rw [h_re, h_lots]
    rfl
theorem kn_least (Z : Zb mg) (g_as_reached : Known P w K mg base "as_reached" 1 (spF K G_as_reached) 1 []) (g_lots_of : Known P w K mg base "lots_of" 2 (spF K G_lots_of) 1 []) (S : Stands K mg "least" s_least) : Known P w K mg base "least" 3 (spF K G_least) 1 [] :=
  known_of (ps := ["machine"]) S (fun _ _ _ _ _ _ us hl => match us, hl with | [_], _ => rfl) fun f fd F => ok_least Z g_as_reached g_lots_of F
def G_law_cell : List Da → Da → Prop := fun ds d => ∃ (script : List Int) (k : Int), ds = [(Da.scr script), (Da.int k)] ∧ (0 ≤ k) ∧ (k ≤ 100000) ∧ d = (Da.int (cellW script k))
abbrev s_law_cell : Stmt := topS 17
theorem sc_law_cell : FnScope ["_law_script", "_law_k", "_law_cell_here"] ["_law_script", "_law_k"] (defScope s_law_cell) := ⟨rfl, rfl, rfl, by decide +kernel, rfl, by decide +kernel, by decide +kernel⟩
theorem ok_law_cell (Z : Zb mg) {f : Addr} {fd : FuncData} (F : Fun K "_law_cell" "_law_cell" s_law_cell f fd) : FnOk P w K mg base CX0 1 f fd ["_law_script", "_law_k"] (spF K G_law_cell) := by
  refine fnok_of (k := 0) F sc_law_cell (fun ds d h => ?_) (fun cdv A outer s H E hr => ?_)
  · obtain ⟨_, _, h, _⟩ := h; rw [h]; rfl
  · have hu := hu_of hr
    have hv := hv_of hr
    have hu0 := hr.units0
    refine ⟨_, (pss_cons (ps_set (i := 2) sc_law_cell.nd rfl (Or.inl rfl) pe_int)
      (pss_cons (ps_if (pt_cmpR op_lt (pv 1) (pe_callB (r := rLenV K) call_len (by rfl) Z.len (by decide +kernel) (pa_cons (pv 0) pa_nil)) (nomark _)) (pss_one (ps_set (i := 2) sc_law_cell.nd rfl (Or.inl rfl) (pe_op op_mod (pe_ix (r := rIx K) ix_seq (pv 0) (pv 1) (fun _ _ => rfl)) (pe_op op_pow pe_int pe_int)))) pss_nil)
      (pss_one (ps_ret (pe_op op_mod (pe_op op_mulK (pe_op op_mod (pe_op op_add (pe_op op_mulK (pv 2) pe_int) (pe_op op_mulK pe_int (pv 1))) pe_int) pe_int) pe_int))))), ?_⟩
    rintro ds d ⟨script, k, rfl, hp0, hp1, rfl⟩
    show J K H _ [sh (Da.scr script), sh (Da.int k), no] _
    refine j_seq (j_asg (d := (Da.int 0)) (EvF.m ((EvB.f (ev_int) rfl))) (Nat.le_of_ble_eq_true rfl) ?_)
    show J K H _ [sh (Da.scr script), sh (Da.int k), ow (Da.int 0)] _
    refine j_mid [] (M := [sh (Da.scr script), sh (Da.int k), ow (Da.int (if k < (script.length : Int) then script.getD k.toNat 0 % 10 ^ (18 : Int).toNat else 0))]) (j_if (et_test (ev_C0 (ev_var (k := 1) rfl) (ev_lenScr (ev_var (k := 0) rfl)))) (fun hc => ?_) (fun hc => ?_)) ?_
    · have hc3 := of_decide_eq_true hc
      refine j_asg (d := (Da.int ((script.getD (k : Int).toNat 0) % (10 ^ (18 : Int).toNat)))) (EvF.m ((EvB.f ((ev_mod (ev_ixScr (k := (k : Int).toNat) (ev_var (k := 0) rfl) (ev_var (k := 1) rfl) (by first | rfl | omega | (simp only [List.length_map, List.length_range, List.length_append, List.length_cons, List.length_nil, List.length_replicate, List.length_set, List.length_take, List.length_drop, List.length_reverse] ; omega) | decide) (getD_some 0 (by first | omega | (simp only [List.length_map, List.length_range, List.length_append, List.length_cons, List.length_nil, List.length_replicate, List.length_set, List.length_take, List.length_drop, List.length_reverse] ; omega) | decide))) (ev_pow ev_int ev_int ⟨(by first | omega | (simp only [List.length_map, List.length_range, List.length_append, List.length_cons, List.length_nil, List.length_replicate, List.length_set, List.length_take, List.length_drop, List.length_reverse] ; omega) | decide), (by first | omega | (simp only [List.length_map, List.length_range, List.length_append, List.length_cons, List.length_nil, List.length_replicate, List.length_set, List.length_take, List.length_drop, List.length_reverse] ; omega) | decide), (by first | omega | (simp only [List.length_map, List.length_range, List.length_append, List.length_cons, List.length_nil, List.length_replicate, List.length_set, List.length_take, List.length_drop, List.length_reverse] ; omega) | decide)⟩) (by first | omega | (simp only [List.length_map, List.length_range, List.length_append, List.length_cons, List.length_nil, List.length_replicate, List.length_set, List.length_take, List.length_drop, List.length_reverse] ; omega) | decide))) rfl))) (Nat.le_of_ble_eq_true rfl) ?_
      show [sh (Da.scr script), sh (Da.int k), ow (Da.int ((script.getD (k : Int).toNat 0) % (10 ^ (18 : Int).toNat)))] = [sh (Da.scr script), sh (Da.int k), ow (Da.int (if k < (script.length : Int) then script.getD k.toNat 0 % 10 ^ (18 : Int).toNat else 0))]
      first | (rw [if_pos (of_decide_eq_true hc)]) | (rw [if_neg (of_decide_eq_false hc)])
    · refine j_next ?_
      show [sh (Da.scr script), sh (Da.int k), ow (Da.int 0)] = [sh (Da.scr script), sh (Da.int k), ow (Da.int (if k < (script.length : Int) then script.getD k.toNat 0 % 10 ^ (18 : Int).toNat else 0))]
      first | (rw [if_pos (of_decide_eq_true hc)]) | (rw [if_neg (of_decide_eq_false hc)])
    show J K H _ [sh (Da.scr script), sh (Da.int k), ow (Da.int (if k < (script.length : Int) then script.getD k.toNat 0 % 10 ^ (18 : Int).toNat else 0))] _
    refine j_ret (d := (Da.int ((((((if k < (script.length : Int) then script.getD k.toNat 0 % 10 ^ (18 : Int).toNat else 0) * 48271) + (16807 * k)) % 2147483647) * 69621) % 2147483629))) (EvF.m ((EvB.f ((ev_mod (ev_mulK (ev_mod (ev_add (ev_mulK (ev_var (k := 2) rfl) ev_int (CMul.ok (Or.inr ⟨by decide, by decide⟩))) (ev_mulK ev_int (ev_var (k := 1) rfl) (CMul.ok (Or.inl ⟨by decide, by decide⟩)))) ev_int (by first | omega | (simp only [List.length_map, List.length_range, List.length_append, List.length_cons, List.length_nil, List.length_replicate, List.length_set, List.length_take, List.length_drop, List.length_reverse] ; omega) | decide)) ev_int (CMul.ok (Or.inr ⟨by decide, by decide⟩))) ev_int (by first | omega | (simp only [List.length_map, List.length_range, List.length_append, List.length_cons, List.length_nil, List.length_replicate, List.length_set, List.length_take, List.length_drop, List.length_reverse] ; omega) | decide))) rfl))) ?_
    rfl
theorem kn_law_cell (Z : Zb mg) (S : Stands K mg "_law_cell" s_law_cell) : Known P w K mg base "_law_cell" 1 (spF K G_law_cell) 2 [] :=
  known_of (ps := ["_law_script", "_law_k"]) S (fun _ _ _ _ _ _ us hl => match us, hl with | [_, _], _ => rfl) fun f fd F => ok_law_cell Z F
def G_law_whole : List Da → Da → Prop := fun ds d => ∃ (found : Int), ds = [(Da.int found)] ∧ d = (Da.bl true)
abbrev s_law_whole : Stmt := topS 18
theorem sc_law_whole : FnScope ["_law_found"] ["_law_found"] (defScope s_law_whole) := ⟨rfl, rfl, rfl, by decide +kernel, rfl, by decide +kernel, by decide +kernel⟩
theorem ok_law_whole (Z : Zb mg) {f : Addr} {fd : FuncData} (F : Fun K "_law_whole" "_law_whole" s_law_whole f fd) : FnOk P w K mg base CX0 1 f fd ["_law_found"] (spF K G_law_whole) := by
  refine fnok_of (k := 0) F sc_law_whole (fun ds d h => ?_) (fun cdv A outer s H E hr => ?_)
  · obtain ⟨_, h, _⟩ := h; rw [h]; rfl
  · have hu := hu_of hr
    have hv := hv_of hr
    have hu0 := hr.units0
    refine ⟨_, (pss_one (ps_ret (pe_and (pe_callB (r := rIsi K) call_isi (by rfl) Z.isinstance (by decide +kernel) (pa_cons (pv 0) (pa_cons (pe_bltn (v := .ty "int") (u := .type "int") (by rfl) Z.int (by decide +kernel) rfl) pa_nil))) (pe_one (pe_not (pe_callB (r := rIsi K) call_isi (by rfl) Z.isinstance (by decide +kernel) (pa_cons (pv 0) (pa_cons (pe_bltn (v := .ty "bool") (u := .type "bool") (by rfl) Z.bool (by decide +kernel) rfl) pa_nil)))))))), ?_⟩
    rintro ds d ⟨found, rfl, rfl⟩
    show J K H _ [sh (Da.int found)] _
    refine j_ret (d := (Da.bl (true && (!false)))) (EvF.m ((EvB.f ((ev_andV (ev_isi (n := "int") (m := "int") (r := true) (ev_var (k := 0) rfl) rfl (by decide +kernel)) (fun _ => (ev_notV (ev_isi (n := "int") (m := "bool") (r := false) (ev_var (k := 0) rfl) rfl (by decide +kernel)))))) rfl))) ?_
    first | rfl | simp
theorem kn_law_whole (Z : Zb mg) (S : Stands K mg "_law_whole" s_law_whole) : Known P w K mg base "_law_whole" 1 (spF K G_law_whole) 1 [] :=
  known_of (ps := ["_law_found"]) S (fun _ _ _ _ _ _ us hl => match us, hl with | [_], _ => rfl) fun f fd F => ok_law_whole Z F
def G_law_drawn : List Da → Da → Prop := fun ds d => ∃ (script : List Int) (at_ : Int) (rooms : Int) (letters : Int) (last : Int), ds = [(Da.scr script), (Da.int at_), (Da.int rooms), (Da.int letters), (Da.int last)] ∧ (0 ≤ at_) ∧ (at_ ≤ 1000) ∧ (0 < rooms) ∧ (rooms ≤ 1000) ∧ (0 < letters) ∧ (letters ≤ 1000) ∧ (0 ≤ last) ∧ d = (Da.tup [(Da.tup (((dwMach script at_ rooms letters last).1).map (eV Da.int))), (Da.tup (((dwMach script at_ rooms letters last).2).map Da.int))])
abbrev s_law_drawn : Stmt := topS 19
theorem sc_law_drawn : FnScope ["_law_script", "_law_at", "_law_rooms", "_law_letters", "_law_last", "_law_rows", "_law_signs", "_law_room", "_law_cell_here", "_law_row", "_law_letter", "_law_mix"] ["_law_script", "_law_at", "_law_rooms", "_law_letters", "_law_last"] (defScope s_law_drawn) := ⟨rfl, rfl, rfl, by decide +kernel, rfl, by decide +kernel, by decide +kernel⟩
theorem ok_law_drawn (Z : Zb mg) (g_law_cell : Known P w K mg base "_law_cell" 1 (spF K G_law_cell) 2 []) {f : Addr} {fd : FuncData} (F : Fun K "_law_drawn" "_law_drawn" s_law_drawn f fd) : FnOk P w K mg base CX0 2 f fd ["_law_script", "_law_at", "_law_rooms", "_law_letters", "_law_last"] (spF K G_law_drawn) := by
  refine fnok_of (k := 1) F sc_law_drawn (fun ds d h => ?_) (fun cdv A outer s H E hr => ?_)
  · obtain ⟨_, _, _, _, _, h, _⟩ := h; rw [h]; rfl
  · have hu := hu_of hr
    have hv := hv_of hr
    have hu0 := hr.units0
    refine ⟨_, (pss_cons (ps_set (i := 5) sc_law_drawn.nd rfl (Or.inl rfl) (pe_lst pa_nil))
      (pss_cons (ps_set (i := 6) sc_law_drawn.nd rfl (Or.inl rfl) (pe_lst pa_nil))
      (pss_cons (ps_for PassesOwn.never rfl (pi_range1 (by rfl) Z.range (pa_cons (pv 2) pa_nil)) (pg_name (i := 7) sc_law_drawn.nd rfl (Or.inl rfl))
        (pss_cons (ps_set (i := 8) sc_law_drawn.nd rfl (Or.inl rfl) (pe_known g_law_cell (hr.mono (by decide)) (pa_cons (pv 0) (pa_cons (pe_op op_add (pv 1) (pv 7)) pa_nil))))
      (pss_cons (ps_set (i := 9) sc_law_drawn.nd rfl (Or.inl rfl) (pe_lst pa_nil))
      (pss_cons (ps_for PassesOwn.never rfl (pi_range1 (by rfl) Z.range (pa_cons (pv 3) pa_nil)) (pg_name (i := 10) sc_law_drawn.nd rfl (Or.inl rfl))
        (pss_cons (ps_set (i := 11) sc_law_drawn.nd rfl (Or.inl rfl) (pe_op op_mod (pe_op op_mulK (pe_op op_add (pe_op op_add (pv 8) (pe_op op_mulK pe_int (pv 10))) pe_int) (pe_op op_add (pe_op op_mulK (pv 10) (pv 10)) pe_int)) pe_int))
      (pss_one (ps_expr (pe_bm PySem.F.plainAttrs_list PySem.F.slot_list_append PySem.F.type_list_append mt_append (pv 9) (pa_cons (pe_op op_mod (pe_op op_fdiv (pv 11) pe_int) (pv 2)) pa_nil))))))
      (pss_cons (ps_expr (pe_bm PySem.F.plainAttrs_list PySem.F.slot_list_append PySem.F.type_list_append mt_append (pv 5) (pa_cons (pv 9) pa_nil)))
      (pss_one (ps_expr (pe_bm PySem.F.plainAttrs_list PySem.F.slot_list_append PySem.F.type_list_append mt_append (pv 6) (pa_cons (pe_op op_mod (pe_op op_fdiv (pe_op op_mod (pe_op op_mulK (pe_op op_add (pe_op op_mod (pv 8) pe_int) (pv 7)) pe_int) pe_int) pe_int) (pe_op op_add (pv 4) pe_int)) pa_nil)))))))))
      (pss_cons (ps_asg pe_int (pg_sub (pe_ix (r := rIx K) ix_seq (pv 5) pe_int (fun _ _ => rfl)) pe_int set_list))
      (pss_one (ps_ret (pe_tup (pa_cons (pe_callTy (T := "tuple") (r := rTupOf K) call_tuple_of (by rfl) Z.tuple (by decide +kernel) (pa_cons (pe_lc (own := [("_law_row", 9)]) (g := gName 9) rfl sc_law_drawn.nd (show PI _ _ _ (iList K _) from pi_list (pv 5)) (blkOk_by (own := [("_law_row", 9)]) (N := ["_law_script", "_law_at", "_law_rooms", "_law_letters", "_law_last", "_law_rows", "_law_signs", "_law_room", "_law_cell_here", "_law_row", "_law_letter", "_law_mix"]) (sc := defScope s_law_drawn) (by decide +kernel)) (fun _ _ _ _ _ => pg_name (i := 9) sc_law_drawn.nd rfl (Or.inl rfl)) (fun _ _ _ _ _ => pts_nil) (fun _ _ _ _ _ => (pe_callTy (T := "tuple") (r := rTupOf K) call_tuple_of (by rfl) Z.tuple (by decide +kernel) (pa_cons (pv 9) pa_nil)))) pa_nil)) (pa_cons (pe_callTy (T := "tuple") (r := rTupOf K) call_tuple_of (by rfl) Z.tuple (by decide +kernel) (pa_cons (pv 6) pa_nil)) pa_nil))))))))), ?_⟩
    rintro ds d ⟨script, at_, rooms, letters, last, rfl, hp0, hp1, hp2, hp3, hp4, hp5, hp6, rfl⟩
    show J K H _ [sh (Da.scr script), sh (Da.int at_), sh (Da.int rooms), sh (Da.int letters), sh (Da.int last), no, no, no, no, no, no, no] _
    refine j_seq (j_asg (d := (Da.lst ([].map Da.int))) ((ef_lst (ds := []) eaf_nil (Nat.le_of_ble_eq_true rfl))).m (Nat.le_of_ble_eq_true rfl) ?_)
    show J K H _ [sh (Da.scr script), sh (Da.int at_), sh (Da.int rooms), sh (Da.int letters), sh (Da.int last), ow (Da.lst ([].map Da.int)), no, no, no, no, no, no] _
    refine j_seq (j_asg (d := (Da.lst ([].map Da.int))) ((ef_lst (ds := []) eaf_nil (Nat.le_of_ble_eq_true rfl))).m (Nat.le_of_ble_eq_true rfl) ?_)
    show J K H _ [sh (Da.scr script), sh (Da.int at_), sh (Da.int rooms), sh (Da.int letters), sh (Da.int last), ow (Da.lst ([].map Da.int)), ow (Da.lst ([].map Da.int)), no, no, no, no, no] _
    refine j_seq (j_range1 [8, 9, 10, 11] (k := 7) (n := rooms) (ea_cons (ev_var (k := 2) rfl) ea_nil) (by first | omega | (simp only [List.length_map, List.length_range, List.length_append, List.length_cons, List.length_nil, List.length_replicate, List.length_set, List.length_take, List.length_drop, List.length_reverse] ; omega) | decide) (fun i ρ => ρ = [sh (Da.scr script), sh (Da.int at_), sh (Da.int rooms), sh (Da.int letters), sh (Da.int last), ow (Da.lst (((List.range i).map fun (r : Nat) => dwRow (cellW script (at_ + (r : Int))) rooms letters).map (eL Da.int))), ow (Da.lst (((List.range i).map fun (r : Nat) => (cellW script (at_ + (r : Int)) % 1000003 + (r : Int)) * 69621 % 65539 / 3 % (last + 1)).map Da.int)), no, no, no, no, no]) ?_ ?_ ?_ ?_ (by first | omega | (simp only [List.length_map, List.length_range, List.length_append, List.length_cons, List.length_nil, List.length_replicate, List.length_set, List.length_take, List.length_drop, List.length_reverse] ; omega) | decide))
    · rfl
    · rintro i ρ rfl; exact Nat.le_of_ble_eq_true rfl
    · rintro i ρ hi rfl
      show J K H _ [sh (Da.scr script), sh (Da.int at_), sh (Da.int rooms), sh (Da.int letters), sh (Da.int last), ow (Da.lst (((List.range i).map fun (r : Nat) => dwRow (cellW script (at_ + (r : Int))) rooms letters).map (eL Da.int))), ow (Da.lst (((List.range i).map fun (r : Nat) => (cellW script (at_ + (r : Int)) % 1000003 + (r : Int)) * 69621 % 65539 / 3 % (last + 1)).map Da.int)), ow (Da.int (i : Nat)), no, no, no, no] _
      refine j_seq (j_asg (d := (Da.int (cellW script (at_ + (i : Int))))) ((ev_call (ds := [(Da.scr script), (Da.int (at_ + (i : Int)))]) (d := (Da.int (cellW script (at_ + (i : Int))))) (ea_cons (ev_var (k := 0) rfl) (ea_cons (ev_add (ev_var (k := 1) rfl) (ev_var (k := 7) rfl)) ea_nil)) ⟨script, (at_ + (i : Int)), rfl, (by first | omega | (simp only [List.length_map, List.length_range, List.length_append, List.length_cons, List.length_nil, List.length_replicate, List.length_set, List.length_take, List.length_drop, List.length_reverse] ; omega) | decide | assumption), (by first | omega | (simp only [List.length_map, List.length_range, List.length_append, List.length_cons, List.length_nil, List.length_replicate, List.length_set, List.length_take, List.length_drop, List.length_reverse] ; omega) | decide | assumption), rfl⟩)).m (Nat.le_of_ble_eq_true rfl) ?_)
      show J K H _ [sh (Da.scr script), sh (Da.int at_), sh (Da.int rooms), sh (Da.int letters), sh (Da.int last), ow (Da.lst (((List.range i).map fun (r : Nat) => dwRow (cellW script (at_ + (r : Int))) rooms letters).map (eL Da.int))), ow (Da.lst (((List.range i).map fun (r : Nat) => (cellW script (at_ + (r : Int)) % 1000003 + (r : Int)) * 69621 % 65539 / 3 % (last + 1)).map Da.int)), ow (Da.int (i : Nat)), ow (Da.int (cellW script (at_ + (i : Int)))), no, no, no] _
      refine j_seq (j_asg (d := (Da.lst ([].map Da.int))) ((ef_lst (ds := []) eaf_nil (Nat.le_of_ble_eq_true rfl))).m (Nat.le_of_ble_eq_true rfl) ?_)
      show J K H _ [sh (Da.scr script), sh (Da.int at_), sh (Da.int rooms), sh (Da.int letters), sh (Da.int last), ow (Da.lst (((List.range i).map fun (r : Nat) => dwRow (cellW script (at_ + (r : Int))) rooms letters).map (eL Da.int))), ow (Da.lst (((List.range i).map fun (r : Nat) => (cellW script (at_ + (r : Int)) % 1000003 + (r : Int)) * 69621 % 65539 / 3 % (last + 1)).map Da.int)), ow (Da.int (i : Nat)), ow (Da.int (cellW script (at_ + (i : Int)))), ow (Da.lst ([].map Da.int)), no, no] _
      refine j_seq (j_range1 [11] (k := 10) (n := letters) (ea_cons (ev_var (k := 3) rfl) ea_nil) (by first | omega | (simp only [List.length_map, List.length_range, List.length_append, List.length_cons, List.length_nil, List.length_replicate, List.length_set, List.length_take, List.length_drop, List.length_reverse] ; omega) | decide) (fun i1 ρ => ρ = [sh (Da.scr script), sh (Da.int at_), sh (Da.int rooms), sh (Da.int letters), sh (Da.int last), ow (Da.lst (((List.range i).map fun (r : Nat) => dwRow (cellW script (at_ + (r : Int))) rooms letters).map (eL Da.int))), ow (Da.lst (((List.range i).map fun (r : Nat) => (cellW script (at_ + (r : Int)) % 1000003 + (r : Int)) * 69621 % 65539 / 3 % (last + 1)).map Da.int)), ow (Da.int (i : Nat)), ow (Da.int (cellW script (at_ + (i : Int)))), ow (Da.lst (((List.range i1).map fun (j : Nat) => (cellW script (at_ + (i : Int)) + 7 * (j : Int) + 1) * ((j : Int) * (j : Int) + 48271) % 1000003 / 5 % rooms).map Da.int)), no, no]) ?_ ?_ ?_ ?_ (by first | omega | (simp only [List.length_map, List.length_range, List.length_append, List.length_cons, List.length_nil, List.length_replicate, List.length_set, List.length_take, List.length_drop, List.length_reverse] ; omega) | decide))
      · rfl
      · rintro i1 ρ rfl; exact Nat.le_of_ble_eq_true rfl
      · rintro i1 ρ hi1 rfl
        have hjj : 0 ≤ (i1 : Int) * (i1 : Int) ∧ (i1 : Int) * (i1 : Int) ≤ 1000 * 1000 := ⟨Int.mul_nonneg (by omega) (by omega), Int.mul_le_mul (by omega) (by omega) (by omega) (by omega)⟩
        show J K H _ [sh (Da.scr script), sh (Da.int at_), sh (Da.int rooms), sh (Da.int letters), sh (Da.int last), ow (Da.lst (((List.range i).map fun (r : Nat) => dwRow (cellW script (at_ + (r : Int))) rooms letters).map (eL Da.int))), ow (Da.lst (((List.range i).map fun (r : Nat) => (cellW script (at_ + (r : Int)) % 1000003 + (r : Int)) * 69621 % 65539 / 3 % (last + 1)).map Da.int)), ow (Da.int (i : Nat)), ow (Da.int (cellW script (at_ + (i : Int)))), ow (Da.lst (((List.range i1).map fun (j : Nat) => (cellW script (at_ + (i : Int)) + 7 * (j : Int) + 1) * ((j : Int) * (j : Int) + 48271) % 1000003 / 5 % rooms).map Da.int)), ow (Da.int (i1 : Nat)), no] _
        refine j_seq (j_asg (d := (Da.int ((((cellW script (at_ + (i : Int)) + (7 * (i1 : Int))) + 1) * (((i1 : Int) * (i1 : Int)) + 48271)) % 1000003))) (EvF.m ((EvB.f ((ev_mod (ev_mulK (ev_add (ev_add (ev_var (k := 8) rfl) (ev_mulK ev_int (ev_var (k := 10) rfl) (CMul.ok (Or.inl ⟨by decide, by decide⟩)))) ev_int) (ev_add (ev_mulK (ev_var (k := 10) rfl) (ev_var (k := 10) rfl) (CMul.ok (Or.inr ⟨by omega, by omega⟩))) ev_int) (CMul.ok (Or.inr ⟨by omega, by omega⟩))) ev_int (by first | omega | (simp only [List.length_map, List.length_range, List.length_append, List.length_cons, List.length_nil, List.length_replicate, List.length_set, List.length_take, List.length_drop, List.length_reverse] ; omega) | decide))) rfl))) (Nat.le_of_ble_eq_true rfl) ?_)
        show J K H _ [sh (Da.scr script), sh (Da.int at_), sh (Da.int rooms), sh (Da.int letters), sh (Da.int last), ow (Da.lst (((List.range i).map fun (r : Nat) => dwRow (cellW script (at_ + (r : Int))) rooms letters).map (eL Da.int))), ow (Da.lst (((List.range i).map fun (r : Nat) => (cellW script (at_ + (r : Int)) % 1000003 + (r : Int)) * 69621 % 65539 / 3 % (last + 1)).map Da.int)), ow (Da.int (i : Nat)), ow (Da.int (cellW script (at_ + (i : Int)))), ow (Da.lst (((List.range i1).map fun (j : Nat) => (cellW script (at_ + (i : Int)) + 7 * (j : Int) + 1) * ((j : Int) * (j : Int) + 48271) % 1000003 / 5 % rooms).map Da.int)), ow (Da.int (i1 : Nat)), ow (Da.int ((((cellW script (at_ + (i : Int)) + (7 * (i1 : Int))) + 1) * (((i1 : Int) * (i1 : Int)) + 48271)) % 1000003))] _
        refine j_append (k := 9) (ds := ((List.range i1).map fun (j : Nat) => (cellW script (at_ + (i : Int)) + 7 * (j : Int) + 1) * ((j : Int) * (j : Int) + 48271) % 1000003 / 5 % rooms).map Da.int) (d := (Da.int ((((((cellW script (at_ + (i : Int)) + (7 * (i1 : Int))) + 1) * (((i1 : Int) * (i1 : Int)) + 48271)) % 1000003) / 5) % rooms))) (EvF.m ((EvB.f ((ev_mod (ev_div (ev_var (k := 11) rfl) ev_int ⟨(by first | omega | (simp only [List.length_map, List.length_range, List.length_append, List.length_cons, List.length_nil, List.length_replicate, List.length_set, List.length_take, List.length_drop, List.length_reverse] ; omega) | decide), (by first | omega | (simp only [List.length_map, List.length_range, List.length_append, List.length_cons, List.length_nil, List.length_replicate, List.length_set, List.length_take, List.length_drop, List.length_reverse] ; omega) | decide)⟩) (ev_var (k := 2) rfl) (by first | omega | (simp only [List.length_map, List.length_range, List.length_append, List.length_cons, List.length_nil, List.length_replicate, List.length_set, List.length_take, List.length_drop, List.length_reverse] ; omega) | decide))) rfl))) rfl rfl (by first | omega | (simp only [List.length_map, List.length_range, List.length_append, List.length_cons, List.length_nil, List.length_replicate, List.length_set, List.length_take, List.length_drop, List.length_reverse] ; omega) | decide) ?_
        rw [show (((List.range i1).map fun (j : Nat) => (cellW script (at_ + (i : Int)) + 7 * (j : Int) + 1) * ((j : Int) * (j : Int) + 48271) % 1000003 / 5 % rooms).map Da.int ++ [(Da.int ((((((cellW script (at_ + (i : Int)) + (7 * (i1 : Int))) + 1) * (((i1 : Int) * (i1 : Int)) + 48271)) % 1000003) / 5) % rooms))] : List Da) = (((List.range i1).map fun (j : Nat) => (cellW script (at_ + (i : Int)) + 7 * (j : Int) + 1) * ((j : Int) * (j : Int) + 48271) % 1000003 / 5 % rooms) ++ [((((((cellW script (at_ + (i : Int)) + (7 * (i1 : Int))) + 1) * (((i1 : Int) * (i1 : Int)) + 48271)) % 1000003) / 5) % rooms)]).map Da.int from app_one Da.int ((List.range i1).map fun (j : Nat) => (cellW script (at_ + (i : Int)) + 7 * (j : Int) + 1) * ((j : Int) * (j : Int) + 48271) % 1000003 / 5 % rooms) ((((((cellW script (at_ + (i : Int)) + (7 * (i1 : Int))) + 1) * (((i1 : Int) * (i1 : Int)) + 48271)) % 1000003) / 5) % rooms)]
        show [_, _, _, _, _, _, _, _, _, ow (Da.lst _), no, no] = [_, _, _, _, _, _, _, _, _, ow (Da.lst _), no, no]
        rw [List.range_succ]
        simp only [List.map_append, List.map_cons, List.map_nil]
      rintro ρ rfl
      show J K H _ [sh (Da.scr script), sh (Da.int at_), sh (Da.int rooms), sh (Da.int letters), sh (Da.int last), ow (Da.lst (((List.range i).map fun (r : Nat) => dwRow (cellW script (at_ + (r : Int))) rooms letters).map (eL Da.int))), ow (Da.lst (((List.range i).map fun (r : Nat) => (cellW script (at_ + (r : Int)) % 1000003 + (r : Int)) * 69621 % 65539 / 3 % (last + 1)).map Da.int)), ow (Da.int (i : Nat)), ow (Da.int (cellW script (at_ + (i : Int)))), ow (Da.lst (((List.range (letters : Int).toNat).map fun (j : Nat) => (cellW script (at_ + (i : Int)) + 7 * (j : Int) + 1) * ((j : Int) * (j : Int) + 48271) % 1000003 / 5 % rooms).map Da.int)), no, no] _
      refine j_seq (j_append (k := 5) (ds := ((List.range i).map fun (r : Nat) => dwRow (cellW script (at_ + (r : Int))) rooms letters).map (eL Da.int)) (d := (Da.lst (((List.range (letters : Int).toNat).map fun (j : Nat) => (cellW script (at_ + (i : Int)) + 7 * (j : Int) + 1) * ((j : Int) * (j : Int) + 48271) % 1000003 / 5 % rooms).map Da.int))) (ev_move (k := 9) rfl) rfl rfl (by first | omega | (simp only [List.length_map, List.length_range, List.length_append, List.length_cons, List.length_nil, List.length_replicate, List.length_set, List.length_take, List.length_drop, List.length_reverse] ; omega) | decide) ?_)
      rw [show (((List.range i).map fun (r : Nat) => dwRow (cellW script (at_ + (r : Int))) rooms letters).map (eL Da.int) ++ [(Da.lst (((List.range (letters : Int).toNat).map fun (j : Nat) => (cellW script (at_ + (i : Int)) + 7 * (j : Int) + 1) * ((j : Int) * (j : Int) + 48271) % 1000003 / 5 % rooms).map Da.int))] : List Da) = (((List.range i).map fun (r : Nat) => dwRow (cellW script (at_ + (r : Int))) rooms letters) ++ [((List.range (letters : Int).toNat).map fun (j : Nat) => (cellW script (at_ + (i : Int)) + 7 * (j : Int) + 1) * ((j : Int) * (j : Int) + 48271) % 1000003 / 5 % rooms)]).map (eL Da.int) from app_one (eL Da.int) ((List.range i).map fun (r : Nat) => dwRow (cellW script (at_ + (r : Int))) rooms letters) ((List.range (letters : Int).toNat).map fun (j : Nat) => (cellW script (at_ + (i : Int)) + 7 * (j : Int) + 1) * ((j : Int) * (j : Int) + 48271) % 1000003 / 5 % rooms)]
      show J K H _ [sh (Da.scr script), sh (Da.int at_), sh (Da.int rooms), sh (Da.int letters), sh (Da.int last), ow (Da.lst ((((List.range i).map fun (r : Nat) => dwRow (cellW script (at_ + (r : Int))) rooms letters) ++ [((List.range (letters : Int).toNat).map fun (j : Nat) => (cellW script (at_ + (i : Int)) + 7 * (j : Int) + 1) * ((j : Int) * (j : Int) + 48271) % 1000003 / 5 % rooms)]).map (eL Da.int))), ow (Da.lst (((List.range i).map fun (r : Nat) => (cellW script (at_ + (r : Int)) % 1000003 + (r : Int)) * 69621 % 65539 / 3 % (last + 1)).map Da.int)), ow (Da.int (i : Nat)), ow (Da.int (cellW script (at_ + (i : Int)))), no, no, no] _
      refine j_append (k := 6) (ds := ((List.range i).map fun (r : Nat) => (cellW script (at_ + (r : Int)) % 1000003 + (r : Int)) * 69621 % 65539 / 3 % (last + 1)).map Da.int) (d := (Da.int ((((((cellW script (at_ + (i : Int)) % 1000003) + (i : Int)) * 69621) % 65539) / 3) % (last + 1)))) (EvF.m ((EvB.f ((ev_mod (ev_div (ev_mod (ev_mulK (ev_add (ev_mod (ev_var (k := 8) rfl) ev_int (by first | omega | (simp only [List.length_map, List.length_range, List.length_append, List.length_cons, List.length_nil, List.length_replicate, List.length_set, List.length_take, List.length_drop, List.length_reverse] ; omega) | decide)) (ev_var (k := 7) rfl)) ev_int (CMul.ok (Or.inr ⟨by decide, by decide⟩))) ev_int (by first | omega | (simp only [List.length_map, List.length_range, List.length_append, List.length_cons, List.length_nil, List.length_replicate, List.length_set, List.length_take, List.length_drop, List.length_reverse] ; omega) | decide)) ev_int ⟨(by first | omega | (simp only [List.length_map, List.length_range, List.length_append, List.length_cons, List.length_nil, List.length_replicate, List.length_set, List.length_take, List.length_drop, List.length_reverse] ; omega) | decide), (by first | omega | (simp only [List.length_map, List.length_range, List.length_append, List.length_cons, List.length_nil, List.length_replicate, List.length_set, List.length_take, List.length_drop, List.length_reverse] ; omega) | decide)⟩) (ev_add (ev_var (k := 4) rfl) ev_int) (by first | omega | (simp only [List.length_map, List.length_range, List.length_append, List.length_cons, List.length_nil, List.length_replicate, List.length_set, List.length_take, List.length_drop, List.length_reverse] ; omega) | decide))) rfl))) rfl rfl (by first | omega | (simp only [List.length_map, List.length_range, List.length_append, List.length_cons, List.length_nil, List.length_replicate, List.length_set, List.length_take, List.length_drop, List.length_reverse] ; omega) | decide) ?_
      rw [show (((List.range i).map fun (r : Nat) => (cellW script (at_ + (r : Int)) % 1000003 + (r : Int)) * 69621 % 65539 / 3 % (last + 1)).map Da.int ++ [(Da.int ((((((cellW script (at_ + (i : Int)) % 1000003) + (i : Int)) * 69621) % 65539) / 3) % (last + 1)))] : List Da) = (((List.range i).map fun (r : Nat) => (cellW script (at_ + (r : Int)) % 1000003 + (r : Int)) * 69621 % 65539 / 3 % (last + 1)) ++ [((((((cellW script (at_ + (i : Int)) % 1000003) + (i : Int)) * 69621) % 65539) / 3) % (last + 1))]).map Da.int from app_one Da.int ((List.range i).map fun (r : Nat) => (cellW script (at_ + (r : Int)) % 1000003 + (r : Int)) * 69621 % 65539 / 3 % (last + 1)) ((((((cellW script (at_ + (i : Int)) % 1000003) + (i : Int)) * 69621) % 65539) / 3) % (last + 1))]
      show [_, _, _, _, _, ow (Da.lst _), ow (Da.lst _), no, no, no, no, no] = [_, _, _, _, _, ow (Da.lst _), ow (Da.lst _), no, no, no, no, no]
      rw [List.range_succ]
      simp only [List.map_append, List.map_cons, List.map_nil]
      rfl
    rintro ρ rfl
    show J K H _ [sh (Da.scr script), sh (Da.int at_), sh (Da.int rooms), sh (Da.int letters), sh (Da.int last), ow (Da.lst (((List.range (rooms : Int).toNat).map fun (r : Nat) => dwRow (cellW script (at_ + (r : Int))) rooms letters).map (eL Da.int))), ow (Da.lst (((List.range (rooms : Int).toNat).map fun (r : Nat) => (cellW script (at_ + (r : Int)) % 1000003 + (r : Int)) * 69621 % 65539 / 3 % (last + 1)).map Da.int)), no, no, no, no, no] _
    have hl0 := dwRows_len script at_ rooms letters
    have hr0 := dwRows_0 (ns := script) (at_ := at_) (letters := letters) hp2
    unfold dwRows at hl0 hr0
    refine j_seq (j_setLL (k := 5) (n := 0) (m := 0) (es := (((List.range (rooms : Int).toNat).map fun (r : Nat) => dwRow (cellW script (at_ + (r : Int))) rooms letters).getD 0 []).map Da.int) ev_int rfl rfl ev_int (by first | rfl | omega | (simp only [List.length_map, List.length_range, List.length_append, List.length_cons, List.length_nil, List.length_replicate, List.length_set, List.length_take, List.length_drop, List.length_reverse] ; omega) | decide) ev_int (by first | rfl | omega | (simp only [List.length_map, List.length_range, List.length_append, List.length_cons, List.length_nil, List.length_replicate, List.length_set, List.length_take, List.length_drop, List.length_reverse] ; omega) | decide) (get_map [] (by first | omega | (simp only [List.length_map, List.length_range, List.length_append, List.length_cons, List.length_nil, List.length_replicate, List.length_set, List.length_take, List.length_drop, List.length_reverse] ; omega) | decide)) (by rw [List.length_map]; omega) (imms_map _ (fun _ => rfl) _) ?_)
    rw [set_map2]
    show J K H _ [sh (Da.scr script), sh (Da.int at_), sh (Da.int rooms), sh (Da.int letters), sh (Da.int last), ow (Da.lst ((((List.range (rooms : Int).toNat).map fun (r : Nat) => dwRow (cellW script (at_ + (r : Int))) rooms letters).set 0 ((((List.range (rooms : Int).toNat).map fun (r : Nat) => dwRow (cellW script (at_ + (r : Int))) rooms letters).getD 0 []).set 0 0)).map (eL Da.int))), ow (Da.lst (((List.range (rooms : Int).toNat).map fun (r : Nat) => (cellW script (at_ + (r : Int)) % 1000003 + (r : Int)) * 69621 % 65539 / 3 % (last + 1)).map Da.int)), no, no, no, no, no] _
    refine j_ret (d := (Da.tup [(Da.tup ((((List.range (rooms : Int).toNat).map fun (r : Nat) => dwRow (cellW script (at_ + (r : Int))) rooms letters).set 0 ((((List.range (rooms : Int).toNat).map fun (r : Nat) => dwRow (cellW script (at_ + (r : Int))) rooms letters).getD 0 []).set 0 0)).map (eV Da.int))), (Da.tup (((List.range (rooms : Int).toNat).map fun (r : Nat) => (cellW script (at_ + (r : Int)) % 1000003 + (r : Int)) * 69621 % 65539 / 3 % (last + 1)).map Da.int))])) ((ef_tup (ds := [(Da.tup ((((List.range (rooms : Int).toNat).map fun (r : Nat) => dwRow (cellW script (at_ + (r : Int))) rooms letters).set 0 ((((List.range (rooms : Int).toNat).map fun (r : Nat) => dwRow (cellW script (at_ + (r : Int))) rooms letters).getD 0 []).set 0 0)).map (eV Da.int))), (Da.tup (((List.range (rooms : Int).toNat).map fun (r : Nat) => (cellW script (at_ + (r : Int)) % 1000003 + (r : Int)) * 69621 % 65539 / 3 % (last + 1)).map Da.int))]) (eaf_cons (ef_tupL (EvF.g ((EvF.is (d1 := (Da.lst ((((List.range (rooms : Int).toNat).map fun (r : Nat) => dwRow (cellW script (at_ + (r : Int))) rooms letters).set 0 ((((List.range (rooms : Int).toNat).map fun (r : Nat) => dwRow (cellW script (at_ + (r : Int))) rooms letters).getD 0 []).set 0 0)).map (eV Da.int)))) (ef_lc (((List.range (rooms : Int).toNat).map fun (r : Nat) => dwRow (cellW script (at_ + (r : Int))) rooms letters).set 0 ((((List.range (rooms : Int).toNat).map fun (r : Nat) => dwRow (cellW script (at_ + (r : Int))) rooms letters).getD 0 []).set 0 0)) (eL Da.int) (fun (row : List (Int)) => (Da.tup (row.map Da.int))) (ev_var (k := 5) rfl) (by decide) (by first | omega | (simp only [List.length_map, List.length_range, List.length_append, List.length_cons, List.length_nil, List.length_replicate, List.length_set, List.length_take, List.length_drop, List.length_reverse] ; omega) | decide) (fun row h_row => (ef_tupL (ev_var (k := 9) rfl) (imms_map _ (fun _ => rfl) _)))) rfl))) (imms_map _ (fun _ => (imm_V (fun _ => rfl) _)) _)) (eaf_cons (ef_tupL (ev_var (k := 6) rfl) (imms_map _ (fun _ => rfl) _)) eaf_nil)) (Nat.le_of_ble_eq_true rfl))).m ?_
    rfl
theorem kn_law_drawn (Z : Zb mg) (g_law_cell : Known P w K mg base "_law_cell" 1 (spF K G_law_cell) 2 []) (S : Stands K mg "_law_drawn" s_law_drawn) : Known P w K mg base "_law_drawn" 2 (spF K G_law_drawn) 5 [] :=
  known_of (ps := ["_law_script", "_law_at", "_law_rooms", "_law_letters", "_law_last"]) S (fun _ _ _ _ _ _ us hl => match us, hl with | [_, _, _, _, _], _ => rfl) fun f fd F => ok_law_drawn Z g_law_cell F
def G_law_first : List Da → Da → Prop := fun ds d => (∃ (machine : (List (List (Int)) × List (Int))) (L : Int) (w : List Int), ds = [(Da.tup [(Da.tup (machine.1.map (eV Da.int))), (Da.tup (machine.2.map Da.int))])] ∧ (Okm machine L) ∧ (1 ≤ L) ∧ (machine.1.length ≤ 1000) ∧ (L ≤ 1000) ∧ (Fst machine L w) ∧ d = (Da.lst (w.map Da.int))) ∨ (∃ (machine : (List (List (Int)) × List (Int))) (L : Int), ds = [(Da.tup [(Da.tup (machine.1.map (eV Da.int))), (Da.tup (machine.2.map Da.int))])] ∧ (Okm machine L) ∧ (1 ≤ L) ∧ (machine.1.length ≤ 1000) ∧ (L ≤ 1000) ∧ (∀ v, okW L v → beh machine 0 v ≠ 1) ∧ d = Da.non)
abbrev s_law_first : Stmt := topS 20
theorem sc_law_first : FnScope ["_law_machine", "_law_met", "_law_lists", "_law_at", "_law_letter", "_law_room"] ["_law_machine"] (defScope s_law_first) := ⟨rfl, rfl, rfl, by decide +kernel, rfl, by decide +kernel, by decide +kernel⟩
theorem ok_law_first (Z : Zb mg) {f : Addr} {fd : FuncData} (F : Fun K "_law_first" "_law_first" s_law_first f fd) : FnOk P w K mg base CX0 1 f fd ["_law_machine"] (spF K G_law_first) := by
  refine fnok_of (k := 0) F sc_law_first (fun ds d h => ?_) (fun cdv A outer s H E hr => ?_)
  · rcases h with ⟨_, _, _, h, _⟩ | ⟨_, _, h, _⟩ <;> (rw [h]; rfl)
  · have hu := hu_of hr
    have hv := hv_of hr
    have hu0 := hr.units0
    refine ⟨_, (pss_cons (ps_set (i := 1) sc_law_first.nd rfl (Or.inl rfl) (pe_lst (pa_cons pe_int pa_nil)))
      (pss_cons (ps_set (i := 2) sc_law_first.nd rfl (Or.inl rfl) (pe_lst (pa_cons (pe_lst pa_nil) pa_nil)))
      (pss_cons (ps_set (i := 3) sc_law_first.nd rfl (Or.inl rfl) pe_int)
      (pss_cons (ps_while PassesOwn.never (pt_cmpR op_lt (pv 3) (pe_callB (r := rLenV K) call_len (by rfl) Z.len (by decide +kernel) (pa_cons (pv 1) pa_nil)) (nomark _)) (pss_cons (ps_if (pt_cmpR op_eq (pe_ix (r := rIx K) ix_seq (pe_ix (r := rIx K) ix_seq (pv 0) pe_int (fun _ _ => rfl)) (pe_ix (r := rIx K) ix_seq (pv 1) (pv 3) (fun _ _ => rfl)) (fun _ _ => rfl)) pe_int (nomark _)) (pss_one (ps_ret (pe_ix (r := rIx K) ix_seq (pv 2) (pv 3) (fun _ _ => rfl)))) pss_nil)
      (pss_cons (ps_for PassesOwn.never rfl (pi_range1 (by rfl) Z.range (pa_cons (pe_callB (r := rLenV K) call_len (by rfl) Z.len (by decide +kernel) (pa_cons (pe_ix (r := rIx K) ix_seq (pe_ix (r := rIx K) ix_seq (pv 0) pe_int (fun _ _ => rfl)) pe_int (fun _ _ => rfl)) pa_nil)) pa_nil)) (pg_name (i := 4) sc_law_first.nd rfl (Or.inl rfl))
        (pss_cons (ps_set (i := 5) sc_law_first.nd rfl (Or.inl rfl) (pe_ix (r := rIx K) ix_seq (pe_ix (r := rIx K) ix_seq (pe_ix (r := rIx K) ix_seq (pv 0) pe_int (fun _ _ => rfl)) (pe_ix (r := rIx K) ix_seq (pv 1) (pv 3) (fun _ _ => rfl)) (fun _ _ => rfl)) (pv 4) (fun _ _ => rfl)))
      (pss_one (ps_if (pt_cmpR (r := rNotInD K) (op_notInD hv) (pv 5) (pv 1) rfl) (pss_cons (ps_expr (pe_bm PySem.F.plainAttrs_list PySem.F.slot_list_append PySem.F.type_list_append mt_append (pv 1) (pa_cons (pv 5) pa_nil)))
      (pss_one (ps_expr (pe_bm PySem.F.plainAttrs_list PySem.F.slot_list_append PySem.F.type_list_append mt_append (pv 2) (pa_cons (pe_op op_catR (pe_ix (r := rIx K) ix_seq (pv 2) (pv 3) (fun _ _ => rfl)) (pe_lst (pa_cons (pv 4) pa_nil))) pa_nil))))) pss_nil))))
      (pss_one (ps_set (i := 3) sc_law_first.nd rfl (Or.inl rfl) (pe_op op_add (pv 3) pe_int))))))
      (pss_one (ps_ret pe_non)))))), ?_⟩
    intro ds d h
    rcases h with ⟨machine, L, w, rfl, hp0, hp1, hp2, hp3, hp4, rfl⟩ | ⟨machine, L, rfl, hp0, hp1, hp2, hp3, hp4, rfl⟩
    · have hps := hp0.pos
      have hsg := hp0.sg
      have hrw0 : ((machine.1.getD 0 []).length : Int) = L := lets_is hp0
      show J K H _ [sh (Da.tup [(Da.tup (machine.1.map (eV Da.int))), (Da.tup (machine.2.map Da.int))]), no, no, no, no, no] _
      refine j_seq (j_asg (d := (Da.lst ([0].map Da.int))) ((ef_lst (ds := [(Da.int 0)]) (eaf_cons (EvB.f (ev_int) rfl) eaf_nil) (Nat.le_of_ble_eq_true rfl))).m (Nat.le_of_ble_eq_true rfl) ?_)
      show J K H _ [sh (Da.tup [(Da.tup (machine.1.map (eV Da.int))), (Da.tup (machine.2.map Da.int))]), ow (Da.lst ([0].map Da.int)), no, no, no, no] _
      refine j_seq (j_asg (d := (Da.lst ([[]].map (eL Da.int)))) ((ef_lst (ds := [(Da.lst ([].map Da.int))]) (eaf_cons (ef_lst (ds := []) eaf_nil (Nat.le_of_ble_eq_true rfl)) eaf_nil) (Nat.le_of_ble_eq_true rfl))).m (Nat.le_of_ble_eq_true rfl) ?_)
      show J K H _ [sh (Da.tup [(Da.tup (machine.1.map (eV Da.int))), (Da.tup (machine.2.map Da.int))]), ow (Da.lst ([0].map Da.int)), ow (Da.lst ([[]].map (eL Da.int))), no, no, no] _
      refine j_seq (j_asg (d := (Da.int 0)) (EvF.m ((EvB.f (ev_int) rfl))) (Nat.le_of_ble_eq_true rfl) ?_)
      show J K H _ [sh (Da.tup [(Da.tup (machine.1.map (eV Da.int))), (Da.tup (machine.2.map Da.int))]), ow (Da.lst ([0].map Da.int)), ow (Da.lst ([[]].map (eL Da.int))), ow (Da.int 0), no, no] _
      refine j_seq (j_while [4, 5] (fun b : Int × List It2 => [sh (Da.tup [(Da.tup (machine.1.map (eV Da.int))), (Da.tup (machine.2.map Da.int))]), ow (Da.lst ((b.2.map fun q => q.1).map Da.int)), ow (Da.lst ((b.2.map fun q => q.2).map (eL Da.int))), ow (Da.int b.1), no, no]) (fun b : Int × List It2 => 0 ≤ b.1 ∧ Fq machine L.toNat b.1.toNat 0 b.2 ∧ b.1.toNat ≤ b.2.length ∧ ∀ j, j < b.1.toNat → sgR machine (b.2.getD j z2).1 ≠ 1) (fun b : Int × List It2 => (machine.1.length - b.1.toNat : Nat)) (0, [z2]) rfl ?_ ?_)
      · exact ⟨Int.le_refl _, Fq.zero hp0, Nat.zero_le _, fun j hj => absurd hj (Nat.not_lt_zero _)⟩
      rintro ⟨a, os⟩ hI
      obtain ⟨hA, hF, hA2, hN⟩ : 0 ≤ a ∧ Fq machine L.toNat a.toNat 0 os ∧ a.toNat ≤ os.length ∧ ∀ j, j < a.toNat → sgR machine (os.getD j z2).1 ≠ 1 := hI
      refine ⟨(decide (a < (((os.map fun q => q.1).length) : Int))), (et_test (ev_C0 (ev_var (k := 3) rfl) (EvB.is (d1 := Da.int ((os.map fun q => q.1).length : Nat)) (ev_len (ev_var (k := 1) rfl)) (by simp only [List.length_map])))), fun hc => ?_, fun hc => ?_⟩
      · have ha : a.toNat < os.length := by
          have hc' := of_decide_eq_true hc
          rw [List.length_map] at hc'
          omega
        have hfew := hF.few
        obtain ⟨rm, ls, hq⟩ : ∃ rm ls, os.getD a.toNat z2 = (rm, ls) := ⟨_, _, rfl⟩
        have hmq : (rm, ls) ∈ os := hq ▸ getD_mem' ha
        have hrm : inR machine rm := hF.al _ hmq
        have hr1 := hrm.1
        have hr2 := hrm.2
        have hrow := hp0.row hr1 hr2
        have hll : ls.length ≤ a.toNat := by have := hF.ln a.toNat ha; rw [hq] at this; exact this
        have hg1 : (os.map fun q => q.1).getD a.toNat 0 = rm := by rw [getD_map' (fun q : It2 => q.1) z2 0 ha, hq]
        have hg2 : (os.map fun q => q.2).getD a.toNat [] = ls := by rw [getD_map' (fun q : It2 => q.2) z2 [] ha, hq]
        show J K H _ [sh (Da.tup [(Da.tup (machine.1.map (eV Da.int))), (Da.tup (machine.2.map Da.int))]), ow (Da.lst ((os.map fun q => q.1).map Da.int)), ow (Da.lst ((os.map fun q => q.2).map (eL Da.int))), ow (Da.int a), no, no] _
        refine j_seq (j_if (et_test (ev_eqI (ev_ixT (ds := machine.2.map Da.int) (i := ((os.map fun q => q.1).getD (a : Int).toNat 0)) (d := (Da.int (machine.2.getD (((os.map fun q => q.1).getD (a : Int).toNat 0) : Int).toNat 0))) (ev_ixT (ds := [(Da.tup (machine.1.map (eV Da.int))), (Da.tup (machine.2.map Da.int))]) (i := 1) (d := (Da.tup (machine.2.map Da.int))) (ev_var (k := 0) rfl) ev_int rfl) (ev_ixL (ds := (os.map fun q => q.1).map Da.int) (i := a) (d := (Da.int ((os.map fun q => q.1).getD (a : Int).toNat 0))) (ev_var (k := 1) rfl) (ev_var (k := 3) rfl) (at_map 0 (by first | omega | (simp only [List.length_map, List.length_range, List.length_append, List.length_cons, List.length_nil, List.length_replicate, List.length_set, List.length_take, List.length_drop, List.length_reverse] ; omega) | (first | (simp only [List.length_map]; omega) | (rw [hg1]; omega) | (rw [hh1]; omega) | (rw [hh2]; omega) | (simp only [List.length_map]; rw [hh2]; simp; omega)) | decide) (by first | omega | (simp only [List.length_map, List.length_range, List.length_append, List.length_cons, List.length_nil, List.length_replicate, List.length_set, List.length_take, List.length_drop, List.length_reverse] ; omega) | (first | (simp only [List.length_map]; omega) | (rw [hg1]; omega) | (rw [hh1]; omega) | (rw [hh2]; omega) | (simp only [List.length_map]; rw [hh2]; simp; omega)) | decide))) (at_map 0 (by first | omega | (simp only [List.length_map, List.length_range, List.length_append, List.length_cons, List.length_nil, List.length_replicate, List.length_set, List.length_take, List.length_drop, List.length_reverse] ; omega) | (first | (simp only [List.length_map]; omega) | (rw [hg1]; omega) | (rw [hh1]; omega) | (rw [hh2]; omega) | (simp only [List.length_map]; rw [hh2]; simp; omega)) | decide) (by first | omega | (simp only [List.length_map, List.length_range, List.length_append, List.length_cons, List.length_nil, List.length_replicate, List.length_set, List.length_take, List.length_drop, List.length_reverse] ; omega) | (first | (simp only [List.length_map]; omega) | (rw [hg1]; omega) | (rw [hh1]; omega) | (rw [hh2]; omega) | (simp only [List.length_map]; rw [hh2]; simp; omega)) | decide))) ev_int)) (fun hc => ?_) (fun hc => ?_))
        · rw [hg1] at hc
          have hy5 : sgR machine (os.getD a.toNat z2).1 = 1 := by rw [hq]; exact of_decide_eq_true hc
          refine j_ret (d := (Da.lst (((os.map fun q => q.2).getD (a : Int).toNat []).map Da.int))) (em_takeL (k := 2) (ds := (os.map fun q => q.2).map (eL Da.int)) (i := a) (d := (Da.lst (((os.map fun q => q.2).getD (a : Int).toNat []).map Da.int))) rfl (ev_var (k := 3) rfl) (at_map [] (by first | omega | (simp only [List.length_map, List.length_range, List.length_append, List.length_cons, List.length_nil, List.length_replicate, List.length_set, List.length_take, List.length_drop, List.length_reverse] ; omega) | (first | (simp only [List.length_map]; omega) | (rw [hg1]; omega) | (rw [hh1]; omega) | (rw [hh2]; omega) | (simp only [List.length_map]; rw [hh2]; simp; omega)) | decide) (by first | omega | (simp only [List.length_map, List.length_range, List.length_append, List.length_cons, List.length_nil, List.length_replicate, List.length_set, List.length_take, List.length_drop, List.length_reverse] ; omega) | (first | (simp only [List.length_map]; omega) | (rw [hg1]; omega) | (rw [hh1]; omega) | (rw [hh2]; omega) | (simp only [List.length_map]; rw [hh2]; simp; omega)) | decide))) ?_
          have hfd := hF.found hp1 ha hN hy5 hp4
          rw [hq] at hfd
          show Da.lst _ = Da.lst _
          rw [hg2, ← hfd]
        · refine j_next ?_
          show J K H _ [sh (Da.tup [(Da.tup (machine.1.map (eV Da.int))), (Da.tup (machine.2.map Da.int))]), ow (Da.lst ((os.map fun q => q.1).map Da.int)), ow (Da.lst ((os.map fun q => q.2).map (eL Da.int))), ow (Da.int a), no, no] _
          rw [hg1] at hc
          have hn5 : sgR machine rm ≠ 1 := of_decide_eq_false hc
          refine j_seq (j_range1 [5] (k := 4) (n := (((machine.1.getD 0 []).length) : Int)) (ea_cons (EvB.is (d1 := Da.int ((machine.1.getD 0 []).length : Nat)) (ev_lenT (ev_ixT (ds := machine.1.map (eV Da.int)) (i := 0) (d := (Da.tup ((machine.1.getD 0 []).map Da.int))) (ev_ixT (ds := [(Da.tup (machine.1.map (eV Da.int))), (Da.tup (machine.2.map Da.int))]) (i := 0) (d := (Da.tup (machine.1.map (eV Da.int)))) (ev_var (k := 0) rfl) ev_int rfl) ev_int (atI_map (k := 0) rfl (getD_some [] (by first | omega | (simp only [List.length_map, List.length_range, List.length_append, List.length_cons, List.length_nil, List.length_replicate, List.length_set, List.length_take, List.length_drop, List.length_reverse] ; omega) | (first | (simp only [List.length_map]; omega) | (rw [hg1]; omega) | (rw [hh1]; omega) | (rw [hh2]; omega) | (simp only [List.length_map]; rw [hh2]; simp; omega)) | decide))))) (by simp only [List.length_map])) ea_nil) (by first | omega | (simp only [List.length_map, List.length_range, List.length_append, List.length_cons, List.length_nil, List.length_replicate, List.length_set, List.length_take, List.length_drop, List.length_reverse] ; omega) | (first | (simp only [List.length_map]; omega) | (rw [hg1]; omega) | (rw [hh1]; omega) | (rw [hh2]; omega) | (simp only [List.length_map]; rw [hh2]; simp; omega)) | decide) (fun i ρ => ρ = [sh (Da.tup [(Da.tup (machine.1.map (eV Da.int))), (Da.tup (machine.2.map Da.int))]), ow (Da.lst (((turnG (nxR machine) (rm, ls) os i).map fun q => q.1).map Da.int)), ow (Da.lst (((turnG (nxR machine) (rm, ls) os i).map fun q => q.2).map (eL Da.int))), ow (Da.int a), no, no]) ?_ ?_ ?_ ?_ (by first | omega | (simp only [List.length_map, List.length_range, List.length_append, List.length_cons, List.length_nil, List.length_replicate, List.length_set, List.length_take, List.length_drop, List.length_reverse] ; omega) | (first | (simp only [List.length_map]; omega) | (rw [hg1]; omega) | (rw [hh1]; omega) | (rw [hh2]; omega) | (simp only [List.length_map]; rw [hh2]; simp; omega)) | decide))
          · rfl
          · rintro i ρ rfl; exact Nat.le_of_ble_eq_true rfl
          · rintro i ρ hi rfl
            have hT := hF.turn hp0 ha i (by omega)
            rw [hq] at hT
            have hTf := hT.few
            obtain ⟨tt, htt⟩ := turnG_pre (nxR machine) (rm, ls) os i
            have hTa : a.toNat < ((turnG (nxR machine) (rm, ls) os i)).length := by rw [htt, List.length_append]; omega
            have hTg : ((turnG (nxR machine) (rm, ls) os i)).getD a.toNat z2 = (rm, ls) := by rw [htt, getD_app _ ha]; exact hq
            have hh1 : ((turnG (nxR machine) (rm, ls) os i).map fun q => q.1).getD a.toNat 0 = rm := by rw [getD_map' (fun q : It2 => q.1) z2 0 hTa, hTg]
            have hh2 : ((turnG (nxR machine) (rm, ls) os i).map fun q => q.2).getD a.toNat [] = ls := by rw [getD_map' (fun q : It2 => q.2) z2 [] hTa, hTg]
            show J K H _ [sh (Da.tup [(Da.tup (machine.1.map (eV Da.int))), (Da.tup (machine.2.map Da.int))]), ow (Da.lst (((turnG (nxR machine) (rm, ls) os i).map fun q => q.1).map Da.int)), ow (Da.lst (((turnG (nxR machine) (rm, ls) os i).map fun q => q.2).map (eL Da.int))), ow (Da.int a), ow (Da.int (i : Nat)), no] _
            refine j_seq (j_asg (d := (Da.int ((machine.1.getD ((((turnG (nxR machine) (rm, ls) os i).map fun q => q.1).getD (a : Int).toNat 0) : Int).toNat []).getD i 0))) (EvF.m ((EvB.f ((ev_ixT (ds := (machine.1.getD ((((turnG (nxR machine) (rm, ls) os i).map fun q => q.1).getD (a : Int).toNat 0) : Int).toNat []).map Da.int) (i := (i : Int)) (d := (Da.int ((machine.1.getD ((((turnG (nxR machine) (rm, ls) os i).map fun q => q.1).getD (a : Int).toNat 0) : Int).toNat []).getD i 0))) (ev_ixT (ds := machine.1.map (eV Da.int)) (i := (((turnG (nxR machine) (rm, ls) os i).map fun q => q.1).getD (a : Int).toNat 0)) (d := (Da.tup ((machine.1.getD ((((turnG (nxR machine) (rm, ls) os i).map fun q => q.1).getD (a : Int).toNat 0) : Int).toNat []).map Da.int))) (ev_ixT (ds := [(Da.tup (machine.1.map (eV Da.int))), (Da.tup (machine.2.map Da.int))]) (i := 0) (d := (Da.tup (machine.1.map (eV Da.int)))) (ev_var (k := 0) rfl) ev_int rfl) (ev_ixL (ds := ((turnG (nxR machine) (rm, ls) os i).map fun q => q.1).map Da.int) (i := a) (d := (Da.int (((turnG (nxR machine) (rm, ls) os i).map fun q => q.1).getD (a : Int).toNat 0))) (ev_var (k := 1) rfl) (ev_var (k := 3) rfl) (at_map 0 (by first | omega | (simp only [List.length_map, List.length_range, List.length_append, List.length_cons, List.length_nil, List.length_replicate, List.length_set, List.length_take, List.length_drop, List.length_reverse] ; omega) | (first | (simp only [List.length_map]; omega) | (rw [hg1]; omega) | (rw [hh1]; omega) | (rw [hh2]; omega) | (simp only [List.length_map]; rw [hh2]; simp; omega)) | decide) (by first | omega | (simp only [List.length_map, List.length_range, List.length_append, List.length_cons, List.length_nil, List.length_replicate, List.length_set, List.length_take, List.length_drop, List.length_reverse] ; omega) | (first | (simp only [List.length_map]; omega) | (rw [hg1]; omega) | (rw [hh1]; omega) | (rw [hh2]; omega) | (simp only [List.length_map]; rw [hh2]; simp; omega)) | decide))) (at_map [] (by first | omega | (simp only [List.length_map, List.length_range, List.length_append, List.length_cons, List.length_nil, List.length_replicate, List.length_set, List.length_take, List.length_drop, List.length_reverse] ; omega) | (first | (simp only [List.length_map]; omega) | (rw [hg1]; omega) | (rw [hh1]; omega) | (rw [hh2]; omega) | (simp only [List.length_map]; rw [hh2]; simp; omega)) | decide) (by first | omega | (simp only [List.length_map, List.length_range, List.length_append, List.length_cons, List.length_nil, List.length_replicate, List.length_set, List.length_take, List.length_drop, List.length_reverse] ; omega) | (first | (simp only [List.length_map]; omega) | (rw [hg1]; omega) | (rw [hh1]; omega) | (rw [hh2]; omega) | (simp only [List.length_map]; rw [hh2]; simp; omega)) | decide))) (ev_var (k := 4) rfl) (at_mapN 0 (by first | omega | (simp only [List.length_map, List.length_range, List.length_append, List.length_cons, List.length_nil, List.length_replicate, List.length_set, List.length_take, List.length_drop, List.length_reverse] ; omega) | (first | (simp only [List.length_map]; omega) | (rw [hg1]; omega) | (rw [hh1]; omega) | (rw [hh2]; omega) | (simp only [List.length_map]; rw [hh2]; simp; omega)) | decide)))) rfl))) (Nat.le_of_ble_eq_true rfl) ?_)
            rw [hh1]
            show J K H _ _ _
            show J K H _ [sh (Da.tup [(Da.tup (machine.1.map (eV Da.int))), (Da.tup (machine.2.map Da.int))]), ow (Da.lst (((turnG (nxR machine) (rm, ls) os i).map fun q => q.1).map Da.int)), ow (Da.lst (((turnG (nxR machine) (rm, ls) os i).map fun q => q.2).map (eL Da.int))), ow (Da.int a), ow (Da.int (i : Nat)), ow (Da.int (nxR machine rm i))] _
            refine j_if (et_test (ev_notInD Da.int apart_int (x := (nxR machine rm i)) (xs := ((turnG (nxR machine) (rm, ls) os i).map fun q => q.1)) (ev_var (k := 5) rfl) (ev_var (k := 1) rfl) (n := 0) (m := 1) rfl (by unfold flD; exact flDs_map (fun _ => rfl) _))) (fun hc => ?_) (fun hc => ?_)
            · have hnew : nxR machine rm i ∉ ((turnG (nxR machine) (rm, ls) os i)).map (·.1) := by simpa using hc
              have e1 : turnG (nxR machine) (rm, ls) os (i + 1) = (turnG (nxR machine) (rm, ls) os i) ++ [(nxR machine rm i, ls ++ [(i : Int)])] := by rw [turnG_succ]; exact if_neg hnew
              refine j_seq (j_append (k := 1) (ds := ((turnG (nxR machine) (rm, ls) os i).map fun q => q.1).map Da.int) (d := (Da.int (nxR machine rm i))) (EvF.m ((EvB.f ((ev_var (k := 5) rfl)) rfl))) rfl rfl (by first | omega | (simp only [List.length_map, List.length_range, List.length_append, List.length_cons, List.length_nil, List.length_replicate, List.length_set, List.length_take, List.length_drop, List.length_reverse] ; omega) | (first | (simp only [List.length_map]; omega) | (rw [hg1]; omega) | (rw [hh1]; omega) | (rw [hh2]; omega) | (simp only [List.length_map]; rw [hh2]; simp; omega)) | decide) ?_)
              rw [show (((turnG (nxR machine) (rm, ls) os i).map fun q => q.1).map Da.int ++ [(Da.int (nxR machine rm i))] : List Da) = (((turnG (nxR machine) (rm, ls) os i).map fun q => q.1) ++ [(nxR machine rm i)]).map Da.int from app_one Da.int ((turnG (nxR machine) (rm, ls) os i).map fun q => q.1) (nxR machine rm i)]
              show J K H _ [sh (Da.tup [(Da.tup (machine.1.map (eV Da.int))), (Da.tup (machine.2.map Da.int))]), ow (Da.lst ((((turnG (nxR machine) (rm, ls) os i).map fun q => q.1) ++ [(nxR machine rm i)]).map Da.int)), ow (Da.lst (((turnG (nxR machine) (rm, ls) os i).map fun q => q.2).map (eL Da.int))), ow (Da.int a), ow (Da.int (i : Nat)), ow (Da.int (nxR machine rm i))] _
              refine j_append (k := 2) (ds := ((turnG (nxR machine) (rm, ls) os i).map fun q => q.2).map (eL Da.int)) (d := (Da.lst ((((((turnG (nxR machine) (rm, ls) os i).map fun q => q.2).getD (a : Int).toNat []) : List Int) ++ [(i : Int)]).map Da.int))) ((EvF.is (d1 := (Da.lst ((((((turnG (nxR machine) (rm, ls) os i).map fun q => q.2).getD (a : Int).toNat []) : List Int) ++ [(i : Int)]).map Da.int))) (ef_cat (ds := (((turnG (nxR machine) (rm, ls) os i).map fun q => q.2).getD (a : Int).toNat []).map Da.int) (es := [(i : Int)].map Da.int) (ev_ixL (ds := ((turnG (nxR machine) (rm, ls) os i).map fun q => q.2).map (eL Da.int)) (i := a) (d := (Da.lst ((((turnG (nxR machine) (rm, ls) os i).map fun q => q.2).getD (a : Int).toNat []).map Da.int))) (ev_var (k := 2) rfl) (ev_var (k := 3) rfl) (at_map [] (by first | omega | (simp only [List.length_map, List.length_range, List.length_append, List.length_cons, List.length_nil, List.length_replicate, List.length_set, List.length_take, List.length_drop, List.length_reverse] ; omega) | (first | (simp only [List.length_map]; omega) | (rw [hg1]; omega) | (rw [hh1]; omega) | (rw [hh2]; omega) | (simp only [List.length_map]; rw [hh2]; simp; omega)) | decide) (by first | omega | (simp only [List.length_map, List.length_range, List.length_append, List.length_cons, List.length_nil, List.length_replicate, List.length_set, List.length_take, List.length_drop, List.length_reverse] ; omega) | (first | (simp only [List.length_map]; omega) | (rw [hg1]; omega) | (rw [hh1]; omega) | (rw [hh2]; omega) | (simp only [List.length_map]; rw [hh2]; simp; omega)) | decide))) (EvF.g ((ef_lst (ds := [(Da.int (i : Int))]) (eaf_cons (EvB.f ((ev_var (k := 4) rfl)) rfl) eaf_nil) (Nat.le_of_ble_eq_true rfl)))) (imms_map _ (fun _ => rfl) _) (imms_map _ (fun _ => rfl) _) (by first | omega | (simp only [List.length_map, List.length_range, List.length_append, List.length_cons, List.length_nil, List.length_replicate, List.length_set, List.length_take, List.length_drop, List.length_reverse] ; omega) | (first | (simp only [List.length_map]; omega) | (rw [hg1]; omega) | (rw [hh1]; omega) | (rw [hh2]; omega) | (simp only [List.length_map]; rw [hh2]; simp; omega)) | decide)) (by simp only [List.map_append]))).m rfl rfl (by first | omega | (simp only [List.length_map, List.length_range, List.length_append, List.length_cons, List.length_nil, List.length_replicate, List.length_set, List.length_take, List.length_drop, List.length_reverse] ; omega) | (first | (simp only [List.length_map]; omega) | (rw [hg1]; omega) | (rw [hh1]; omega) | (rw [hh2]; omega) | (simp only [List.length_map]; rw [hh2]; simp; omega)) | decide) ?_
              rw [show (((turnG (nxR machine) (rm, ls) os i).map fun q => q.2).map (eL Da.int) ++ [(Da.lst ((((((turnG (nxR machine) (rm, ls) os i).map fun q => q.2).getD (a : Int).toNat []) : List Int) ++ [(i : Int)]).map Da.int))] : List Da) = (((turnG (nxR machine) (rm, ls) os i).map fun q => q.2) ++ [(((((turnG (nxR machine) (rm, ls) os i).map fun q => q.2).getD (a : Int).toNat []) : List Int) ++ [(i : Int)])]).map (eL Da.int) from app_one (eL Da.int) ((turnG (nxR machine) (rm, ls) os i).map fun q => q.2) (((((turnG (nxR machine) (rm, ls) os i).map fun q => q.2).getD (a : Int).toNat []) : List Int) ++ [(i : Int)])]
              first
                | (show [_, ow (Da.lst _), ow (Da.lst _), _, no, no] = [_, ow (Da.lst _), ow (Da.lst _), _, no, no]; rw [e1]; done)
                | (show [_, ow (Da.lst _), ow (Da.lst _), _, no, no] = [_, ow (Da.lst _), ow (Da.lst _), _, no, no]; rw [e1, hh2, List.map_append (f := fun q : It2 => q.1), List.map_append (f := fun q : It2 => q.2)]; rfl)
            · refine j_next ?_
              have hold : nxR machine rm i ∈ ((turnG (nxR machine) (rm, ls) os i)).map (·.1) := by simpa using hc
              have e1 : turnG (nxR machine) (rm, ls) os (i + 1) = (turnG (nxR machine) (rm, ls) os i) := by rw [turnG_succ]; exact if_pos hold
              first
                | (show [_, ow (Da.lst _), ow (Da.lst _), _, no, no] = [_, ow (Da.lst _), ow (Da.lst _), _, no, no]; rw [e1]; done)
                | (show [_, ow (Da.lst _), ow (Da.lst _), _, no, no] = [_, ow (Da.lst _), ow (Da.lst _), _, no, no]; rw [e1, hh2, List.map_append (f := fun q : It2 => q.1), List.map_append (f := fun q : It2 => q.2)]; rfl)
          rintro ρ rfl
          skip
          show J K H _ [sh (Da.tup [(Da.tup (machine.1.map (eV Da.int))), (Da.tup (machine.2.map Da.int))]), ow (Da.lst (((turnG (nxR machine) (rm, ls) os ((machine.1.getD 0 []).length)).map fun q => q.1).map Da.int)), ow (Da.lst (((turnG (nxR machine) (rm, ls) os ((machine.1.getD 0 []).length)).map fun q => q.2).map (eL Da.int))), ow (Da.int a), no, no] _
          refine j_asg (d := (Da.int (a + 1))) (EvF.m ((EvB.f ((ev_add (ev_var (k := 3) rfl) ev_int)) rfl))) (Nat.le_of_ble_eq_true rfl) ?_
          refine ⟨((a + 1), (turnG (nxR machine) (rm, ls) os (machine.1.getD 0 []).length)), rfl, ?_, ?_⟩
          · have hTn := hF.turn hp0 ha (machine.1.getD 0 []).length (by omega)
            rw [hq] at hTn
            obtain ⟨tt, htt⟩ := turnG_pre (nxR machine) (rm, ls) os (machine.1.getD 0 []).length
            refine ⟨by show 0 ≤ a + 1; omega, ?_, ?_, ?_⟩
            · show Fq machine L.toNat (a + 1).toNat 0 _
              rw [show (a + 1).toNat = a.toNat + 1 by omega]
              rw [show (machine.1.getD 0 []).length = L.toNat by omega] at hTn ⊢
              exact hTn.over
            · show (a + 1).toNat ≤ _
              rw [htt, List.length_append]; omega
            · intro j hj
              show sgR machine (List.getD _ j z2).1 ≠ 1
              rw [htt, getD_app _ (show j < os.length by omega)]
              by_cases e : j = a.toNat
              · rw [e, hq]; exact hn5
              · exact hN j (by omega)
          · show machine.1.length - (a + 1).toNat < machine.1.length - a.toNat
            omega
      have hdn : ¬ a.toNat < os.length := by
        have hc' := of_decide_eq_false hc
        rw [List.length_map] at hc'
        omega
      show J K H _ [sh (Da.tup [(Da.tup (machine.1.map (eV Da.int))), (Da.tup (machine.2.map Da.int))]), ow (Da.lst ((os.map fun q => q.1).map Da.int)), ow (Da.lst ((os.map fun q => q.2).map (eL Da.int))), ow (Da.int a), no, no] _
      refine j_ret (d := Da.non) (EvF.m ((EvB.f (ev_non) rfl))) ?_
      exact absurd hp4.yes (hF.none hp1 hdn (fun j hj => hN j (by omega)) _ hp4.ok)
    · have hps := hp0.pos
      have hsg := hp0.sg
      have hrw0 : ((machine.1.getD 0 []).length : Int) = L := lets_is hp0
      show J K H _ [sh (Da.tup [(Da.tup (machine.1.map (eV Da.int))), (Da.tup (machine.2.map Da.int))]), no, no, no, no, no] _
      refine j_seq (j_asg (d := (Da.lst ([0].map Da.int))) ((ef_lst (ds := [(Da.int 0)]) (eaf_cons (EvB.f (ev_int) rfl) eaf_nil) (Nat.le_of_ble_eq_true rfl))).m (Nat.le_of_ble_eq_true rfl) ?_)
      show J K H _ [sh (Da.tup [(Da.tup (machine.1.map (eV Da.int))), (Da.tup (machine.2.map Da.int))]), ow (Da.lst ([0].map Da.int)), no, no, no, no] _
      refine j_seq (j_asg (d := (Da.lst ([[]].map (eL Da.int)))) ((ef_lst (ds := [(Da.lst ([].map Da.int))]) (eaf_cons (ef_lst (ds := []) eaf_nil (Nat.le_of_ble_eq_true rfl)) eaf_nil) (Nat.le_of_ble_eq_true rfl))).m (Nat.le_of_ble_eq_true rfl) ?_)
      show J K H _ [sh (Da.tup [(Da.tup (machine.1.map (eV Da.int))), (Da.tup (machine.2.map Da.int))]), ow (Da.lst ([0].map Da.int)), ow (Da.lst ([[]].map (eL Da.int))), no, no, no] _
      refine j_seq (j_asg (d := (Da.int 0)) (EvF.m ((EvB.f (ev_int) rfl))) (Nat.le_of_ble_eq_true rfl) ?_)
      show J K H _ [sh (Da.tup [(Da.tup (machine.1.map (eV Da.int))), (Da.tup (machine.2.map Da.int))]), ow (Da.lst ([0].map Da.int)), ow (Da.lst ([[]].map (eL Da.int))), ow (Da.int 0), no, no] _
      refine j_seq (j_while [4, 5] (fun b : Int × List It2 => [sh (Da.tup [(Da.tup (machine.1.map (eV Da.int))), (Da.tup (machine.2.map Da.int))]), ow (Da.lst ((b.2.map fun q => q.1).map Da.int)), ow (Da.lst ((b.2.map fun q => q.2).map (eL Da.int))), ow (Da.int b.1), no, no]) (fun b : Int × List It2 => 0 ≤ b.1 ∧ Fq machine L.toNat b.1.toNat 0 b.2 ∧ b.1.toNat ≤ b.2.length ∧ ∀ j, j < b.1.toNat → sgR machine (b.2.getD j z2).1 ≠ 1) (fun b : Int × List It2 => (machine.1.length - b.1.toNat : Nat)) (0, [z2]) rfl ?_ ?_)
      · exact ⟨Int.le_refl _, Fq.zero hp0, Nat.zero_le _, fun j hj => absurd hj (Nat.not_lt_zero _)⟩
      rintro ⟨a, os⟩ hI
      obtain ⟨hA, hF, hA2, hN⟩ : 0 ≤ a ∧ Fq machine L.toNat a.toNat 0 os ∧ a.toNat ≤ os.length ∧ ∀ j, j < a.toNat → sgR machine (os.getD j z2).1 ≠ 1 := hI
      refine ⟨(decide (a < (((os.map fun q => q.1).length) : Int))), (et_test (ev_C0 (ev_var (k := 3) rfl) (EvB.is (d1 := Da.int ((os.map fun q => q.1).length : Nat)) (ev_len (ev_var (k := 1) rfl)) (by simp only [List.length_map])))), fun hc => ?_, fun hc => ?_⟩
      · have ha : a.toNat < os.length := by
          have hc' := of_decide_eq_true hc
          rw [List.length_map] at hc'
          omega
        have hfew := hF.few
        obtain ⟨rm, ls, hq⟩ : ∃ rm ls, os.getD a.toNat z2 = (rm, ls) := ⟨_, _, rfl⟩
        have hmq : (rm, ls) ∈ os := hq ▸ getD_mem' ha
        have hrm : inR machine rm := hF.al _ hmq
        have hr1 := hrm.1
        have hr2 := hrm.2
        have hrow := hp0.row hr1 hr2
        have hll : ls.length ≤ a.toNat := by have := hF.ln a.toNat ha; rw [hq] at this; exact this
        have hg1 : (os.map fun q => q.1).getD a.toNat 0 = rm := by rw [getD_map' (fun q : It2 => q.1) z2 0 ha, hq]
        have hg2 : (os.map fun q => q.2).getD a.toNat [] = ls := by rw [getD_map' (fun q : It2 => q.2) z2 [] ha, hq]
        show J K H _ [sh (Da.tup [(Da.tup (machine.1.map (eV Da.int))), (Da.tup (machine.2.map Da.int))]), ow (Da.lst ((os.map fun q => q.1).map Da.int)), ow (Da.lst ((os.map fun q => q.2).map (eL Da.int))), ow (Da.int a), no, no] _
        refine j_seq (j_if (et_test (ev_eqI (ev_ixT (ds := machine.2.map Da.int) (i := ((os.map fun q => q.1).getD (a : Int).toNat 0)) (d := (Da.int (machine.2.getD (((os.map fun q => q.1).getD (a : Int).toNat 0) : Int).toNat 0))) (ev_ixT (ds := [(Da.tup (machine.1.map (eV Da.int))), (Da.tup (machine.2.map Da.int))]) (i := 1) (d := (Da.tup (machine.2.map Da.int))) (ev_var (k := 0) rfl) ev_int rfl) (ev_ixL (ds := (os.map fun q => q.1).map Da.int) (i := a) (d := (Da.int ((os.map fun q => q.1).getD (a : Int).toNat 0))) (ev_var (k := 1) rfl) (ev_var (k := 3) rfl) (at_map 0 (by first | omega | (simp only [List.length_map, List.length_range, List.length_append, List.length_cons, List.length_nil, List.length_replicate, List.length_set, List.length_take, List.length_drop, List.length_reverse] ; omega) | (first | (simp only [List.length_map]; omega) | (rw [hg1]; omega) | (rw [hh1]; omega) | (rw [hh2]; omega) | (simp only [List.length_map]; rw [hh2]; simp; omega)) | decide) (by first | omega | (simp only [List.length_map, List.length_range, List.length_append, List.length_cons, List.length_nil, List.length_replicate, List.length_set, List.length_take, List.length_drop, List.length_reverse] ; omega) | (first | (simp only [List.length_map]; omega) | (rw [hg1]; omega) | (rw [hh1]; omega) | (rw [hh2]; omega) | (simp only [List.length_map]; rw [hh2]; simp; omega)) | decide))) (at_map 0 (by first | omega | (simp only [List.length_map, List.length_range, List.length_append, List.length_cons, List.length_nil, List.length_replicate, List.length_set, List.length_take, List.length_drop, List.length_reverse] ; omega) | (first | (simp only [List.length_map]; omega) | (rw [hg1]; omega) | (rw [hh1]; omega) | (rw [hh2]; omega) | (simp only [List.length_map]; rw [hh2]; simp; omega)) | decide) (by first | omega | (simp only [List.length_map, List.length_range, List.length_append, List.length_cons, List.length_nil, List.length_replicate, List.length_set, List.length_take, List.length_drop, List.length_reverse] ; omega) | (first | (simp only [List.length_map]; omega) | (rw [hg1]; omega) | (rw [hh1]; omega) | (rw [hh2]; omega) | (simp only [List.length_map]; rw [hh2]; simp; omega)) | decide))) ev_int)) (fun hc => ?_) (fun hc => ?_))
        · rw [hg1] at hc
          have hy5 : sgR machine (os.getD a.toNat z2).1 = 1 := by rw [hq]; exact of_decide_eq_true hc
          refine j_ret (d := (Da.lst (((os.map fun q => q.2).getD (a : Int).toNat []).map Da.int))) (em_takeL (k := 2) (ds := (os.map fun q => q.2).map (eL Da.int)) (i := a) (d := (Da.lst (((os.map fun q => q.2).getD (a : Int).toNat []).map Da.int))) rfl (ev_var (k := 3) rfl) (at_map [] (by first | omega | (simp only [List.length_map, List.length_range, List.length_append, List.length_cons, List.length_nil, List.length_replicate, List.length_set, List.length_take, List.length_drop, List.length_reverse] ; omega) | (first | (simp only [List.length_map]; omega) | (rw [hg1]; omega) | (rw [hh1]; omega) | (rw [hh2]; omega) | (simp only [List.length_map]; rw [hh2]; simp; omega)) | decide) (by first | omega | (simp only [List.length_map, List.length_range, List.length_append, List.length_cons, List.length_nil, List.length_replicate, List.length_set, List.length_take, List.length_drop, List.length_reverse] ; omega) | (first | (simp only [List.length_map]; omega) | (rw [hg1]; omega) | (rw [hh1]; omega) | (rw [hh2]; omega) | (simp only [List.length_map]; rw [hh2]; simp; omega)) | decide))) ?_
          refine absurd ?_ (hp4 ls ?_)
          · have hrn := (hF.s.run _ hmq).2
            rw [hq] at hy5
            unfold beh; rw [← runG_R, hrn]; exact hy5
          · have := (hF.s.run _ hmq).1
            rw [show ((L.toNat : Nat) : Int) = L by omega] at this; exact this
        · refine j_next ?_
          show J K H _ [sh (Da.tup [(Da.tup (machine.1.map (eV Da.int))), (Da.tup (machine.2.map Da.int))]), ow (Da.lst ((os.map fun q => q.1).map Da.int)), ow (Da.lst ((os.map fun q => q.2).map (eL Da.int))), ow (Da.int a), no, no] _
          rw [hg1] at hc
          have hn5 : sgR machine rm ≠ 1 := of_decide_eq_false hc
          refine j_seq (j_range1 [5] (k := 4) (n := (((machine.1.getD 0 []).length) : Int)) (ea_cons (EvB.is (d1 := Da.int ((machine.1.getD 0 []).length : Nat)) (ev_lenT (ev_ixT (ds := machine.1.map (eV Da.int)) (i := 0) (d := (Da.tup ((machine.1.getD 0 []).map Da.int))) (ev_ixT (ds := [(Da.tup (machine.1.map (eV Da.int))), (Da.tup (machine.2.map Da.int))]) (i := 0) (d := (Da.tup (machine.1.map (eV Da.int)))) (ev_var (k := 0) rfl) ev_int rfl) ev_int (atI_map (k := 0) rfl (getD_some [] (by first | omega | (simp only [List.length_map, List.length_range, List.length_append, List.length_cons, List.length_nil, List.length_replicate, List.length_set, List.length_take, List.length_drop, List.length_reverse] ; omega) | (first | (simp only [List.length_map]; omega) | (rw [hg1]; omega) | (rw [hh1]; omega) | (rw [hh2]; omega) | (simp only [List.length_map]; rw [hh2]; simp; omega)) | decide))))) (by simp only [List.length_map])) ea_nil) (by first | omega | (simp only [List.length_map, List.length_range, List.length_append, List.length_cons, List.length_nil, List.length_replicate, List.length_set, List.length_take, List.length_drop, List.length_reverse] ; omega) | (first | (simp only [List.length_map]; omega) | (rw [hg1]; omega) | (rw [hh1]; omega) | (rw [hh2]; omega) | (simp only [List.length_map]; rw [hh2]; simp; omega)) | decide) (fun i ρ => ρ = [sh (Da.tup [(Da.tup (machine.1.map (eV Da.int))), (Da.tup (machine.2.map Da.int))]), ow (Da.lst (((turnG (nxR machine) (rm, ls) os i).map fun q => q.1).map Da.int)), ow (Da.lst (((turnG (nxR machine) (rm, ls) os i).map fun q => q.2).map (eL Da.int))), ow (Da.int a), no, no]) ?_ ?_ ?_ ?_ (by first | omega | (simp only [List.length_map, List.length_range, List.length_append, List.length_cons, List.length_nil, List.length_replicate, List.length_set, List.length_take, List.length_drop, List.length_reverse] ; omega) | (first | (simp only [List.length_map]; omega) | (rw [hg1]; omega) | (rw [hh1]; omega) | (rw [hh2]; omega) | (simp only [List.length_map]; rw [hh2]; simp; omega)) | decide))
          · rfl
          · rintro i ρ rfl; exact Nat.le_of_ble_eq_true rfl
          · rintro i ρ hi rfl
            have hT := hF.turn hp0 ha i (by omega)
            rw [hq] at hT
            have hTf := hT.few
            obtain ⟨tt, htt⟩ := turnG_pre (nxR machine) (rm, ls) os i
            have hTa : a.toNat < ((turnG (nxR machine) (rm, ls) os i)).length := by rw [htt, List.length_append]; omega
            have hTg : ((turnG (nxR machine) (rm, ls) os i)).getD a.toNat z2 = (rm, ls) := by rw [htt, getD_app _ ha]; exact hq
            have hh1 : ((turnG (nxR machine) (rm, ls) os i).map fun q => q.1).getD a.toNat 0 = rm := by rw [getD_map' (fun q : It2 => q.1) z2 0 hTa, hTg]
            have hh2 : ((turnG (nxR machine) (rm, ls) os i).map fun q => q.2).getD a.toNat [] = ls := by rw [getD_map' (fun q : It2 => q.2) z2 [] hTa, hTg]
            show J K H _ [sh (Da.tup [(Da.tup (machine.1.map (eV Da.int))), (Da.tup (machine.2.map Da.int))]), ow (Da.lst (((turnG (nxR machine) (rm, ls) os i).map fun q => q.1).map Da.int)), ow (Da.lst (((turnG (nxR machine) (rm, ls) os i).map fun q => q.2).map (eL Da.int))), ow (Da.int a), ow (Da.int (i : Nat)), no] _
            refine j_seq (j_asg (d := (Da.int ((machine.1.getD ((((turnG (nxR machine) (rm, ls) os i).map fun q => q.1).getD (a : Int).toNat 0) : Int).toNat []).getD i 0))) (EvF.m ((EvB.f ((ev_ixT (ds := (machine.1.getD ((((turnG (nxR machine) (rm, ls) os i).map fun q => q.1).getD (a : Int).toNat 0) : Int).toNat []).map Da.int) (i := (i : Int)) (d := (Da.int ((machine.1.getD ((((turnG (nxR machine) (rm, ls) os i).map fun q => q.1).getD (a : Int).toNat 0) : Int).toNat []).getD i 0))) (ev_ixT (ds := machine.1.map (eV Da.int)) (i := (((turnG (nxR machine) (rm, ls) os i).map fun q => q.1).getD (a : Int).toNat 0)) (d := (Da.tup ((machine.1.getD ((((turnG (nxR machine) (rm, ls) os i).map fun q => q.1).getD (a : Int).toNat 0) : Int).toNat []).map Da.int))) (ev_ixT (ds := [(Da.tup (machine.1.map (eV Da.int))), (Da.tup (machine.2.map Da.int))]) (i := 0) (d := (Da.tup (machine.1.map (eV Da.int)))) (ev_var (k := 0) rfl) ev_int rfl) (ev_ixL (ds := ((turnG (nxR machine) (rm, ls) os i).map fun q => q.1).map Da.int) (i := a) (d := (Da.int (((turnG (nxR machine) (rm, ls) os i).map fun q => q.1).getD (a : Int).toNat 0))) (ev_var (k := 1) rfl) (ev_var (k := 3) rfl) (at_map 0 (by first | omega | (simp only [List.length_map, List.length_range, List.length_append, List.length_cons, List.length_nil, List.length_replicate, List.length_set, List.length_take, List.length_drop, List.length_reverse] ; omega) | (first | (simp only [List.length_map]; omega) | (rw [hg1]; omega) | (rw [hh1]; omega) | (rw [hh2]; omega) | (simp only [List.length_map]; rw [hh2]; simp; omega)) | decide) (by first | omega | (simp only [List.length_map, List.length_range, List.length_append, List.length_cons, List.length_nil, List.length_replicate, List.length_set, List.length_take, List.length_drop, List.length_reverse] ; omega) | (first | (simp only [List.length_map]; omega) | (rw [hg1]; omega) | (rw [hh1]; omega) | (rw [hh2]; omega) | (simp only [List.length_map]; rw [hh2]; simp; omega)) | decide))) (at_map [] (by first | omega | (simp only [List.length_map, List.length_range, List.length_append, List.length_cons, List.length_nil, List.length_replicate, List.length_set, List.length_take, List.length_drop, List.length_reverse] ; omega) | (first | (simp only [List.length_map]; omega) | (rw [hg1]; omega) | (rw [hh1]; omega) | (rw [hh2]; omega) | (simp only [List.length_map]; rw [hh2]; simp; omega)) | decide) (by first | omega | (simp only [List.length_map, List.length_range, List.length_append, List.length_cons, List.length_nil, List.length_replicate, List.length_set, List.length_take, List.length_drop, List.length_reverse] ; omega) | (first | (simp only [List.length_map]; omega) | (rw [hg1]; omega) | (rw [hh1]; omega) | (rw [hh2]; omega) | (simp only [List.length_map]; rw [hh2]; simp; omega)) | decide))) (ev_var (k := 4) rfl) (at_mapN 0 (by first | omega | (simp only [List.length_map, List.length_range, List.length_append, List.length_cons, List.length_nil, List.length_replicate, List.length_set, List.length_take, List.length_drop, List.length_reverse] ; omega) | (first | (simp only [List.length_map]; omega) | (rw [hg1]; omega) | (rw [hh1]; omega) | (rw [hh2]; omega) | (simp only [List.length_map]; rw [hh2]; simp; omega)) | decide)))) rfl))) (Nat.le_of_ble_eq_true rfl) ?_)
            rw [hh1]
            show J K H _ _ _
            show J K H _ [sh (Da.tup [(Da.tup (machine.1.map (eV Da.int))), (Da.tup (machine.2.map Da.int))]), ow (Da.lst (((turnG (nxR machine) (rm, ls) os i).map fun q => q.1).map Da.int)), ow (Da.lst (((turnG (nxR machine) (rm, ls) os i).map fun q => q.2).map (eL Da.int))), ow (Da.int a), ow (Da.int (i : Nat)), ow (Da.int (nxR machine rm i))] _
            refine j_if (et_test (ev_notInD Da.int apart_int (x := (nxR machine rm i)) (xs := ((turnG (nxR machine) (rm, ls) os i).map fun q => q.1)) (ev_var (k := 5) rfl) (ev_var (k := 1) rfl) (n := 0) (m := 1) rfl (by unfold flD; exact flDs_map (fun _ => rfl) _))) (fun hc => ?_) (fun hc => ?_)
            · have hnew : nxR machine rm i ∉ ((turnG (nxR machine) (rm, ls) os i)).map (·.1) := by simpa using hc
              have e1 : turnG (nxR machine) (rm, ls) os (i + 1) = (turnG (nxR machine) (rm, ls) os i) ++ [(nxR machine rm i, ls ++ [(i : Int)])] := by rw [turnG_succ]; exact if_neg hnew
              refine j_seq (j_append (k := 1) (ds := ((turnG (nxR machine) (rm, ls) os i).map fun q => q.1).map Da.int) (d := (Da.int (nxR machine rm i))) (EvF.m ((EvB.f ((ev_var (k := 5) rfl)) rfl))) rfl rfl (by first | omega | (simp only [List.length_map, List.length_range, List.length_append, List.length_cons, List.length_nil, List.length_replicate, List.length_set, List.length_take, List.length_drop, List.length_reverse] ; omega) | (first | (simp only [List.length_map]; omega) | (rw [hg1]; omega) | (rw [hh1]; omega) | (rw [hh2]; omega) | (simp only [List.length_map]; rw [hh2]; simp; omega)) | decide) ?_)
              rw [show (((turnG (nxR machine) (rm, ls) os i).map fun q => q.1).map Da.int ++ [(Da.int (nxR machine rm i))] : List Da) = (((turnG (nxR machine) (rm, ls) os i).map fun q => q.1) ++ [(nxR machine rm i)]).map Da.int from app_one Da.int ((turnG (nxR machine) (rm, ls) os i).map fun q => q.1) (nxR machine rm i)]
              show J K H _ [sh (Da.tup [(Da.tup (machine.1.map (eV Da.int))), (Da.tup (machine.2.map Da.int))]), ow (Da.lst ((((turnG (nxR machine) (rm, ls) os i).map fun q => q.1) ++ [(nxR machine rm i)]).map Da.int)), ow (Da.lst (((turnG (nxR machine) (rm, ls) os i).map fun q => q.2).map (eL Da.int))), ow (Da.int a), ow (Da.int (i : Nat)), ow (Da.int (nxR machine rm i))] _
              refine j_append (k := 2) (ds := ((turnG (nxR machine) (rm, ls) os i).map fun q => q.2).map (eL Da.int)) (d := (Da.lst ((((((turnG (nxR machine) (rm, ls) os i).map fun q => q.2).getD (a : Int).toNat []) : List Int) ++ [(i : Int)]).map Da.int))) ((EvF.is (d1 := (Da.lst ((((((turnG (nxR machine) (rm, ls) os i).map fun q => q.2).getD (a : Int).toNat []) : List Int) ++ [(i : Int)]).map Da.int))) (ef_cat (ds := (((turnG (nxR machine) (rm, ls) os i).map fun q => q.2).getD (a : Int).toNat []).map Da.int) (es := [(i : Int)].map Da.int) (ev_ixL (ds := ((turnG (nxR machine) (rm, ls) os i).map fun q => q.2).map (eL Da.int)) (i := a) (d := (Da.lst ((((turnG (nxR machine) (rm, ls) os i).map fun q => q.2).getD (a : Int).toNat []).map Da.int))) (ev_var (k := 2) rfl) (ev_var (k := 3) rfl) (at_map [] (by first | omega | (simp only [List.length_map, List.length_range, List.length_append, List.length_cons, List.length_nil, List.length_replicate, List.length_set, List.length_take, List.length_drop, List.length_reverse] ; omega) | (first | (simp only [List.length_map]; omega) | (rw [hg1]; omega) | (rw [hh1]; omega) | (rw [hh2]; omega) | (simp only [List.length_map]; rw [hh2]; simp; omega)) | decide) (by first | omega | (simp only [List.length_map, List.length_range, List.length_append, List.length_cons, List.length_nil, List.length_replicate, List.length_set, List.length_take, List.length_drop, List.length_reverse] ; omega) | (first | (simp only [List.length_map]; omega) | (rw [hg1]; omega) | (rw [hh1]; omega) | (rw [hh2]; omega) | (simp only [List.length_map]; rw [hh2]; simp; omega)) | decide))) (EvF.g ((ef_lst (ds := [(Da.int (i : Int))]) (eaf_cons (EvB.f ((ev_var (k := 4) rfl)) rfl) eaf_nil) (Nat.le_of_ble_eq_true rfl)))) (imms_map _ (fun _ => rfl) _) (imms_map _ (fun _ => rfl) _) (by first | omega | (simp only [List.length_map, List.length_range, List.length_append, List.length_cons, List.length_nil, List.length_replicate, List.length_set, List.length_take, List.length_drop, List.length_reverse] ; omega) | (first | (simp only [List.length_map]; omega) | (rw [hg1]; omega) | (rw [hh1]; omega) | (rw [hh2]; omega) | (simp only [List.length_map]; rw [hh2]; simp; omega)) | decide)) (by simp only [List.map_append]))).m rfl rfl (by first | omega | (simp only [List.length_map, List.length_range, List.length_append, List.length_cons, List.length_nil, List.length_replicate, List.length_set, List.length_take, List.length_drop, List.length_reverse] ; omega) | (first | (simp only [List.length_map]; omega) | (rw [hg1]; omega) | (rw [hh1]; omega) | (rw [hh2]; omega) | (simp only [List.length_map]; rw [hh2]; simp; omega)) | decide) ?_
              rw [show (((turnG (nxR machine) (rm, ls) os i).map fun q => q.2).map (eL Da.int) ++ [(Da.lst ((((((turnG (nxR machine) (rm, ls) os i).map fun q => q.2).getD (a : Int).toNat []) : List Int) ++ [(i : Int)]).map Da.int))] : List Da) = (((turnG (nxR machine) (rm, ls) os i).map fun q => q.2) ++ [(((((turnG (nxR machine) (rm, ls) os i).map fun q => q.2).getD (a : Int).toNat []) : List Int) ++ [(i : Int)])]).map (eL Da.int) from app_one (eL Da.int) ((turnG (nxR machine) (rm, ls) os i).map fun q => q.2) (((((turnG (nxR machine) (rm, ls) os i).map fun q => q.2).getD (a : Int).toNat []) : List Int) ++ [(i : Int)])]
              first
                | (show [_, ow (Da.lst _), ow (Da.lst _), _, no, no] = [_, ow (Da.lst _), ow (Da.lst _), _, no, no]; rw [e1]; done)
                | (show [_, ow (Da.lst _), ow (Da.lst _), _, no, no] = [_, ow (Da.lst _), ow (Da.lst _), _, no, no]; rw [e1, hh2, List.map_append (f := fun q : It2 => q.1), List.map_append (f := fun q : It2 => q.2)]; rfl)
            · refine j_next ?_
              have hold : nxR machine rm i ∈ ((turnG (nxR machine) (rm, ls) os i)).map (·.1) := by simpa using hc
              have e1 : turnG (nxR machine) (rm, ls) os (i + 1) = (turnG (nxR machine) (rm, ls) os i) := by rw [turnG_succ]; exact if_pos hold
              first
                | (show [_, ow (Da.lst _), ow (Da.lst _), _, no, no] = [_, ow (Da.lst _), ow (Da.lst _), _, no, no]; rw [e1]; done)
                | (show [_, ow (Da.lst _), ow (Da.lst _), _, no, no] = [_, ow (Da.lst _), ow (Da.lst _), _, no, no]; rw [e1, hh2, List.map_append (f := fun q : It2 => q.1), List.map_append (f := fun q : It2 => q.2)]; rfl)
          rintro ρ rfl
          skip
          show J K H _ [sh (Da.tup [(Da.tup (machine.1.map (eV Da.int))), (Da.tup (machine.2.map Da.int))]), ow (Da.lst (((turnG (nxR machine) (rm, ls) os ((machine.1.getD 0 []).length)).map fun q => q.1).map Da.int)), ow (Da.lst (((turnG (nxR machine) (rm, ls) os ((machine.1.getD 0 []).length)).map fun q => q.2).map (eL Da.int))), ow (Da.int a), no, no] _
          refine j_asg (d := (Da.int (a + 1))) (EvF.m ((EvB.f ((ev_add (ev_var (k := 3) rfl) ev_int)) rfl))) (Nat.le_of_ble_eq_true rfl) ?_
          refine ⟨((a + 1), (turnG (nxR machine) (rm, ls) os (machine.1.getD 0 []).length)), rfl, ?_, ?_⟩
          · have hTn := hF.turn hp0 ha (machine.1.getD 0 []).length (by omega)
            rw [hq] at hTn
            obtain ⟨tt, htt⟩ := turnG_pre (nxR machine) (rm, ls) os (machine.1.getD 0 []).length
            refine ⟨by show 0 ≤ a + 1; omega, ?_, ?_, ?_⟩
            · show Fq machine L.toNat (a + 1).toNat 0 _
              rw [show (a + 1).toNat = a.toNat + 1 by omega]
              rw [show (machine.1.getD 0 []).length = L.toNat by omega] at hTn ⊢
              exact hTn.over
            · show (a + 1).toNat ≤ _
              rw [htt, List.length_append]; omega
            · intro j hj
              show sgR machine (List.getD _ j z2).1 ≠ 1
              rw [htt, getD_app _ (show j < os.length by omega)]
              by_cases e : j = a.toNat
              · rw [e, hq]; exact hn5
              · exact hN j (by omega)
          · show machine.1.length - (a + 1).toNat < machine.1.length - a.toNat
            omega
      have hdn : ¬ a.toNat < os.length := by
        have hc' := of_decide_eq_false hc
        rw [List.length_map] at hc'
        omega
      show J K H _ [sh (Da.tup [(Da.tup (machine.1.map (eV Da.int))), (Da.tup (machine.2.map Da.int))]), ow (Da.lst ((os.map fun q => q.1).map Da.int)), ow (Da.lst ((os.map fun q => q.2).map (eL Da.int))), ow (Da.int a), no, no] _
      refine j_ret (d := Da.non) (EvF.m ((EvB.f (ev_non) rfl))) ?_
      rfl
theorem kn_law_first (Z : Zb mg) (S : Stands K mg "_law_first" s_law_first) : Known P w K mg base "_law_first" 1 (spF K G_law_first) 1 [] :=
  known_of (ps := ["_law_machine"]) S (fun _ _ _ _ _ _ us hl => match us, hl with | [_], _ => rfl) fun f fd F => ok_law_first Z F
def G_law_places : List Da → Da → Prop := fun ds d => ∃ (letters : List (Int)) (many : Int) (base : Int), ds = [(Da.lst (letters.map Da.int)), (Da.int many), (Da.int base)] ∧ (0 ≤ many) ∧ (many ≤ 4) ∧ (2 ≤ base) ∧ (base ≤ 5) ∧ d = (Da.lst ((plF base many.toNat letters).map Da.int))
abbrev s_law_places : Stmt := topS 21
theorem sc_law_places : FnScope ["_law_letters", "_law_many", "_law_base", "_law_places_here", "_law_k", "_law_letter", "_law_power", "_law_turn"] ["_law_letters", "_law_many", "_law_base"] (defScope s_law_places) := ⟨rfl, rfl, rfl, by decide +kernel, rfl, by decide +kernel, by decide +kernel⟩
theorem ok_law_places (Z : Zb mg) {f : Addr} {fd : FuncData} (F : Fun K "_law_places" "_law_places" s_law_places f fd) : FnOk P w K mg base CX0 1 f fd ["_law_letters", "_law_many", "_law_base"] (spF K G_law_places) := by
  refine fnok_of (k := 0) F sc_law_places (fun ds d h => ?_) (fun cdv A outer s H E hr => ?_)
  · obtain ⟨_, _, _, h, _⟩ := h; rw [h]; rfl
  · have hu := hu_of hr
    have hv := hv_of hr
    have hu0 := hr.units0
    refine ⟨_, (pss_cons (ps_setLc (i := 3) (own := [("_law_k", 4)]) (g := gName 4) rfl sc_law_places.nd rfl rfl (sw_true rfl rfl rfl (by decide +kernel)) (pi_range1 (by rfl) Z.range (pa_cons (pv 1) pa_nil)) (blkOk_by (own := [("_law_k", 4)]) (N := ["_law_letters", "_law_many", "_law_base", "_law_places_here", "_law_k", "_law_letter", "_law_power", "_law_turn"]) (sc := defScope s_law_places) (by decide +kernel)) (fun _ _ _ _ _ => pg_name (i := 4) sc_law_places.nd rfl (Or.inl rfl)) (fun _ _ _ _ _ => pts_nil) (fun _ _ _ _ _ => pe_int))
      (pss_cons (ps_for PassesOwn.never rfl (show PI _ _ _ (iList K _) from pi_list (pv 0)) (pg_name (i := 5) sc_law_places.nd rfl (Or.inl rfl))
        (pss_one (ps_for PassesOwn.never rfl (pi_range1 (by rfl) Z.range (pa_cons (pv 1) pa_nil)) (pg_name (i := 4) sc_law_places.nd rfl (Or.inl rfl))
        (pss_cons (ps_set (i := 6) sc_law_places.nd rfl (Or.inl rfl) pe_int)
      (pss_cons (ps_for PassesOwn.never rfl (pi_range1 (by rfl) Z.range (pa_cons (pe_op op_sub (pe_op op_sub (pv 1) pe_int) (pv 4)) pa_nil)) (pg_name (i := 7) sc_law_places.nd rfl (Or.inl rfl))
        (pss_one (ps_set (i := 6) sc_law_places.nd rfl (Or.inl rfl) (pe_op op_mulK (pv 6) (pv 2)))))
      (pss_one (ps_asg (pe_op op_add (pe_op op_mulK (pe_ix (r := rIx K) ix_seq (pv 3) (pv 4) (fun _ _ => rfl)) (pv 2)) (pe_op op_mod (pe_op op_fdiv (pv 5) (pv 6)) (pv 2))) (pg_sub (pv 3) (pv 4) set_list))))))))
      (pss_one (ps_ret (pv 3))))), ?_⟩
    rintro ds d ⟨letters, many, base, rfl, hp0, hp1, hp2, hp3, rfl⟩
    show J K H _ [sh (Da.lst (letters.map Da.int)), sh (Da.int many), sh (Da.int base), no, no, no, no, no] _
    refine j_seq (j_asg (d := (Da.lst (((List.range (many : Int).toNat).map fun (k : Nat) => 0).map Da.int))) ((EvF.is (d1 := (Da.lst (((List.range (many : Int).toNat).map fun (k : Nat) => 0).map Da.int))) (ef_lcR (n := many) (g := fun (k : Nat) => (Da.int 0)) (ea_cons (ev_var (k := 1) rfl) ea_nil) (by decide) (by first | omega | (simp only [List.length_map, List.length_range, List.length_append, List.length_cons, List.length_nil, List.length_replicate, List.length_set, List.length_take, List.length_drop, List.length_reverse] ; omega) | decide) (fun k h_k => (EvB.f (ev_int) rfl)) (by first | omega | (simp only [List.length_map, List.length_range, List.length_append, List.length_cons, List.length_nil, List.length_replicate, List.length_set, List.length_take, List.length_drop, List.length_reverse] ; omega) | decide)) (by first | (simp only [List.map_map, Function.comp_def]; done) | (simp only [List.map_map, Function.comp_def, eV, eL, eP, eP3]; done) | rfl))).m (Nat.le_of_ble_eq_true rfl) ?_)
    rw [show (List.range (many : Int).toNat).map (fun (k : Nat) => (0 : Int)) = plF base many.toNat [] from rfl]
    show J K H _ [sh (Da.lst (letters.map Da.int)), sh (Da.int many), sh (Da.int base), ow (Da.lst ((plF base many.toNat []).map Da.int)), no, no, no, no] _
    refine j_seq (j_for [4, 6, 7] (k := 5) letters Da.int (ev_shv (k := 0) rfl) (fun i ρ => ρ = [sh (Da.lst (letters.map Da.int)), sh (Da.int many), sh (Da.int base), ow (Da.lst ((plF base many.toNat (letters.take i)).map Da.int)), no, no, no, no]) ?_ ?_ ?_ ?_)
    · rfl
    · rintro i ρ rfl; exact Nat.le_of_ble_eq_true rfl
    · rintro i x ρ hx rfl
      show J K H _ [sh (Da.lst (letters.map Da.int)), sh (Da.int many), sh (Da.int base), ow (Da.lst ((plF base many.toNat (letters.take i)).map Da.int)), no, sh (Da.int x), no, no] _
      refine j_range1 [6, 7] (k := 4) (n := many) (ea_cons (ev_var (k := 1) rfl) ea_nil) (by first | omega | (simp only [List.length_map, List.length_range, List.length_append, List.length_cons, List.length_nil, List.length_replicate, List.length_set, List.length_take, List.length_drop, List.length_reverse] ; omega) | decide) (fun i1 ρ => ρ = [sh (Da.lst (letters.map Da.int)), sh (Da.int many), sh (Da.int base), ow (Da.lst ((plI base many.toNat (letters.take i) x i1).map Da.int)), no, sh (Da.int x), no, no]) ?_ ?_ ?_ ?_ (by first | omega | (simp only [List.length_map, List.length_range, List.length_append, List.length_cons, List.length_nil, List.length_replicate, List.length_set, List.length_take, List.length_drop, List.length_reverse] ; omega) | decide)
      · rw [plI_zero]; rfl
      · rintro i1 ρ rfl; exact Nat.le_of_ble_eq_true rfl
      · rintro i1 ρ hi1 rfl
        have hpl := plI_len base many.toNat (letters.take i) x i1
        have hpw := pow_small hp2 hp3 (n := (many - 1 - (i1 : Int)).toNat) (by omega)
        show J K H _ [sh (Da.lst (letters.map Da.int)), sh (Da.int many), sh (Da.int base), ow (Da.lst ((plI base many.toNat (letters.take i) x i1).map Da.int)), ow (Da.int (i1 : Nat)), sh (Da.int x), no, no] _
        refine j_seq (j_asg (d := (Da.int 1)) (EvF.m ((EvB.f (ev_int) rfl))) (Nat.le_of_ble_eq_true rfl) ?_)
        show J K H _ [sh (Da.lst (letters.map Da.int)), sh (Da.int many), sh (Da.int base), ow (Da.lst ((plI base many.toNat (letters.take i) x i1).map Da.int)), ow (Da.int (i1 : Nat)), sh (Da.int x), ow (Da.int 1), no] _
        refine j_seq (j_range1 [] (k := 7) (n := ((many - 1) - (i1 : Int))) (ea_cons (ev_sub (ev_sub (ev_var (k := 1) rfl) ev_int) (ev_var (k := 4) rfl)) ea_nil) (by first | omega | (simp only [List.length_map, List.length_range, List.length_append, List.length_cons, List.length_nil, List.length_replicate, List.length_set, List.length_take, List.length_drop, List.length_reverse] ; omega) | decide) (fun i2 ρ => ρ = [sh (Da.lst (letters.map Da.int)), sh (Da.int many), sh (Da.int base), ow (Da.lst ((plI base many.toNat (letters.take i) x i1).map Da.int)), ow (Da.int (i1 : Nat)), sh (Da.int x), ow (Da.int (base ^ i2)), no]) ?_ ?_ ?_ ?_ (by first | omega | (simp only [List.length_map, List.length_range, List.length_append, List.length_cons, List.length_nil, List.length_replicate, List.length_set, List.length_take, List.length_drop, List.length_reverse] ; omega) | decide))
        · rw [Int.pow_zero]; rfl
        · rintro i2 ρ rfl; exact Nat.le_of_ble_eq_true rfl
        · rintro i2 ρ hi2 rfl
          show J K H _ [sh (Da.lst (letters.map Da.int)), sh (Da.int many), sh (Da.int base), ow (Da.lst ((plI base many.toNat (letters.take i) x i1).map Da.int)), ow (Da.int (i1 : Nat)), sh (Da.int x), ow (Da.int (base ^ i2)), ow (Da.int (i2 : Nat))] _
          refine j_asg (d := (Da.int ((base ^ i2) * base))) (EvF.m ((EvB.f ((ev_mulK (ev_var (k := 6) rfl) (ev_var (k := 2) rfl) (CMul.ok (Or.inr ⟨by omega, by omega⟩)))) rfl))) (Nat.le_of_ble_eq_true rfl) ?_
          show [_, _, _, _, _, _, ow (Da.int _), no] = [_, _, _, _, _, _, ow (Da.int _), no]
          rw [Int.pow_succ]
        rintro ρ rfl
        show J K H _ [sh (Da.lst (letters.map Da.int)), sh (Da.int many), sh (Da.int base), ow (Da.lst ((plI base many.toNat (letters.take i) x i1).map Da.int)), ow (Da.int (i1 : Nat)), sh (Da.int x), ow (Da.int (base ^ (((many - 1) - (i1 : Int)) : Int).toNat)), no] _
        refine j_setL (k := 3) (n := i1) (ev_add (ev_mulK (ev_ixL (ds := (plI base many.toNat (letters.take i) x i1).map Da.int) (i := (i1 : Int)) (d := (Da.int ((plI base many.toNat (letters.take i) x i1).getD i1 0))) (ev_var (k := 3) rfl) (ev_var (k := 4) rfl) (at_mapN 0 (by first | omega | (simp only [List.length_map, List.length_range, List.length_append, List.length_cons, List.length_nil, List.length_replicate, List.length_set, List.length_take, List.length_drop, List.length_reverse] ; omega) | decide))) (ev_var (k := 2) rfl) (CMul.ok (Or.inr ⟨by omega, by omega⟩))) (ev_mod (ev_div (ev_var (k := 5) rfl) (ev_var (k := 6) rfl) ⟨(by first | omega | (simp only [List.length_map, List.length_range, List.length_append, List.length_cons, List.length_nil, List.length_replicate, List.length_set, List.length_take, List.length_drop, List.length_reverse] ; omega) | decide), (by first | omega | (simp only [List.length_map, List.length_range, List.length_append, List.length_cons, List.length_nil, List.length_replicate, List.length_set, List.length_take, List.length_drop, List.length_reverse] ; omega) | decide)⟩) (ev_var (k := 2) rfl) (by first | omega | (simp only [List.length_map, List.length_range, List.length_append, List.length_cons, List.length_nil, List.length_replicate, List.length_set, List.length_take, List.length_drop, List.length_reverse] ; omega) | decide))) rfl (imms_map _ (fun _ => rfl) _) rfl (ev_var (k := 4) rfl) (by first | rfl | omega | (simp only [List.length_map, List.length_range, List.length_append, List.length_cons, List.length_nil, List.length_replicate, List.length_set, List.length_take, List.length_drop, List.length_reverse] ; omega) | decide) (by first | omega | (simp only [List.length_map, List.length_range, List.length_append, List.length_cons, List.length_nil, List.length_replicate, List.length_set, List.length_take, List.length_drop, List.length_reverse] ; omega) | decide) ?_
        rw [← List.map_set]
        show [_, _, _, ow (Da.lst _), no, _, no, no] = [_, _, _, ow (Da.lst _), no, _, no, no]
        rw [← plI_succ (by omega)]
        rw [show figAt base many.toNat i1 x = x / base ^ (many - 1 - (i1 : Int)).toNat % base from by unfold figAt; rw [show (many - 1 - (i1 : Int)).toNat = many.toNat - 1 - i1 by omega]]
      rintro ρ rfl
      show [_, _, _, ow (Da.lst _), no, no, no, no] = [_, _, _, ow (Da.lst _), no, no, no, no]
      rw [take_next hx, ← plI_all]
    rintro ρ rfl
    rw [List.take_length]
    show J K H _ [sh (Da.lst (letters.map Da.int)), sh (Da.int many), sh (Da.int base), ow (Da.lst ((plF base many.toNat letters).map Da.int)), no, no, no, no] _
    refine j_ret (d := (Da.lst ((plF base many.toNat letters).map Da.int))) (ev_move (k := 3) rfl) ?_
    rfl
theorem kn_law_places (Z : Zb mg) (S : Stands K mg "_law_places" s_law_places) : Known P w K mg base "_law_places" 1 (spF K G_law_places) 3 [] :=
  known_of (ps := ["_law_letters", "_law_many", "_law_base"]) S (fun _ _ _ _ _ _ us hl => match us, hl with | [_, _, _], _ => rfl) fun f fd F => ok_law_places Z F
def G_law : List Da → Da → Prop := fun ds d => ∃ (script : List Int), ds = [(Da.scr script)] ∧ (script.length ≤ 63) ∧ d = (Da.bl true)
abbrev s_law : Stmt := topS 22
theorem sc_law : FnScope ["_law_script", "_law_base", "_law_many", "_law_names", "_law_letters", "_law_name", "_law_rooms", "_law_drawn_here", "_law_room", "_law_relation", "_law_due", "_law_found", "_law_place"] ["_law_script"] (defScope s_law) := ⟨rfl, rfl, rfl, by decide +kernel, rfl, by decide +kernel, by decide +kernel⟩
theorem ok_law (Z : Zb mg) (g_law_cell : Known P w K mg base "_law_cell" 1 (spF K G_law_cell) 2 []) (g_law_drawn : Known P w K mg base "_law_drawn" 2 (spF K G_law_drawn) 5 []) (g_least : Known P w K mg base "least" 3 (spF K G_least) 1 []) (g_law_first : Known P w K mg base "_law_first" 1 (spF K G_law_first) 1 []) (g_first_of : Known P w K mg base "first_of" 4 (spF K G_first_of) 1 []) (g_law_places : Known P w K mg base "_law_places" 1 (spF K G_law_places) 3 []) (g_law_whole : Known P w K mg base "_law_whole" 1 (spF K G_law_whole) 1 []) {f : Addr} {fd : FuncData} (F : Fun K "law" "law" s_law f fd) : FnOk P w K mg base CX0 5 f fd ["_law_script"] (spF K G_law) := by
  refine fnok_of (k := 4) F sc_law (fun ds d h => ?_) (fun cdv A outer s H E hr => ?_)
  · obtain ⟨_, h, _⟩ := h; rw [h]; rfl
  · have hu := hu_of hr
    have hv := hv_of hr
    have hu0 := hr.units0
    refine ⟨_, (pss_cons (ps_set (i := 1) sc_law.nd rfl (Or.inl rfl) (pe_op op_add pe_int (pe_op op_mod (pe_known g_law_cell (hr.mono (by decide)) (pa_cons (pv 0) (pa_cons pe_int pa_nil))) pe_int)))
      (pss_cons (ps_set (i := 2) sc_law.nd rfl (Or.inl rfl) (pe_callB (call_min2 rfl) (by rfl) Z.min (by decide +kernel) (pa_cons (pe_op op_mod (pe_op op_fdiv (pe_known g_law_cell (hr.mono (by decide)) (pa_cons (pv 0) (pa_cons pe_int pa_nil))) pe_int) pe_int) (pa_cons (pe_ix (r := rIx K) ix_seq (pe_lst (pa_cons pe_int (pa_cons pe_int (pa_cons pe_int (pa_cons pe_int pa_nil))))) (pe_op op_sub (pv 1) pe_int) (fun _ _ => rfl)) pa_nil))))
      (pss_cons (ps_set (i := 3) sc_law.nd rfl (Or.inl rfl) (pe_slice (r := rSlA K) sl_tupA (pe_tup (pa_cons pe_str (pa_cons pe_str (pa_cons pe_str (pa_cons pe_str pa_nil))))) po_none (po_some (pv 2))))
      (pss_cons (ps_set (i := 4) sc_law.nd rfl (Or.inl rfl) pe_int)
      (pss_cons (ps_for PassesOwn.never rfl (show PI _ _ _ (iTup K _) from pi_tup (pv 3)) (pg_name (i := 5) sc_law.nd rfl (Or.inl rfl))
        (pss_one (ps_set (i := 4) sc_law.nd rfl (Or.inl rfl) (pe_op op_mulK (pv 4) (pv 1)))))
      (pss_cons (ps_set (i := 6) sc_law.nd rfl (Or.inr rfl) (pe_op op_add pe_int (pe_op op_mod (pe_known g_law_cell (hr.mono (by decide)) (pa_cons (pv 0) (pa_cons pe_int pa_nil))) pe_int)))
      (pss_cons (ps_set (i := 7) sc_law.nd rfl (Or.inl rfl) (pe_known g_law_drawn (hr.mono (by decide)) (pa_cons (pv 0) (pa_cons pe_int (pa_cons (pv 6) (pa_cons (pv 4) (pa_cons pe_int pa_nil)))))))
      (pss_cons (ps_if (pt_cmpR op_eq (pe_op op_mod (pe_known g_law_cell (hr.mono (by decide)) (pa_cons (pv 0) (pa_cons pe_int pa_nil))) pe_int) pe_int (nomark _)) (pss_one (ps_set (i := 7) sc_law.nd rfl (Or.inl rfl) (pe_tup (pa_cons (pe_ix (r := rIx K) ix_seq (pv 7) pe_int (fun _ _ => rfl)) (pa_cons (pe_callTy (T := "tuple") (r := rTupOf K) call_tuple_of (by rfl) Z.tuple (by decide +kernel) (pa_cons (pe_lc (own := [("_law_room", 8)]) (g := gName 8) rfl sc_law.nd (pi_range1 (by rfl) Z.range (pa_cons (pv 6) pa_nil)) (blkOk_by (own := [("_law_room", 8)]) (N := ["_law_script", "_law_base", "_law_many", "_law_names", "_law_letters", "_law_name", "_law_rooms", "_law_drawn_here", "_law_room", "_law_relation", "_law_due", "_law_found", "_law_place"]) (sc := defScope s_law) (by decide +kernel)) (fun _ _ _ _ _ => pg_name (i := 8) sc_law.nd rfl (Or.inl rfl)) (fun _ _ _ _ _ => pts_nil) (fun _ _ _ _ _ => (pe_callTy (T := "int") call_int1 (by rfl) Z.int (by decide +kernel) (pa_cons (pe_cmpR op_eq (pv 8) (pe_op op_mod (pe_op op_fdiv (pe_known g_law_cell (hr.mono (by decide)) (pa_cons (pv 0) (pa_cons pe_int pa_nil))) pe_int) (pv 6)) (nomark _)) pa_nil)))) pa_nil)) pa_nil))))) pss_nil)
      (pss_cons (ps_set (i := 9) sc_law.nd rfl (Or.inl rfl) (pe_tup (pa_cons (pv 1) (pa_cons (pv 3) (pa_cons (pe_known g_least (hr.mono (by decide)) (pa_cons (pv 7) pa_nil)) pa_nil)))))
      (pss_cons (ps_set (i := 10) sc_law.nd rfl (Or.inl rfl) (pe_known g_law_first (hr.mono (by decide)) (pa_cons (pv 7) pa_nil)))
      (pss_cons (ps_set (i := 11) sc_law.nd rfl (Or.inl rfl) (pe_known g_first_of (hr.mono (by decide)) (pa_cons (pv 9) pa_nil)))
      (pss_cons (ps_if (pt_cmpR op_isN (pv 10) pe_non (nomark _)) (pss_one (ps_ret (pe_and (pe_cmpR op_isN (pv 11) pe_non (nomark _)) (pe_one (pe_cmpR op_isN (pe_known g_first_of (hr.mono (by decide)) (pa_cons (pv 9) pa_nil)) pe_non (nomark _)))))) pss_nil)
      (pss_cons (ps_set (i := 10) sc_law.nd rfl (Or.inl rfl) (pe_known g_law_places (hr.mono (by decide)) (pa_cons (pv 10) (pa_cons (pv 2) (pa_cons (pv 1) pa_nil)))))
      (pss_cons (ps_if (PW.pt (pw_or (pt_not (pt_val (pe_callB (r := rIsi K) call_isi (by rfl) Z.isinstance (by decide +kernel) (pa_cons (pv 11) (pa_cons (pe_bltn (v := .ty "list") (u := .type "list") (by rfl) Z.list (by decide +kernel) rfl) pa_nil))))) (pw_or (pt_cmpR (r := rNeD K) (op_neD hr.units) (pv 11) (pv 10) (nomark _)) (pw_or1 (pt_not (pt_val (pe_callB (r := rAll K) (cr_all rfl) (by rfl) Z.all (by decide +kernel) (pa_cons (pe_lc (own := [("_law_place", 12)]) (g := gName 12) rfl sc_law.nd (show PI _ _ _ (iList K _) from pi_list (pv 11)) (blkOk_by (own := [("_law_place", 12)]) (N := ["_law_script", "_law_base", "_law_many", "_law_names", "_law_letters", "_law_name", "_law_rooms", "_law_drawn_here", "_law_room", "_law_relation", "_law_due", "_law_found", "_law_place"]) (sc := defScope s_law) (by decide +kernel)) (fun _ _ _ _ _ => pg_name (i := 12) sc_law.nd rfl (Or.inl rfl)) (fun _ _ _ _ _ => pts_nil) (fun _ _ _ _ _ => (pe_known g_law_whole (hr.mono (by decide)) (pa_cons (pv 12) pa_nil)))) pa_nil)))))))) (pss_one (ps_ret pe_bl)) pss_nil)
      (pss_cons (ps_expr (pe_bm PySem.F.plainAttrs_list PySem.F.slot_list_append PySem.F.type_list_append mt_append (pv 11) (pa_cons pe_int pa_nil)))
      (pss_one (ps_ret (pe_cmpR (r := rEqD K) (op_eqD hr.units) (pe_known g_first_of (hr.mono (by decide)) (pa_cons (pv 9) pa_nil)) (pv 10) (nomark _))))))))))))))))))), ?_⟩
    rintro ds d ⟨script, rfl, hp0, rfl⟩
    show J K H _ [sh (Da.scr script), no, no, no, no, no, no, no, no, no, no, no, no] _
    refine j_seq (j_asg (d := (Da.int (2 + (cellW script (0 : Int) % 4)))) (EvF.m ((EvB.f ((ev_add ev_int (ev_mod (EvF.g ((ev_call (ds := [(Da.scr script), (Da.int 0)]) (d := (Da.int (cellW script (0 : Int)))) (ea_cons (ev_var (k := 0) rfl) (ea_cons ev_int ea_nil)) ⟨script, (0 : Int), rfl, (by first | omega | (simp only [List.length_map, List.length_range, List.length_append, List.length_cons, List.length_nil, List.length_replicate, List.length_set, List.length_take, List.length_drop, List.length_reverse] ; omega) | decide | assumption), (by first | omega | (simp only [List.length_map, List.length_range, List.length_append, List.length_cons, List.length_nil, List.length_replicate, List.length_set, List.length_take, List.length_drop, List.length_reverse] ; omega) | decide | assumption), rfl⟩))) ev_int (by first | omega | (simp only [List.length_map, List.length_range, List.length_append, List.length_cons, List.length_nil, List.length_replicate, List.length_set, List.length_take, List.length_drop, List.length_reverse] ; omega) | decide)))) rfl))) (Nat.le_of_ble_eq_true rfl) ?_)
    show J K H _ [sh (Da.scr script), ow (Da.int (2 + (cellW script (0 : Int) % 4))), no, no, no, no, no, no, no, no, no, no, no] _
    generalize h_base : ((2 + (cellW script (0 : Int) % 4)) : Int) = base
    have b0 : 0 ≤ cellW script 0 := cellW_lo _ _
    have hbb : 2 ≤ base ∧ base ≤ 5 := by omega
    have hb1 := hbb.1
    have hb2 := hbb.2
    refine j_seq (j_asg (d := (Da.int (min ((cellW script (0 : Int) / 4) % 5) ([4, 3, 3, 2].getD ((base - 2) : Int).toNat 0)))) (EvF.m ((EvB.f ((ev_min2 (ev_mod (ev_div (EvF.g ((ev_call (ds := [(Da.scr script), (Da.int 0)]) (d := (Da.int (cellW script (0 : Int)))) (ea_cons (ev_var (k := 0) rfl) (ea_cons ev_int ea_nil)) ⟨script, (0 : Int), rfl, (by first | omega | (simp only [List.length_map, List.length_range, List.length_append, List.length_cons, List.length_nil, List.length_replicate, List.length_set, List.length_take, List.length_drop, List.length_reverse] ; omega) | decide | assumption), (by first | omega | (simp only [List.length_map, List.length_range, List.length_append, List.length_cons, List.length_nil, List.length_replicate, List.length_set, List.length_take, List.length_drop, List.length_reverse] ; omega) | decide | assumption), rfl⟩))) ev_int ⟨(by first | omega | (simp only [List.length_map, List.length_range, List.length_append, List.length_cons, List.length_nil, List.length_replicate, List.length_set, List.length_take, List.length_drop, List.length_reverse] ; omega) | decide), (by first | omega | (simp only [List.length_map, List.length_range, List.length_append, List.length_cons, List.length_nil, List.length_replicate, List.length_set, List.length_take, List.length_drop, List.length_reverse] ; omega) | decide)⟩) ev_int (by first | omega | (simp only [List.length_map, List.length_range, List.length_append, List.length_cons, List.length_nil, List.length_replicate, List.length_set, List.length_take, List.length_drop, List.length_reverse] ; omega) | decide)) (ev_ixL (ds := [4, 3, 3, 2].map Da.int) (i := (base - 2)) (d := (Da.int ([4, 3, 3, 2].getD ((base - 2) : Int).toNat 0))) (EvF.g ((ef_lst (ds := [(Da.int 4), (Da.int 3), (Da.int 3), (Da.int 2)]) (eaf_cons (EvB.f (ev_int) rfl) (eaf_cons (EvB.f (ev_int) rfl) (eaf_cons (EvB.f (ev_int) rfl) (eaf_cons (EvB.f (ev_int) rfl) eaf_nil)))) (Nat.le_of_ble_eq_true rfl)))) (ev_sub (ev_var (k := 1) rfl) ev_int) (at_map 0 (by first | omega | (simp only [List.length_map, List.length_range, List.length_append, List.length_cons, List.length_nil, List.length_replicate, List.length_set, List.length_take, List.length_drop, List.length_reverse] ; omega) | decide) (by first | omega | (simp only [List.length_map, List.length_range, List.length_append, List.length_cons, List.length_nil, List.length_replicate, List.length_set, List.length_take, List.length_drop, List.length_reverse] ; omega) | decide))))) rfl))) (Nat.le_of_ble_eq_true rfl) ?_)
    show J K H _ [sh (Da.scr script), ow (Da.int base), ow (Da.int (min ((cellW script (0 : Int) / 4) % 5) ([4, 3, 3, 2].getD ((base - 2) : Int).toNat 0))), no, no, no, no, no, no, no, no, no, no] _
    generalize h_many : ((min ((cellW script (0 : Int) / 4) % 5) ([4, 3, 3, 2].getD ((base - 2) : Int).toNat 0)) : Int) = many
    have hmm : 0 ≤ many ∧ many ≤ 4 ∧ base ^ many.toNat ≤ 64 ∧ 0 < base ^ many.toNat := by
      have q0 := Int.emod_nonneg (cellW script 0 / 4) (show (5 : Int) ≠ 0 by decide)
      have hbq : base = 2 ∨ base = 3 ∨ base = 4 ∨ base = 5 := by omega
      rcases hbq with rfl | rfl | rfl | rfl
      · have hmq : many = 0 ∨ many = 1 ∨ many = 2 ∨ many = 3 ∨ many = 4 := by
          have : (([4, 3, 3, 2] : List Int).getD ((2 : Int) - 2).toNat 0) = 4 := rfl
          omega
        rcases hmq with rfl | rfl | rfl | rfl | rfl <;> decide
      · have hmq : many = 0 ∨ many = 1 ∨ many = 2 ∨ many = 3 := by
          have : (([4, 3, 3, 2] : List Int).getD ((3 : Int) - 2).toNat 0) = 3 := rfl
          omega
        rcases hmq with rfl | rfl | rfl | rfl <;> decide
      · have hmq : many = 0 ∨ many = 1 ∨ many = 2 ∨ many = 3 := by
          have : (([4, 3, 3, 2] : List Int).getD ((4 : Int) - 2).toNat 0) = 3 := rfl
          omega
        rcases hmq with rfl | rfl | rfl | rfl <;> decide
      · have hmq : many = 0 ∨ many = 1 ∨ many = 2 := by
          have : (([4, 3, 3, 2] : List Int).getD ((5 : Int) - 2).toNat 0) = 2 := rfl
          omega
        rcases hmq with rfl | rfl | rfl <;> decide
    have hm0 := hmm.1
    have hm1 := hmm.2.1
    refine j_seq (j_asg (d := (Da.tup ((cut [(Str.ofString "a"), (Str.ofString "m"), (Str.ofString "n"), (Str.ofString "z")] none (some many)).map Da.str))) (EvF.m ((EvB.f ((EvB.is (d1 := Da.tup ((cut [(Str.ofString "a"), (Str.ofString "m"), (Str.ofString "n"), (Str.ofString "z")] none (some many)).map Da.str)) (ev_slA (ds := [(Str.ofString "a"), (Str.ofString "m"), (Str.ofString "n"), (Str.ofString "z")].map Da.str) (lo := none) (hi := (some many)) (EvF.g ((ef_tup (ds := [(Da.str (Str.ofString "a")), (Da.str (Str.ofString "m")), (Da.str (Str.ofString "n")), (Da.str (Str.ofString "z"))]) (eaf_cons (EvB.f (ev_str) rfl) (eaf_cons (EvB.f (ev_str) rfl) (eaf_cons (EvB.f (ev_str) rfl) (eaf_cons (EvB.f (ev_str) rfl) eaf_nil)))) (Nat.le_of_ble_eq_true rfl)))) eo_none (eo_some (ev_var (k := 2) rfl))) (by rw [cut_map]))) (imm_V (fun _ => rfl) _)))) (Nat.le_of_ble_eq_true rfl) ?_)
    show J K H _ [sh (Da.scr script), ow (Da.int base), ow (Da.int many), ow (Da.tup ((cut [(Str.ofString "a"), (Str.ofString "m"), (Str.ofString "n"), (Str.ofString "z")] none (some many)).map Da.str)), no, no, no, no, no, no, no, no, no] _
    generalize h_names : ((cut [(Str.ofString "a"), (Str.ofString "m"), (Str.ofString "n"), (Str.ofString "z")] none (some many)) : List (Str)) = names
    have hnl : names.length = many.toNat := by
      rw [← h_names]
      have hmq : many = 0 ∨ many = 1 ∨ many = 2 ∨ many = 3 ∨ many = 4 := by omega
      rcases hmq with rfl | rfl | rfl | rfl | rfl <;> rfl
    obtain ⟨lets0, hLL⟩ : ∃ x : Int, x = base ^ many.toNat := ⟨_, rfl⟩
    refine j_seq (j_asg (d := (Da.int 1)) (EvF.m ((EvB.f (ev_int) rfl))) (Nat.le_of_ble_eq_true rfl) ?_)
    show J K H _ [sh (Da.scr script), ow (Da.int base), ow (Da.int many), ow (Da.tup (names.map Da.str)), ow (Da.int 1), no, no, no, no, no, no, no, no] _
    refine j_seq (j_forT [] (k := 5) names Da.str (((ev_var (k := 3) rfl)).s (imm_V (fun _ => rfl) _)) (fun i ρ => ρ = [sh (Da.scr script), ow (Da.int base), ow (Da.int many), ow (Da.tup (names.map Da.str)), ow (Da.int (base ^ i)), no, no, no, no, no, no, no, no]) ?_ ?_ ?_ ?_)
    · rw [Int.pow_zero]; rfl
    · rintro i ρ rfl; exact Nat.le_of_ble_eq_true rfl
    · rintro i x ρ hx rfl
      show J K H _ [sh (Da.scr script), ow (Da.int base), ow (Da.int many), ow (Da.tup (names.map Da.str)), ow (Da.int (base ^ i)), sh (Da.str x), no, no, no, no, no, no, no] _
      refine j_asg (d := (Da.int ((base ^ i) * base))) (EvF.m ((EvB.f ((ev_mulK (ev_var (k := 4) rfl) (ev_var (k := 1) rfl) (CMul.ok (Or.inr ⟨by omega, by omega⟩)))) rfl))) (Nat.le_of_ble_eq_true rfl) ?_
      show [_, _, _, _, ow (Da.int _), no, no, no, no, no, no, no, no] = [_, _, _, _, ow (Da.int _), no, no, no, no, no, no, no, no]
      rw [Int.pow_succ]
    rintro ρ rfl
    rw [hnl, ← hLL]
    show J K H _ [sh (Da.scr script), ow (Da.int base), ow (Da.int many), ow (Da.tup (names.map Da.str)), ow (Da.int lets0), no, no, no, no, no, no, no, no] _
    refine j_seq (j_asg (d := (Da.int (1 + (cellW script (1 : Int) % 9)))) (EvF.m ((EvB.f ((ev_add ev_int (ev_mod (EvF.g ((ev_call (ds := [(Da.scr script), (Da.int 1)]) (d := (Da.int (cellW script (1 : Int)))) (ea_cons (ev_var (k := 0) rfl) (ea_cons ev_int ea_nil)) ⟨script, (1 : Int), rfl, (by first | omega | (simp only [List.length_map, List.length_range, List.length_append, List.length_cons, List.length_nil, List.length_replicate, List.length_set, List.length_take, List.length_drop, List.length_reverse] ; omega) | decide | assumption), (by first | omega | (simp only [List.length_map, List.length_range, List.length_append, List.length_cons, List.length_nil, List.length_replicate, List.length_set, List.length_take, List.length_drop, List.length_reverse] ; omega) | decide | assumption), rfl⟩))) ev_int (by first | omega | (simp only [List.length_map, List.length_range, List.length_append, List.length_cons, List.length_nil, List.length_replicate, List.length_set, List.length_take, List.length_drop, List.length_reverse] ; omega) | decide)))) rfl))) (Nat.le_of_ble_eq_true rfl) ?_)
    show J K H _ [sh (Da.scr script), ow (Da.int base), ow (Da.int many), ow (Da.tup (names.map Da.str)), ow (Da.int lets0), no, ow (Da.int (1 + (cellW script (1 : Int) % 9))), no, no, no, no, no, no] _
    generalize h_rooms : ((1 + (cellW script (1 : Int) % 9)) : Int) = rooms
    have hr0 : 1 ≤ rooms ∧ rooms ≤ 9 := by
      have := cellW_lo script 1
      omega
    have hlt := hmm.2.2.1
    have hlp := hmm.2.2.2
    rw [← hLL] at hlt hlp
    refine j_seq (j_asg (d := (Da.tup [(Da.tup (((dwMach script (3 : Int) rooms lets0 (1 : Int)).1).map (eV Da.int))), (Da.tup (((dwMach script (3 : Int) rooms lets0 (1 : Int)).2).map Da.int))])) ((ev_call (ds := [(Da.scr script), (Da.int 3), (Da.int rooms), (Da.int lets0), (Da.int 1)]) (d := (Da.tup [(Da.tup (((dwMach script (3 : Int) rooms lets0 (1 : Int)).1).map (eV Da.int))), (Da.tup (((dwMach script (3 : Int) rooms lets0 (1 : Int)).2).map Da.int))])) (ea_cons (ev_var (k := 0) rfl) (ea_cons ev_int (ea_cons (ev_var (k := 6) rfl) (ea_cons (ev_var (k := 4) rfl) (ea_cons ev_int ea_nil))))) ⟨script, (3 : Int), rooms, lets0, (1 : Int), rfl, (by first | omega | (simp only [List.length_map, List.length_range, List.length_append, List.length_cons, List.length_nil, List.length_replicate, List.length_set, List.length_take, List.length_drop, List.length_reverse] ; omega) | decide | assumption), (by first | omega | (simp only [List.length_map, List.length_range, List.length_append, List.length_cons, List.length_nil, List.length_replicate, List.length_set, List.length_take, List.length_drop, List.length_reverse] ; omega) | decide | assumption), (by first | omega | (simp only [List.length_map, List.length_range, List.length_append, List.length_cons, List.length_nil, List.length_replicate, List.length_set, List.length_take, List.length_drop, List.length_reverse] ; omega) | decide | assumption), (by first | omega | (simp only [List.length_map, List.length_range, List.length_append, List.length_cons, List.length_nil, List.length_replicate, List.length_set, List.length_take, List.length_drop, List.length_reverse] ; omega) | decide | assumption), (by first | omega | (simp only [List.length_map, List.length_range, List.length_append, List.length_cons, List.length_nil, List.length_replicate, List.length_set, List.length_take, List.length_drop, List.length_reverse] ; omega) | decide | assumption), (by first | omega | (simp only [List.length_map, List.length_range, List.length_append, List.length_cons, List.length_nil, List.length_replicate, List.length_set, List.length_take, List.length_drop, List.length_reverse] ; omega) | decide | assumption), (by first | omega | (simp only [List.length_map, List.length_range, List.length_append, List.length_cons, List.length_nil, List.length_replicate, List.length_set, List.length_take, List.length_drop, List.length_reverse] ; omega) | decide | assumption), rfl⟩)).m (Nat.le_of_ble_eq_true rfl) ?_)
    show J K H _ [sh (Da.scr script), ow (Da.int base), ow (Da.int many), ow (Da.tup (names.map Da.str)), ow (Da.int lets0), no, ow (Da.int rooms), ow (Da.tup [(Da.tup (((dwMach script (3 : Int) rooms lets0 (1 : Int)).1).map (eV Da.int))), (Da.tup (((dwMach script (3 : Int) rooms lets0 (1 : Int)).2).map Da.int))]), no, no, no, no, no] _
    generalize h_m0 : (dwMach script (3 : Int) rooms lets0 (1 : Int) : (List (List (Int)) × List (Int))) = m0
    have hk0 : Okm m0 lets0 ∧ m0.1.length = rooms.toNat := by
      rw [← h_m0]
      exact ⟨dwMach_ok (by omega) hlp, dwMach_len⟩
    have c2 := cellW_lo script 2
    refine j_mid [8] (M := [sh (Da.scr script), ow (Da.int base), ow (Da.int many), ow (Da.tup (names.map Da.str)), ow (Da.int lets0), no, ow (Da.int rooms), ow (Da.tup [(Da.tup (((if cellW script 2 % 2 = 1 then (m0.1, (List.range rooms.toNat).map fun (room : Nat) => (if (decide ((room : Int) = cellW script 2 / 2 % rooms)) = true then (1 : Int) else 0)) else m0).1).map (eV Da.int))), (Da.tup (((if cellW script 2 % 2 = 1 then (m0.1, (List.range rooms.toNat).map fun (room : Nat) => (if (decide ((room : Int) = cellW script 2 / 2 % rooms)) = true then (1 : Int) else 0)) else m0).2).map Da.int))]), no, no, no, no, no]) (j_if (et_test (ev_eqI (ev_mod (EvF.g ((ev_call (ds := [(Da.scr script), (Da.int 2)]) (d := (Da.int (cellW script (2 : Int)))) (ea_cons (ev_var (k := 0) rfl) (ea_cons ev_int ea_nil)) ⟨script, (2 : Int), rfl, (by first | omega | (simp only [List.length_map, List.length_range, List.length_append, List.length_cons, List.length_nil, List.length_replicate, List.length_set, List.length_take, List.length_drop, List.length_reverse] ; omega) | decide | assumption), (by first | omega | (simp only [List.length_map, List.length_range, List.length_append, List.length_cons, List.length_nil, List.length_replicate, List.length_set, List.length_take, List.length_drop, List.length_reverse] ; omega) | decide | assumption), rfl⟩))) ev_int (by first | omega | (simp only [List.length_map, List.length_range, List.length_append, List.length_cons, List.length_nil, List.length_replicate, List.length_set, List.length_take, List.length_drop, List.length_reverse] ; omega) | decide)) ev_int)) (fun hc => ?_) (fun hc => ?_)) ?_
    · refine j_asg (d := (Da.tup [(Da.tup (m0.1.map (eV Da.int))), (Da.tup (((List.range (rooms : Int).toNat).map fun (room : Nat) => (if (decide ((room : Int) = ((cellW script (2 : Int) / 2) % rooms))) = true then 1 else 0)).map Da.int))])) ((ef_tup (ds := [(Da.tup (m0.1.map (eV Da.int))), (Da.tup (((List.range (rooms : Int).toNat).map fun (room : Nat) => (if (decide ((room : Int) = ((cellW script (2 : Int) / 2) % rooms))) = true then 1 else 0)).map Da.int))]) (eaf_cons (EvB.f ((ev_ixT (ds := [(Da.tup (m0.1.map (eV Da.int))), (Da.tup (m0.2.map Da.int))]) (i := 0) (d := (Da.tup (m0.1.map (eV Da.int)))) (ev_var (k := 7) rfl) ev_int rfl)) (imm_V (fun _ => (imm_V (fun _ => rfl) _)) _)) (eaf_cons (ef_tupL (EvF.g ((EvF.is (d1 := (Da.lst (((List.range (rooms : Int).toNat).map fun (room : Nat) => (if (decide ((room : Int) = ((cellW script (2 : Int) / 2) % rooms))) = true then 1 else 0)).map Da.int))) (ef_lcR (n := rooms) (g := fun (room : Nat) => (Da.int (if (decide ((room : Int) = ((cellW script (2 : Int) / 2) % rooms))) = true then 1 else 0))) (ea_cons (ev_var (k := 6) rfl) ea_nil) (by decide) (by first | omega | (simp only [List.length_map, List.length_range, List.length_append, List.length_cons, List.length_nil, List.length_replicate, List.length_set, List.length_take, List.length_drop, List.length_reverse] ; omega) | decide) (fun room h_room => (EvB.f ((ev_intB (ev_eqI (ev_var (k := 8) rfl) (ev_mod (ev_div (EvF.g ((ev_call (ds := [(Da.scr script), (Da.int 2)]) (d := (Da.int (cellW script (2 : Int)))) (ea_cons (ev_var (k := 0) rfl) (ea_cons ev_int ea_nil)) ⟨script, (2 : Int), rfl, (by first | omega | (simp only [List.length_map, List.length_range, List.length_append, List.length_cons, List.length_nil, List.length_replicate, List.length_set, List.length_take, List.length_drop, List.length_reverse] ; omega) | decide | assumption), (by first | omega | (simp only [List.length_map, List.length_range, List.length_append, List.length_cons, List.length_nil, List.length_replicate, List.length_set, List.length_take, List.length_drop, List.length_reverse] ; omega) | decide | assumption), rfl⟩))) ev_int ⟨(by first | omega | (simp only [List.length_map, List.length_range, List.length_append, List.length_cons, List.length_nil, List.length_replicate, List.length_set, List.length_take, List.length_drop, List.length_reverse] ; omega) | decide), (by first | omega | (simp only [List.length_map, List.length_range, List.length_append, List.length_cons, List.length_nil, List.length_replicate, List.length_set, List.length_take, List.length_drop, List.length_reverse] ; omega) | decide)⟩) (ev_var (k := 6) rfl) (by first | omega | (simp only [List.length_map, List.length_range, List.length_append, List.length_cons, List.length_nil, List.length_replicate, List.length_set, List.length_take, List.length_drop, List.length_reverse] ; omega) | decide))))) rfl)) (by first | omega | (simp only [List.length_map, List.length_range, List.length_append, List.length_cons, List.length_nil, List.length_replicate, List.length_set, List.length_take, List.length_drop, List.length_reverse] ; omega) | decide)) (by first | (simp only [List.map_map, Function.comp_def]; done) | (simp only [List.map_map, Function.comp_def, eV, eL, eP, eP3]; done) | rfl)))) (imms_map _ (fun _ => rfl) _)) eaf_nil)) (Nat.le_of_ble_eq_true rfl))).m (Nat.le_of_ble_eq_true rfl) ?_
      show [sh (Da.scr script), ow (Da.int base), ow (Da.int many), ow (Da.tup (names.map Da.str)), ow (Da.int lets0), no, ow (Da.int rooms), ow (Da.tup [(Da.tup (m0.1.map (eV Da.int))), (Da.tup (((List.range (rooms : Int).toNat).map fun (room : Nat) => (if (decide ((room : Int) = ((cellW script (2 : Int) / 2) % rooms))) = true then 1 else 0)).map Da.int))]), no, no, no, no, no] = [sh (Da.scr script), ow (Da.int base), ow (Da.int many), ow (Da.tup (names.map Da.str)), ow (Da.int lets0), no, ow (Da.int rooms), ow (Da.tup [(Da.tup (((if cellW script 2 % 2 = 1 then (m0.1, (List.range rooms.toNat).map fun (room : Nat) => (if (decide ((room : Int) = cellW script 2 / 2 % rooms)) = true then (1 : Int) else 0)) else m0).1).map (eV Da.int))), (Da.tup (((if cellW script 2 % 2 = 1 then (m0.1, (List.range rooms.toNat).map fun (room : Nat) => (if (decide ((room : Int) = cellW script 2 / 2 % rooms)) = true then (1 : Int) else 0)) else m0).2).map Da.int))]), no, no, no, no, no]
      first | (rw [if_pos (of_decide_eq_true hc)]) | (rw [if_neg (of_decide_eq_false hc)])
    · refine j_next ?_
      show [sh (Da.scr script), ow (Da.int base), ow (Da.int many), ow (Da.tup (names.map Da.str)), ow (Da.int lets0), no, ow (Da.int rooms), ow (Da.tup [(Da.tup (m0.1.map (eV Da.int))), (Da.tup (m0.2.map Da.int))]), no, no, no, no, no] = [sh (Da.scr script), ow (Da.int base), ow (Da.int many), ow (Da.tup (names.map Da.str)), ow (Da.int lets0), no, ow (Da.int rooms), ow (Da.tup [(Da.tup (((if cellW script 2 % 2 = 1 then (m0.1, (List.range rooms.toNat).map fun (room : Nat) => (if (decide ((room : Int) = cellW script 2 / 2 % rooms)) = true then (1 : Int) else 0)) else m0).1).map (eV Da.int))), (Da.tup (((if cellW script 2 % 2 = 1 then (m0.1, (List.range rooms.toNat).map fun (room : Nat) => (if (decide ((room : Int) = cellW script 2 / 2 % rooms)) = true then (1 : Int) else 0)) else m0).2).map Da.int))]), no, no, no, no, no]
      first | (rw [if_pos (of_decide_eq_true hc)]) | (rw [if_neg (of_decide_eq_false hc)])
    show J K H _ [sh (Da.scr script), ow (Da.int base), ow (Da.int many), ow (Da.tup (names.map Da.str)), ow (Da.int lets0), no, ow (Da.int rooms), ow (Da.tup [(Da.tup (((if cellW script 2 % 2 = 1 then (m0.1, (List.range rooms.toNat).map fun (room : Nat) => (if (decide ((room : Int) = cellW script 2 / 2 % rooms)) = true then (1 : Int) else 0)) else m0).1).map (eV Da.int))), (Da.tup (((if cellW script 2 % 2 = 1 then (m0.1, (List.range rooms.toNat).map fun (room : Nat) => (if (decide ((room : Int) = cellW script 2 / 2 % rooms)) = true then (1 : Int) else 0)) else m0).2).map Da.int))]), no, no, no, no, no] _
    generalize h_m : ((if cellW script 2 % 2 = 1 then (m0.1, (List.range rooms.toNat).map fun (room : Nat) => (if (decide ((room : Int) = cellW script 2 / 2 % rooms)) = true then (1 : Int) else 0)) else m0) : (List (List (Int)) × List (Int))) = m
    have hk1 : Okm m lets0 ∧ m.1.length = rooms.toNat := by
      rw [← h_m]
      split
      · exact ⟨signs_ok hk0.1 (by rw [List.length_map, List.length_range]; exact hk0.2.symm), hk0.2⟩
      · exact hk0
    have hk := hk1.1
    have hkl := hk1.2
    have hls := least_ok hk
    have hlo := hls.ok
    have hle := hls.le
    rcases fst_or (m := m) (L := lets0) (by omega) with ⟨w, hw⟩ | hno
    · refine j_seq (j_asg (d := (Da.tup [(Da.int base), (Da.tup (names.map Da.str)), (Da.tup [(Da.tup (((leastL m).1).map (eV Da.int))), (Da.tup (((leastL m).2).map Da.int))])])) ((ef_tup (ds := [(Da.int base), (Da.tup (names.map Da.str)), (Da.tup [(Da.tup (((leastL m).1).map (eV Da.int))), (Da.tup (((leastL m).2).map Da.int))])]) (eaf_cons (EvB.f ((ev_var (k := 1) rfl)) rfl) (eaf_cons (EvB.f ((ev_var (k := 3) rfl)) (imm_V (fun _ => rfl) _)) (eaf_cons (ev_call (ds := [(Da.tup [(Da.tup (m.1.map (eV Da.int))), (Da.tup (m.2.map Da.int))])]) (d := (Da.tup [(Da.tup (((leastL m).1).map (eV Da.int))), (Da.tup (((leastL m).2).map Da.int))])) (ea_cons (ev_var (k := 7) rfl) ea_nil) ⟨m, lets0, rfl, (by first | omega | (simp only [List.length_map, List.length_range, List.length_append, List.length_cons, List.length_nil, List.length_replicate, List.length_set, List.length_take, List.length_drop, List.length_reverse] ; omega) | decide | assumption), (by first | omega | (simp only [List.length_map, List.length_range, List.length_append, List.length_cons, List.length_nil, List.length_replicate, List.length_set, List.length_take, List.length_drop, List.length_reverse] ; omega) | decide | assumption), (by first | omega | (simp only [List.length_map, List.length_range, List.length_append, List.length_cons, List.length_nil, List.length_replicate, List.length_set, List.length_take, List.length_drop, List.length_reverse] ; omega) | decide | assumption), rfl⟩) eaf_nil))) (Nat.le_of_ble_eq_true rfl))).m (Nat.le_of_ble_eq_true rfl) ?_)
      show J K H _ [sh (Da.scr script), ow (Da.int base), ow (Da.int many), ow (Da.tup (names.map Da.str)), ow (Da.int lets0), no, ow (Da.int rooms), ow (Da.tup [(Da.tup (m.1.map (eV Da.int))), (Da.tup (m.2.map Da.int))]), no, ow (Da.tup [(Da.int base), (Da.tup (names.map Da.str)), (Da.tup [(Da.tup (((leastL m).1).map (eV Da.int))), (Da.tup (((leastL m).2).map Da.int))])]), no, no, no] _
      have hwl := hw.least hk
      have e13 : plF (base, names, leastL m).1 (base, names, leastL m).2.1.length w = plF base many.toNat w := by
        show plF base names.length w = _
        rw [hnl]
      have hpfl := plF_len base many.toNat w
      refine j_seq (j_asg (d := (Da.lst (w.map Da.int))) ((ev_call (ds := [(Da.tup [(Da.tup (m.1.map (eV Da.int))), (Da.tup (m.2.map Da.int))])]) (d := (Da.lst (w.map Da.int))) (ea_cons (ev_var (k := 7) rfl) ea_nil) (.inl ⟨m, lets0, w, rfl, (by first | omega | (simp only [List.length_map, List.length_range, List.length_append, List.length_cons, List.length_nil, List.length_replicate, List.length_set, List.length_take, List.length_drop, List.length_reverse] ; omega) | decide | assumption), (by first | omega | (simp only [List.length_map, List.length_range, List.length_append, List.length_cons, List.length_nil, List.length_replicate, List.length_set, List.length_take, List.length_drop, List.length_reverse] ; omega) | decide | assumption), (by first | omega | (simp only [List.length_map, List.length_range, List.length_append, List.length_cons, List.length_nil, List.length_replicate, List.length_set, List.length_take, List.length_drop, List.length_reverse] ; omega) | decide | assumption), (by first | omega | (simp only [List.length_map, List.length_range, List.length_append, List.length_cons, List.length_nil, List.length_replicate, List.length_set, List.length_take, List.length_drop, List.length_reverse] ; omega) | decide | assumption), (by first | omega | (simp only [List.length_map, List.length_range, List.length_append, List.length_cons, List.length_nil, List.length_replicate, List.length_set, List.length_take, List.length_drop, List.length_reverse] ; omega) | decide | assumption), rfl⟩))).m (Nat.le_of_ble_eq_true rfl) ?_)
      show J K H _ [sh (Da.scr script), ow (Da.int base), ow (Da.int many), ow (Da.tup (names.map Da.str)), ow (Da.int lets0), no, ow (Da.int rooms), ow (Da.tup [(Da.tup (m.1.map (eV Da.int))), (Da.tup (m.2.map Da.int))]), no, ow (Da.tup [(Da.int base), (Da.tup (names.map Da.str)), (Da.tup [(Da.tup (((leastL m).1).map (eV Da.int))), (Da.tup (((leastL m).2).map Da.int))])]), ow (Da.lst (w.map Da.int)), no, no] _
      refine j_seq (j_asg (d := (Da.lst ((plF (base, names, leastL m).1 (base, names, leastL m).2.1.length w).map Da.int))) ((ev_call (ds := [(Da.tup [(Da.int base), (Da.tup (names.map Da.str)), (Da.tup [(Da.tup (((leastL m).1).map (eV Da.int))), (Da.tup (((leastL m).2).map Da.int))])])]) (d := (Da.lst ((plF (base, names, leastL m).1 (base, names, leastL m).2.1.length w).map Da.int))) (ea_cons (ev_var (k := 9) rfl) ea_nil) (.inl ⟨(base, names, leastL m), lets0, w, rfl, (by first | omega | (simp only [List.length_map, List.length_range, List.length_append, List.length_cons, List.length_nil, List.length_replicate, List.length_set, List.length_take, List.length_drop, List.length_reverse] ; omega) | decide | assumption), (by first | omega | (simp only [List.length_map, List.length_range, List.length_append, List.length_cons, List.length_nil, List.length_replicate, List.length_set, List.length_take, List.length_drop, List.length_reverse] ; omega) | decide | assumption), (by first | omega | (simp only [List.length_map, List.length_range, List.length_append, List.length_cons, List.length_nil, List.length_replicate, List.length_set, List.length_take, List.length_drop, List.length_reverse] ; omega) | decide | assumption), (by first | omega | (simp only [List.length_map, List.length_range, List.length_append, List.length_cons, List.length_nil, List.length_replicate, List.length_set, List.length_take, List.length_drop, List.length_reverse] ; omega) | decide | assumption), (by first | omega | (simp only [List.length_map, List.length_range, List.length_append, List.length_cons, List.length_nil, List.length_replicate, List.length_set, List.length_take, List.length_drop, List.length_reverse] ; omega) | decide | assumption), (by first | omega | (simp only [List.length_map, List.length_range, List.length_append, List.length_cons, List.length_nil, List.length_replicate, List.length_set, List.length_take, List.length_drop, List.length_reverse] ; omega) | decide | assumption), (by first | omega | (simp only [List.length_map, List.length_range, List.length_append, List.length_cons, List.length_nil, List.length_replicate, List.length_set, List.length_take, List.length_drop, List.length_reverse] ; omega) | decide | assumption), (by first | omega | (simp only [List.length_map, List.length_range, List.length_append, List.length_cons, List.length_nil, List.length_replicate, List.length_set, List.length_take, List.length_drop, List.length_reverse] ; omega) | decide | assumption), rfl⟩))).m (Nat.le_of_ble_eq_true rfl) ?_)
      rw [e13]
      show J K H _ [sh (Da.scr script), ow (Da.int base), ow (Da.int many), ow (Da.tup (names.map Da.str)), ow (Da.int lets0), no, ow (Da.int rooms), ow (Da.tup [(Da.tup (m.1.map (eV Da.int))), (Da.tup (m.2.map Da.int))]), no, ow (Da.tup [(Da.int base), (Da.tup (names.map Da.str)), (Da.tup [(Da.tup (((leastL m).1).map (eV Da.int))), (Da.tup (((leastL m).2).map Da.int))])]), ow (Da.lst (w.map Da.int)), ow (Da.lst ((plF base many.toNat w).map Da.int)), no] _
      refine j_seq (j_no (et_test (EvB.is (ev_isN (d := (Da.lst (w.map Da.int))) (ev_var (k := 10) rfl)) rfl)) rfl ?_)
      refine j_next ?_
      show J K H _ [sh (Da.scr script), ow (Da.int base), ow (Da.int many), ow (Da.tup (names.map Da.str)), ow (Da.int lets0), no, ow (Da.int rooms), ow (Da.tup [(Da.tup (m.1.map (eV Da.int))), (Da.tup (m.2.map Da.int))]), no, ow (Da.tup [(Da.int base), (Da.tup (names.map Da.str)), (Da.tup [(Da.tup (((leastL m).1).map (eV Da.int))), (Da.tup (((leastL m).2).map Da.int))])]), ow (Da.lst (w.map Da.int)), ow (Da.lst ((plF base many.toNat w).map Da.int)), no] _
      refine j_seq (j_asg (d := (Da.lst ((plF base many.toNat w).map Da.int))) ((ev_call (ds := [(Da.lst (w.map Da.int)), (Da.int many), (Da.int base)]) (d := (Da.lst ((plF base many.toNat w).map Da.int))) (ea_cons (ev_var (k := 10) rfl) (ea_cons (ev_var (k := 2) rfl) (ea_cons (ev_var (k := 1) rfl) ea_nil))) ⟨w, many, base, rfl, (by first | omega | (simp only [List.length_map, List.length_range, List.length_append, List.length_cons, List.length_nil, List.length_replicate, List.length_set, List.length_take, List.length_drop, List.length_reverse] ; omega) | decide | assumption), (by first | omega | (simp only [List.length_map, List.length_range, List.length_append, List.length_cons, List.length_nil, List.length_replicate, List.length_set, List.length_take, List.length_drop, List.length_reverse] ; omega) | decide | assumption), (by first | omega | (simp only [List.length_map, List.length_range, List.length_append, List.length_cons, List.length_nil, List.length_replicate, List.length_set, List.length_take, List.length_drop, List.length_reverse] ; omega) | decide | assumption), (by first | omega | (simp only [List.length_map, List.length_range, List.length_append, List.length_cons, List.length_nil, List.length_replicate, List.length_set, List.length_take, List.length_drop, List.length_reverse] ; omega) | decide | assumption), rfl⟩)).m (Nat.le_of_ble_eq_true rfl) ?_)
      show J K H _ [sh (Da.scr script), ow (Da.int base), ow (Da.int many), ow (Da.tup (names.map Da.str)), ow (Da.int lets0), no, ow (Da.int rooms), ow (Da.tup [(Da.tup (m.1.map (eV Da.int))), (Da.tup (m.2.map Da.int))]), no, ow (Da.tup [(Da.int base), (Da.tup (names.map Da.str)), (Da.tup [(Da.tup (((leastL m).1).map (eV Da.int))), (Da.tup (((leastL m).2).map Da.int))])]), ow (Da.lst ((plF base many.toNat w).map Da.int)), ow (Da.lst ((plF base many.toNat w).map Da.int)), no] _
      refine j_seq (j_no (et_or (et_not (et_B (ev_isi (n := "list") (m := "list") (r := true) (ev_var (k := 11) rfl) rfl (by decide +kernel)))) (fun hq => (et_or (et_test ((ev_neD (show EvB K _ _ (Da.lst ((plF base many.toNat w).map Da.int)) from (ev_var (k := 11) rfl)) (show EvB K _ _ (Da.lst ((plF base many.toNat w).map Da.int)) from (ev_var (k := 10) rfl)) 1 1 (by unfold flD; exact flDs_map (fun _ => rfl) _) (by unfold flD; exact flDs_map (fun _ => rfl) _)).is (by rw [eqD_self (n := 1) (by unfold flD; exact flDs_map (fun _ => rfl) _)] <;> rfl))) (fun hq => (et_not (et_B (ev_all (bs := ((plF base many.toNat w).map fun (place : Int) => true)) (EvF.g ((EvF.is (d1 := (Da.lst (((plF base many.toNat w).map fun (place : Int) => true).map Da.bl))) (ef_lc (plF base many.toNat w) Da.int (fun (place : Int) => (Da.bl true)) (ev_var (k := 11) rfl) (by decide) (by first | omega | (simp only [List.length_map, List.length_range, List.length_append, List.length_cons, List.length_nil, List.length_replicate, List.length_set, List.length_take, List.length_drop, List.length_reverse] ; omega) | decide) (fun place h_place => (ev_call (ds := [(Da.int place)]) (d := (Da.bl true)) (ea_cons (ev_var (k := 12) rfl) ea_nil) ⟨place, rfl, rfl⟩))) (by first | (simp only [List.map_map, Function.comp_def]; done) | (simp only [List.map_map, Function.comp_def, eV, eL, eP, eP3]; done) | rfl))))))))))) (by simp) ?_)
      refine j_next ?_
      show J K H _ [sh (Da.scr script), ow (Da.int base), ow (Da.int many), ow (Da.tup (names.map Da.str)), ow (Da.int lets0), no, ow (Da.int rooms), ow (Da.tup [(Da.tup (m.1.map (eV Da.int))), (Da.tup (m.2.map Da.int))]), no, ow (Da.tup [(Da.int base), (Da.tup (names.map Da.str)), (Da.tup [(Da.tup (((leastL m).1).map (eV Da.int))), (Da.tup (((leastL m).2).map Da.int))])]), ow (Da.lst ((plF base many.toNat w).map Da.int)), ow (Da.lst ((plF base many.toNat w).map Da.int)), no] _
      refine j_seq (j_append (k := 11) (ds := (plF base many.toNat w).map Da.int) (d := (Da.int 7)) (EvF.m ((EvB.f (ev_int) rfl))) rfl rfl (by first | omega | (simp only [List.length_map, List.length_range, List.length_append, List.length_cons, List.length_nil, List.length_replicate, List.length_set, List.length_take, List.length_drop, List.length_reverse] ; omega) | decide) ?_)
      rw [show ((plF base many.toNat w).map Da.int ++ [(Da.int 7)] : List Da) = ((plF base many.toNat w) ++ [7]).map Da.int from app_one Da.int (plF base many.toNat w) 7]
      show J K H _ [sh (Da.scr script), ow (Da.int base), ow (Da.int many), ow (Da.tup (names.map Da.str)), ow (Da.int lets0), no, ow (Da.int rooms), ow (Da.tup [(Da.tup (m.1.map (eV Da.int))), (Da.tup (m.2.map Da.int))]), no, ow (Da.tup [(Da.int base), (Da.tup (names.map Da.str)), (Da.tup [(Da.tup (((leastL m).1).map (eV Da.int))), (Da.tup (((leastL m).2).map Da.int))])]), ow (Da.lst ((plF base many.toNat w).map Da.int)), ow (Da.lst (((plF base many.toNat w) ++ [7]).map Da.int)), no] _
      refine j_ret (d := (Da.bl (eqD (Da.lst ((plF (base, names, leastL m).1 (base, names, leastL m).2.1.length w).map Da.int)) (Da.lst ((plF base many.toNat w).map Da.int))))) (EvF.m ((EvB.f ((ev_eqD (show EvB K _ _ (Da.lst ((plF (base, names, leastL m).1 (base, names, leastL m).2.1.length w).map Da.int)) from (EvF.g ((ev_call (ds := [(Da.tup [(Da.int base), (Da.tup (names.map Da.str)), (Da.tup [(Da.tup (((leastL m).1).map (eV Da.int))), (Da.tup (((leastL m).2).map Da.int))])])]) (d := (Da.lst ((plF (base, names, leastL m).1 (base, names, leastL m).2.1.length w).map Da.int))) (ea_cons (ev_var (k := 9) rfl) ea_nil) (.inl ⟨(base, names, leastL m), lets0, w, rfl, (by first | omega | (simp only [List.length_map, List.length_range, List.length_append, List.length_cons, List.length_nil, List.length_replicate, List.length_set, List.length_take, List.length_drop, List.length_reverse] ; omega) | decide | assumption), (by first | omega | (simp only [List.length_map, List.length_range, List.length_append, List.length_cons, List.length_nil, List.length_replicate, List.length_set, List.length_take, List.length_drop, List.length_reverse] ; omega) | decide | assumption), (by first | omega | (simp only [List.length_map, List.length_range, List.length_append, List.length_cons, List.length_nil, List.length_replicate, List.length_set, List.length_take, List.length_drop, List.length_reverse] ; omega) | decide | assumption), (by first | omega | (simp only [List.length_map, List.length_range, List.length_append, List.length_cons, List.length_nil, List.length_replicate, List.length_set, List.length_take, List.length_drop, List.length_reverse] ; omega) | decide | assumption), (by first | omega | (simp only [List.length_map, List.length_range, List.length_append, List.length_cons, List.length_nil, List.length_replicate, List.length_set, List.length_take, List.length_drop, List.length_reverse] ; omega) | decide | assumption), (by first | omega | (simp only [List.length_map, List.length_range, List.length_append, List.length_cons, List.length_nil, List.length_replicate, List.length_set, List.length_take, List.length_drop, List.length_reverse] ; omega) | decide | assumption), (by first | omega | (simp only [List.length_map, List.length_range, List.length_append, List.length_cons, List.length_nil, List.length_replicate, List.length_set, List.length_take, List.length_drop, List.length_reverse] ; omega) | decide | assumption), (by first | omega | (simp only [List.length_map, List.length_range, List.length_append, List.length_cons, List.length_nil, List.length_replicate, List.length_set, List.length_take, List.length_drop, List.length_reverse] ; omega) | decide | assumption), rfl⟩))))) (show EvB K _ _ (Da.lst ((plF base many.toNat w).map Da.int)) from (ev_var (k := 10) rfl)) 1 1 (by unfold flD; exact flDs_map (fun _ => rfl) _) (by unfold flD; exact flDs_map (fun _ => rfl) _))) rfl))) ?_
      show Da.bl (eqD (Da.lst (List.map Da.int (plF base names.length w))) _) = _
      rw [hnl, eqD_self (n := 1) (by unfold flD; exact flDs_map (fun _ => rfl) _)]
    · refine j_seq (j_asg (d := (Da.tup [(Da.int base), (Da.tup (names.map Da.str)), (Da.tup [(Da.tup (((leastL m).1).map (eV Da.int))), (Da.tup (((leastL m).2).map Da.int))])])) ((ef_tup (ds := [(Da.int base), (Da.tup (names.map Da.str)), (Da.tup [(Da.tup (((leastL m).1).map (eV Da.int))), (Da.tup (((leastL m).2).map Da.int))])]) (eaf_cons (EvB.f ((ev_var (k := 1) rfl)) rfl) (eaf_cons (EvB.f ((ev_var (k := 3) rfl)) (imm_V (fun _ => rfl) _)) (eaf_cons (ev_call (ds := [(Da.tup [(Da.tup (m.1.map (eV Da.int))), (Da.tup (m.2.map Da.int))])]) (d := (Da.tup [(Da.tup (((leastL m).1).map (eV Da.int))), (Da.tup (((leastL m).2).map Da.int))])) (ea_cons (ev_var (k := 7) rfl) ea_nil) ⟨m, lets0, rfl, (by first | omega | (simp only [List.length_map, List.length_range, List.length_append, List.length_cons, List.length_nil, List.length_replicate, List.length_set, List.length_take, List.length_drop, List.length_reverse] ; omega) | decide | assumption), (by first | omega | (simp only [List.length_map, List.length_range, List.length_append, List.length_cons, List.length_nil, List.length_replicate, List.length_set, List.length_take, List.length_drop, List.length_reverse] ; omega) | decide | assumption), (by first | omega | (simp only [List.length_map, List.length_range, List.length_append, List.length_cons, List.length_nil, List.length_replicate, List.length_set, List.length_take, List.length_drop, List.length_reverse] ; omega) | decide | assumption), rfl⟩) eaf_nil))) (Nat.le_of_ble_eq_true rfl))).m (Nat.le_of_ble_eq_true rfl) ?_)
      show J K H _ [sh (Da.scr script), ow (Da.int base), ow (Da.int many), ow (Da.tup (names.map Da.str)), ow (Da.int lets0), no, ow (Da.int rooms), ow (Da.tup [(Da.tup (m.1.map (eV Da.int))), (Da.tup (m.2.map Da.int))]), no, ow (Da.tup [(Da.int base), (Da.tup (names.map Da.str)), (Da.tup [(Da.tup (((leastL m).1).map (eV Da.int))), (Da.tup (((leastL m).2).map Da.int))])]), no, no, no] _
      have hnl2 : ∀ v, okW lets0 v → beh (leastL m) 0 v ≠ 1 := fun v hv => by rw [hls.beh v hv]; exact hno v hv
      refine j_seq (j_asg (d := Da.non) ((ev_call (ds := [(Da.tup [(Da.tup (m.1.map (eV Da.int))), (Da.tup (m.2.map Da.int))])]) (d := Da.non) (ea_cons (ev_var (k := 7) rfl) ea_nil) (.inr ⟨m, lets0, rfl, (by first | omega | (simp only [List.length_map, List.length_range, List.length_append, List.length_cons, List.length_nil, List.length_replicate, List.length_set, List.length_take, List.length_drop, List.length_reverse] ; omega) | decide | assumption), (by first | omega | (simp only [List.length_map, List.length_range, List.length_append, List.length_cons, List.length_nil, List.length_replicate, List.length_set, List.length_take, List.length_drop, List.length_reverse] ; omega) | decide | assumption), (by first | omega | (simp only [List.length_map, List.length_range, List.length_append, List.length_cons, List.length_nil, List.length_replicate, List.length_set, List.length_take, List.length_drop, List.length_reverse] ; omega) | decide | assumption), (by first | omega | (simp only [List.length_map, List.length_range, List.length_append, List.length_cons, List.length_nil, List.length_replicate, List.length_set, List.length_take, List.length_drop, List.length_reverse] ; omega) | decide | assumption), (by first | omega | (simp only [List.length_map, List.length_range, List.length_append, List.length_cons, List.length_nil, List.length_replicate, List.length_set, List.length_take, List.length_drop, List.length_reverse] ; omega) | decide | assumption), rfl⟩))).m (Nat.le_of_ble_eq_true rfl) ?_)
      show J K H _ [sh (Da.scr script), ow (Da.int base), ow (Da.int many), ow (Da.tup (names.map Da.str)), ow (Da.int lets0), no, ow (Da.int rooms), ow (Da.tup [(Da.tup (m.1.map (eV Da.int))), (Da.tup (m.2.map Da.int))]), no, ow (Da.tup [(Da.int base), (Da.tup (names.map Da.str)), (Da.tup [(Da.tup (((leastL m).1).map (eV Da.int))), (Da.tup (((leastL m).2).map Da.int))])]), ow Da.non, no, no] _
      refine j_seq (j_asg (d := Da.non) ((ev_call (ds := [(Da.tup [(Da.int base), (Da.tup (names.map Da.str)), (Da.tup [(Da.tup (((leastL m).1).map (eV Da.int))), (Da.tup (((leastL m).2).map Da.int))])])]) (d := Da.non) (ea_cons (ev_var (k := 9) rfl) ea_nil) (.inr ⟨(base, names, leastL m), lets0, rfl, (by first | omega | (simp only [List.length_map, List.length_range, List.length_append, List.length_cons, List.length_nil, List.length_replicate, List.length_set, List.length_take, List.length_drop, List.length_reverse] ; omega) | decide | assumption), (by first | omega | (simp only [List.length_map, List.length_range, List.length_append, List.length_cons, List.length_nil, List.length_replicate, List.length_set, List.length_take, List.length_drop, List.length_reverse] ; omega) | decide | assumption), (by first | omega | (simp only [List.length_map, List.length_range, List.length_append, List.length_cons, List.length_nil, List.length_replicate, List.length_set, List.length_take, List.length_drop, List.length_reverse] ; omega) | decide | assumption), (by first | omega | (simp only [List.length_map, List.length_range, List.length_append, List.length_cons, List.length_nil, List.length_replicate, List.length_set, List.length_take, List.length_drop, List.length_reverse] ; omega) | decide | assumption), (by first | omega | (simp only [List.length_map, List.length_range, List.length_append, List.length_cons, List.length_nil, List.length_replicate, List.length_set, List.length_take, List.length_drop, List.length_reverse] ; omega) | decide | assumption), (by first | omega | (simp only [List.length_map, List.length_range, List.length_append, List.length_cons, List.length_nil, List.length_replicate, List.length_set, List.length_take, List.length_drop, List.length_reverse] ; omega) | decide | assumption), (by first | omega | (simp only [List.length_map, List.length_range, List.length_append, List.length_cons, List.length_nil, List.length_replicate, List.length_set, List.length_take, List.length_drop, List.length_reverse] ; omega) | decide | assumption), (by first | omega | (simp only [List.length_map, List.length_range, List.length_append, List.length_cons, List.length_nil, List.length_replicate, List.length_set, List.length_take, List.length_drop, List.length_reverse] ; omega) | decide | assumption), rfl⟩))).m (Nat.le_of_ble_eq_true rfl) ?_)
      show J K H _ [sh (Da.scr script), ow (Da.int base), ow (Da.int many), ow (Da.tup (names.map Da.str)), ow (Da.int lets0), no, ow (Da.int rooms), ow (Da.tup [(Da.tup (m.1.map (eV Da.int))), (Da.tup (m.2.map Da.int))]), no, ow (Da.tup [(Da.int base), (Da.tup (names.map Da.str)), (Da.tup [(Da.tup (((leastL m).1).map (eV Da.int))), (Da.tup (((leastL m).2).map Da.int))])]), ow Da.non, ow Da.non, no] _
      refine j_seq (j_yes (et_test (EvB.is (ev_isN (d := Da.non) (ev_var (k := 10) rfl)) rfl)) rfl ?_)
      refine j_ret (d := (Da.bl (true && true))) (EvF.m ((EvB.f ((ev_andV (EvB.is (ev_isN (d := Da.non) (ev_var (k := 11) rfl)) rfl) (fun _ => (EvB.is (ev_isN (d := Da.non) (EvF.g ((ev_call (ds := [(Da.tup [(Da.int base), (Da.tup (names.map Da.str)), (Da.tup [(Da.tup (((leastL m).1).map (eV Da.int))), (Da.tup (((leastL m).2).map Da.int))])])]) (d := Da.non) (ea_cons (ev_var (k := 9) rfl) ea_nil) (.inr ⟨(base, names, leastL m), lets0, rfl, (by first | omega | (simp only [List.length_map, List.length_range, List.length_append, List.length_cons, List.length_nil, List.length_replicate, List.length_set, List.length_take, List.length_drop, List.length_reverse] ; omega) | decide | assumption), (by first | omega | (simp only [List.length_map, List.length_range, List.length_append, List.length_cons, List.length_nil, List.length_replicate, List.length_set, List.length_take, List.length_drop, List.length_reverse] ; omega) | decide | assumption), (by first | omega | (simp only [List.length_map, List.length_range, List.length_append, List.length_cons, List.length_nil, List.length_replicate, List.length_set, List.length_take, List.length_drop, List.length_reverse] ; omega) | decide | assumption), (by first | omega | (simp only [List.length_map, List.length_range, List.length_append, List.length_cons, List.length_nil, List.length_replicate, List.length_set, List.length_take, List.length_drop, List.length_reverse] ; omega) | decide | assumption), (by first | omega | (simp only [List.length_map, List.length_range, List.length_append, List.length_cons, List.length_nil, List.length_replicate, List.length_set, List.length_take, List.length_drop, List.length_reverse] ; omega) | decide | assumption), (by first | omega | (simp only [List.length_map, List.length_range, List.length_append, List.length_cons, List.length_nil, List.length_replicate, List.length_set, List.length_take, List.length_drop, List.length_reverse] ; omega) | decide | assumption), (by first | omega | (simp only [List.length_map, List.length_range, List.length_append, List.length_cons, List.length_nil, List.length_replicate, List.length_set, List.length_take, List.length_drop, List.length_reverse] ; omega) | decide | assumption), (by first | omega | (simp only [List.length_map, List.length_range, List.length_append, List.length_cons, List.length_nil, List.length_replicate, List.length_set, List.length_take, List.length_drop, List.length_reverse] ; omega) | decide | assumption), rfl⟩))))) rfl)))) rfl))) ?_
      rfl
theorem kn_law (Z : Zb mg) (g_law_cell : Known P w K mg base "_law_cell" 1 (spF K G_law_cell) 2 []) (g_law_drawn : Known P w K mg base "_law_drawn" 2 (spF K G_law_drawn) 5 []) (g_least : Known P w K mg base "least" 3 (spF K G_least) 1 []) (g_law_first : Known P w K mg base "_law_first" 1 (spF K G_law_first) 1 []) (g_first_of : Known P w K mg base "first_of" 4 (spF K G_first_of) 1 []) (g_law_places : Known P w K mg base "_law_places" 1 (spF K G_law_places) 3 []) (g_law_whole : Known P w K mg base "_law_whole" 1 (spF K G_law_whole) 1 []) (S : Stands K mg "law" s_law) : Known P w K mg base "law" 5 (spF K G_law) 1 [] :=
  known_of (ps := ["_law_script"]) S (fun _ _ _ _ _ _ us hl => match us, hl with | [_], _ => rfl) fun f fd F => ok_law Z g_law_cell g_law_drawn g_least g_law_first g_first_of g_law_places g_law_whole F
end
end My
open PySem PySem.W PyProof.Rows in
set_option maxRecDepth 100000 in
set_option pp.maxSteps 60 in
set_option maxHeartbeats 0 in
theorem PySem.Challenge.cw_figurewheel_k44_first_of_holds : PySem.Challenge.rw_figurewheel_k44_first_of.Holds := by
  w_on; o_law; k_head; (case hw => w_witness2)
  k_fill
  refine L2.walk_of (l := PySem.Challenge.rw_figurewheel_k44_first_of) (n := 63) (k := 5) (x := "_law_script") (CX := fun _ => L2.CX0) (sp := fun w => Fw.spF _ Fw.lawG) rfl (by decide) rfl ⟨rfl, by decide, by decide⟩ (fun w h Y => PySem.W.kIn_of Y) ?F (fun w H a ns hl hO hS => Fw.law_sp (Nat.le_refl _) _ H a ns hl hO hS) (fun _ _ _ _ _ h => h)
  case F =>
    intro w mg fa h KX G hmg
    have Z : My.Zb mg := by
      refine' ⟨PySem.W.mg_none_of KX G ?z0, PySem.W.mg_none_of KX G ?z1, PySem.W.mg_none_of KX G ?z2, PySem.W.mg_none_of KX G ?z3, PySem.W.mg_none_of KX G ?z4, PySem.W.mg_none_of KX G ?z5, PySem.W.mg_none_of KX G ?z6, PySem.W.mg_none_of KX G ?z7, PySem.W.mg_none_of KX G ?z8, PySem.W.mg_none_of KX G ?z9, PySem.W.mg_none_of KX G ?z10, PySem.W.mg_none_of KX G ?z11⟩
      (case z0 => k_is)
      (case z1 => k_is)
      (case z2 => k_is)
      (case z3 => k_is)
      (case z4 => k_is)
      (case z5 => k_is)
      (case z6 => k_is)
      (case z7 => k_is)
      (case z8 => k_is)
      (case z9 => k_is)
      (case z10 => k_is)
      (case z11 => k_is)
    refine' Fw.stands_use (x := "look_at_base") (st := My.s_look_at_base) KX G (fun S_look_at_base => ?next) ?a ?l ?c ?k
    (case a => k_is); (case l => k_is); (case c => k_is); (case k => k_is)
    case next =>
    refine' Fw.standsI_use (x := "number_of") (st := My.s_number_of) KX G (fun S_number_of => ?next) ?a ?l ?c ?k ?t
    (case a => k_is); (case l => k_is); (case c => k_is); (case k => k_is); (case t => k_is)
    case next =>
    refine' Fw.standsI_use (x := "numbers_of") (st := My.s_numbers_of) KX G (fun S_numbers_of => ?next) ?a ?l ?c ?k ?t
    (case a => k_is); (case l => k_is); (case c => k_is); (case k => k_is); (case t => k_is)
    case next =>
    refine' Fw.standsI_use (x := "column_of") (st := My.s_column_of) KX G (fun S_column_of => ?next) ?a ?l ?c ?k ?t
    (case a => k_is); (case l => k_is); (case c => k_is); (case k => k_is); (case t => k_is)
    case next =>
    refine' Fw.stands_use (x := "first_letters") (st := My.s_first_letters) KX G (fun S_first_letters => ?next) ?a ?l ?c ?k
    (case a => k_is); (case l => k_is); (case c => k_is); (case k => k_is)
    case next =>
    refine' Fw.stands_use (x := "first_of") (st := My.s_first_of) KX G (fun S_first_of => ?next) ?a ?l ?c ?k
    (case a => k_is); (case l => k_is); (case c => k_is); (case k => k_is)
    case next =>
    refine' Fw.stands_use (x := "as_reached") (st := My.s_as_reached) KX G (fun S_as_reached => ?next) ?a ?l ?c ?k
    (case a => k_is); (case l => k_is); (case c => k_is); (case k => k_is)
    case next =>
    refine' Fw.stands_use (x := "numbered") (st := My.s_numbered) KX G (fun S_numbered => ?next) ?a ?l ?c ?k
    (case a => k_is); (case l => k_is); (case c => k_is); (case k => k_is)
    case next =>
    refine' Fw.stands_use (x := "lots_of") (st := My.s_lots_of) KX G (fun S_lots_of => ?next) ?a ?l ?c ?k
    (case a => k_is); (case l => k_is); (case c => k_is); (case k => k_is)
    case next =>
    refine' Fw.stands_use (x := "least") (st := My.s_least) KX G (fun S_least => ?next) ?a ?l ?c ?k
    (case a => k_is); (case l => k_is); (case c => k_is); (case k => k_is)
    case next =>
    refine' Fw.stands_use (x := "_law_cell") (st := My.s_law_cell) KX G (fun S_law_cell => ?next) ?a ?l ?c ?k
    (case a => k_is); (case l => k_is); (case c => k_is); (case k => k_is)
    case next =>
    refine' Fw.stands_use (x := "_law_whole") (st := My.s_law_whole) KX G (fun S_law_whole => ?next) ?a ?l ?c ?k
    (case a => k_is); (case l => k_is); (case c => k_is); (case k => k_is)
    case next =>
    refine' Fw.stands_use (x := "_law_drawn") (st := My.s_law_drawn) KX G (fun S_law_drawn => ?next) ?a ?l ?c ?k
    (case a => k_is); (case l => k_is); (case c => k_is); (case k => k_is)
    case next =>
    refine' Fw.stands_use (x := "_law_first") (st := My.s_law_first) KX G (fun S_law_first => ?next) ?a ?l ?c ?k
    (case a => k_is); (case l => k_is); (case c => k_is); (case k => k_is)
    case next =>
    refine' Fw.stands_use (x := "_law_places") (st := My.s_law_places) KX G (fun S_law_places => ?next) ?a ?l ?c ?k
    (case a => k_is); (case l => k_is); (case c => k_is); (case k => k_is)
    case next =>
    refine' Fw.law_mk (st := My.s_law) (x := "law") KX G hmg ?a ?l ?c ?k (fun s v => .of_eq rfl) ?ok
    (case a => k_is); (case l => k_is); (case c => k_is); (case k => k_is)
    case ok =>
      intro base hi hg f fd F
      have g_look_at_base := My.kn_look_at_base (P := PySem.Challenge.pw_figurewheel_k44_first_of) (w := w) (base := base) S_look_at_base
      have g_number_of := My.kn_number_of (P := PySem.Challenge.pw_figurewheel_k44_first_of) (w := w) (base := base) g_look_at_base S_number_of
      have g_number_ofD := My.kn_number_ofD (P := PySem.Challenge.pw_figurewheel_k44_first_of) (w := w) (base := base) g_look_at_base S_number_of
      have g_numbers_of := My.kn_numbers_of (P := PySem.Challenge.pw_figurewheel_k44_first_of) (w := w) (base := base) Z g_look_at_base g_number_of S_numbers_of
      have g_numbers_ofD := My.kn_numbers_ofD (P := PySem.Challenge.pw_figurewheel_k44_first_of) (w := w) (base := base) Z g_look_at_base g_number_of S_numbers_of
      have g_column_of := My.kn_column_of (P := PySem.Challenge.pw_figurewheel_k44_first_of) (w := w) (base := base) Z g_look_at_base S_column_of
      have g_column_ofD := My.kn_column_ofD (P := PySem.Challenge.pw_figurewheel_k44_first_of) (w := w) (base := base) Z g_look_at_base S_column_of
      have g_first_letters := My.kn_first_letters (P := PySem.Challenge.pw_figurewheel_k44_first_of) (w := w) (base := base) Z S_first_letters
      have g_first_of := My.kn_first_of (P := PySem.Challenge.pw_figurewheel_k44_first_of) (w := w) (base := base) Z g_first_letters g_numbers_of g_column_of S_first_of
      have g_as_reached := My.kn_as_reached (P := PySem.Challenge.pw_figurewheel_k44_first_of) (w := w) (base := base) Z S_as_reached
      have g_numbered := My.kn_numbered (P := PySem.Challenge.pw_figurewheel_k44_first_of) (w := w) (base := base) Z S_numbered
      have g_lots_of := My.kn_lots_of (P := PySem.Challenge.pw_figurewheel_k44_first_of) (w := w) (base := base) Z g_numbered S_lots_of
      have g_least := My.kn_least (P := PySem.Challenge.pw_figurewheel_k44_first_of) (w := w) (base := base) Z g_as_reached g_lots_of S_least
      have g_law_cell := My.kn_law_cell (P := PySem.Challenge.pw_figurewheel_k44_first_of) (w := w) (base := base) Z S_law_cell
      have g_law_whole := My.kn_law_whole (P := PySem.Challenge.pw_figurewheel_k44_first_of) (w := w) (base := base) Z S_law_whole
      have g_law_drawn := My.kn_law_drawn (P := PySem.Challenge.pw_figurewheel_k44_first_of) (w := w) (base := base) Z g_law_cell S_law_drawn
      have g_law_first := My.kn_law_first (P := PySem.Challenge.pw_figurewheel_k44_first_of) (w := w) (base := base) Z S_law_first
      have g_law_places := My.kn_law_places (P := PySem.Challenge.pw_figurewheel_k44_first_of) (w := w) (base := base) Z S_law_places
      exact My.ok_law Z g_law_cell g_law_drawn g_least g_law_first g_first_of g_law_places g_law_whole F


