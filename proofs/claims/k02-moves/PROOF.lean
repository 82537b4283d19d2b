import PyProof.Rows.All
import HandS.ForMost
import HandS.ForExc
import HandS.Wide
import HandS.Style
import HandS.TupAny
import HandS.TupMul
import HandS.IsInst
import HandS.Zip
import HandS.Flow
import HandS.AnyAll
import HandS.TryMany
import HandS.ExcIs
import HandS.Gcd
import HandS.Conv
import HandS.SortInts
import KE.KMathGC
import HandS.Ends
import PyProof.WalksMore
import PyProof.WalkInts
import PyProof.SeqI3
import PyProof.ConsumeS
import PyProof.Rows.RuleN_abs
import HandS.ExcInit
import HandS.ExcField
import KE.KExcSuper
import KE.KExcIs
import PyProof.ListMulRoad
import PyProof.FactsAll.tuple_2
import HandS.Dict
import HandS.EndOwn
import PyProof.ZipIter
import HandS.Zip0
import PySem.Challenge.RW_generaproved_k02_whole_moves_and_adjoint
set_option Elab.async false
set_option linter.all false
set_option maxRecDepth 100000
/-! DM: data as trees over the layer's heaps; what a piece of code does as a function on trees. -/
namespace DM
open PySem PySem.Spec PyProof.Rows L2

/-- data: trees, and places (loc) for lists that change -/
inductive D where
  | non | bl (b : Bool) | int (i : Int) | str (x : Str) | ty (n : String) | gr (a : Addr)
  | tup (ds : List D) | lst (ds : List D) | kt (ds : List D) | loc (l : Nat) | scr (ns : List Int) | dic
  | exn (c : String) (has : Bool) (f : Str) (d : D)

abbrev Mem := List (Option (List D))
abbrev DSt := List (Option D)

/-- the fixed part: the text's objects, where the classes stand -/
structure Gd where
  K : PySem.W.Frag
  ca : String → Addr
  /-- tables of code objects -/
  tabs : List Addr := []

/-- a world: the heap, the places' addresses, what stands there, the exception that is handled -/
structure Wd where
  H : Hp
  pla : List Addr
  M : Mem
  ea : Option (Addr × String × Option Addr)
  /-- lists that are being made (by comprehensions) -/
  hid : List Addr

def Wd.own (W : Wd) (a : Addr) : Prop := a ∈ W.hid ∨ ∃ (l : Nat) (ds : List D), W.M[l]? = some (some ds) ∧ W.pla[l]? = some a

def KTup (G : Gd) (a : Addr) (xs : List V) : Prop :=
  ∃ (o : Obj) (its : Array Value) (n : Nat), G.K.lookup a = some o ∧ o.cls = .type "tuple" ∧ o.data = .seq its n ∧ its.size ≤ sizeLine ∧ Vals xs its.toList

/-- a list that nobody changes, wherever it stands -/
def ScrAt (G : Gd) (W : Wd) (a : Addr) (xs : List V) : Prop := (Rd W.H a (.lst xs) ∧ ¬ W.own a) ∨
  ∃ (o : Obj) (its : Array Value) (n : Nat), G.K.lookup a = some o ∧ o.cls = .type "list" ∧ o.dict = none ∧ o.data = .seq its n ∧ its.size ≤ sizeLine ∧ Vals xs its.toList
mutual
def Rep (G : Gd) (W : Wd) : D → V → Prop
  | .non, v => v = .non
  | .bl b, v => v = .bl b
  | .int i, v => v = .int i
  | .str x, v => v = .str x
  | .ty n, v => v = .ty n
  | .gr a, v => v = .ref a
  | .tup ds, v => ∃ a xs, v = .ref a ∧ W.H a = some (.tup xs) ∧ ¬ W.own a ∧ RepL G W ds xs
  | .lst ds, v => ∃ a xs, v = .ref a ∧ W.H a = some (.lst xs) ∧ ¬ W.own a ∧ RepL G W ds xs
  | .kt ds, v => ∃ a xs, v = .ref a ∧ KTup G a xs ∧ RepL G W ds xs
  | .loc l, v => ∃ a, W.pla[l]? = some a ∧ v = .ref a
  | .scr ns, v => ∃ a, v = .ref a ∧ ScrAt G W a (ns.map V.int)
  | .dic, v => ∃ a, v = .ref a ∧ W.H a = some (.dK []) ∧ ¬ W.own a
  | .exn c has f d, v => ∃ a dd, W.ea = some (a, c, dd) ∧ v = .ref a ∧ ((has = false ∧ dd = none) ∨ (has = true ∧ ∃ b u, dd = some b ∧ W.H b = some (.xd [(f, u)]) ∧ ¬ W.own b ∧ Rep G W d u))
def RepL (G : Gd) (W : Wd) : List D → List V → Prop
  | [], vs => vs = []
  | d :: ds, vs => ∃ v r, vs = v :: r ∧ Rep G W d v ∧ RepL G W ds r
end

structure WOk (G : Gd) (W : Wd) : Prop where
  len : W.pla.length = W.M.length
  inj : ∀ (l l' : Nat) (a : Addr) (ds ds' : List D), W.M[l]? = some (some ds) → W.M[l']? = some (some ds') → W.pla[l]? = some a → W.pla[l']? = some a → l = l'
  there : ∀ (l : Nat) (ds : List D), W.M[l]? = some (some ds) → ∃ a xs, W.pla[l]? = some a ∧ W.H a = some (.lst xs) ∧ RepL G W ds xs
  hidT : ∀ a, a ∈ W.hid → ∃ xs, W.H a = some (.lst xs)
  hidP : ∀ a, a ∈ W.hid → ∀ (l : Nat) (ds : List D), W.M[l]? = some (some ds) → W.pla[l]? ≠ some a
  hidN : W.hid.Nodup
  tab : ∀ p, p ∈ G.tabs → GxR.TabG W.H p

/-- what others hold stays -/
structure Ext0 (W W' : Wd) : Prop where
  pla : ∀ (l : Nat) (a : Addr), W.pla[l]? = some a → W'.pla[l]? = some a
  H : ∀ a o, W.H a = some o → ¬ W.own a → (∀ ps, o ≠ .tbl ps) → W'.H a = some o ∧ ¬ W'.own a
  ea : W'.ea = W.ea
structure Ext (W W' : Wd) : Prop extends Ext0 W W' where
  hid : W'.hid = W.hid
  hidH : ∀ a, a ∈ W.hid → W'.H a = W.H a

theorem Ext0.h {W W' : Wd} (e : Ext0 W W') (a : Addr) (o : HO) (h : W.H a = some o) (n : ¬ W.own a) (t : ∀ ps, o ≠ .tbl ps := by intro _ q; cases q) : W'.H a = some o ∧ ¬ W'.own a := e.H a o h n t
theorem tab_new {H : Hp} {p q : Addr} {o : HO} (h : GxR.TabG H q) (hp : H p = none) : GxR.TabG (upd H p o) q := by
  obtain ⟨ps, e, t⟩ := h
  exact ⟨ps, (upd_ne (ne_of_none e hp)).trans e, t⟩
theorem tab_put {H : Hp} {p q : Addr} {o : HO} {xs : List V} (h : GxR.TabG H q) (hp : H p = some (.lst xs)) : GxR.TabG (upd H p o) q := by
  obtain ⟨ps, e, t⟩ := h
  refine ⟨ps, (upd_ne fun z => ?_).trans e, t⟩
  rw [z, hp] at e
  cases e
theorem Ext0.refl (W : Wd) : Ext0 W W := ⟨fun _ _ h => h, fun _ _ h n _ => ⟨h, n⟩, rfl⟩
theorem Ext0.trans {W W1 W2 : Wd} (a : Ext0 W W1) (b : Ext0 W1 W2) : Ext0 W W2 :=
  ⟨fun l x h => b.pla l x (a.pla l x h), fun x o h n t => let ⟨h1, n1⟩ := a.H x o h n t; b.H x o h1 n1 t, b.ea.trans a.ea⟩
theorem Ext.refl (W : Wd) : Ext W W := ⟨.refl W, rfl, fun _ _ => rfl⟩
theorem Ext.trans {W W1 W2 : Wd} (a : Ext W W1) (b : Ext W1 W2) : Ext W W2 :=
  ⟨a.toExt0.trans b.toExt0, b.hid.trans a.hid, fun x h => (b.hidH x (a.hid ▸ h)).trans (a.hidH x h)⟩

theorem ScrAt.mono {G : Gd} {W W' : Wd} {a : Addr} {xs : List V} (e : Ext0 W W') (h : ScrAt G W a xs) : ScrAt G W' a xs := by
  rcases h with ⟨h | ⟨o, h⟩, n⟩ | h
  · obtain ⟨h1, n1⟩ := e.h a _ h n
    exact .inl ⟨.inl h1, n1⟩
  · obtain ⟨h1, n1⟩ := e.h a _ h n
    exact .inl ⟨.inr ⟨o, h1⟩, n1⟩
  · exact .inr h
theorem ScrAt.sq {G : Gd} {W : Wd} {a : Addr} {xs : List V} (h : ScrAt G W a xs) : SqL G.K W.H a xs := by
  rcases h with ⟨h, _⟩ | h
  · exact .inl h
  · exact .inr h
mutual
theorem Rep.mono0 {G : Gd} {W W' : Wd} (e : Ext0 W W') : ∀ {d : D} {v : V}, Rep G W d v → Rep G W' d v
  | .non, _, h => h
  | .bl _, _, h => h
  | .int _, _, h => h
  | .str _, _, h => h
  | .ty _, _, h => h
  | .gr _, _, h => h
  | .tup ds, _, h => by
    obtain ⟨a, xs, e1, h1, n1, r⟩ := h
    obtain ⟨h2, n2⟩ := e.h a _ h1 n1
    exact ⟨a, xs, e1, h2, n2, RepL.mono0 e r⟩
  | .lst ds, _, h => by
    obtain ⟨a, xs, e1, h1, n1, r⟩ := h
    obtain ⟨h2, n2⟩ := e.h a _ h1 n1
    exact ⟨a, xs, e1, h2, n2, RepL.mono0 e r⟩
  | .kt ds, _, h => by
    obtain ⟨a, xs, e1, h1, r⟩ := h
    exact ⟨a, xs, e1, h1, RepL.mono0 e r⟩
  | .loc l, _, h => by
    obtain ⟨a, e1, e2⟩ := h
    exact ⟨a, e.pla l a e1, e2⟩
  | .scr ns, _, h => by
    obtain ⟨a, e1, h1⟩ := h
    exact ⟨a, e1, h1.mono e⟩
  | .dic, _, h => by
    obtain ⟨a, e1, h1, n1⟩ := h
    obtain ⟨h2, n2⟩ := e.h a _ h1 n1
    exact ⟨a, e1, h2, n2⟩
  | .exn _ _ _ _, _, h => by
    obtain ⟨a, dd, e1, e2, h⟩ := h
    refine ⟨a, dd, e.ea.trans e1, e2, h.imp id fun ⟨h1, b, u, h2, h3, h4, h5⟩ => ?_⟩
    obtain ⟨g1, g2⟩ := e.h b _ h3 h4
    exact ⟨h1, b, u, h2, g1, g2, Rep.mono0 e h5⟩
theorem RepL.mono0 {G : Gd} {W W' : Wd} (e : Ext0 W W') : ∀ {ds : List D} {vs : List V}, RepL G W ds vs → RepL G W' ds vs
  | [], _, h => h
  | _ :: _, _, h => by
    obtain ⟨v, r, e1, h1, h2⟩ := h
    exact ⟨v, r, e1, Rep.mono0 e h1, RepL.mono0 e h2⟩
end
theorem Rep.mono {G : Gd} {W W' : Wd} {d : D} {v : V} (e : Ext W W') (h : Rep G W d v) : Rep G W' d v := h.mono0 e.toExt0
theorem RepL.mono {G : Gd} {W W' : Wd} {d : List D} {v : List V} (e : Ext W W') (h : RepL G W d v) : RepL G W' d v := RepL.mono0 e.toExt0 h

section
variable {G : Gd} {W W' : Wd}
theorem RepL.length : ∀ {ds : List D} {vs : List V}, RepL G W ds vs → ds.length = vs.length
  | [], _, h => by
    have h : _ = [] := h
    rw [h]
    rfl
  | _ :: _, _, h => by
    obtain ⟨v, r, rfl, _, h2⟩ := h
    rw [List.length_cons, List.length_cons, RepL.length h2]
theorem RepL.get : ∀ {ds : List D} {vs : List V} {i : Nat} {d : D}, RepL G W ds vs → ds[i]? = some d → ∃ v, vs[i]? = some v ∧ Rep G W d v
  | [], _, _, _, _, e => by simp at e
  | _ :: _, _, 0, _, h, e => by
    obtain ⟨v, r, rfl, h1, _⟩ := h
    simp at e
    subst e
    exact ⟨v, rfl, h1⟩
  | _ :: _, _, i + 1, _, h, e => by
    obtain ⟨v, r, rfl, _, h2⟩ := h
    simp at e
    obtain ⟨u, e1, e2⟩ := RepL.get h2 e
    exact ⟨u, by simpa using e1, e2⟩
theorem RepL.getV : ∀ {ds : List D} {vs : List V} {i : Nat} {v : V}, RepL G W ds vs → vs[i]? = some v → ∃ d, ds[i]? = some d ∧ Rep G W d v
  | [], _, _, _, h, e => by
    have h : _ = [] := h
    rw [h] at e
    simp at e
  | _ :: _, _, 0, _, h, e => by
    obtain ⟨v, r, rfl, h1, _⟩ := h
    simp at e
    subst e
    exact ⟨_, rfl, h1⟩
  | _ :: _, _, i + 1, _, h, e => by
    obtain ⟨v, r, rfl, _, h2⟩ := h
    simp at e
    obtain ⟨u, e1, e2⟩ := RepL.getV h2 e
    exact ⟨u, by simpa using e1, e2⟩
theorem RepL.append : ∀ {ds es : List D} {vs us : List V}, RepL G W ds vs → RepL G W es us → RepL G W (ds ++ es) (vs ++ us)
  | [], _, _, _, h, k => by
    have h : _ = [] := h
    rw [h]
    exact k
  | _ :: _, _, _, _, h, k => by
    obtain ⟨v, r, rfl, h1, h2⟩ := h
    exact ⟨v, _, rfl, h1, RepL.append h2 k⟩
theorem RepL.set : ∀ {ds : List D} {vs : List V} {d : D} {v : V} (i : Nat), RepL G W ds vs → Rep G W d v → RepL G W (ds.set i d) (vs.set i v)
  | [], _, _, _, _, h, _ => by
    have h : _ = [] := h
    rw [h]
    rfl
  | _ :: _, _, _, _, 0, h, k => by
    obtain ⟨v, r, rfl, h1, h2⟩ := h
    exact ⟨_, r, rfl, k, h2⟩
  | _ :: _, _, _, _, i + 1, h, k => by
    obtain ⟨v, r, rfl, h1, h2⟩ := h
    exact ⟨v, _, rfl, h1, RepL.set i h2 k⟩
theorem RepL.take : ∀ {ds : List D} {vs : List V} (n : Nat), RepL G W ds vs → RepL G W (ds.take n) (vs.take n)
  | _, _, 0, _ => by
    rw [List.take_zero, List.take_zero]
    rfl
  | [], _, n + 1, h => by
    have h : _ = [] := h
    rw [h]
    rfl
  | _ :: _, _, n + 1, h => by
    obtain ⟨v, r, rfl, h1, h2⟩ := h
    exact ⟨v, _, rfl, h1, RepL.take n h2⟩
theorem RepL.drop : ∀ {ds : List D} {vs : List V} (n : Nat), RepL G W ds vs → RepL G W (ds.drop n) (vs.drop n)
  | _, _, 0, h => h
  | [], _, n + 1, h => by
    have h : _ = [] := h
    rw [h]
    rfl
  | _ :: _, _, n + 1, h => by
    obtain ⟨v, r, rfl, h1, h2⟩ := h
    exact RepL.drop n h2
theorem RepL.reverse : ∀ {ds : List D} {vs : List V}, RepL G W ds vs → RepL G W ds.reverse vs.reverse
  | [], _, h => by
    have h : _ = [] := h
    rw [h]
    rfl
  | _ :: _, _, h => by
    obtain ⟨v, r, rfl, h1, h2⟩ := h
    rw [List.reverse_cons, List.reverse_cons]
    exact RepL.append (RepL.reverse h2) ⟨v, [], rfl, h1, rfl⟩
theorem RepL.eraseIdx : ∀ {ds : List D} {vs : List V} (i : Nat), RepL G W ds vs → RepL G W (ds.eraseIdx i) (vs.eraseIdx i)
  | [], _, _, h => by
    have h : _ = [] := h
    rw [h]
    rfl
  | _ :: _, _, 0, h => by
    obtain ⟨v, r, rfl, h1, h2⟩ := h
    exact h2
  | _ :: _, _, i + 1, h => by
    obtain ⟨v, r, rfl, h1, h2⟩ := h
    exact ⟨v, _, rfl, h1, RepL.eraseIdx i h2⟩
theorem RepL.ints : ∀ {ns : List Int} {vs : List V}, RepL G W (ns.map D.int) vs → vs = ns.map V.int
  | [], _, h => h
  | n :: ns, _, h => by
    obtain ⟨v, r, rfl, h1, h2⟩ := h
    have h1 : v = .int n := h1
    rw [h1, RepL.ints h2]
    rfl
theorem RepL.of_ints : ∀ (ns : List Int), RepL G W (ns.map D.int) (ns.map V.int)
  | [] => rfl
  | n :: ns => ⟨_, _, rfl, rfl, RepL.of_ints ns⟩
theorem RepL.of_bls : ∀ (ns : List Bool), RepL G W (ns.map D.bl) (ns.map V.bl)
  | [] => rfl
  | n :: ns => ⟨_, _, rfl, rfl, RepL.of_bls ns⟩
theorem RepL.bls : ∀ {ns : List Bool} {vs : List V}, RepL G W (ns.map D.bl) vs → vs = ns.map V.bl
  | [], _, h => h
  | n :: ns, _, h => by
    obtain ⟨v, r, rfl, h1, h2⟩ := h
    have h1 : v = .bl n := h1
    rw [h1, RepL.bls h2]
    rfl

theorem WOk.own_lst (k : WOk G W) {a : Addr} (h : W.own a) : ∃ xs, W.H a = some (.lst xs) := by
  rcases h with h | ⟨l, ds, h1, h2⟩
  · exact k.hidT a h
  obtain ⟨a', xs, h3, h4, _⟩ := k.there l ds h1
  rw [h2] at h3
  cases h3
  exact ⟨xs, h4⟩
theorem WOk.not_own (k : WOk G W) {a : Addr} (h : W.H a = none) : ¬ W.own a := fun o => by
  obtain ⟨xs, e⟩ := k.own_lst o
  rw [h] at e
  cases e

/-- a new thing that no place owns -/
abbrev Wd.new (W : Wd) (p : Addr) (o : HO) : Wd := { W with H := upd W.H p o }
theorem ext_new {p : Addr} {o : HO} (k : WOk G W) (hp : W.H p = none) : Ext W (W.new p o) :=
  ⟨⟨fun _ _ h => h, fun a u h n _ => ⟨by
    show upd W.H p o a = some u
    rw [upd_ne (ne_of_none h hp)]
    exact h, n⟩, rfl⟩, rfl, fun a h => by
    obtain ⟨xs, e⟩ := k.hidT a h
    exact upd_ne (ne_of_none e hp)⟩
theorem ok_new {p : Addr} {o : HO} (k : WOk G W) (hp : W.H p = none) : WOk G (W.new p o) := by
  refine ⟨k.len, k.inj, fun l ds h => ?_, fun a h => ?_, k.hidP, k.hidN, fun q h => tab_new (k.tab q h) hp⟩
  · obtain ⟨a, xs, h1, h2, h3⟩ := k.there l ds h
    refine ⟨a, xs, h1, ?_, RepL.mono (ext_new k hp) h3⟩
    show upd W.H p o a = some _
    rw [upd_ne (ne_of_none h2 hp)]
    exact h2
  · obtain ⟨xs, e⟩ := k.hidT a h
    exact ⟨xs, (upd_ne (ne_of_none e hp)).trans e⟩
theorem own_new {p : Addr} {o : HO} (k : WOk G W) (hp : W.H p = none) : ¬ (W.new p o).own p := fun h => k.not_own hp h

theorem alloc_at {α : Type} {l : List α} {x y : α} {i : Nat} (h : (l ++ [x])[i]? = some y) : (i < l.length ∧ l[i]? = some y) ∨ (i = l.length ∧ y = x) := by
  by_cases hl : i < l.length
  · rw [List.getElem?_append_left hl] at h
    exact .inl ⟨hl, h⟩
  · rw [List.getElem?_append_right (by omega)] at h
    rcases Nat.eq_zero_or_pos (i - l.length) with z | z
    · rw [z] at h
      cases h
      exact .inr ⟨by omega, rfl⟩
    · rw [List.getElem?_eq_none (by show 1 ≤ _; omega)] at h
      cases h
/-- a new place -/
abbrev Wd.alloc (W : Wd) (p : Addr) (xs : List V) (ds : List D) : Wd := { H := upd W.H p (.lst xs), pla := W.pla ++ [p], M := W.M ++ [some ds], ea := W.ea, hid := W.hid }
theorem own_alloc {p : Addr} {xs : List V} {ds : List D} (k : WOk G W) {a : Addr} (h : (W.alloc p xs ds).own a) : W.own a ∨ a = p := by
  rcases h with h | ⟨l, es, h1, h2⟩
  · exact .inl (.inl h)
  have kl := k.len
  rcases alloc_at (show (W.M ++ [some ds])[l]? = some (some es) from h1) with ⟨z, y⟩ | ⟨z, y⟩ <;> rcases alloc_at (show (W.pla ++ [p])[l]? = some a from h2) with ⟨u, v⟩ | ⟨u, v⟩ <;> first
    | exact .inl (.inr ⟨l, es, y, v⟩)
    | exact .inr v
    | omega
theorem ext_alloc {p : Addr} {xs : List V} {ds : List D} (k : WOk G W) (hp : W.H p = none) : Ext W (W.alloc p xs ds) := by
  refine ⟨⟨fun l a h => ?_, fun a o h n _ => ⟨?_, fun q => ?_⟩, rfl⟩, rfl, fun a h => ?_⟩
  · show (W.pla ++ [p])[l]? = some a
    rw [List.getElem?_append_left (List.getElem?_eq_some_iff.mp h).1]
    exact h
  · show upd W.H p _ a = some o
    rw [upd_ne (ne_of_none h hp)]
    exact h
  · rcases own_alloc k q with q | q
    · exact n q
    · rw [q, hp] at h
      cases h
  · obtain ⟨ys, e⟩ := k.hidT a h
    exact upd_ne (ne_of_none e hp)
theorem ok_alloc {p : Addr} {xs : List V} {ds : List D} (k : WOk G W) (hp : W.H p = none) (r : RepL G W ds xs) : WOk G (W.alloc p xs ds) := by
  have e := ext_alloc (xs := xs) (ds := ds) k hp
  have kl := k.len
  have used : ∀ l a, W.pla[l]? = some a → a = p → ∀ ds, W.M[l]? = some (some ds) → False := fun l a h e ds hm => by
    obtain ⟨b, ys, h1, h2, _⟩ := k.there l ds hm
    rw [h] at h1
    cases h1
    rw [e, hp] at h2
    cases h2
  refine ⟨by simp [k.len], fun l l' a es es' m m' h h' => ?_, fun l es h => ?_, fun a h => ?_, fun a ha l es m h => ?_, k.hidN, fun q h => tab_new (k.tab q h) hp⟩
  · rcases alloc_at (show (W.M ++ [some ds])[l]? = some (some es) from m) with ⟨z, y⟩ | ⟨z, y⟩ <;> rcases alloc_at (show (W.M ++ [some ds])[l']? = some (some es') from m') with ⟨z', y'⟩ | ⟨z', y'⟩ <;>
      rcases alloc_at (show (W.pla ++ [p])[l]? = some a from h) with ⟨u, v⟩ | ⟨u, v⟩ <;> rcases alloc_at (show (W.pla ++ [p])[l']? = some a from h') with ⟨u', v'⟩ | ⟨u', v'⟩ <;> first
      | exact k.inj l l' a es es' y y' v v'
      | exact (used _ _ v v' _ y).elim
      | exact (used _ _ v' v _ y').elim
      | omega
  · rcases alloc_at (show (W.M ++ [some ds])[l]? = some (some es) from h) with ⟨z, y⟩ | ⟨z, y⟩
    · obtain ⟨a, ys, h1, h2, h3⟩ := k.there l es y
      exact ⟨a, ys, e.pla l a h1, by
        show upd W.H p _ a = _
        rw [upd_ne (ne_of_none h2 hp)]
        exact h2, RepL.mono e h3⟩
    · cases y
      refine ⟨p, xs, ?_, upd_same, RepL.mono e r⟩
      show (W.pla ++ [p])[l]? = some p
      rw [z, ← k.len]
      simp
  · obtain ⟨ys, q⟩ := k.hidT a h
    exact ⟨ys, (upd_ne (ne_of_none q hp)).trans q⟩
  · rcases alloc_at (show (W.M ++ [some ds])[l]? = some (some es) from m) with ⟨z, y⟩ | ⟨z, y⟩ <;> rcases alloc_at (show (W.pla ++ [p])[l]? = some a from h) with ⟨u, v⟩ | ⟨u, v⟩ <;> first
      | exact k.hidP a ha l es y v
      | (obtain ⟨ys, q⟩ := k.hidT a ha; rw [v, hp] at q; cases q)
      | omega

/-- what stands at a place changes -/
abbrev Wd.put (W : Wd) (l : Nat) (a : Addr) (xs : List V) (ds : List D) : Wd := { W with H := upd W.H a (.lst xs), M := W.M.set l (some ds) }
theorem put_back {l : Nat} {ds es : List D} {M : Mem} (hm : M[l]? = some (some es)) {i : Nat} {fs : List D} (h : (M.set l (some ds))[i]? = some (some fs)) : ∃ gs, M[i]? = some (some gs) := by
  by_cases z : l = i
  · subst z
    exact ⟨es, hm⟩
  · rw [List.getElem?_set_ne z] at h
    exact ⟨fs, h⟩
theorem own_put {l : Nat} {a : Addr} {xs : List V} {ds es : List D} (hm : W.M[l]? = some (some es)) (hp : W.pla[l]? = some a) {b : Addr} : (W.put l a xs ds).own b ↔ W.own b := by
  have hl : l < W.M.length := (List.getElem?_eq_some_iff.mp hm).1
  constructor
  · rintro (h | ⟨i, fs, h1, h2⟩)
    · exact .inl h
    obtain ⟨gs, h3⟩ := put_back hm (show (W.M.set l (some ds))[i]? = some (some fs) from h1)
    exact .inr ⟨i, gs, h3, h2⟩
  · rintro (h | ⟨i, fs, h1, h2⟩)
    · exact .inl h
    by_cases e : l = i
    · subst e
      exact .inr ⟨l, ds, List.getElem?_set_self hl, h2⟩
    · exact .inr ⟨i, fs, by
        show (W.M.set l (some ds))[i]? = _
        rw [List.getElem?_set_ne e]
        exact h1, h2⟩
theorem ext_put {l : Nat} {a : Addr} {xs : List V} {ds es : List D} (k : WOk G W) (hm : W.M[l]? = some (some es)) (hp : W.pla[l]? = some a) : Ext W (W.put l a xs ds) := by
  refine ⟨⟨fun _ _ h => h, fun b o h n _ => ⟨?_, fun q => n ((own_put hm hp).mp q)⟩, rfl⟩, rfl, fun b h => ?_⟩
  · have : b ≠ a := fun e => n (by
      rw [e]
      exact .inr ⟨l, es, hm, hp⟩)
    show upd W.H a _ b = _
    rw [upd_ne this]
    exact h
  · exact upd_ne fun e => k.hidP b h l es hm (e ▸ hp)
theorem ok_put {l : Nat} {a : Addr} {xs : List V} {ds es : List D} (k : WOk G W) (hm : W.M[l]? = some (some es)) (hp : W.pla[l]? = some a) (r : RepL G W ds xs) : WOk G (W.put l a xs ds) := by
  have e := ext_put (xs := xs) (ds := ds) k hm hp
  have hl : l < W.M.length := (List.getElem?_eq_some_iff.mp hm).1
  refine ⟨by simp [k.len], fun i i' b fs fs' m m' h h' => ?_, fun i fs h => ?_, fun b h => ?_, fun b hb i fs m h => ?_, k.hidN, fun q h => by
    obtain ⟨a', ys, h1, h2, _⟩ := k.there l es hm
    rw [hp] at h1
    cases h1
    exact tab_put (k.tab q h) h2⟩
  · obtain ⟨_, m⟩ := put_back hm m
    obtain ⟨_, m'⟩ := put_back hm m'
    exact k.inj i i' b _ _ m m' h h'
  · have h : (W.M.set l (some ds))[i]? = some (some fs) := h
    by_cases z : l = i
    · subst z
      rw [List.getElem?_set_self hl] at h
      cases h
      exact ⟨a, xs, hp, upd_same, RepL.mono e r⟩
    · rw [List.getElem?_set_ne z] at h
      obtain ⟨b, ys, h1, h2, h3⟩ := k.there i fs h
      refine ⟨b, ys, h1, ?_, RepL.mono e h3⟩
      have : b ≠ a := fun q => z (k.inj l i a es fs hm h hp (q ▸ h1))
      show upd W.H a _ b = _
      rw [upd_ne this]
      exact h2
  · obtain ⟨ys, q⟩ := k.hidT b h
    have : b ≠ a := fun e => k.hidP b h l es hm (e ▸ hp)
    exact ⟨ys, (upd_ne this).trans q⟩
  · obtain ⟨_, m⟩ := put_back hm m
    exact k.hidP b hb i _ m h
end
end DM

/-! DM: what code does on data; the rules of expressions and statements. -/
namespace DM
open PySem PySem.Spec PyProof.Rows L2

inductive R (α : Type) where
  | ok (a : α) (M : Mem) | exc (x : D) (M : Mem) | bad
def R.bind {α β : Type} (r : R α) (k : α → Mem → R β) : R β := match r with
  | .ok a M => k a M
  | .exc x M => .exc x M
  | .bad => .bad
@[simp] theorem R.bind_ok {α β : Type} (a : α) (M : Mem) (k : α → Mem → R β) : (R.ok a M).bind k = k a M := rfl
@[simp] theorem R.bind_exc {α β : Type} (x : D) (M : Mem) (k : α → Mem → R β) : (R.exc (α := α) x M).bind k = .exc x M := rfl
@[simp] theorem R.bind_bad {α β : Type} (k : α → Mem → R β) : (R.bad (α := α)).bind k = .bad := rfl
abbrev EM := DSt → Mem → R D
abbrev TM := DSt → Mem → R Bool
abbrev AM := DSt → Mem → R (List D)
inductive RS where
  | nx (σ : DSt) (M : Mem) | rt (d : D) (M : Mem) | bk (σ : DSt) (M : Mem) | ct (σ : DSt) (M : Mem) | exc (x : D) (σ : DSt) (M : Mem) | bad
abbrev SM := DSt → Mem → RS
abbrev FM := List D → Mem → R D

def RelS (G : Gd) (W : Wd) (τ : DSt) (σ : L2.St) : Prop := τ.length = σ.length ∧ ∀ (i : Nat) (d : D), τ[i]? = some (some d) → ∃ v, σ[i]? = some (some v) ∧ Rep G W d v
def RepX (G : Gd) (W : Wd) (x : D) (cls : Value) (dd : Option Addr) : Prop := match x with
  | .exn c has f d => cls = .ref (G.ca c) ∧ if has = true then ∃ a v, dd = some a ∧ W.H a = some (.xd [(f, v)]) ∧ ¬ W.own a ∧ Rep G W d v else dd = none
  | _ => False
theorem RelS.mono {G : Gd} {W W' : Wd} {τ : DSt} {σ : L2.St} (e : Ext W W') (h : RelS G W τ σ) : RelS G W' τ σ :=
  ⟨h.1, fun i d q => let ⟨v, h1, h2⟩ := h.2 i d q; ⟨v, h1, h2.mono e⟩⟩
theorem RelS.mono0 {G : Gd} {W W' : Wd} {τ : DSt} {σ : L2.St} (e : Ext0 W W') (h : RelS G W τ σ) : RelS G W' τ σ :=
  ⟨h.1, fun i d q => let ⟨v, h1, h2⟩ := h.2 i d q; ⟨v, h1, h2.mono0 e⟩⟩
theorem RepX.mono {G : Gd} {W W' : Wd} {x : D} {cls : Value} {dd : Option Addr} (e : Ext W W') (h : RepX G W x cls dd) : RepX G W' x cls dd := by
  cases x with
  | exn c has f d =>
    obtain ⟨h1, h2⟩ := h
    refine ⟨h1, ?_⟩
    cases has with
    | false => exact h2
    | true =>
      obtain ⟨a, v, e1, e2, e3, e4⟩ := h2
      obtain ⟨f1, f2⟩ := e.h a _ e2 e3
      exact ⟨a, v, e1, f1, f2, e4.mono e⟩
  | _ => exact h.elim
theorem RelS.set {G : Gd} {W : Wd} {τ : DSt} {σ : L2.St} {d : D} {v : V} (h : RelS G W τ σ) (i : Nat) (r : Rep G W d v) : RelS G W (τ.set i (some d)) (σ.set i (some v)) := by
  refine ⟨by simp [h.1], fun j e q => ?_⟩
  by_cases hj : i = j
  · subst hj
    by_cases hl : i < τ.length
    · rw [List.getElem?_set_self hl] at q
      cases q
      exact ⟨v, List.getElem?_set_self (by rw [← h.1]; exact hl), r⟩
    · rw [List.getElem?_eq_none (by simpa using hl)] at q
      cases q
  · rw [List.getElem?_set_ne hj] at q
    rw [List.getElem?_set_ne hj]
    exact h.2 j e q

/-- what is wanted behind a piece of code that gives r -/
def pR (G : Gd) (Wx : WX) {α β : Type} (rel : Wd → α → β → Prop) (W : Wd) (σ : L2.St) (r : R α) (Q : β → Hp → Prop) : Prop := match r with
  | .ok a M => ∀ b W', W'.M = M → WOk G W' → Ext W W' → rel W' a b → Q b W'.H
  | .exc x M => ∀ cls dd W', W'.M = M → WOk G W' → Ext W W' → RepX G W' x cls dd → Wx cls dd σ W'.H
  | .bad => False
def tR (G : Gd) (Wx : WX) (ea : Option (Addr × String × Option Addr)) {α β : Type} (rel : Wd → α → β → Prop) (m : DSt → Mem → R α) : L2.St → Hp → (β → Hp → Prop) → Prop := fun σ H Q =>
  ∃ τ W, W.H = H ∧ W.ea = ea ∧ WOk G W ∧ RelS G W τ σ ∧ pR G Wx rel W σ (m τ W.M) Q
abbrev rT : Wd → Bool → Bool → Prop := fun _ a b => a = b

section
variable {G : Gd} {Wx : WX} {α β γ δ : Type} {rel : Wd → α → β → Prop} {rel2 : Wd → γ → δ → Prop} {W W' : Wd} {σ : L2.St} {τ : DSt}
theorem pR.ext {r : R α} {Q : β → Hp → Prop} (e : Ext W W') (h : pR G Wx rel W σ r Q) : pR G Wx rel W' σ r Q := by
  cases r with
  | ok a M => exact fun b W2 m k e2 q => h b W2 m k (e.trans e2) q
  | exc x M => exact fun c d W2 m k e2 q => h c d W2 m k (e.trans e2) q
  | bad => exact h
/-- the next piece -/
theorem step {m1 : DSt → Mem → R α} {k : α → Mem → R γ} {Q : δ → Hp → Prop} {Q1 : β → Hp → Prop} {ea : Option (Addr × String × Option Addr)} (he : W.ea = ea) (ok : WOk G W) (rs : RelS G W τ σ) (hp : pR G Wx rel2 W σ ((m1 τ W.M).bind k) Q)
    (h : ∀ a b W1, WOk G W1 → Ext W W1 → rel W1 a b → pR G Wx rel2 W1 σ (k a W1.M) Q → Q1 b W1.H) : tR G Wx ea rel m1 σ W.H Q1 := by
  refine ⟨τ, W, rfl, he, ok, rs, ?_⟩
  cases e : m1 τ W.M with
  | ok a M =>
    intro b W1 hm k1 e1 r1
    rw [e] at hp
    subst hm
    exact h a b W1 k1 e1 r1 (hp.ext e1)
  | exc x M =>
    rw [e] at hp
    exact hp
  | bad =>
    rw [e] at hp
    exact hp
end

/-- a context: what is wanted of exceptions, the exception that is handled -/
structure DC (G : Gd) (X : Cx) where
  W : WX
  ea : Option (Addr × String × Option Addr)
  hK : X.K = G.K
  tk : Takes X W
section
variable {G : Gd} {X : Cx}
abbrev tE (Γ : DC G X) (m : EM) : TE := tR G Γ.W Γ.ea (Rep G) m
abbrev tT (Γ : DC G X) (m : TM) : TT := tR G Γ.W Γ.ea rT m
abbrev tA (Γ : DC G X) (m : AM) : TA := tR G Γ.W Γ.ea (RepL G) m
abbrev DE (Γ : DC G X) (e : Expr) (m : EM) : Prop := PE X e (tE Γ m)
abbrev DT (Γ : DC G X) (e : Expr) (m : TM) : Prop := PT X e (tT Γ m)
abbrev DW (Γ : DC G X) (e : Expr) (m : TM) : Prop := PW X e (tT Γ m)
abbrev DA (Γ : DC G X) (es : List Expr) (m : AM) : Prop := PA X es (tA Γ m)
end
theorem pe_imp {X : Cx} {e : Expr} {t t' : TE} (h : PE X e t) (i : ∀ σ H Q, t' σ H Q → t σ H Q) : PE X e t' := ⟨fun pins s σ H Q I q => h.run pins s σ H Q I (i _ _ _ q)⟩
theorem pt_imp {X : Cx} {e : Expr} {t t' : TT} (h : PT X e t) (i : ∀ σ H Q, t' σ H Q → t σ H Q) : PT X e t' := ⟨fun pins s σ H Q I q => h.run pins s σ H Q I (i _ _ _ q)⟩
theorem pw_imp {X : Cx} {e : Expr} {t t' : TT} (h : PW X e t) (i : ∀ σ H Q, t' σ H Q → t σ H Q) : PW X e t' := ⟨fun wh pins s σ H Q I q => h.run wh pins s σ H Q I (i _ _ _ q)⟩
theorem pa_imp {X : Cx} {e : List Expr} {t t' : TA} (h : PA X e t) (i : ∀ σ H Q, t' σ H Q → t σ H Q) : PA X e t' := ⟨fun p pins s σ H Q I q => h.run p pins s σ H Q I (i _ _ _ q)⟩
theorem ps_imp {X : Cx} {e : Stmt} {t t' : TS} (h : PS X e t) (i : ∀ D σ H, t' D σ H → t D σ H) : PS X e t' := ⟨fun pins s σ H D I q => h.run pins s σ H D I (i _ _ _ q)⟩
theorem pss_imp {X : Cx} {e : List Stmt} {t t' : TS} (h : PSs X e t) (i : ∀ D σ H, t' D σ H → t D σ H) : PSs X e t' := ⟨fun pins s σ H D I q => h.run pins s σ H D I (i _ _ _ q)⟩

/-- what an operation gives: a value, a new list, a place's new items and a value -/
inductive ON where
  | v (d : D) | l (ds : List D) | p (l : Nat) (ds : List D) (d : D)
def fin (own : Bool) (o : Option ON) (M : Mem) : R D := match o with
  | none => .bad
  | some (.v d) => .ok d M
  | some (.l ds) => if own then .ok (.loc M.length) (M ++ [some ds]) else .ok (.lst ds) M
  | some (.p l ds d) => .ok d (M.set l (some ds))
def pO (G : Gd) (W : Wd) (o : Option ON) (Q : VK) : Prop := match o with
  | none => False
  | some (.v d) => ∀ v W', W'.M = W.M → WOk G W' → Ext W W' → Rep G W' d v → Q v W'.H
  | some (.l ds) => ∀ xs p, RepL G W ds xs → W.H p = none → Q (.ref p) (upd W.H p (.lst xs))
  | some (.p l ds d) => ∀ (a : Addr) xs v (es : List D), W.M[l]? = some (some es) → W.pla[l]? = some a → RepL G W ds xs → Rep G W d v → Q v (upd W.H a (.lst xs))
section
variable {G : Gd} {Wx : WX} {W : Wd} {σ : L2.St}
theorem po_of {own : Bool} {o : Option ON} {Q : VK} (k : WOk G W) (h : pR G Wx (Rep G) W σ (fin own o W.M) Q) : pO G W o Q := by
  cases o with
  | none => exact h
  | some o =>
    cases o with
    | v d => exact fun v W' m k' e r => h v W' m k' e r
    | l ds =>
      intro xs p r hp
      cases own with
      | false => exact h (.ref p) (W.new p (.lst xs)) rfl (ok_new k hp) (ext_new k hp) ⟨p, xs, rfl, upd_same, own_new k hp, r.mono (ext_new k hp)⟩
      | true =>
        refine h (.ref p) (W.alloc p xs ds) rfl (ok_alloc k hp r) (ext_alloc k hp) ⟨p, ?_, rfl⟩
        show (W.pla ++ [p])[W.M.length]? = some p
        rw [← k.len]
        simp
    | p l ds d =>
      intro a xs v es hm hp r rd
      exact h v (W.put l a xs ds) rfl (ok_put k hm hp r) (ext_put k hm hp) (rd.mono (ext_put k hm hp))
end

/-! ### names, constants -/
@[simp] def eVar (i : Nat) : EM := fun τ M => match τ[i]? with
  | some (some d) => .ok d M
  | _ => .bad
@[simp] def eC (d : D) : EM := fun _ M => .ok d M
section
variable {G : Gd} {X : Cx} {Γ : DC G X} {pos : Pos}
theorem de_var (i : Nat) {x : Str} (hN : X.N[i]? = some x := by rfl) (hv : Vis X.env.scope x := by first | exact Or.inl rfl | exact Or.inr (Or.inl rfl) | exact Or.inr (Or.inr rfl)) (hd : (x == ("__debug__" : Str)) = false := by decide)
    (hcd : (x == ("__classdict__" : Str)) = false := by decide) : DE Γ (.Name x pos) (eVar i) := pe_imp (pe_var hN hv hd hcd) fun σ H Q q => by
  obtain ⟨τ, W, rfl, _, ok, rs, h⟩ := q
  unfold eVar at h
  split at h
  · rename_i d e
    obtain ⟨v, h1, h2⟩ := rs.2 i d e
    exact ⟨v, h1, h v W rfl ok (Ext.refl W) h2⟩
  · exact h.elim
theorem de_const {e : Expr} {v : V} {d : D} (h : PE X e (tC v)) (r : ∀ W, Rep G W d v) : DE Γ e (eC d) := pe_imp h fun σ H Q q => by
  obtain ⟨τ, W, rfl, _, ok, rs, h⟩ := q
  exact h v W rfl ok (Ext.refl W) (r W)
theorem de_int {i : Int} {j : Nat} : DE Γ (.Constant (.int i) j pos) (eC (.int i)) := de_const pe_int fun _ => rfl
theorem de_bl {b : Bool} {j : Nat} : DE Γ (.Constant (.bool b) j pos) (eC (.bl b)) := de_const pe_bl fun _ => rfl
theorem de_non {j : Nat} : DE Γ (.Constant .none j pos) (eC .non) := de_const pe_non fun _ => rfl
theorem de_str {x : Str} {j : Nat} : DE Γ (.Constant (.str x) j pos) (eC (.str x)) := de_const pe_str fun _ => rfl

/-! ### operations -/
abbrev O2 := D → D → Mem → Option ON
abbrev O1 := D → Mem → Option ON
abbrev OA := List D → Mem → Option ON
@[simp] def eBin (own : Bool) (g : O2) (a b : EM) : EM := fun τ M => (a τ M).bind fun x M1 => (b τ M1).bind fun y M2 => fin own (g x y M2) M2
@[simp] def eUn (own : Bool) (g : O1) (a : EM) : EM := fun τ M => (a τ M).bind fun x M1 => fin own (g x M1) M1
def Real2 (G : Gd) (g : O2) (r : R2) : Prop := ∀ (W : Wd) (dx dy : D) (x y : V) (Q : VK), WOk G W → Rep G W dx x → Rep G W dy y → pO G W (g dx dy W.M) Q → r x y W.H Q
def Real1 (G : Gd) (g : O1) (r : V → Hp → VK → Prop) : Prop := ∀ (W : Wd) (dx : D) (x : V) (Q : VK), WOk G W → Rep G W dx x → pO G W (g dx W.M) Q → r x W.H Q
def RealA (G : Gd) (g : OA) (r : List V → Hp → VK → Prop) : Prop := ∀ (W : Wd) (ds : List D) (xs : List V) (Q : VK), WOk G W → RepL G W ds xs → pO G W (g ds W.M) Q → r xs W.H Q
variable {a b c : Expr} {ma mb mc : EM}
theorem tOp_of {own : Bool} {g : O2} {r : R2} (hr : Real2 G g r) {σ : L2.St} {H : Hp} {Q : VK} (q : tE Γ (eBin own g ma mb) σ H Q) : tOp r (tE Γ ma) (tE Γ mb) σ H Q := by
  obtain ⟨τ, W, rfl, he, ok, rs, h⟩ := q
  refine step he ok rs h fun dx x W1 k1 e1 r1 h1 => ?_
  refine step (e1.ea.trans he) k1 (rs.mono e1) h1 fun dy y W2 k2 e2 r2 h2 => ?_
  exact hr W2 dx dy x y Q k2 (r1.mono e2) r2 (po_of k2 h2)
theorem de_bin (own : Bool) {op : Operator} {g : O2} {r : R2} (hr : Real2 G g r) (ho : OpR X (binaryOp op) r) (ha : DE Γ a ma) (hb : DE Γ b mb) : DE Γ (.BinOp a op b pos) (eBin own g ma mb) :=
  pe_imp (pe_op ho ha hb) fun _ _ _ q => tOp_of hr q
theorem de_un (own : Bool) {op : UnaryOp} {g : O1} {r : V → Hp → VK → Prop} (hr : Real1 G g r) (ho : UnR X (unaryOp op) r) (ha : DE Γ a ma) : DE Γ (.UnaryOp op a pos) (eUn own g ma) := pe_imp (pe_un ho ha) fun σ H Q q => by
  obtain ⟨τ, W, rfl, he, ok, rs, h⟩ := q
  show tE Γ ma σ W.H _
  exact step he ok rs h fun dx x W1 k1 e1 r1 h1 => hr W1 dx x Q k1 r1 (po_of k1 h1)
theorem de_cmp {op : CmpOp} {g : O2} {r : R2} (hr : Real2 G g r) (ho : OpR X (compareOp op) r) (ha : DE Γ a ma) (hb : DE Γ b mb) (hm : behindInMarks op b = false := by first | exact nomark _ | rfl) :
    DE Γ (.Compare a [op] [b] pos) (eBin false g ma mb) := pe_imp (pe_cmpR ho ha hb hm) fun _ _ _ q => tOp_of hr q
/-- a test from a value that is a bool -/
@[simp] def asB (m : EM) : TM := fun τ M => (m τ M).bind fun x M1 => match x with
  | .bl k => .ok k M1
  | _ => .bad
theorem dt_of {e : Expr} {m : EM} {t : TE} (h : PT X e (tTest t)) (i : ∀ σ H Q, tE Γ m σ H Q → t σ H Q) : DT Γ e (asB m) := pt_imp h fun σ H Q q => by
  refine i σ H _ ?_
  obtain ⟨τ, W, rfl, he, ok, rs, h⟩ := q
  refine step he ok rs h fun dx x W1 k1 e1 r1 h1 => ?_
  cases dx with
  | bl k => exact ⟨k, r1, h1 k W1 rfl k1 (Ext.refl W1) rfl⟩
  | _ => exact h1.elim
theorem dt_cmp {op : CmpOp} {g : O2} {r : R2} (hr : Real2 G g r) (ho : OpR X (compareOp op) r) (ha : DE Γ a ma) (hb : DE Γ b mb) (hm : behindInMarks op b = false := by first | exact nomark _ | rfl) :
    DT Γ (.Compare a [op] [b] pos) (asB (eBin false g ma mb)) := dt_of (pt_cmpR ho ha hb hm) fun _ _ _ q => tOp_of hr q
/-- a < b < c -/
@[simp] def eChain (g g' : O2) (a b c : EM) : EM := fun τ M => (a τ M).bind fun x M1 => (b τ M1).bind fun y M2 => (fin false (g x y M2) M2).bind fun z M3 => match z with
  | .bl true => (c τ M3).bind fun w M4 => fin false (g' y w M4) M4
  | .bl false => .ok (.bl false) M3
  | _ => .bad
theorem tChain_of {g g' : O2} {r r' : R2} (hr : Real2 G g r) (hr' : Real2 G g' r') (hn : ∀ x y M o, g x y M = some o → ∃ d, o = .v d) {σ : L2.St} {H : Hp} {Q : VK} (q : tE Γ (eChain g g' ma mb mc) σ H Q) : tChain r r' (tE Γ ma) (tE Γ mb) (tE Γ mc) σ H Q := by
  obtain ⟨τ, W, rfl, he, ok, rs, h⟩ := q
  refine step he ok rs h fun dx x W1 k1 e1 r1 h1 => ?_
  refine step (e1.ea.trans he) k1 (rs.mono e1) h1 fun dy y W2 k2 e2 r2 h2 => ?_
  refine hr W2 dx dy x y _ k2 (r1.mono e2) r2 ?_
  cases eg : g dx dy W2.M with
  | none =>
    rw [eg] at h2
    exact h2
  | some o =>
    obtain ⟨d, rfl⟩ := hn _ _ _ _ eg
    rw [eg] at h2
    intro v W3 m3 k3 e3 r3
    have h3 := h2.ext e3
    simp only [fin, R.bind_ok] at h3
    rw [← m3] at h3
    cases d with
    | bl k =>
      refine ⟨k, r3, ?_⟩
      cases k with
      | false => exact h3 _ W3 rfl k3 (Ext.refl W3) rfl
      | true =>
        rw [if_pos rfl]
        refine step (e3.ea.trans (e2.ea.trans (e1.ea.trans he))) k3 (((rs.mono e1).mono e2).mono e3) h3 fun dz z W4 k4 e4 r4 h4 => ?_
        exact hr' W4 dy dz y z Q k4 ((r2.mono e3).mono e4) r4 (po_of k4 h4)
    | _ => exact h3.elim
theorem de_chain {op op' : CmpOp} {g g' : O2} {r r' : R2} (hr : Real2 G g r) (hr' : Real2 G g' r') (hn : ∀ x y M o, g x y M = some o → ∃ d, o = .v d) (ho : OpR X (compareOp op) r) (ho' : OpR X (compareOp op') r') (ha : DE Γ a ma) (hb : DE Γ b mb) (hc : DE Γ c mc)
    (hm : lastMarks [op, op'] [b, c] = false := by with_unfolding_all rfl) : DE Γ (.Compare a [op, op'] [b, c] pos) (eChain g g' ma mb mc) := pe_imp (pe_chain ho ho' ha hb hc hm) fun _ _ _ q => tChain_of hr hr' hn q
theorem dt_chain {op op' : CmpOp} {g g' : O2} {r r' : R2} (hr : Real2 G g r) (hr' : Real2 G g' r') (hn : ∀ x y M o, g x y M = some o → ∃ d, o = .v d) (ho : OpR X (compareOp op) r) (ho' : OpR X (compareOp op') r') (ha : DE Γ a ma) (hb : DE Γ b mb) (hc : DE Γ c mc)
    (hm : lastMarks [op, op'] [b, c] = false := by with_unfolding_all rfl) : DT Γ (.Compare a [op, op'] [b, c] pos) (asB (eChain g g' ma mb mc)) := dt_of (pt_chain ho ho' ha hb hc hm) fun _ _ _ q => tChain_of hr hr' hn q

/-! ### and, or, not, if -/
variable {ta tb : TM} {rest : List Expr}
@[simp] def mAnd (a b : TM) : TM := fun τ M => (a τ M).bind fun x M1 => if x = true then b τ M1 else .ok false M1
@[simp] def mOr (a b : TM) : TM := fun τ M => (a τ M).bind fun x M1 => if x = true then .ok true M1 else b τ M1
@[simp] def mNot (a : TM) : TM := fun τ M => (a τ M).bind fun x M1 => .ok (!x) M1
theorem dw_and1 (ha : DT Γ a ta) : DW Γ (.BoolOp .And [a] pos) ta := pw_and1 ha
theorem dw_or1 (ha : DT Γ a ta) : DW Γ (.BoolOp .Or [a] pos) ta := pw_or1 ha
theorem dw_and (ha : DT Γ a ta) (hb : DW Γ (.BoolOp .And (b :: rest) pos) tb) : DW Γ (.BoolOp .And (a :: b :: rest) pos) (mAnd ta tb) := pw_imp (pw_and ha hb) fun σ H Q q => by
  obtain ⟨τ, W, rfl, he, ok, rs, h⟩ := q
  show tT Γ ta σ W.H _
  refine step he ok rs h fun dx x W1 k1 e1 r1 h1 => ?_
  cases r1
  cases dx with
  | true => exact ⟨τ, W1, rfl, by rw [e1.ea, he], k1, rs.mono e1, h1⟩
  | false => exact h1 false W1 rfl k1 (Ext.refl W1) rfl
theorem dw_or (ha : DT Γ a ta) (hb : DW Γ (.BoolOp .Or (b :: rest) pos) tb) : DW Γ (.BoolOp .Or (a :: b :: rest) pos) (mOr ta tb) := pw_imp (pw_or ha hb) fun σ H Q q => by
  obtain ⟨τ, W, rfl, he, ok, rs, h⟩ := q
  show tT Γ ta σ W.H _
  refine step he ok rs h fun dx x W1 k1 e1 r1 h1 => ?_
  cases r1
  cases dx with
  | false => exact ⟨τ, W1, rfl, by rw [e1.ea, he], k1, rs.mono e1, h1⟩
  | true => exact h1 true W1 rfl k1 (Ext.refl W1) rfl
theorem dt_w {e : Expr} (h : DW Γ e ta) : DT Γ e ta := h.pt
theorem dt_not (ha : DT Γ a ta) : DT Γ (.UnaryOp .Not a pos) (mNot ta) := pt_imp (pt_not ha) fun σ H Q q => by
  obtain ⟨τ, W, rfl, he, ok, rs, h⟩ := q
  show tT Γ ta σ W.H _
  refine step he ok rs h fun dx x W1 k1 e1 r1 h1 => ?_
  cases r1
  exact h1 _ W1 rfl k1 (Ext.refl W1) rfl
@[simp] def eAnd (a b : EM) : EM := fun τ M => (a τ M).bind fun x M1 => match x with
  | .bl true => b τ M1
  | .bl false => .ok (.bl false) M1
  | _ => .bad
@[simp] def eOr (a b : EM) : EM := fun τ M => (a τ M).bind fun x M1 => match x with
  | .bl false => b τ M1
  | .bl true => .ok (.bl true) M1
  | _ => .bad
@[simp] def eNot (a : EM) : EM := fun τ M => (a τ M).bind fun x M1 => match x with
  | .bl k => .ok (.bl (!k)) M1
  | _ => .bad
theorem de_one {op : BoolOp} (ha : DE Γ a ma) : DE Γ (.BoolOp op [a] pos) ma := pe_one ha
theorem de_and (ha : DE Γ a ma) (hb : DE Γ (.BoolOp .And (b :: rest) pos) mb) : DE Γ (.BoolOp .And (a :: b :: rest) pos) (eAnd ma mb) := pe_imp (pe_and ha hb) fun σ H Q q => by
  obtain ⟨τ, W, rfl, he, ok, rs, h⟩ := q
  show tE Γ ma σ W.H _
  refine step he ok rs h fun dx x W1 k1 e1 r1 h1 => ?_
  cases dx with
  | bl k =>
    refine ⟨k, r1, ?_⟩
    cases k with
    | true => exact ⟨τ, W1, rfl, by rw [e1.ea, he], k1, rs.mono e1, h1⟩
    | false => exact h1 _ W1 rfl k1 (Ext.refl W1) rfl
  | _ => exact h1.elim
theorem de_or (ha : DE Γ a ma) (hb : DE Γ (.BoolOp .Or (b :: rest) pos) mb) : DE Γ (.BoolOp .Or (a :: b :: rest) pos) (eOr ma mb) := pe_imp (pe_or ha hb) fun σ H Q q => by
  obtain ⟨τ, W, rfl, he, ok, rs, h⟩ := q
  show tE Γ ma σ W.H _
  refine step he ok rs h fun dx x W1 k1 e1 r1 h1 => ?_
  cases dx with
  | bl k =>
    refine ⟨k, r1, ?_⟩
    cases k with
    | false => exact ⟨τ, W1, rfl, by rw [e1.ea, he], k1, rs.mono e1, h1⟩
    | true => exact h1 _ W1 rfl k1 (Ext.refl W1) rfl
  | _ => exact h1.elim
theorem de_not (ha : DE Γ a ma) : DE Γ (.UnaryOp .Not a pos) (eNot ma) := pe_imp (pe_not ha) fun σ H Q q => by
  obtain ⟨τ, W, rfl, he, ok, rs, h⟩ := q
  show tE Γ ma σ W.H _
  refine step he ok rs h fun dx x W1 k1 e1 r1 h1 => ?_
  cases dx with
  | bl k => exact ⟨k, r1, h1 _ W1 rfl k1 (Ext.refl W1) rfl⟩
  | _ => exact h1.elim
@[simp] def eIf (t : TM) (a b : EM) : EM := fun τ M => (t τ M).bind fun x M1 => if x = true then a τ M1 else b τ M1
theorem de_if (hc : DT Γ c ta) (ha : DE Γ a ma) (hb : DE Γ b mb) : DE Γ (.IfExp c a b pos) (eIf ta ma mb) := pe_imp (pe_ifExp hc ha hb) fun σ H Q q => by
  obtain ⟨τ, W, rfl, he, ok, rs, h⟩ := q
  show tT Γ ta σ W.H _
  refine step he ok rs h fun dx x W1 k1 e1 r1 h1 => ?_
  cases r1
  cases dx with
  | true => exact ⟨τ, W1, rfl, by rw [e1.ea, he], k1, rs.mono e1, h1⟩
  | false => exact ⟨τ, W1, rfl, by rw [e1.ea, he], k1, rs.mono e1, h1⟩
/-- a value's truth -/
def dTru : D → Mem → Option Bool
  | .non, _ => some false
  | .bl b, _ => some b
  | .int i, _ => some (i != 0)
  | .tup ds, _ => some (!ds.isEmpty)
  | .lst ds, _ => some (!ds.isEmpty)
  | .kt ds, _ => some (!ds.isEmpty)
  | .loc l, M => match M[l]? with
    | some (some ds) => some (!ds.isEmpty)
    | _ => none
  | .dic, _ => some false
  | _, _ => none
@[simp] def asT (m : EM) : TM := fun τ M => (m τ M).bind fun x M1 => match dTru x M1 with
  | some k => .ok k M1
  | none => .bad
theorem RepL.isEmpty {W : Wd} {ds : List D} {xs : List V} (r : RepL G W ds xs) : xs.isEmpty = ds.isEmpty := by
  cases ds with
  | nil =>
    have r : xs = [] := r
    rw [r]
    rfl
  | cons d ds =>
    obtain ⟨v, r, rfl, _⟩ := r
    rfl
theorem KTup.sq {K : PySem.W.Frag} {H : Hp} {a : Addr} {xs : List V} (e : K = G.K) (h : KTup G a xs) : SqT K H a xs := by
  obtain ⟨o, its, n, h1, h2, h3, h4, h5⟩ := h
  exact .inr ⟨o, its, n, by rw [e]; exact h1, h2, h3, h4, h5⟩
theorem tru_of {W : Wd} {d : D} {v : V} {k : Bool} (ok : WOk G W) (r : Rep G W d v) (h : dTru d W.M = some k) : TruV G.K v W.H k := by
  cases d with
  | non => cases r; cases h; rfl
  | bl b => cases r; cases h; rfl
  | int i => cases r; cases h; rfl
  | tup ds =>
    obtain ⟨a, xs, rfl, h1, _, r⟩ := r
    cases h
    exact .inr (.inl ⟨xs, .of h1, by rw [r.isEmpty]⟩)
  | lst ds =>
    obtain ⟨a, xs, rfl, h1, _, r⟩ := r
    cases h
    exact .inl ⟨xs, .of h1, by rw [r.isEmpty]⟩
  | kt ds =>
    obtain ⟨a, xs, rfl, h1, r⟩ := r
    cases h
    exact .inr (.inl ⟨xs, h1.sq rfl, by rw [r.isEmpty]⟩)
  | loc l =>
    obtain ⟨a, h1, rfl⟩ := r
    have h : (match W.M[l]? with
      | some (some ds) => some (!ds.isEmpty)
      | _ => none) = some k := h
    split at h
    · rename_i ds e
      cases h
      obtain ⟨a', xs, h2, h3, h4⟩ := ok.there l ds e
      rw [h1] at h2
      cases h2
      exact .inl ⟨xs, .of h3, by rw [h4.isEmpty]⟩
    · cases h
  | dic =>
    obtain ⟨a, rfl, h1, _⟩ := r
    cases h
    exact .inr (.inr ⟨[], h1, rfl⟩)
  | _ => cases h
theorem dt_tru (ha : DE Γ a ma) (he : ∀ whole, isTrue a X.env whole = (do let v ← whole; standAt a.pos; holding [v] (truthy v)) := by intro _; rfl) : DT Γ a (asT ma) := pt_imp (pt_truth ha he) fun σ H Q q => by
  obtain ⟨τ, W, rfl, he, ok, rs, h⟩ := q
  refine step he ok rs h fun dx x W1 k1 e1 r1 h1 => ?_
  cases e : dTru dx W1.M with
  | none =>
    rw [e] at h1
    exact h1.elim
  | some k =>
    rw [e] at h1
    exact ⟨k, by rw [Γ.hK]; exact tru_of k1 r1 e, h1 k W1 rfl k1 (Ext.refl W1) rfl⟩

/-! ### argument lists, displays, calls of builtins -/
@[simp] def aNil : AM := fun _ M => .ok [] M
@[simp] def aCons (a : EM) (r : AM) : AM := fun τ M => (a τ M).bind fun x M1 => (r τ M1).bind fun xs M2 => .ok (x :: xs) M2
variable {es : List Expr} {mr : AM}
theorem da_nil : DA Γ [] aNil := pa_imp pa_nil fun σ H Q q => by
  obtain ⟨τ, W, rfl, he, ok, rs, h⟩ := q
  exact h [] W rfl ok (Ext.refl W) rfl
theorem da_cons (ha : DE Γ a ma) (hr : DA Γ es mr) (hs : starEach (a :: es) X.env = (false, eval a X.env) :: starEach es X.env := by rfl) : DA Γ (a :: es) (aCons ma mr) := pa_imp (pa_cons ha hr hs) fun σ H Q q => by
  obtain ⟨τ, W, rfl, he, ok, rs, h⟩ := q
  show tE Γ ma σ W.H _
  refine step he ok rs h fun dx x W1 k1 e1 r1 h1 => ?_
  refine step (e1.ea.trans he) k1 (rs.mono e1) h1 fun ds xs W2 k2 e2 r2 h2 => ?_
  exact h2 (x :: xs) W2 rfl k2 (Ext.refl W2) ⟨x, xs, rfl, r1.mono e2, r2⟩
@[simp] def oTup : OA := fun ds _ => if ds.length ≤ sizeLine then some (.v (.tup ds)) else none
@[simp] def oLst : OA := fun ds _ => if ds.length ≤ sizeLine then some (.l ds) else none
@[simp] def eArgs (own : Bool) (g : OA) (r : AM) : EM := fun τ M => (r τ M).bind fun xs M1 => fin own (g xs M1) M1
theorem tArgs_of {own : Bool} {g : OA} {r : List V → Hp → VK → Prop} (hr : RealA G g r) {σ : L2.St} {H : Hp} {Q : VK} (q : tE Γ (eArgs own g mr) σ H Q) : tA Γ mr σ H fun xs H1 => r xs H1 Q := by
  obtain ⟨τ, W, rfl, he, ok, rs, h⟩ := q
  exact step he ok rs h fun ds xs W1 k1 e1 r1 h1 => hr W1 ds xs Q k1 r1 (po_of k1 h1)
theorem real_tup : RealA G oTup (fun xs H Q => xs.length ≤ sizeLine ∧ ∀ p, H p = none → Q (.ref p) (upd H p (.tup xs))) := fun W ds xs Q k r h => by
  unfold oTup at h
  split at h
  · rename_i e
    refine ⟨by rw [← r.length]; exact e, fun p hp => ?_⟩
    exact h (.ref p) (W.new p (.tup xs)) rfl (ok_new k hp) (ext_new k hp) ⟨p, xs, rfl, upd_same, own_new k hp, r.mono (ext_new k hp)⟩
  · exact h.elim
theorem real_lst : RealA G oLst (fun xs H Q => xs.length ≤ sizeLine ∧ ∀ p, H p = none → Q (.ref p) (upd H p (.lst xs))) := fun W ds xs Q k r h => by
  unfold oLst at h
  split at h
  · rename_i e
    exact ⟨by rw [← r.length]; exact e, fun p hp => h xs p r hp⟩
  · exact h.elim
theorem de_tup {x1 : Nat} (h : DA Γ es mr) : DE Γ (.Tuple es x1 pos) (eArgs false oTup mr) := pe_imp (pe_tup h) fun _ _ _ q => tArgs_of real_tup q
theorem de_lst (own : Bool) (h : DA Γ es mr) : DE Γ (.List es pos) (eArgs own oLst mr) := pe_imp (pe_lst h) fun _ _ _ q => tArgs_of real_lst q
variable {x : Str} {p : Pos}
/-- f(..), f a built-in function; a built-in type -/
theorem de_callB (own : Bool) {id : String} {g : OA} {r : List V → Hp → VK → Prop} (hr : RealA G g r) (hc : CallR X (.builtin id) r) (hm : X.mg x = none) (hv : bootBuiltins x = some (.builtin id)) (ha : DA Γ (a :: es) mr) (hg : Gl X x := by rfl) (hn : x ≠ "__name__" := by decide) (hdb : (x == ("__debug__" : Str)) = false := by decide)
    (he : starEach (a :: es) X.env = (false, eval a X.env) :: starEach es X.env := by rfl) (hpl : (backTo pos (starEach es X.env)).any (·.1) = false := by rfl) : DE Γ (.Call (.Name x p) (a :: es) [] pos) (eArgs own g mr) :=
  pe_imp (pe_callB hc hg hm hv ha hn hdb he hpl) fun _ _ _ q => tArgs_of hr q
theorem de_callTy (own : Bool) {T : String} {g : OA} {r : List V → Hp → VK → Prop} (hr : RealA G g r) (hc : CallR X (.type T) r) (hm : X.mg x = none) (hv : bootBuiltins x = some (.type T)) (ha : DA Γ (a :: es) mr) (hg : Gl X x := by rfl) (hn : x ≠ "__name__" := by decide) (hdb : (x == ("__debug__" : Str)) = false := by decide)
    (he : starEach (a :: es) X.env = (false, eval a X.env) :: starEach es X.env := by rfl) (hpl : (backTo pos (starEach es X.env)).any (·.1) = false := by rfl) : DE Γ (.Call (.Name x p) (a :: es) [] pos) (eArgs own g mr) :=
  pe_imp (pe_callTy hc hg hm hv ha hn hdb he hpl) fun _ _ _ q => tArgs_of hr q

/-! ### statements -/
def pS (G : Gd) (Wx : WX) (W : Wd) (r : RS) (Dn : Ends) : Prop := match r with
  | .nx τ M => ∀ σ W', W'.M = M → WOk G W' → Ext W W' → RelS G W' τ σ → Dn.nx σ W'.H
  | .bk τ M => ∀ σ W', W'.M = M → WOk G W' → Ext W W' → RelS G W' τ σ → Dn.bk σ W'.H
  | .ct τ M => ∀ σ W', W'.M = M → WOk G W' → Ext W W' → RelS G W' τ σ → Dn.ct σ W'.H
  | .rt d M => ∀ v W', W'.M = M → WOk G W' → Ext W W' → Rep G W' d v → Dn.rt v W'.H
  | .exc x τ M => ∀ cls dd σ W', W'.M = M → WOk G W' → Ext W W' → RelS G W' τ σ → RepX G W' x cls dd → Wx cls dd σ W'.H
  | .bad => False
def tS (G : Gd) (Wx : WX) (ea : Option (Addr × String × Option Addr)) (m : SM) : TS := fun Dn σ H => ∃ τ W, W.H = H ∧ W.ea = ea ∧ WOk G W ∧ RelS G W τ σ ∧ pS G Wx W (m τ W.M) Dn
theorem pS.ext {Wx : WX} {W W' : Wd} {r : RS} {Dn : Ends} (e : Ext W W') (h : pS G Wx W r Dn) : pS G Wx W' r Dn := by
  cases r with
  | nx τ M => exact fun σ W2 m k e2 q => h σ W2 m k (e.trans e2) q
  | bk τ M => exact fun σ W2 m k e2 q => h σ W2 m k (e.trans e2) q
  | ct τ M => exact fun σ W2 m k e2 q => h σ W2 m k (e.trans e2) q
  | rt d M => exact fun v W2 m k e2 q => h v W2 m k (e.trans e2) q
  | exc x τ M => exact fun c d σ W2 m k e2 q r => h c d σ W2 m k (e.trans e2) q r
  | bad => exact h
abbrev DS (Γ : DC G X) (s : Stmt) (m : SM) : Prop := PS X s (tS G Γ.W Γ.ea m)
abbrev DSs (Γ : DC G X) (s : List Stmt) (m : SM) : Prop := PSs X s (tS G Γ.W Γ.ea m)
/-- a value, then a statement's end -/
def andS {α : Type} (r : R α) (τ : DSt) (k : α → Mem → RS) : RS := match r with
  | .ok a M => k a M
  | .exc x M => .exc x τ M
  | .bad => .bad
@[simp] theorem andS_ok {α : Type} (a : α) (M : Mem) (τ : DSt) (k : α → Mem → RS) : andS (R.ok a M) τ k = k a M := rfl
@[simp] theorem andS_exc {α : Type} (x : D) (M : Mem) (τ : DSt) (k : α → Mem → RS) : andS (R.exc (α := α) x M) τ k = .exc x τ M := rfl
theorem stepS {α β : Type} {rel : Wd → α → β → Prop} {m1 : DSt → Mem → R α} {k : α → Mem → RS} {Wx : WX} {W : Wd} {τ : DSt} {σ : L2.St} {Dn : Ends} {Q1 : β → Hp → Prop} {ea : Option (Addr × String × Option Addr)} (he : W.ea = ea) (ok : WOk G W) (rs : RelS G W τ σ) (hp : pS G Wx W (andS (m1 τ W.M) τ k) Dn)
    (h : ∀ a b W1, WOk G W1 → Ext W W1 → rel W1 a b → pS G Wx W1 (k a W1.M) Dn → Q1 b W1.H) : tR G Wx ea rel m1 σ W.H Q1 := by
  refine ⟨τ, W, rfl, he, ok, rs, ?_⟩
  cases e : m1 τ W.M with
  | ok a M =>
    intro b W1 hm k1 e1 r1
    rw [e] at hp
    subst hm
    exact h a b W1 k1 e1 r1 (hp.ext e1)
  | exc x M =>
    rw [e] at hp
    exact fun c d W1 m1 k1 e1 r1 => hp c d σ W1 m1 k1 e1 (rs.mono e1) r1
  | bad =>
    rw [e] at hp
    exact hp
@[simp] def sNil : SM := fun τ M => .nx τ M
@[simp] def sSeq (a b : SM) : SM := fun τ M => match a τ M with
  | .nx τ' M' => b τ' M'
  | r => r
variable {st : Stmt} {rs' : List Stmt} {ms mt : SM}
theorem dss_nil : DSs Γ [] sNil := pss_imp pss_nil fun Dn σ H q => by
  obtain ⟨τ, W, rfl, he, ok, rs, h⟩ := q
  exact h σ W rfl ok (Ext.refl W) rs
theorem dss_cons (h1 : DS Γ st ms) (h2 : DSs Γ rs' mt) : DSs Γ (st :: rs') (sSeq ms mt) := pss_imp (pss_cons h1 h2) fun Dn σ H q => by
  obtain ⟨τ, W, rfl, he, ok, rs, h⟩ := q
  refine ⟨τ, W, rfl, he, ok, rs, ?_⟩
  unfold sSeq at h
  cases e : ms τ W.M with
  | nx τ' M' =>
    rw [e] at h
    intro σ' W' m' k' e' r'
    refine ⟨τ', W', rfl, by rw [e'.ea, he], k', r', ?_⟩
    rw [m']
    exact h.ext e'
  | bk τ' M' => rw [e] at h; exact h
  | ct τ' M' => rw [e] at h; exact h
  | rt d M' => rw [e] at h; exact h
  | exc x τ' M' => rw [e] at h; exact h
  | bad => rw [e] at h; exact h
theorem dss_one (h1 : DS Γ st ms) : DSs Γ [st] ms := pss_one h1
/-- what the proof never comes to -/
def sNo : SM := fun _ _ => .bad
theorem ds_no : DS Γ st sNo := ps_imp ps_never fun Dn σ H q => by
  obtain ⟨τ, W, rfl, he, ok, rs, h⟩ := q
  exact h
theorem dss_no : DSs Γ rs' sNo := pss_imp pss_never fun Dn σ H q => by
  obtain ⟨τ, W, rfl, he, ok, rs, h⟩ := q
  exact h
@[simp] def sBreak : SM := fun τ M => .bk τ M
@[simp] def sCont : SM := fun τ M => .ct τ M
theorem ds_pass : DS Γ (.Pass pos) sNil := ps_imp ps_pass fun Dn σ H q => by
  obtain ⟨τ, W, rfl, he, ok, rs, h⟩ := q
  exact h σ W rfl ok (Ext.refl W) rs
theorem ds_break : DS Γ (.Break pos) sBreak := ps_imp ps_break fun Dn σ H q => by
  obtain ⟨τ, W, rfl, he, ok, rs, h⟩ := q
  exact h σ W rfl ok (Ext.refl W) rs
theorem ds_cont : DS Γ (.Continue pos) sCont := ps_imp ps_continue fun Dn σ H q => by
  obtain ⟨τ, W, rfl, he, ok, rs, h⟩ := q
  exact h σ W rfl ok (Ext.refl W) rs
@[simp] def sRet (m : EM) : SM := fun τ M => andS (m τ M) τ fun d M1 => .rt d M1
theorem ds_ret (ha : DE Γ a ma) : DS Γ (.Return (some a) pos) (sRet ma) := ps_imp (ps_ret ha) fun Dn σ H q => by
  obtain ⟨τ, W, rfl, he, ok, rs, h⟩ := q
  show tE Γ ma σ W.H Dn.rt
  exact stepS he ok rs h fun d v W1 k1 e1 r1 h1 => h1 v W1 rfl k1 (Ext.refl W1) r1
@[simp] def sRetN : SM := fun _ M => .rt .non M
theorem ds_retN : DS Γ (.Return none pos) sRetN := ps_imp ps_retN fun Dn σ H q => by
  obtain ⟨τ, W, rfl, he, ok, rs, h⟩ := q
  exact h .non W rfl ok (Ext.refl W) rfl
@[simp] def sExpr (m : EM) : SM := fun τ M => andS (m τ M) τ fun _ M1 => .nx τ M1
theorem ds_expr (ha : DE Γ a ma) (hs : swapsWith a none pos.line X.env = pure false := by rfl) : DS Γ (.Expr a pos) (sExpr ma) := ps_imp (ps_expr ha hs) fun Dn σ H q => by
  obtain ⟨τ, W, rfl, he, ok, rs, h⟩ := q
  show tE Γ ma σ W.H _
  exact stepS he ok rs h fun d v W1 k1 e1 r1 h1 => h1 σ W1 rfl k1 (Ext.refl W1) (rs.mono e1)
@[simp] def sIf (t : TM) (a b : SM) : SM := fun τ M => andS (t τ M) τ fun k M1 => if k = true then a τ M1 else b τ M1
theorem ds_if {bs cs : List Stmt} (hc : DT Γ c ta) (ha : DSs Γ bs ms) (hb : DSs Γ cs mt) : DS Γ (.If c bs cs pos) (sIf ta ms mt) := ps_imp (ps_if hc ha hb) fun Dn σ H q => by
  obtain ⟨τ, W, rfl, he, ok, rs, h⟩ := q
  show tT Γ ta σ W.H _
  refine stepS he ok rs h fun d v W1 k1 e1 r1 h1 => ?_
  cases r1
  cases d with
  | true => exact ⟨τ, W1, rfl, by rw [e1.ea, he], k1, rs.mono e1, h1⟩
  | false => exact ⟨τ, W1, rfl, by rw [e1.ea, he], k1, rs.mono e1, h1⟩
@[simp] def sSet (i : Nat) (m : EM) : SM := fun τ M => andS (m τ M) τ fun d M1 => .nx (τ.set i (some d)) M1
theorem ds_set {i : Nat} {x : Str} {pos' : Pos} (hN : X.N.Nodup) (ha : DE Γ a ma) (hi : X.N[i]? = some x := by rfl) (hx : Loc X.env.scope x := by first | exact Or.inl rfl | exact Or.inr rfl) (hs : swapsWith a (some (.Name x pos')) pos.line X.env = pure false := by rfl) (hf : X.fn x = true ∨ X.env.scope.names.lookup x = some .local := by first | exact .inl rfl | exact .inr rfl | assumption) :
    DS Γ (.Assign [.Name x pos'] a pos) (sSet i ma) := ps_imp (ps_set hN hi hx ha hs hf) fun Dn σ H q => by
  obtain ⟨τ, W, rfl, he, ok, rs, h⟩ := q
  show tE Γ ma σ W.H _
  exact stepS he ok rs h fun d v W1 k1 e1 r1 h1 => h1 _ W1 rfl k1 (Ext.refl W1) ((rs.mono e1).set i r1)

/-! ### targets -/
abbrev GM := D → DSt → Mem → R DSt
abbrev GsM := List D → DSt → Mem → R DSt
abbrev noW : WX := fun _ _ _ _ => False
def tG (Γ : DC G X) (m : GM) : TG := fun v σ H Q => ∃ d τ W, W.H = H ∧ W.ea = Γ.ea ∧ WOk G W ∧ RelS G W τ σ ∧ Rep G W d v ∧ pR G noW (fun W' t s => RelS G W' t s) W σ (m d τ W.M) Q
def tGs (Γ : DC G X) (m : GsM) : TGs := fun vs σ H Q => ∃ ds τ W, W.H = H ∧ W.ea = Γ.ea ∧ WOk G W ∧ RelS G W τ σ ∧ RepL G W ds vs ∧ pR G noW (fun W' t s => RelS G W' t s) W σ (m ds τ W.M) Q
theorem pR.nox {α β : Type} {rel : Wd → α → β → Prop} {W : Wd} {σ : L2.St} {r : R α} {Q : β → Hp → Prop} {Wx : WX} (h : pR G noW rel W σ r Q) : pR G Wx rel W σ r Q := by
  cases r with
  | ok a M => exact h
  | exc x M => exact fun c d W2 m k e2 q => (h c d W2 m k e2 q).elim
  | bad => exact h
theorem pR.any {α β : Type} {rel : Wd → α → β → Prop} {W : Wd} {σ σ' : L2.St} {r : R α} {Q : β → Hp → Prop} (h : pR G noW rel W σ r Q) : pR G noW rel W σ' r Q := by
  cases r with
  | ok a M => exact h
  | exc x M => exact h
  | bad => exact h
end
end DM

/-! DM: targets, loops, comprehensions. -/
namespace DM
open PySem PySem.Spec PyProof.Rows L2
open Classical in
section
variable {G : Gd} {X : Cx} {Γ : DC G X} {pos : Pos}
abbrev DG (Γ : DC G X) (tg : Expr) (m : GM) : Prop := PG X tg (tG Γ m)
abbrev DGs (Γ : DC G X) (tg : List Expr) (m : GsM) : Prop := PGs X tg (tGs Γ m)
theorem pg_imp {X : Cx} {e : Expr} {t t' : TG} (h : PG X e t) (i : ∀ v σ H Q, t' v σ H Q → t v σ H Q) : PG X e t' := ⟨fun pins s σ H v u Q I r q => h.run pins s σ H v u Q I r (i _ _ _ _ q)⟩
theorem pgs_imp {X : Cx} {e : List Expr} {t t' : TGs} (h : PGs X e t) (i : ∀ v σ H Q, t' v σ H Q → t v σ H Q) : PGs X e t' := ⟨fun pins s σ H v u Q I r q => h.run pins s σ H v u Q I r (i _ _ _ _ q)⟩
@[simp] def mName (i : Nat) : GM := fun d τ M => .ok (τ.set i (some d)) M
theorem dg_name {i : Nat} {x : Str} (hN : X.N.Nodup) (hi : X.N[i]? = some x := by rfl) (hx : Loc X.env.scope x := by first | exact Or.inl rfl | exact Or.inr rfl) (hf : X.fn x = true ∨ X.env.scope.names.lookup x = some .local := by first | exact .inl rfl | exact .inr rfl | assumption) :
    DG Γ (.Name x pos) (mName i) := pg_imp (pg_name hN hi hx hf) fun v σ H Q q => by
  obtain ⟨d, τ, W, rfl, he, ok, rs, r, h⟩ := q
  exact h _ W rfl ok (Ext.refl W) (rs.set i r)
@[simp] def mNil : GsM := fun ds τ M => match ds with
  | [] => .ok τ M
  | _ => .bad
@[simp] def mCons (g : GM) (r : GsM) : GsM := fun ds τ M => match ds with
  | d :: ds => (g d τ M).bind fun τ1 M1 => r ds τ1 M1
  | [] => .bad
@[simp] def mTup (n : Nat) (m : GsM) : GM := fun d τ M => match d with
  | .tup ds => if ds.length = n then m ds τ M else .bad
  | .kt ds => if ds.length = n then m ds τ M else .bad
  | _ => .bad
theorem dgs_nil : DGs Γ [] mNil := pgs_imp pgs_nil fun v σ H Q q => by
  obtain ⟨ds, τ, W, rfl, he, ok, rs, r, h⟩ := q
  cases ds with
  | nil => exact ⟨r, h _ W rfl ok (Ext.refl W) rs⟩
  | cons _ _ => exact h.elim
theorem dgs_cons {e : Expr} {es : List Expr} {g : GM} {r : GsM} (h1 : DG Γ e g) (h2 : DGs Γ es r) (hs : (assignEach (e :: es) X.env).map (·.2) = assign e X.env :: (assignEach es X.env).map (·.2) := by rfl) : DGs Γ (e :: es) (mCons g r) :=
  pgs_imp (pgs_cons h1 h2 hs) fun v σ H Q q => by
  obtain ⟨ds, τ, W, rfl, he, ok, rs, rr, h⟩ := q
  cases ds with
  | nil => exact h.elim
  | cons d ds =>
    obtain ⟨v, vs, rfl, r1, r2⟩ := rr
    refine ⟨v, vs, rfl, d, τ, W, rfl, he, ok, rs, r1, ?_⟩
    have h : pR G noW (fun W' t s => RelS G W' t s) W σ ((g d τ W.M).bind fun τ1 M1 => r ds τ1 M1) Q := h
    cases e : g d τ W.M with
    | ok τ1 M1 =>
      rw [e] at h
      intro σ1 W1 m1 k1 e1 s1
      refine ⟨ds, τ1, W1, rfl, e1.ea.trans he, k1, s1, r2.mono e1, ?_⟩
      rw [m1]
      have h : pR G noW (fun W' t s => RelS G W' t s) W σ (r ds τ1 M1) Q := h
      exact (h.ext e1).any
    | exc x M =>
      rw [e] at h
      exact h
    | bad =>
      rw [e] at h
      exact h
def tupOf : D → Option (List D)
  | .tup ds => some ds
  | .kt ds => some ds
  | _ => none
theorem tup_of {W : Wd} {d : D} {v : V} {ds : List D} (r : Rep G W d v) (h : tupOf d = some ds) : ∃ a xs, v = .ref a ∧ SqT G.K W.H a xs ∧ RepL G W ds xs := by
  cases d with
  | tup es =>
    obtain ⟨a, xs, rfl, h1, _, r⟩ := r
    cases h
    exact ⟨a, xs, rfl, .of h1, r⟩
  | kt es =>
    obtain ⟨a, xs, rfl, h1, r⟩ := r
    cases h
    exact ⟨a, xs, rfl, h1.sq rfl, r⟩
  | _ => cases h
theorem dg_tup {es : List Expr} {k : Nat} {m : GsM} {n : Nat} (h : DGs Γ es m) (hc : X.calm = true := by rfl) (hn : (assignEach es X.env).length = n := by rfl) (hst : (assignEach es X.env).findIdx? (·.1) = none := by rfl) : DG Γ (.Tuple es k pos) (mTup n m) :=
  pg_imp (pg_tup hc h hn hst) fun v σ H Q q => by
  obtain ⟨d, τ, W, rfl, he, ok, rs, r, h⟩ := q
  have key : ∃ ds, tupOf d = some ds ∧ ds.length = n ∧ pR G noW (fun W' t s => RelS G W' t s) W σ (m ds τ W.M) Q := by
    unfold mTup at h
    split at h
    · split at h
      · exact ⟨_, rfl, by assumption, h⟩
      · exact h.elim
    · split at h
      · exact ⟨_, rfl, by assumption, h⟩
      · exact h.elim
    · exact h.elim
  obtain ⟨ds, e1, e2, h⟩ := key
  obtain ⟨a, xs, rfl, hs, rr⟩ := tup_of r e1
  exact ⟨a, xs, rfl, by rw [Γ.hK]; exact hs, by rw [← rr.length]; exact e2, ds, τ, W, rfl, he, ok, rs, rr, h⟩
/-- target = value -/
@[simp] def sAsg (m : EM) (g : GM) : SM := fun τ M => andS (m τ M) τ fun d M1 => match g d τ M1 with
  | .ok τ' M' => .nx τ' M'
  | _ => .bad
theorem ds_asg {tg e : Expr} {m : EM} {g : GM} (ha : DE Γ e m) (hg : DG Γ tg g) (hs : swapsWithSole [tg] e pos.line X.env = pure false := by rfl) (hw : swappedStores [tg] e X.env = pure none := by rfl) (h1 : (assignEach [tg] X.env).map (·.2) = [assign tg X.env] := by rfl) :
    DS Γ (.Assign [tg] e pos) (sAsg m g) := ps_imp (ps_asg ha hg hs hw h1) fun Dn σ H q => by
  obtain ⟨τ, W, rfl, he, ok, rs, h⟩ := q
  refine stepS he ok rs h fun d v W1 k1 e1 r1 h1 => ?_
  refine ⟨d, τ, W1, rfl, e1.ea.trans he, k1, rs.mono e1, r1, ?_⟩
  cases e : g d τ W1.M with
  | ok τ' M' =>
    rw [e] at h1
    exact fun σ' W' m' k' e' r' => h1 σ' W' m' k' e' r'
  | exc x M =>
    rw [e] at h1
    exact h1.elim
  | bad =>
    rw [e] at h1
    exact h1.elim
/-- o[i] = .. for a place -/
def placeOf : D → Option Nat
  | .loc l => some l
  | _ => none
def intOf : D → Option Int
  | .int i => some i
  | _ => none
theorem place_eq {d : D} {l : Nat} (h : placeOf d = some l) : d = .loc l := by
  cases d <;> cases h <;> rfl
theorem int_eq {d : D} {i : Int} (h : intOf d = some i) : d = .int i := by
  cases d <;> cases h <;> rfl
def memAt (M : Mem) (l : Nat) : Option (List D) := (M[l]?).join
theorem mem_eq {M : Mem} {l : Nat} {ds : List D} (h : memAt M l = some ds) : M[l]? = some (some ds) := by
  unfold memAt at h
  cases e : M[l]? with
  | none => rw [e] at h; cases h
  | some o =>
    rw [e] at h
    cases o with
    | none => cases h
    | some x => cases h; rfl
@[simp] def setAt (x y : D) (M : Mem) : Option (Nat × List D × Nat) := (placeOf x).bind fun l => (intOf y).bind fun k => (memAt M l).bind fun ds => (ixN ds.length k).map fun j => (l, ds, j)
theorem setAt_eq {x y : D} {M : Mem} {l j : Nat} {ds : List D} (h : setAt x y M = some (l, ds, j)) : ∃ k, x = .loc l ∧ y = .int k ∧ M[l]? = some (some ds) ∧ ixN ds.length k = some j := by
  unfold setAt at h
  simp only [Option.bind_eq_some_iff, Option.map_eq_some_iff, Prod.mk.injEq] at h
  obtain ⟨a, h1, k, h2, ds', h3, j', h4, rfl, rfl, rfl⟩ := h
  exact ⟨k, place_eq h1, int_eq h2, mem_eq h3, h4⟩
@[simp] def mSub (o i : EM) : GM := fun d τ M => (o τ M).bind fun x M1 => (i τ M1).bind fun y M2 => match setAt x y M2 with
  | some (l, ds, j) => .ok τ (M2.set l (some (ds.set j d)))
  | none => .bad
theorem dg_sub {o i : Expr} {mo mi : EM} (ho : DE Γ o mo) (hi : DE Γ i mi)
    (ha : ∀ v, assign (.Subscript o i pos) X.env v = (do
      let ov ← holding [v] (eval o X.env)
      let iv ← holding [v, ov] (eval i X.env)
      standAt pos
      holding [v, ov, iv] (setItem ov iv v)
      release [v, ov, iv] []) := by intro _; rfl) : DG Γ (.Subscript o i pos) (mSub mo mi) := pg_imp (pg_sub ho hi set_list ha) fun v σ H Q q => by
  obtain ⟨d, τ, W, rfl, he, ok, rs, r, h⟩ := q
  refine step he ok rs (h.nox (Wx := Γ.W)) fun dx x W1 k1 e1 r1 h1 => ?_
  refine step (e1.ea.trans he) k1 (rs.mono e1) h1 fun dy y W2 k2 e2 r2 h2 => ?_
  cases eq : setAt dx dy W2.M with
  | none => rw [eq] at h2; exact h2.elim
  | some p =>
    obtain ⟨l, ds, j⟩ := p
    rw [eq] at h2
    obtain ⟨k, rfl, rfl, em, ej⟩ := setAt_eq eq
    obtain ⟨a, ha1, rfl⟩ := r1.mono e2
    cases r2
    obtain ⟨a', xs, h3, h4, h5⟩ := k2.there l ds em
    rw [ha1] at h3
    cases h3
    refine ⟨a, xs, k, j, rfl, rfl, h4, by rw [← h5.length]; exact ej, ?_⟩
    have rr := RepL.set j h5 ((r.mono e1).mono e2)
    exact h2 σ (W2.put l a _ _) rfl (ok_put k2 em ha1 rr) (ext_put k2 em ha1) (((rs.mono e1).mono e2).mono (ext_put k2 em ha1))

/-! ### what is walked -/
structure ItD where
  xs : List D
  src : List (Nat × List D) := []
def Chk (src : List (Nat × List D)) (M : Mem) : Prop := ∀ p ∈ src, M[p.1]? = some (some p.2)
def ItOk (G : Gd) (W0 : Wd) (J : It) (it : ItD) : Prop := ∀ W, WOk G W → Ext0 W0 W → Chk it.src W.M →
  (∀ (i : Nat) (d : D), it.xs[i]? = some d → J.go i W.H ∧ ∀ x H', J.yld i W.H x H' → ∃ W', W'.H = H' ∧ W'.M = W.M ∧ WOk G W' ∧ Ext W W' ∧ Rep G W' d x) ∧ (∀ i : Nat, it.xs.length ≤ i → J.stop i W.H)
abbrev IM := DSt → Mem → R ItD
abbrev tI (Γ : DC G X) (m : IM) : TI := tR G Γ.W Γ.ea (fun W it J => ItOk G W J it) m
abbrev DI (Γ : DC G X) (tg e : Expr) (m : IM) : Prop := PI X tg e (tI Γ m)
theorem pi_imp {X : Cx} {tg e : Expr} {t t' : TI} (h : PI X tg e t) (i : ∀ σ H Q, t' σ H Q → t σ H Q) : PI X tg e t' := ⟨fun pins s σ H Q I q => h.run pins s σ H Q I (i _ _ _ q)⟩
/-- the items of a sequence, and what must stay for them to be so -/
def seqOf : D → Mem → Option ItD
  | .tup ds, _ => some { xs := ds }
  | .kt ds, _ => some { xs := ds }
  | .lst ds, _ => some { xs := ds }
  | .scr ns, _ => some { xs := ns.map D.int }
  | .loc l, M => match M[l]? with
    | some (some ds) => some { xs := ds, src := [(l, ds)] }
    | _ => none
  | _, _ => none
def lstOf : D → Mem → Option ItD
  | .lst ds, _ => some { xs := ds }
  | .scr ns, _ => some { xs := ns.map D.int }
  | .loc l, M => match M[l]? with
    | some (some ds) => some { xs := ds, src := [(l, ds)] }
    | _ => none
  | _, _ => none
theorem lst_at {W0 : Wd} {d : D} {v : V} {it : ItD} {M : Mem} (r : Rep G W0 d v) (h : lstOf d M = some it) : ∃ a, v = .ref a ∧ ∀ W, WOk G W → Ext0 W0 W → Chk it.src W.M → ∃ xs, SqL G.K W.H a xs ∧ RepL G W it.xs xs := by
  cases d with
  | lst ds =>
    obtain ⟨a, xs, rfl, h1, h2, r⟩ := r
    cases h
    exact ⟨a, rfl, fun W k e _ => ⟨xs, .of (e.h a _ h1 h2).1, RepL.mono0 e r⟩⟩
  | scr ns =>
    obtain ⟨a, rfl, h1⟩ := r
    cases h
    exact ⟨a, rfl, fun W k e _ => ⟨ns.map V.int, (h1.mono e).sq, RepL.of_ints ns⟩⟩
  | loc l =>
    obtain ⟨a, h1, rfl⟩ := r
    have h : (match M[l]? with
      | some (some ds) => some { xs := ds, src := [(l, ds)] }
      | _ => none) = some it := h
    split at h
    · rename_i ds e
      cases h
      refine ⟨a, rfl, fun W k ex c => ?_⟩
      obtain ⟨a', xs, h2, h3, h4⟩ := k.there l ds (c (l, ds) (by simp))
      rw [ex.pla l a h1] at h2
      cases h2
      exact ⟨xs, .of h3, h4⟩
    · cases h
  | _ => cases h
theorem tup_at {W0 : Wd} {d : D} {v : V} {ds : List D} (r : Rep G W0 d v) (h : tupOf d = some ds) : ∃ a, v = .ref a ∧ ∀ W, Ext0 W0 W → ∃ xs, SqT G.K W.H a xs ∧ RepL G W ds xs := by
  cases d with
  | tup es =>
    obtain ⟨a, xs, rfl, h1, h2, r⟩ := r
    cases h
    exact ⟨a, rfl, fun W e => ⟨xs, .of (e.h a _ h1 h2).1, RepL.mono0 e r⟩⟩
  | kt es =>
    obtain ⟨a, xs, rfl, h1, r⟩ := r
    cases h
    exact ⟨a, rfl, fun W e => ⟨xs, h1.sq rfl, RepL.mono0 e r⟩⟩
  | _ => cases h
theorem seq_cases {d : D} {M : Mem} {it : ItD} (h : seqOf d M = some it) : (∃ ds, tupOf d = some ds ∧ it = { xs := ds }) ∨ lstOf d M = some it := by
  cases d with
  | tup ds => cases h; exact .inl ⟨ds, rfl, rfl⟩
  | kt ds => cases h; exact .inl ⟨ds, rfl, rfl⟩
  | lst ds => exact .inr h
  | scr ns => exact .inr h
  | loc l => exact .inr h
  | _ => cases h
/-- a sequence in the world as it is -/
theorem seq_now {W : Wd} {d : D} {v : V} {it : ItD} (k : WOk G W) (r : Rep G W d v) (h : seqOf d W.M = some it) : ∃ a xs, v = .ref a ∧ (SqL G.K W.H a xs ∨ SqT G.K W.H a xs) ∧ RepL G W it.xs xs := by
  rcases seq_cases h with ⟨ds, h1, rfl⟩ | h1
  · obtain ⟨a, xs, e, h2, h3⟩ := tup_of r h1
    exact ⟨a, xs, e, .inr h2, h3⟩
  · obtain ⟨a, e, f⟩ := lst_at r h1
    have hc : Chk it.src W.M := by
      cases d with
      | loc l =>
        have h1 : (match W.M[l]? with
          | some (some ds) => some { xs := ds, src := [(l, ds)] }
          | _ => none) = some it := h1
        split at h1
        · rename_i ds ed
          cases h1
          intro p hp
          have : p = (l, ds) := by simpa using hp
          rw [this]
          exact ed
        · cases h1
      | lst ds => cases h1; exact fun p hp => nomatch hp
      | scr ds => cases h1; exact fun p hp => nomatch hp
      | _ => cases h1
    obtain ⟨xs, h2, h3⟩ := f W k (Ext0.refl W) hc
    exact ⟨a, xs, e, .inl h2, h3⟩
@[simp] def iSeq (m : EM) : IM := fun τ M => (m τ M).bind fun d M1 => match seqOf d M1 with
  | some it => .ok it M1
  | none => .bad
def iLst (m : EM) : IM := fun τ M => (m τ M).bind fun d M1 => match lstOf d M1 with
  | some it => .ok it M1
  | none => .bad
def iTupD (m : EM) : IM := fun τ M => (m τ M).bind fun d M1 => match tupOf d with
  | some ds => .ok { xs := ds } M1
  | none => .bad
theorem itl_ok {K : PySem.W.Frag} {W0 : Wd} {a : Addr} {it : ItD} (hK : K = G.K) (f : ∀ W, WOk G W → Ext0 W0 W → Chk it.src W.M → ∃ xs, SqL G.K W.H a xs ∧ RepL G W it.xs xs) : ItOk G W0 (Itl K a) it := fun W k e c => by
  subst hK
  obtain ⟨xs, h1, h2⟩ := f W k e c
  refine ⟨fun i d hd => ?_, fun i hi => ⟨xs, h1, by rw [← h2.length]; exact hi⟩⟩
  obtain ⟨v, e1, e2⟩ := h2.get hd
  refine ⟨⟨xs, v, h1, e1⟩, fun x H' y => ?_⟩
  obtain ⟨rfl, y⟩ := y
  have := (y xs h1).symm.trans e1
  cases this
  exact ⟨W, rfl, rfl, k, Ext.refl W, e2⟩
theorem itt_ok {K : PySem.W.Frag} {W0 : Wd} {a : Addr} {ds : List D} (hK : K = G.K) (f : ∀ W, Ext0 W0 W → ∃ xs, SqT G.K W.H a xs ∧ RepL G W ds xs) : ItOk G W0 (Itt K a) { xs := ds } := fun W k e c => by
  subst hK
  obtain ⟨xs, h1, h2⟩ := f W e
  refine ⟨fun i d hd => ?_, fun i hi => ⟨xs, h1, by rw [← h2.length]; exact hi⟩⟩
  obtain ⟨v, e1, e2⟩ := h2.get hd
  refine ⟨⟨xs, v, h1, e1⟩, fun x H' y => ?_⟩
  obtain ⟨rfl, y⟩ := y
  have := (y xs h1).symm.trans e1
  cases this
  exact ⟨W, rfl, rfl, k, Ext.refl W, e2⟩
theorem di_lst {tg e : Expr} {m : EM} (h : DE Γ e m) : DI Γ tg e (iLst m) := pi_imp (pi_list h) fun σ H Q q => by
  obtain ⟨τ, W, rfl, he, ok, rs, h⟩ := q
  refine step he ok rs h fun d v W1 k1 e1 r1 h1 => ?_
  cases el : lstOf d W1.M with
  | none => rw [el] at h1; exact h1.elim
  | some it =>
    rw [el] at h1
    obtain ⟨a, rfl, f⟩ := lst_at r1 el
    have hs : seqOf d W1.M = some it := by
      cases d <;> first | exact el | cases el
    obtain ⟨a', xs, e', hq, _⟩ := seq_now k1 r1 hs
    cases e'
    have hc : ∃ xs, SqL G.K W1.H a xs := by
      cases d with
      | lst ds =>
        obtain ⟨b, ys, e2, h2, h3, _⟩ := r1
        cases e2
        exact ⟨ys, .of h2⟩
      | scr ns =>
        obtain ⟨b, e2, h2⟩ := r1
        cases e2
        exact ⟨_, h2.sq⟩
      | loc l =>
        have el : (match W1.M[l]? with
          | some (some ds) => some { xs := ds, src := [(l, ds)] }
          | _ => none) = some it := el
        split at el
        · rename_i ds ed
          obtain ⟨b, h2, e2⟩ := r1
          cases e2
          obtain ⟨b', ys, h3, h4, _⟩ := k1.there l ds ed
          rw [h2] at h3
          cases h3
          exact ⟨ys, .of h4⟩
        · cases el
      | _ => cases el
    exact ⟨a, rfl, by rw [Γ.hK]; exact hc, h1 (Itl X.K a) W1 rfl k1 (Ext.refl W1) (itl_ok Γ.hK f)⟩
theorem di_tup {tg e : Expr} {m : EM} (h : DE Γ e m) : DI Γ tg e (iTupD m) := pi_imp (pi_tup h) fun σ H Q q => by
  obtain ⟨τ, W, rfl, he, ok, rs, h⟩ := q
  refine step he ok rs h fun d v W1 k1 e1 r1 h1 => ?_
  cases el : tupOf d with
  | none => rw [el] at h1; exact h1.elim
  | some ds =>
    rw [el] at h1
    obtain ⟨a, rfl, f⟩ := tup_at r1 el
    obtain ⟨xs, h2, _⟩ := f W1 (Ext0.refl W1)
    exact ⟨a, rfl, ⟨xs, by rw [Γ.hK]; exact h2⟩, h1 (Itt X.K a) W1 rfl k1 (Ext.refl W1) (itt_ok Γ.hK f)⟩
/-- a list or a tuple -/
theorem pi_or {tg e : Expr} {t : TE} (h : PE X e t) : PI X tg e (fun σ H R => t σ H fun x H1 => ∃ a, x = .ref a ∧ ((∃ xs, SqL X.K H1 a xs) ∧ R (Itl X.K a) H1 ∨ (∃ xs, SqT X.K H1 a xs) ∧ R (Itt X.K a) H1)) := by
  refine ⟨fun pins s σ H R I h' => ?_⟩
  refine thn (h.run pins s σ H _ I h') fun v s1 ⟨x, H1, I1, r1, q1⟩ => ?_
  obtain ⟨a, e, q⟩ := q1
  subst e
  rcases q with ⟨⟨xs, hq⟩, q⟩ | ⟨⟨xs, hq⟩, q⟩
  · cases r1
    obtain ⟨its, rv, p, hz⟩ := I1.list hq
    refine wpAny_pyIter_list p.isList ?_
    refine ⟨s1.heap.objs.size, [s1.heap.objs.size], _, _, H1, rfl, I1.kept (t' := s1.toks) fun b o e => Heap.get?_push_of_some _ e, turn_list a _, ⟨_, Heap.get?_push_size _ rfl, rfl, rfl⟩, fun b hb => ?_, q⟩
    have e : b = s1.heap.objs.size := by simpa using hb
    subst e
    exact I1.fpOk (Nat.le_refl _) (I1.hok.fresh (Nat.le_refl _))
  · cases r1
    obtain ⟨its, rv, p, hz⟩ := I1.tuple hq
    refine wpAny_pyIter_tuple (show s1.heap.IsTuple a its.toArray from p) ?_
    refine ⟨s1.heap.objs.size, [s1.heap.objs.size], _, _, H1, rfl, I1.kept (t' := s1.toks) fun b o e => Heap.get?_push_of_some _ e, turn_tuple a _, ⟨_, Heap.get?_push_size _ rfl, rfl, rfl⟩, fun b hb => ?_, q⟩
    have e : b = s1.heap.objs.size := by simpa using hb
    subst e
    exact I1.fpOk (Nat.le_refl _) (I1.hok.fresh (Nat.le_refl _))
theorem lst_sq {W : Wd} {d : D} {a : Addr} {it : ItD} (k1 : WOk G W) (r1 : Rep G W d (.ref a)) (el : lstOf d W.M = some it) : ∃ xs, SqL G.K W.H a xs := by
  cases d with
  | lst ds =>
    obtain ⟨b, ys, e2, h2, h3, _⟩ := r1
    cases e2
    exact ⟨ys, .of h2⟩
  | scr ns =>
    obtain ⟨b, e2, h2⟩ := r1
    cases e2
    exact ⟨_, h2.sq⟩
  | loc l =>
    have el : (match W.M[l]? with
      | some (some ds) => some { xs := ds, src := [(l, ds)] }
      | _ => none) = some it := el
    split at el
    · rename_i ds ed
      obtain ⟨b, h2, e2⟩ := r1
      cases e2
      obtain ⟨b', ys, h3, h4, _⟩ := k1.there l ds ed
      rw [h2] at h3
      cases h3
      exact ⟨ys, .of h4⟩
    · cases el
  | _ => cases el
theorem di_seq {tg e : Expr} {m : EM} (h : DE Γ e m) : DI Γ tg e (iSeq m) := pi_imp (pi_or h) fun σ H Q q => by
  obtain ⟨τ, W, rfl, he, ok, rs, h⟩ := q
  refine step he ok rs h fun d v W1 k1 e1 r1 h1 => ?_
  cases el : seqOf d W1.M with
  | none => rw [el] at h1; exact h1.elim
  | some it =>
    rw [el] at h1
    rcases seq_cases el with ⟨ds, h2, rfl⟩ | h2
    · obtain ⟨a, rfl, f⟩ := tup_at r1 h2
      obtain ⟨xs, h3, _⟩ := f W1 (Ext0.refl W1)
      exact ⟨a, rfl, .inr ⟨⟨xs, by rw [Γ.hK]; exact h3⟩, h1 (Itt X.K a) W1 rfl k1 (Ext.refl W1) (itt_ok Γ.hK f)⟩⟩
    · obtain ⟨a, rfl, f⟩ := lst_at r1 h2
      exact ⟨a, rfl, .inl ⟨by rw [Γ.hK]; exact lst_sq k1 r1 h2, h1 (Itl X.K a) W1 rfl k1 (Ext.refl W1) (itl_ok Γ.hK f)⟩⟩
/-- ranges -/
theorem rangeD_ex (lo : Int) (n : Nat) : ∃ ds : List D, ds = (List.range n).map fun (i : Nat) => D.int (lo + (i : Int)) := ⟨_, rfl⟩
/-- a range's items (kept shut, so that nobody unfolds a long one) -/
noncomputable def rangeD (lo : Int) (n : Nat) : List D := Classical.choose (rangeD_ex lo n)
theorem rangeD_eq (lo : Int) (n : Nat) : rangeD lo n = (List.range n).map fun (i : Nat) => D.int (lo + (i : Int)) := Classical.choose_spec (rangeD_ex lo n)
theorem rangeD_get {lo : Int} {n i : Nat} {d : D} (h : (rangeD lo n)[i]? = some d) : i < n ∧ d = .int (lo + (i : Int)) := by
  rw [rangeD_eq] at h
  rw [List.getElem?_map] at h
  by_cases hi : i < n
  · rw [List.getElem?_range hi] at h
    cases h
    exact ⟨hi, rfl⟩
  · rw [List.getElem?_eq_none (by simpa using hi)] at h
    cases h
theorem itr_ok {W0 : Wd} {lo : Int} {n : Nat} : ItOk G W0 (Itr lo n) { xs := rangeD lo n } := fun W k e c => by
  refine ⟨fun i d hd => ?_, fun i hi => ?_⟩
  · obtain ⟨h1, rfl⟩ := rangeD_get hd
    refine ⟨h1, fun x H' y => ?_⟩
    obtain ⟨rfl, rfl⟩ := y
    exact ⟨W, rfl, rfl, k, Ext.refl W, rfl⟩
  · have : (rangeD lo n).length = n := by simp [rangeD_eq]
    show n ≤ i
    rw [← this]
    exact hi
/-- numbers that a range takes -/
def rngOk (j : Int) : Prop := -(2 ^ 62) ≤ j ∧ j < 2 ^ 62
noncomputable instance rngOkD (j : Int) : Decidable (rngOk j) := Classical.propDecidable _
noncomputable def iRange1 (a : AM) : IM := fun τ M => (a τ M).bind fun ds M1 => match ds with
  | [.int j] => if rngOk j then .ok { xs := rangeD 0 j.toNat } M1 else .bad
  | _ => .bad
noncomputable def iRange2 (a : AM) : IM := fun τ M => (a τ M).bind fun ds M1 => match ds with
  | [.int i, .int j] => if rngOk i ∧ rngOk j then .ok { xs := rangeD i (j - i).toNat } M1 else .bad
  | _ => .bad
theorem RepL.one {W : Wd} {d : D} {xs : List V} (r : RepL G W [d] xs) : ∃ v, xs = [v] ∧ Rep G W d v := by
  obtain ⟨v, r', rfl, h1, h2⟩ := r
  have h2 : r' = [] := h2
  rw [h2]
  exact ⟨v, rfl, h1⟩
theorem RepL.two {W : Wd} {d e : D} {xs : List V} (r : RepL G W [d, e] xs) : ∃ v u, xs = [v, u] ∧ Rep G W d v ∧ Rep G W e u := by
  obtain ⟨v, r', rfl, h1, h2⟩ := r
  obtain ⟨u, rfl, h3⟩ := RepL.one h2
  exact ⟨v, u, rfl, h1, h3⟩
theorem di_range1 {tg a : Expr} {ma : AM} {p pos : Pos} (hm : X.mg "range" = none) (ha : DA Γ [a] ma) (hg : Gl X "range" := by rfl) (hs : starEach [a] X.env = [(false, eval a X.env)] := by rfl) : DI Γ tg (.Call (.Name "range" p) [a] [] pos) (iRange1 ma) :=
  pi_imp (pi_range1 hg hm ha hs) fun σ H Q q => by
  obtain ⟨τ, W, rfl, he, ok, rs, h⟩ := q
  refine step he ok rs h fun d v W1 k1 e1 r1 h1 => ?_
  split at h1
  · rename_i j
    split at h1
    · rename_i hj
      obtain ⟨v, rfl, r2⟩ := RepL.one r1
      cases r2
      exact ⟨j, rfl, hj.1, hj.2, h1 _ W1 rfl k1 (Ext.refl W1) itr_ok⟩
    · exact h1.elim
  · exact h1.elim
theorem di_range2 {tg a b : Expr} {ma : AM} {p pos : Pos} (hm : X.mg "range" = none) (ha : DA Γ [a, b] ma) (hg : Gl X "range" := by rfl) (hs : starEach [a, b] X.env = [(false, eval a X.env), (false, eval b X.env)] := by rfl) (hs2 : starEach [b] X.env = [(false, eval b X.env)] := by rfl) :
    DI Γ tg (.Call (.Name "range" p) [a, b] [] pos) (iRange2 ma) := pi_imp (pi_range2 hg hm ha hs hs2) fun σ H Q q => by
  obtain ⟨τ, W, rfl, he, ok, rs, h⟩ := q
  refine step he ok rs h fun d v W1 k1 e1 r1 h1 => ?_
  split at h1
  · rename_i i j
    split at h1
    · rename_i hj
      obtain ⟨v, u, rfl, r2, r3⟩ := RepL.two r1
      cases r2
      cases r3
      exact ⟨i, j, rfl, ⟨hj.1.1, hj.1.2, hj.2.1, hj.2.2⟩, h1 _ W1 rfl k1 (Ext.refl W1) itr_ok⟩
    · exact h1.elim
  · exact h1.elim

/-! ### for -/
noncomputable def forL (src : List (Nat × List D)) (g : GM) (b : SM) : List D → SM
  | [], τ, M => if Chk src M then .nx τ M else .bad
  | d :: ds, τ, M => if Chk src M then match g d τ M with
      | .ok τ1 M1 => match b τ1 M1 with
        | .nx τ' M' => forL src g b ds τ' M'
        | .ct τ' M' => forL src g b ds τ' M'
        | .bk τ' M' => .nx τ' M'
        | r => r
      | _ => .bad
    else .bad
@[simp] noncomputable def sFor (i : IM) (g : GM) (b : SM) : SM := fun τ M => andS (i τ M) τ fun it M1 => forL it.src g b it.xs τ M1
theorem ds_for {tg e : Expr} {body : List Stmt} {i : IM} {g : GM} {b : SM} (hi : DI Γ tg e i) (hg : DG Γ tg g) (hb : DSs Γ body b)
    (hp : PassesOwn (model X.prog X.w) X.A X.env X.xe := by first | exact PassesOwn.never | exact passes_of rfl | assumption) (hc : X.calm = true := by rfl)
    (hs : ∀ x, foldedSetIterable e X.env x = pure x := by intro _; rfl) : DS Γ (.For tg e body [] pos) (sFor i g b) := ps_imp (ps_for hp hc hi hg hb hs) fun Dn σ H q => by
  obtain ⟨τ, W, rfl, he, ok, rs, h⟩ := q
  refine stepS he ok rs h fun it J W1 k1 e1 r1 h1 => ?_
  refine ⟨fun i m σ H => i + m = it.xs.length ∧ ∃ τ W2, W2.H = H ∧ WOk G W2 ∧ Ext W1 W2 ∧ RelS G W2 τ σ ∧ pS G Γ.W W2 (forL it.src g b (it.xs.drop i) τ W2.M) Dn,
    ⟨it.xs.length, by omega, τ, W1, rfl, k1, Ext.refl W1, rs.mono e1, h1⟩, ?_⟩
  rintro i m σ2 H2 ⟨em, τ2, W2, rfl, k2, e2, s2, h2⟩
  by_cases hi : i < it.xs.length
  · rw [List.drop_eq_getElem_cons hi] at h2
    unfold forL at h2
    split at h2
    · rename_i hc2
      obtain ⟨f1, f2⟩ := r1 W2 k2 e2.toExt0 hc2
      obtain ⟨g1, g2⟩ := f1 i it.xs[i] (List.getElem?_eq_getElem hi)
      refine .inr ⟨g1, fun σ' H' => ∃ τ W3, W3.H = H' ∧ WOk G W3 ∧ Ext W1 W3 ∧ RelS G W3 τ σ' ∧ pS G Γ.W W3 (forL it.src g b (it.xs.drop (i + 1)) τ W3.M) Dn, fun σ' H' hN => ⟨m - 1, by omega, by omega, hN⟩, fun x H' hy => ?_⟩
      obtain ⟨W3, rfl, m3, k3, e3, r3⟩ := g2 x H' hy
      refine ⟨it.xs[i], τ2, W3, rfl, (e3.ea.trans (e2.ea.trans (e1.ea.trans he))), k3, s2.mono e3, r3, ?_⟩
      rw [m3]
      cases eg : g it.xs[i] τ2 W2.M with
      | ok τ3 M3 =>
        rw [eg] at h2
        intro σ4 W4 m4 k4 e4 s4
        refine ⟨τ3, W4, rfl, (e4.ea.trans (e3.ea.trans (e2.ea.trans (e1.ea.trans he)))), k4, s4, ?_⟩
        rw [m4]
        have e24 := e3.trans e4
        have h2 : pS G Γ.W W2 (match b τ3 M3 with
          | .nx τ' M' => forL it.src g b (it.xs.drop (i + 1)) τ' M'
          | .ct τ' M' => forL it.src g b (it.xs.drop (i + 1)) τ' M'
          | .bk τ' M' => .nx τ' M'
          | r => r) Dn := h2
        cases eb : b τ3 M3 with
        | nx τ' M' =>
          rw [eb] at h2
          exact fun σ5 W5 m5 k5 e5 s5 => ⟨τ', W5, rfl, k5, (e2.trans e24).trans e5, s5, by rw [m5]; exact h2.ext (e24.trans e5)⟩
        | ct τ' M' =>
          rw [eb] at h2
          exact fun σ5 W5 m5 k5 e5 s5 => ⟨τ', W5, rfl, k5, (e2.trans e24).trans e5, s5, by rw [m5]; exact h2.ext (e24.trans e5)⟩
        | bk τ' M' =>
          rw [eb] at h2
          exact fun σ5 W5 m5 k5 e5 s5 => h2 σ5 W5 m5 k5 (e24.trans e5) s5
        | rt d M' =>
          rw [eb] at h2
          exact fun v W5 m5 k5 e5 s5 => h2 v W5 m5 k5 (e24.trans e5) s5
        | exc x τ' M' =>
          rw [eb] at h2
          exact fun c dd σ5 W5 m5 k5 e5 s5 r5 => h2 c dd σ5 W5 m5 k5 (e24.trans e5) s5 r5
        | bad =>
          rw [eb] at h2
          exact h2
      | exc x M => rw [eg] at h2; exact h2.elim
      | bad => rw [eg] at h2; exact h2.elim
    · exact h2.elim
  · rw [List.drop_of_length_le (by omega)] at h2
    unfold forL at h2
    split at h2
    · rename_i hc2
      obtain ⟨f1, f2⟩ := r1 W2 k2 e2.toExt0 hc2
      exact .inl ⟨f2 i (by omega), h2 σ2 W2 rfl k2 (Ext.refl W2) s2⟩
    · exact h2.elim
end
end DM

/-! DM: comprehensions, while. -/
namespace DM
open PySem PySem.Spec PyProof.Rows L2
section
variable {G : Gd} {W W' : Wd}
/-! ### a list that is being made -/
abbrev Wd.push (W : Wd) (p : Addr) : Wd := { W with H := upd W.H p (.lst []), hid := p :: W.hid }
theorem own_push {p a : Addr} (h : (W.push p).own a) : a = p ∨ W.own a := by
  rcases h with h | h
  · rcases List.mem_cons.mp h with h | h
    · exact .inl h
    · exact .inr (.inl h)
  · exact .inr (.inr h)
theorem ext_push {p : Addr} (k : WOk G W) (hp : W.H p = none) : Ext0 W (W.push p) :=
  ⟨fun _ _ h => h, fun a o h n _ => ⟨(upd_ne (ne_of_none h hp)).trans h, fun q => by
    rcases own_push q with q | q
    · rw [q, hp] at h; cases h
    · exact n q⟩, rfl⟩
theorem ok_push {p : Addr} (k : WOk G W) (hp : W.H p = none) : WOk G (W.push p) := by
  refine ⟨k.len, k.inj, fun l ds h => ?_, fun a h => ?_, fun a h l ds hm hpi => ?_, ?_, fun q h => tab_new (k.tab q h) hp⟩
  · obtain ⟨a, xs, h1, h2, h3⟩ := k.there l ds h
    exact ⟨a, xs, h1, (upd_ne (ne_of_none h2 hp)).trans h2, RepL.mono0 (ext_push k hp) h3⟩
  · rcases List.mem_cons.mp h with h | h
    · subst h; exact ⟨[], upd_same⟩
    · obtain ⟨xs, e⟩ := k.hidT a h
      exact ⟨xs, (upd_ne (ne_of_none e hp)).trans e⟩
  · rcases List.mem_cons.mp h with h | h
    · subst h
      obtain ⟨b, xs, h1, h2, _⟩ := k.there l ds hm
      have hpi : W.pla[l]? = some a := hpi
      rw [hpi] at h1
      cases h1
      rw [hp] at h2
      cases h2
    · exact k.hidP a h l ds hm hpi
  · refine List.nodup_cons.mpr ⟨fun h => ?_, k.hidN⟩
    obtain ⟨xs, e⟩ := k.hidT p h
    rw [hp] at e
    cases e
abbrev Wd.grow (W : Wd) (p : Addr) (xs : List V) : Wd := { W with H := upd W.H p (.lst xs) }
theorem ext_grow {p : Addr} {xs : List V} (hp : p ∈ W.hid) : Ext0 W (W.grow p xs) :=
  ⟨fun _ _ h => h, fun a o h n _ => ⟨(upd_ne (show a ≠ p from fun e => n (by rw [e]; exact .inl hp))).trans h, n⟩, rfl⟩
theorem ok_grow {p : Addr} {xs : List V} (k : WOk G W) (hp : p ∈ W.hid) : WOk G (W.grow p xs) := by
  refine ⟨k.len, k.inj, fun l ds h => ?_, fun a h => ?_, k.hidP, k.hidN, fun q h => let ⟨_, e⟩ := k.hidT p hp; tab_put (k.tab q h) e⟩
  · obtain ⟨a, ys, h1, h2, h3⟩ := k.there l ds h
    exact ⟨a, ys, h1, (upd_ne (show a ≠ p from fun e => k.hidP p hp l ds h (by rw [← e]; exact h1))).trans h2, RepL.mono0 (ext_grow hp) h3⟩
  · by_cases e : a = p
    · subst e; exact ⟨xs, upd_same⟩
    · obtain ⟨ys, q⟩ := k.hidT a h
      exact ⟨ys, (upd_ne e).trans q⟩
abbrev Wd.pop (W : Wd) (h : List Addr) : Wd := { W with hid := h }
theorem own_pop {p : Addr} {h : List Addr} (e : W.hid = p :: h) {a : Addr} (q : (W.pop h).own a) : W.own a := by
  rcases q with q | q
  · exact .inl (by rw [e]; exact List.mem_cons_of_mem _ q)
  · exact .inr q
theorem ext_pop {p : Addr} {h : List Addr} (e : W.hid = p :: h) : Ext0 W (W.pop h) := ⟨fun _ _ h => h, fun a o h n _ => ⟨h, fun q => n (own_pop e q)⟩, rfl⟩
theorem ok_pop {p : Addr} {h : List Addr} (k : WOk G W) (e : W.hid = p :: h) : WOk G (W.pop h) := by
  have hN := k.hidN
  rw [e] at hN
  exact ⟨k.len, k.inj, fun l ds m => let ⟨a, xs, h1, h2, h3⟩ := k.there l ds m; ⟨a, xs, h1, h2, RepL.mono0 (ext_pop e) h3⟩, fun a m => k.hidT a (by rw [e]; exact List.mem_cons_of_mem _ m),
    fun a m => k.hidP a (by rw [e]; exact List.mem_cons_of_mem _ m), (List.nodup_cons.mp hN).2, k.tab⟩
theorem free_pop {p : Addr} {h : List Addr} (k : WOk G W) (e : W.hid = p :: h) : ¬ (W.pop h).own p := by
  have hN := k.hidN
  rw [e] at hN
  rintro (q | ⟨l, ds, h1, h2⟩)
  · exact (List.nodup_cons.mp hN).1 q
  · exact k.hidP p (by rw [e]; exact List.mem_cons_self) l ds h1 h2
/-- a list becomes a place -/
abbrev Wd.place (W : Wd) (p : Addr) (ds : List D) : Wd := { W with pla := W.pla ++ [p], M := W.M ++ [some ds] }
theorem own_place {p : Addr} {ds : List D} (k : WOk G W) {a : Addr} (h : (W.place p ds).own a) : W.own a ∨ a = p := by
  rcases h with h | ⟨l, es, h1, h2⟩
  · exact .inl (.inl h)
  have kl := k.len
  rcases alloc_at (show (W.M ++ [some ds])[l]? = some (some es) from h1) with ⟨z, y⟩ | ⟨z, y⟩ <;> rcases alloc_at (show (W.pla ++ [p])[l]? = some a from h2) with ⟨u, v⟩ | ⟨u, v⟩ <;> first
    | exact .inl (.inr ⟨l, es, y, v⟩)
    | exact .inr v
    | omega
theorem ok_place {p : Addr} {xs : List V} {ds : List D} (k : WOk G W) (hp : W.H p = some (.lst xs)) (no : ¬ W.own p) (r : RepL G (W.place p ds) ds xs) (mono : ∀ (es : List D) (ys : List V), RepL G W es ys → RepL G (W.place p ds) es ys) : WOk G (W.place p ds) := by
  have kl := k.len
  have used : ∀ l a, W.pla[l]? = some a → a = p → ∀ ds, W.M[l]? = some (some ds) → False := fun l a h e ds hm => no (.inr ⟨l, ds, hm, e ▸ h⟩)
  refine ⟨by simp [k.len], fun l l' a es es' m m' h h' => ?_, fun l es h => ?_, k.hidT, fun a ha l es m h => ?_, k.hidN, k.tab⟩
  · rcases alloc_at (show (W.M ++ [some ds])[l]? = some (some es) from m) with ⟨z, y⟩ | ⟨z, y⟩ <;> rcases alloc_at (show (W.M ++ [some ds])[l']? = some (some es') from m') with ⟨z', y'⟩ | ⟨z', y'⟩ <;>
      rcases alloc_at (show (W.pla ++ [p])[l]? = some a from h) with ⟨u, v⟩ | ⟨u, v⟩ <;> rcases alloc_at (show (W.pla ++ [p])[l']? = some a from h') with ⟨u', v'⟩ | ⟨u', v'⟩ <;> first
      | exact k.inj l l' a es es' y y' v v'
      | exact (used _ _ v v' _ y).elim
      | exact (used _ _ v' v _ y').elim
      | omega
  · rcases alloc_at (show (W.M ++ [some ds])[l]? = some (some es) from h) with ⟨z, y⟩ | ⟨z, y⟩
    · obtain ⟨a, ys, h1, h2, h3⟩ := k.there l es y
      refine ⟨a, ys, ?_, h2, mono _ _ h3⟩
      show (W.pla ++ [p])[l]? = some a
      rw [List.getElem?_append_left (List.getElem?_eq_some_iff.mp h1).1]
      exact h1
    · cases y
      refine ⟨p, xs, ?_, hp, r⟩
      show (W.pla ++ [p])[l]? = some p
      rw [z, ← k.len]
      simp
  · rcases alloc_at (show (W.M ++ [some ds])[l]? = some (some es) from m) with ⟨z, y⟩ | ⟨z, y⟩ <;> rcases alloc_at (show (W.pla ++ [p])[l]? = some a from h) with ⟨u, v⟩ | ⟨u, v⟩ <;> first
      | exact k.hidP a ha l es y v
      | exact no (.inl (v ▸ ha))
      | omega
/-- the made list comes out: as a tree, or as a place -/
theorem made_out {W1 W3 : Wd} {p : Addr} {zs : List D} {zv : List V} {own : Bool} {Q : VK} {σ : L2.St} {Wx : WX} (hp : W1.H p = none) (k1 : WOk G W1) (k3 : WOk G W3) (e : Ext0 W1 W3) (eh : W3.hid = p :: W1.hid) (hh : ∀ a, a ∈ W1.hid → W3.H a = W1.H a) (hz : W3.H p = some (.lst zv)) (r : RepL G W3 zs zv)
    (h : pR G Wx (Rep G) W1 σ (DM.fin own (some (.l zs)) W3.M) Q) : Q (.ref p) W3.H := by
  have k4 := ok_pop k3 eh
  have no := free_pop k3 eh
  have e4 : Ext W1 (W3.pop W1.hid) := ⟨e.trans (ext_pop eh), rfl, hh⟩
  have r4 : RepL G (W3.pop W1.hid) zs zv := RepL.mono0 (ext_pop eh) r
  cases own with
  | false => exact h (.ref p) (W3.pop W1.hid) rfl k4 e4 ⟨p, zv, rfl, hz, no, r4⟩
  | true =>
    have k4l := k4.len
    have pi : ∀ (l : Nat) (a : Addr), (W3.pop W1.hid).pla[l]? = some a → ((W3.pop W1.hid).place p zs).pla[l]? = some a := fun l a h => by
      show ((W3.pop W1.hid).pla ++ [p])[l]? = some a
      rw [List.getElem?_append_left (List.getElem?_eq_some_iff.mp h).1]
      exact h
    have e5 : Ext W1 ((W3.pop W1.hid).place p zs) := by
      refine ⟨⟨fun l a h => pi l a (e4.pla l a h), fun a o h n t => ?_, e4.ea⟩, rfl, hh⟩
      obtain ⟨h1, n1⟩ := e4.H a o h n t
      refine ⟨h1, fun q => ?_⟩
      rcases own_place k4 q with q | q
      · exact n1 q
      · rw [q, hp] at h; cases h
    -- trees of zs may not lean on p itself: they do not, as p was being made
    have dry : ∀ (W5 W6 : Wd), W5.H = W6.H → W5.ea = W6.ea → (∀ (l : Nat) (a : Addr), W5.pla[l]? = some a → W6.pla[l]? = some a) → (∀ a, W6.own a → W5.own a ∨ a = p) → W5.hid = p :: W6.hid → Ext0 W5 W6 := fun W5 W6 h1 h2 h3 h4 h5 =>
      ⟨h3, fun a o q n _ => ⟨by rw [← h1]; exact q, fun z => (h4 a z).elim n fun y => n (y ▸ .inl (by rw [h5]; exact List.mem_cons_self))⟩, h2.symm⟩
    have e35 : Ext0 W3 ((W3.pop W1.hid).place p zs) := dry W3 _ rfl rfl (fun l a h => pi l a h) (fun a q => (own_place k4 q).imp (own_pop eh) id) eh
    have r5 : RepL G ((W3.pop W1.hid).place p zs) zs zv := RepL.mono0 e35 r
    have k5 : WOk G ((W3.pop W1.hid).place p zs) := by
      have kl := k3.len
      refine ⟨by simp [kl], ?_, ?_, k4.hidT, ?_, k4.hidN, k4.tab⟩
      · intro l l' a es es' m m' h h'
        have used : ∀ l a, W3.pla[l]? = some a → a = p → ∀ ds, W3.M[l]? = some (some ds) → False := fun l a h e ds hm => no (.inr ⟨l, ds, hm, e ▸ h⟩)
        rcases alloc_at (show (W3.M ++ [some zs])[l]? = some (some es) from m) with ⟨z, y⟩ | ⟨z, y⟩ <;> rcases alloc_at (show (W3.M ++ [some zs])[l']? = some (some es') from m') with ⟨z', y'⟩ | ⟨z', y'⟩ <;>
          rcases alloc_at (show (W3.pla ++ [p])[l]? = some a from h) with ⟨u, v⟩ | ⟨u, v⟩ <;> rcases alloc_at (show (W3.pla ++ [p])[l']? = some a from h') with ⟨u', v'⟩ | ⟨u', v'⟩ <;> first
          | exact k3.inj l l' a es es' y y' v v'
          | exact (used _ _ v v' _ y).elim
          | exact (used _ _ v' v _ y').elim
          | omega
      · intro l es h
        rcases alloc_at (show (W3.M ++ [some zs])[l]? = some (some es) from h) with ⟨z, y⟩ | ⟨z, y⟩
        · obtain ⟨a, ys, h1, h2, h3⟩ := k3.there l es y
          exact ⟨a, ys, pi l a h1, h2, RepL.mono0 e35 h3⟩
        · cases y
          refine ⟨p, zv, ?_, hz, r5⟩
          show (W3.pla ++ [p])[l]? = some p
          rw [z, ← kl]
          simp
      · intro a ha l es m h
        rcases alloc_at (show (W3.M ++ [some zs])[l]? = some (some es) from m) with ⟨z, y⟩ | ⟨z, y⟩ <;> rcases alloc_at (show (W3.pla ++ [p])[l]? = some a from h) with ⟨u, v⟩ | ⟨u, v⟩ <;> first
          | exact k4.hidP a ha l es y v
          | exact no (.inl (v ▸ ha))
          | omega
    refine h (.ref p) ((W3.pop W1.hid).place p zs) rfl k5 e5 ⟨p, ?_, rfl⟩
    show (W3.pla ++ [p])[W3.M.length]? = some p
    rw [← k3.len]
    simp
end

/-! ### the targets of a comprehension -/
def wipeD (τ : DSt) : List Nat → DSt
  | [] => τ
  | v :: vs => (wipeD τ vs).set v none
section
variable {G : Gd} {X : Cx} {Γ : DC G X} {pos : Pos}
theorem RelS.unset {W : Wd} {τ : DSt} {σ : L2.St} (h : RelS G W τ σ) (i : Nat) : RelS G W (τ.set i none) (σ.set i none) := by
  refine ⟨by simp [h.1], fun j e q => ?_⟩
  by_cases hj : i = j
  · subst hj
    by_cases hl : i < τ.length
    · rw [List.getElem?_set_self hl] at q; cases q
    · rw [List.getElem?_eq_none (by simpa using hl)] at q; cases q
  · rw [List.getElem?_set_ne hj] at q
    rw [List.getElem?_set_ne hj]
    exact h.2 j e q
theorem RelS.wipe {W : Wd} {τ : DSt} {σ : L2.St} (h : RelS G W τ σ) : ∀ vs, RelS G W (wipeD τ vs) (L2.wipe σ vs)
  | [] => h
  | v :: vs => (RelS.wipe h vs).unset v
theorem wipe_get (σ : L2.St) (j : Nat) : ∀ vs : List Nat, (L2.wipe σ vs)[j]? = if j ∈ vs ∧ j < σ.length then some none else σ[j]?
  | [] => by simp [L2.wipe]
  | v :: vs => by
    unfold L2.wipe
    by_cases hv : v = j
    · subst hv
      by_cases hl : v < σ.length
      · rw [List.getElem?_set_self (by rw [wipe_length]; exact hl)]
        simp [hl]
      · rw [List.getElem?_eq_none (by rw [List.length_set, wipe_length]; omega)]
        simp [hl]
    · rw [List.getElem?_set_ne hv, wipe_get σ j vs]
      have : j ≠ v := fun e => hv e.symm
      simp [this]
theorem wipe_set {σ : L2.St} {i : Nat} {x : Option V} {vs : List Nat} (h : i ∈ vs) : L2.wipe (σ.set i x) vs = L2.wipe σ vs := by
  apply List.ext_getElem?
  intro j
  rw [wipe_get, wipe_get, List.length_set]
  by_cases hj : i = j
  · subst hj
    by_cases hl : i < σ.length
    · simp [h, hl]
    · simp [h, hl]
  · rw [List.getElem?_set_ne hj]
def GWp (G : Gd) (vs : List Nat) (g : TG) (m : GM) : Prop := ∀ (W : Wd) (τ : DSt) (σ : L2.St) (d : D) (v : V) (Q : L2.St → Hp → Prop), WOk G W → RelS G W τ σ → Rep G W d v →
  (match m d τ W.M with | .ok τ' M' => M' = W.M ∧ ∀ σ', RelS G W τ' σ' → L2.wipe σ' vs = L2.wipe σ vs → Q σ' W.H | _ => False) → g v σ W.H Q
def GsWp (G : Gd) (vs : List Nat) (g : TGs) (m : GsM) : Prop := ∀ (W : Wd) (τ : DSt) (σ : L2.St) (d : List D) (v : List V) (Q : L2.St → Hp → Prop), WOk G W → RelS G W τ σ → RepL G W d v →
  (match m d τ W.M with | .ok τ' M' => M' = W.M ∧ ∀ σ', RelS G W τ' σ' → L2.wipe σ' vs = L2.wipe σ vs → Q σ' W.H | _ => False) → g v σ W.H Q
theorem gw_name {vs : List Nat} (i : Nat) (h : i ∈ vs := by decide) : GWp G vs (gName i) (mName i) := fun W τ σ d v Q k rs r q => q.2 _ (rs.set i r) (wipe_set h)
theorem gws_nil {vs : List Nat} : GsWp G vs gNil mNil := fun W τ σ d v Q k rs r q => by
  cases d with
  | nil => exact ⟨r, q.2 _ rs rfl⟩
  | cons _ _ => exact q.elim
theorem gws_cons {vs : List Nat} {g : TG} {m : GM} {gs : TGs} {ms : GsM} (h1 : GWp G vs g m) (h2 : GsWp G vs gs ms) (hM : ∀ d τ M τ' M', m d τ M = .ok τ' M' → M' = M) : GsWp G vs (gCons g gs) (mCons m ms) := fun W τ σ d v Q k rs r q => by
  cases d with
  | nil => exact q.elim
  | cons d ds =>
    obtain ⟨v, us, rfl, r1, r2⟩ := r
    refine ⟨v, us, rfl, h1 W τ σ d v _ k rs r1 ?_⟩
    have q : (match (m d τ W.M).bind fun τ1 M1 => ms ds τ1 M1 with | .ok τ' M' => M' = W.M ∧ ∀ σ', RelS G W τ' σ' → L2.wipe σ' vs = L2.wipe σ vs → Q σ' W.H | _ => False) := q
    cases e : m d τ W.M with
    | ok τ1 M1 =>
      rw [e] at q
      have hm := hM _ _ _ _ _ e
      subst hm
      have q : (match ms ds τ1 W.M with | .ok τ' M' => M' = W.M ∧ ∀ σ', RelS G W τ' σ' → L2.wipe σ' vs = L2.wipe σ vs → Q σ' W.H | _ => False) := q
      refine ⟨rfl, fun σ1 s1 w1 => h2 W τ1 σ1 ds us Q k s1 r2 ?_⟩
      cases e2 : ms ds τ1 W.M with
      | ok τ2 M2 =>
        rw [e2] at q
        exact ⟨q.1, fun σ2 s2 w2 => q.2 σ2 s2 (w2.trans w1)⟩
      | exc x M => rw [e2] at q; exact q
      | bad => rw [e2] at q; exact q
    | exc x M => rw [e] at q; exact q.elim
    | bad => rw [e] at q; exact q.elim
theorem hm_name (i : Nat) : ∀ d τ M τ' M', mName i d τ M = .ok τ' M' → M' = M := fun d τ M τ' M' h => by
  cases h
  rfl
theorem gw_tup {K : PySem.W.Frag} {vs : List Nat} {n : Nat} {gs : TGs} {ms : GsM} (hK : K = G.K) (h : GsWp G vs gs ms) : GWp G vs (gTup K n gs) (mTup n ms) := fun W τ σ d v Q k rs r q => by
  subst hK
  have key : ∃ ds, tupOf d = some ds ∧ ds.length = n ∧ (match ms ds τ W.M with | .ok τ' M' => M' = W.M ∧ ∀ σ', RelS G W τ' σ' → L2.wipe σ' vs = L2.wipe σ vs → Q σ' W.H | _ => False) := by
    unfold mTup at q
    split at q
    · rename_i q0
      split at q0
      · split at q0
        · exact ⟨_, rfl, by assumption, by rw [q0]; exact q⟩
        · cases q0
      · split at q0
        · exact ⟨_, rfl, by assumption, by rw [q0]; exact q⟩
        · cases q0
      · cases q0
    · exact q.elim
  obtain ⟨ds, e1, e2, h'⟩ := key
  obtain ⟨a, xs, rfl, hs, rr⟩ := tup_of r e1
  exact ⟨a, xs, rfl, hs, by rw [← rr.length]; exact e2, h W τ σ ds xs Q k rs rr h'⟩

/-! ### comprehensions -/
abbrev DC.blk (Γ : DC G X) (s : Shared) (H : Hp) (scope : Scope) (cenv : Env) (fp : List Addr) : DC G (X.blk s H scope cenv fp) := ⟨fun _ _ _ _ => False, Γ.ea, Γ.hK, takes0⟩
abbrev DTs (Γ : DC G X) (ifs : List Expr) (m : TM) : Prop := PTs X ifs (tT Γ m)
@[simp] def mYes : TM := fun _ M => .ok true M
theorem pts_imp {X : Cx} {e : List Expr} {t t' : TT} (h : PTs X e t) (i : ∀ σ H Q, t' σ H Q → t σ H Q) : PTs X e t' := ⟨fun pins s σ H Q I q => h.run pins s σ H Q I (i _ _ _ q)⟩
theorem dts_nil : DTs Γ [] mYes := pts_imp pts_nil fun σ H Q q => by
  obtain ⟨τ, W, rfl, he, ok, rs, h⟩ := q
  exact h true W rfl ok (Ext.refl W) rfl
theorem dts_one {c : Expr} {m : TM} (h : DT Γ c m) : DTs Γ [c] m := pts_one h
open Classical in
noncomputable def lcL (src : List (Nat × List D)) (g : GM) (t : TM) (e : EM) : List D → DSt → Mem → R (List D)
  | [], _, M => if Chk src M then .ok [] M else .bad
  | d :: ds, τ, M => if Chk src M then match g d τ M with
      | .ok τ1 M1 => match t τ1 M1 with
        | .ok true M2 => match e τ1 M2 with
          | .ok y M3 => (lcL src g t e ds τ M3).bind fun ys M4 => .ok (y :: ys) M4
          | _ => .bad
        | .ok false M2 => lcL src g t e ds τ M2
        | _ => .bad
      | _ => .bad
    else .bad
@[simp] noncomputable def eLc (own : Bool) (i : IM) (g : GM) (t : TM) (e : EM) (vs : List Nat) : EM := fun τ M => (i τ M).bind fun it M1 => if it.xs.length ≤ sizeLine then (lcL it.src g t e it.xs (wipeD τ vs) M1).bind fun ys M2 => DM.fin own (some (.l ys)) M2 else .bad
theorem lcL_nox {src : List (Nat × List D)} {g : GM} {t : TM} {e : EM} : ∀ (ds : List D) (τ : DSt) (M : Mem) (x : D) (M' : Mem), lcL src g t e ds τ M ≠ .exc x M'
  | [], τ, M, x, M' => by
    unfold lcL
    split <;> exact fun h => nomatch h
  | d :: ds, τ, M, x, M' => by
    unfold lcL
    split
    · split
      · split
        · split
          · rename_i y M3 _
            cases el : lcL src g t e ds τ M3 with
            | ok ys M4 => exact fun h => nomatch h
            | exc x' M4 => exact absurd el (lcL_nox ds τ _ _ _)
            | bad => exact fun h => nomatch h
          · exact fun h => nomatch h
        · exact lcL_nox ds τ _ _ _
        · exact fun h => nomatch h
      · exact fun h => nomatch h
    · exact fun h => nomatch h
theorem lc_of {own : Bool} {i : IM} {g : TG} {m : GM} {t : TM} {e : EM} {vs : List Nat} (hg : GWp G vs g m) (hM : ∀ d τ M τ' M', m d τ M = .ok τ' M' → M' = M) {σ : L2.St} {H : Hp} {Q : VK} (q : tE Γ (eLc own i m t e vs) σ H Q) :
    tLc (tI Γ i) g (tR G (fun _ _ _ _ => False) Γ.ea rT t) (tR G (fun _ _ _ _ => False) Γ.ea (Rep G) e) vs σ H Q := by
  obtain ⟨τ, W, rfl, he, ok, rs, h⟩ := q
  refine step he ok rs h fun it J W1 k1 e1 r1 h1 => ?_
  split at h1
  · rename_i hz
    intro D hD
    let F : List DM.D → R (List DM.D) → Prop := fun acc r => match r with
      | .ok ys M => pR G Γ.W (Rep G) W1 σ (DM.fin own (some (.l (acc ++ ys))) M) Q
      | _ => False
    have start : F [] (lcL it.src m t e (it.xs.drop 0) (wipeD τ vs) W1.M) := by
      show F [] (lcL it.src m t e it.xs (wipeD τ vs) W1.M)
      cases el : lcL it.src m t e it.xs (wipeD τ vs) W1.M with
      | ok ys M => rw [el] at h1; exact h1
      | exc x M => exact absurd el (lcL_nox _ _ _ _ _)
      | bad => rw [el] at h1; exact h1
    refine ⟨fun j n H => j + n = it.xs.length ∧ ∃ (W2 : Wd) (acc : List DM.D) (av : List V), W2.H = H ∧ WOk G W2 ∧ Ext0 W1 W2 ∧ W2.hid = D :: W1.hid ∧ (∀ a, a ∈ W1.hid → W2.H a = W1.H a) ∧ W2.H D = some (.lst av) ∧ RepL G W2 acc av ∧ acc.length ≤ j ∧ F acc (lcL it.src m t e (it.xs.drop j) (wipeD τ vs) W2.M),
      ⟨it.xs.length, by omega, W1.push D, [], [], rfl, ok_push k1 hD, ext_push k1 hD, rfl, fun a ha => ?_, upd_same, rfl, Nat.le_refl _, start⟩, ?_⟩
    · obtain ⟨xs, q⟩ := k1.hidT a ha
      exact upd_ne (ne_of_none q hD)
    rintro j n H2 ⟨en, W2, acc, av, rfl, k2, e2, eh, hh, hz2, ra, hl, f2⟩
    by_cases hj : j < it.xs.length
    · rw [List.drop_eq_getElem_cons hj] at f2
      unfold lcL at f2
      split at f2
      · rename_i hc2
        obtain ⟨f3, _⟩ := r1 W2 k2 e2 hc2
        obtain ⟨g1, g2⟩ := f3 j it.xs[j] (List.getElem?_eq_getElem hj)
        refine .inr ⟨g1, fun H' => ∃ (W3 : Wd) (acc : List DM.D) (av : List V), W3.H = H' ∧ WOk G W3 ∧ Ext0 W1 W3 ∧ W3.hid = D :: W1.hid ∧ (∀ a, a ∈ W1.hid → W3.H a = W1.H a) ∧ W3.H D = some (.lst av) ∧ RepL G W3 acc av ∧ acc.length ≤ j + 1 ∧ F acc (lcL it.src m t e (it.xs.drop (j + 1)) (wipeD τ vs) W3.M),
          fun H' hN => ⟨n - 1, by omega, by omega, hN⟩, fun x H' hy => ?_⟩
        obtain ⟨W3, rfl, m3, k3, e3, r3⟩ := g2 x H' hy
        have s3 : RelS G W3 (wipeD τ vs) (L2.wipe σ vs) := RelS.wipe ((rs.mono e1).mono0 (e2.trans e3.toExt0)) vs
        refine hg W3 _ _ it.xs[j] x _ k3 s3 r3 ?_
        rw [m3]
        -- what holds of the list that is being made, from W2 on
        have keep : ∀ W4, Ext W2 W4 → Ext0 W1 W4 ∧ W4.hid = D :: W1.hid ∧ (∀ a, a ∈ W1.hid → W4.H a = W1.H a) ∧ W4.H D = some (.lst av) ∧ RepL G W4 acc av := fun W4 e4 =>
          ⟨e2.trans e4.toExt0, e4.hid.trans eh, fun a ha => (e4.hidH a (by rw [eh]; exact List.mem_cons_of_mem _ ha)).trans (hh a ha), (e4.hidH D (by rw [eh]; exact List.mem_cons_self)).trans hz2, RepL.mono e4 ra⟩
        cases eg : m it.xs[j] (wipeD τ vs) W2.M with
        | ok τ3 M3 =>
          rw [eg] at f2
          have em := hM _ _ _ _ _ eg
          subst em
          have ea3 : W3.ea = Γ.ea := e3.ea.trans (e2.ea.trans (e1.ea.trans he))
          have hwip : L2.wipe (L2.wipe σ vs) vs = L2.wipe σ vs := by
            apply List.ext_getElem?
            intro jj
            rw [wipe_get, wipe_get, wipe_length]
            split <;> rfl
          refine ⟨rfl, fun σ4 s4 w4 => ⟨w4.trans hwip, τ3, W3, rfl, ea3, k3, s4, ?_⟩⟩
          rw [m3]
          have f2 : F acc (match t τ3 W2.M with
            | .ok true M2 => match e τ3 M2 with
              | .ok y M3 => (lcL it.src m t e (it.xs.drop (j + 1)) (wipeD τ vs) M3).bind fun ys M4 => .ok (y :: ys) M4
              | _ => .bad
            | .ok false M2 => lcL it.src m t e (it.xs.drop (j + 1)) (wipeD τ vs) M2
            | _ => .bad) := f2
          cases et : t τ3 W2.M with
          | ok b M4 =>
            rw [et] at f2
            intro b' W4 m4 k4 e4 hb
            cases hb
            have e24 := e3.trans e4
            cases b with
            | true =>
              show tR G (fun _ _ _ _ => False) Γ.ea (Rep G) e σ4 W4.H _
              refine ⟨τ3, W4, rfl, e4.ea.trans ea3, k4, s4.mono e4, ?_⟩
              rw [m4]
              have f2 : F acc (match e τ3 M4 with
                | .ok y M3 => (lcL it.src m t e (it.xs.drop (j + 1)) (wipeD τ vs) M3).bind fun ys M4 => .ok (y :: ys) M4
                | _ => .bad) := f2
              cases ee : e τ3 M4 with
              | ok y M5 =>
                rw [ee] at f2
                intro yv W5 m5 k5 e5 r5
                obtain ⟨x1, x2, x3, x4, x5⟩ := keep W5 (e24.trans e5)
                have hin : D ∈ W5.hid := by
                  rw [x2]
                  exact List.mem_cons_self
                have hav : av.length ≤ j := by
                  rw [← ra.length]
                  exact hl
                refine ⟨av, x4, by omega, W5.grow D (av ++ [yv]), acc ++ [y], av ++ [yv], rfl, ok_grow k5 hin, x1.trans (ext_grow hin), x2, fun a ha => ?_, upd_same, RepL.mono0 (ext_grow hin) (x5.append ⟨yv, [], rfl, r5, rfl⟩), by simp; omega, ?_⟩
                · have hN := k5.hidN
                  rw [x2] at hN
                  exact (upd_ne (show a ≠ D from fun z => (List.nodup_cons.mp hN).1 (z ▸ ha))).trans (x3 a ha)
                · show F _ (lcL it.src m t e (it.xs.drop (j + 1)) (wipeD τ vs) W5.M)
                  rw [m5]
                  have f2 : F acc ((lcL it.src m t e (it.xs.drop (j + 1)) (wipeD τ vs) M5).bind fun ys M4 => .ok (y :: ys) M4) := f2
                  cases el : lcL it.src m t e (it.xs.drop (j + 1)) (wipeD τ vs) M5 with
                  | ok ys M6 =>
                    rw [el] at f2
                    show pR G Γ.W (Rep G) W1 σ (DM.fin own (some (.l (acc ++ [y] ++ ys))) M6) Q
                    rw [List.append_assoc]
                    exact f2
                  | exc x M => rw [el] at f2; exact f2
                  | bad => rw [el] at f2; exact f2
              | exc x M => rw [ee] at f2; exact f2.elim
              | bad => rw [ee] at f2; exact f2.elim
            | false =>
              show ∃ (W3 : Wd) (acc : List DM.D) (av : List V), _
              obtain ⟨x1, x2, x3, x4, x5⟩ := keep W4 e24
              exact ⟨W4, acc, av, rfl, k4, x1, x2, x3, x4, x5, by omega, by rw [m4]; exact f2⟩
          | exc x M => rw [et] at f2; exact f2.elim
          | bad => rw [et] at f2; exact f2.elim
        | exc x M => rw [eg] at f2; exact f2.elim
        | bad => rw [eg] at f2; exact f2.elim
      · exact f2.elim
    · rw [List.drop_of_length_le (by omega)] at f2
      unfold lcL at f2
      split at f2
      · rename_i hc2
        obtain ⟨_, f4⟩ := r1 W2 k2 e2 hc2
        refine .inl ⟨f4 j (by omega), ?_⟩
        have f2 : pR G Γ.W (Rep G) W1 σ (DM.fin own (some (.l (acc ++ []))) W2.M) Q := f2
        rw [List.append_nil] at f2
        exact made_out hD k1 k2 e2 eh hh hz2 ra f2
      · exact f2.elim
  · exact h1.elim
theorem de_lc (own : Bool) {elt tg iter : Expr} {ifs : List Expr} {scope : Scope} {ow : List (Str × Nat)} {i : IM} {g : TG} {m : GM} {t : TM} {e : EM} (hN : X.N.Nodup) (hi : DI Γ tg iter i) (ok : BlkOk X.N X.env.scope scope ow) (hw : GWp G (ow.map (·.2)) g m) (hM : ∀ d τ M τ' M', m d τ M = .ok τ' M' → M' = M)
    (hg : ∀ (s : Shared) (H : Hp) (C : Addr) (cl : List (Str × Addr)) (fp : List Addr), PG (X.blk s H scope (compEnvC scope cl C X.env) fp) tg g)
    (ht : ∀ (s : Shared) (H : Hp) (C : Addr) (cl : List (Str × Addr)) (fp : List Addr), DTs (Γ.blk s H scope (compEnvC scope cl C X.env) fp) ifs t)
    (he : ∀ (s : Shared) (H : Hp) (C : Addr) (cl : List (Str × Addr)) (fp : List Addr), DE (Γ.blk s H scope (compEnvC scope cl C X.env) fp) elt e)
    (hc : X.calm = true := by rfl) (hs : ∀ x, foldedSetIterable iter X.env x = pure x := by intro _; rfl) : DE Γ (.ListComp elt [⟨tg, iter, ifs, 0⟩] scope pos) (eLc own i m t e (ow.map (·.2))) :=
  pe_imp (pe_lc hc hN hi ok hg ht he hs) fun σ H Q q => lc_of hw hM q
theorem ds_setLc (own : Bool) {j : Nat} {y : Str} {py : Pos} {elt tg iter : Expr} {ifs : List Expr} {scope : Scope} {ow : List (Str × Nat)} {spos : Pos} {i : IM} {g : TG} {m : GM} {t : TM} {e : EM} (hN : X.N.Nodup)
    (hi : DI Γ tg iter i) (ok : BlkOk X.N X.env.scope scope ow) (hw : GWp G (ow.map (·.2)) g m) (hM : ∀ d τ M τ' M', m d τ M = .ok τ' M' → M' = M)
    (hg : ∀ (s : Shared) (H : Hp) (C : Addr) (cl : List (Str × Addr)) (fp : List Addr), PG (X.blk s H scope (compEnvC scope cl C X.env) fp) tg g)
    (ht : ∀ (s : Shared) (H : Hp) (C : Addr) (cl : List (Str × Addr)) (fp : List Addr), DTs (Γ.blk s H scope (compEnvC scope cl C X.env) fp) ifs t)
    (he : ∀ (s : Shared) (H : Hp) (C : Addr) (cl : List (Str × Addr)) (fp : List Addr), DE (Γ.blk s H scope (compEnvC scope cl C X.env) fp) elt e)
    (hy : X.N[j]? = some y := by rfl) (hyl : X.env.scope.names.lookup y = some .local := by rfl)
    (hsw : swapsWith (.ListComp elt [⟨tg, iter, ifs, 0⟩] scope pos) (some (.Name y py)) spos.line X.env = pure true := by exact sw_true rfl rfl rfl (by decide +kernel))
    (hc : X.calm = true := by rfl) (hs : ∀ x, foldedSetIterable iter X.env x = pure x := by intro _; rfl) : DS Γ (.Assign [.Name y py] (.ListComp elt [⟨tg, iter, ifs, 0⟩] scope pos) spos) (sSet j (eLc own i m t e (ow.map (·.2)))) :=
  ps_imp (ps_setLc (tt := tR G (fun _ _ _ _ => False) Γ.ea rT t) (te := tR G (fun _ _ _ _ => False) Γ.ea (Rep G) e) hc hN hy hyl hsw hi ok hg ht he hs) fun Dn σ H q => by
  obtain ⟨τ, W, rfl, hea, ok, rs, h⟩ := q
  refine lc_of (own := own) (Γ := Γ) hw hM ?_
  exact stepS hea ok rs h fun d v W1 k1 e1 r1 h1 => h1 _ W1 rfl k1 (Ext.refl W1) ((rs.mono e1).set j r1)

/-! ### while: as long as it takes, if it ends -/
def whileN (c : TM) (b : SM) : Nat → SM
  | 0, _, _ => .bad
  | n + 1, τ, M => andS (c τ M) τ fun k M1 => if k = true then match b τ M1 with
      | .nx τ' M' => whileN c b n τ' M'
      | .ct τ' M' => whileN c b n τ' M'
      | .bk τ' M' => .nx τ' M'
      | r => r
    else .nx τ M1
open Classical in
noncomputable def sWhile (c : TM) (b : SM) : SM := fun τ M => if h : ∃ n, whileN c b n τ M ≠ .bad then whileN c b h.choose τ M else .bad
theorem whileN_mono {c : TM} {b : SM} : ∀ (n : Nat) (τ : DSt) (M : Mem) (k : Nat), whileN c b n τ M ≠ .bad → n ≤ k → whileN c b k τ M = whileN c b n τ M
  | 0, _, _, _, h, _ => absurd rfl h
  | n + 1, τ, M, 0, h, hk => by omega
  | n + 1, τ, M, k + 1, h, hk => by
    unfold whileN at h ⊢
    cases e : c τ M with
    | ok x M1 =>
      rw [e] at h
      cases x with
      | false => rfl
      | true =>
        have h : (match b τ M1 with
          | .nx τ' M' => whileN c b n τ' M'
          | .ct τ' M' => whileN c b n τ' M'
          | .bk τ' M' => .nx τ' M'
          | r => r) ≠ .bad := h
        show (match b τ M1 with
          | .nx τ' M' => whileN c b k τ' M'
          | .ct τ' M' => whileN c b k τ' M'
          | .bk τ' M' => .nx τ' M'
          | r => r) = (match b τ M1 with
          | .nx τ' M' => whileN c b n τ' M'
          | .ct τ' M' => whileN c b n τ' M'
          | .bk τ' M' => .nx τ' M'
          | r => r)
        cases eb : b τ M1 with
        | nx τ' M' => rw [eb] at h; exact whileN_mono n τ' M' k h (by omega)
        | ct τ' M' => rw [eb] at h; exact whileN_mono n τ' M' k h (by omega)
        | _ => rfl
    | exc x M1 => rfl
    | bad => rfl
theorem sWhile_eq {c : TM} {b : SM} {τ : DSt} {M : Mem} {n : Nat} (h : whileN c b n τ M ≠ .bad) : sWhile c b τ M = whileN c b n τ M := by
  unfold sWhile
  have hx : ∃ n, whileN c b n τ M ≠ .bad := ⟨n, h⟩
  rw [dif_pos hx]
  rcases Nat.le_total n hx.choose with q | q
  · exact whileN_mono n τ M _ h q
  · exact (whileN_mono _ τ M _ hx.choose_spec q).symm
theorem ds_while {c : Expr} {body : List Stmt} {mc : TM} {b : SM} (h1 : DT Γ c mc) (hb : DSs Γ body b) (hp : PassesOwn (model X.prog X.w) X.A X.env X.xe := by first | exact PassesOwn.never | exact passes_of rfl | assumption) :
    DS Γ (.While c body [] pos) (sWhile mc b) := ps_imp (ps_while hp h1 hb) fun Dn σ H q => by
  obtain ⟨τ, W, rfl, he, ok, rs, h⟩ := q
  refine ⟨fun n σ H => ∃ τ W, W.H = H ∧ W.ea = Γ.ea ∧ WOk G W ∧ RelS G W τ σ ∧ pS G Γ.W W (whileN mc b n τ W.M) Dn, ?_, ?_⟩
  · unfold sWhile at h
    split at h
    · rename_i hx
      exact ⟨_, τ, W, rfl, he, ok, rs, h⟩
    · exact h.elim
  rintro n σ H ⟨τ, W, rfl, he, ok, rs, h⟩
  cases n with
  | zero => exact h.elim
  | succ n =>
    refine stepS he ok rs h fun d v W1 k1 e1 r1 h1 => ?_
    cases r1
    cases d with
    | false => exact h1 σ W1 rfl k1 (Ext.refl W1) (rs.mono e1)
    | true =>
      rw [if_pos rfl]
      refine ⟨fun σ' H' => ∃ τ W, W.H = H' ∧ W.ea = Γ.ea ∧ WOk G W ∧ RelS G W τ σ' ∧ pS G Γ.W W (whileN mc b n τ W.M) Dn, fun σ' H' hN => ⟨n, Nat.lt_succ_self n, hN⟩, ?_⟩
      refine ⟨τ, W1, rfl, e1.ea.trans he, k1, rs.mono e1, ?_⟩
      have h1 : pS G Γ.W W1 (match b τ W1.M with
        | .nx τ' M' => whileN mc b n τ' M'
        | .ct τ' M' => whileN mc b n τ' M'
        | .bk τ' M' => .nx τ' M'
        | r => r) Dn := h1
      cases eb : b τ W1.M with
      | nx τ' M' =>
        rw [eb] at h1
        exact fun σ' W' m' k' e' s' => ⟨τ', W', rfl, e'.ea.trans (e1.ea.trans he), k', s', by rw [m']; exact h1.ext e'⟩
      | ct τ' M' =>
        rw [eb] at h1
        exact fun σ' W' m' k' e' s' => ⟨τ', W', rfl, e'.ea.trans (e1.ea.trans he), k', s', by rw [m']; exact h1.ext e'⟩
      | bk τ' M' => rw [eb] at h1; exact h1
      | rt d M' => rw [eb] at h1; exact h1
      | exc x τ' M' => rw [eb] at h1; exact h1
      | bad => rw [eb] at h1; exact h1
end
end DM

/-! DM: defs, calls, raise, try. -/
namespace DM
open PySem PySem.Spec PyProof.Rows L2

/-! ### places of a def's own -/
mutual
def Clo (n : Nat) : D → Prop
  | .tup ds => CloL n ds
  | .lst ds => CloL n ds
  | .kt ds => CloL n ds
  | .loc l => l < n
  | .exn _ _ _ _ => False
  | _ => True
def CloL (n : Nat) : List D → Prop
  | [] => True
  | d :: ds => Clo n d ∧ CloL n ds
end
abbrev Pur (d : D) : Prop := Clo 0 d
theorem CloL_iff {n : Nat} : ∀ {ds : List D}, CloL n ds ↔ ∀ d ∈ ds, Clo n d
  | [] => by simp [CloL]
  | d :: ds => by simp [CloL, CloL_iff (ds := ds)]
mutual
theorem Clo.mono {n m : Nat} (h : n ≤ m) : ∀ {d : D}, Clo n d → Clo m d
  | .non, _ => trivial
  | .bl _, _ => trivial
  | .int _, _ => trivial
  | .str _, _ => trivial
  | .ty _, _ => trivial
  | .gr _, _ => trivial
  | .scr _, _ => trivial
  | .dic, _ => trivial
  | .tup _, q => CloL.mono h (show CloL n _ from q)
  | .lst _, q => CloL.mono h (show CloL n _ from q)
  | .kt _, q => CloL.mono h (show CloL n _ from q)
  | .loc l, q => Nat.lt_of_lt_of_le (show l < n from q) h
  | .exn _ _ _ _, q => False.elim q
theorem CloL.mono {n m : Nat} (h : n ≤ m) : ∀ {ds : List D}, CloL n ds → CloL m ds
  | [], _ => trivial
  | _ :: _, q => ⟨Clo.mono h q.1, CloL.mono h q.2⟩
end
section
variable {G : Gd} {W W' : Wd}
/-- fewer owners, fewer places -/
structure Cut (n : Nat) (W W' : Wd) : Prop where
  H : W'.H = W.H
  own : ∀ a, W'.own a → W.own a
  pla : ∀ l, l < n → W'.pla[l]? = W.pla[l]?
theorem ScrAt.cut {n : Nat} (c : Cut n W W') {a : Addr} {xs : List V} (h : ScrAt G W a xs) : ScrAt G W' a xs := by
  rcases h with ⟨h, k⟩ | h
  · exact .inl ⟨by rw [c.H]; exact h, fun z => k (c.own a z)⟩
  · exact .inr h
mutual
theorem Rep.cut {n : Nat} (c : Cut n W W') : ∀ {d : D} {v : V}, Rep G W d v → Clo n d → Rep G W' d v
  | .non, _, h, _ => h
  | .bl _, _, h, _ => h
  | .int _, _, h, _ => h
  | .str _, _, h, _ => h
  | .ty _, _, h, _ => h
  | .gr _, _, h, _ => h
  | .tup ds, _, h, q => by
    obtain ⟨a, xs, e, h1, n1, r⟩ := h
    exact ⟨a, xs, e, by rw [c.H]; exact h1, fun z => n1 (c.own a z), RepL.cut c r q⟩
  | .lst ds, _, h, q => by
    obtain ⟨a, xs, e, h1, n1, r⟩ := h
    exact ⟨a, xs, e, by rw [c.H]; exact h1, fun z => n1 (c.own a z), RepL.cut c r q⟩
  | .kt ds, _, h, q => by
    obtain ⟨a, xs, e, h1, r⟩ := h
    exact ⟨a, xs, e, h1, RepL.cut c r q⟩
  | .loc l, _, h, q => by
    obtain ⟨a, h1, e⟩ := h
    exact ⟨a, by rw [c.pla l q]; exact h1, e⟩
  | .scr ns, _, h, _ => by
    obtain ⟨a, e, h1⟩ := h
    exact ⟨a, e, h1.cut c⟩
  | .dic, _, h, _ => by
    obtain ⟨a, e, h1, n1⟩ := h
    exact ⟨a, e, by rw [c.H]; exact h1, fun z => n1 (c.own a z)⟩
  | .exn _ _ _ _, _, _, q => False.elim q
theorem RepL.cut {n : Nat} (c : Cut n W W') : ∀ {ds : List D} {vs : List V}, RepL G W ds vs → CloL n ds → RepL G W' ds vs
  | [], _, h, _ => h
  | _ :: _, _, h, q => by
    obtain ⟨v, r, e, h1, h2⟩ := h
    exact ⟨v, r, e, Rep.cut c h1 q.1, RepL.cut c h2 q.2⟩
end
mutual
theorem Rep.clo (he : W.ea = none) : ∀ {d : D} {v : V}, Rep G W d v → Clo W.pla.length d
  | .non, _, h => trivial
  | .bl _, _, h => trivial
  | .int _, _, h => trivial
  | .str _, _, h => trivial
  | .ty _, _, h => trivial
  | .gr _, _, h => trivial
  | .scr _, _, h => trivial
  | .dic, _, h => trivial
  | .tup ds, _, h => by
    obtain ⟨a, xs, e, h1, n1, r⟩ := h
    exact RepL.clo he r
  | .lst ds, _, h => by
    obtain ⟨a, xs, e, h1, n1, r⟩ := h
    exact RepL.clo he r
  | .kt ds, _, h => by
    obtain ⟨a, xs, e, h1, r⟩ := h
    exact RepL.clo he r
  | .loc l, _, h => by
    obtain ⟨a, h1, e⟩ := h
    exact (List.getElem?_eq_some_iff.mp h1).1
  | .exn _ _ _ _, _, h => by
    obtain ⟨a, dd, h1, e⟩ := h
    rw [he] at h1
    cases h1
theorem RepL.clo (he : W.ea = none) : ∀ {ds : List D} {vs : List V}, RepL G W ds vs → CloL W.pla.length ds
  | [], _, h => trivial
  | _ :: _, _, h => by
    obtain ⟨v, r, e, h1, h2⟩ := h
    exact ⟨Rep.clo he h1, RepL.clo he h2⟩
end
end
/-- places become trees -/
def fzD (M : Mem) (n : Nat) : Nat → D → Option D
  | 0, _ => none
  | k + 1, .tup ds => (ds.mapM (fzD M n k)).map .tup
  | k + 1, .lst ds => (ds.mapM (fzD M n k)).map .lst
  | k + 1, .loc l => if l < n then some (.loc l) else (memAt M l).bind fun ds => (ds.mapM (fzD M n k)).map .lst
  | _ + 1, .kt _ => none
  | _ + 1, .exn _ _ _ _ => none
  | _ + 1, d => some d
open Classical in
noncomputable def fz (M : Mem) (n : Nat) (d : D) : Option D := if Clo n d then some d else fzD M n 6 d
/-- the def's own places are given up -/
def Kept (M M' : Mem) : Prop := M.length ≤ M'.length ∧ ∀ l, l < M.length → M'[l]? = M[l]? ∨ ∃ ds, M'[l]? = some (some ds) ∧ CloL M.length ds
open Classical in
noncomputable def trunc (M M' : Mem) (d : D) : R D := if Kept M M' then match fz M' M.length d with
    | some d' => .ok d' (M'.take M.length)
    | none => .bad
  else .bad
open Classical in
noncomputable def truncX (M M' : Mem) (x : D) : R D := match x with
  | .exn c has f d => if Kept M M' ∧ Pur d then .exc (.exn c has f d) (M'.take M.length) else .bad
  | _ => .bad
section
variable {G : Gd} {W W' : Wd}
abbrev Wd.cutTo (W : Wd) (n : Nat) : Wd := { W with pla := W.pla.take n, M := W.M.take n }
theorem cut_cutTo (n : Nat) : Cut n W (W.cutTo n) := by
  refine ⟨rfl, fun a h => ?_, fun l h => ?_⟩
  · rcases h with h | ⟨l, ds, h1, h2⟩
    · exact .inl h
    have h1 : (W.M.take n)[l]? = some (some ds) := h1
    have h2 : (W.pla.take n)[l]? = some a := h2
    rw [List.getElem?_take] at h1 h2
    by_cases hl : l < n
    · rw [if_pos hl] at h1 h2
      exact .inr ⟨l, ds, h1, h2⟩
    · rw [if_neg hl] at h1
      cases h1
  · show (W.pla.take n)[l]? = _
    rw [List.getElem?_take, if_pos h]
theorem ok_cutTo (k : WOk G W) (k' : WOk G W') (he : W.ea = none) (e : Ext W W') (hk : Kept W.M W'.M) : WOk G (W'.cutTo W.M.length) ∧ Ext W (W'.cutTo W.M.length) := by
  have c := cut_cutTo (W := W') W.M.length
  have at_ : ∀ {l : Nat} {ds : List D}, (W'.M.take W.M.length)[l]? = some (some ds) → l < W.M.length ∧ W'.M[l]? = some (some ds) := fun {l ds} h => by
    rw [List.getElem?_take] at h
    by_cases hl : l < W.M.length
    · rw [if_pos hl] at h
      exact ⟨hl, h⟩
    · rw [if_neg hl] at h
      cases h
  have pi_ : ∀ {l : Nat} {a : Addr}, (W'.pla.take W.M.length)[l]? = some a → W'.pla[l]? = some a := fun {l a} h => by
    rw [List.getElem?_take] at h
    by_cases hl : l < W.M.length
    · rw [if_pos hl] at h
      exact h
    · rw [if_neg hl] at h
      cases h
  refine ⟨⟨?_, fun l l' a ds ds' m m' h h' => ?_, fun l ds h => ?_, k'.hidT, fun a ha l ds m h => ?_, k'.hidN, k'.tab⟩, ⟨⟨fun l a h => ?_, fun a o h n t => ?_, e.ea⟩, e.hid, e.hidH⟩⟩
  · show (W'.pla.take _).length = (W'.M.take _).length
    rw [List.length_take, List.length_take, k'.len]
  · exact k'.inj l l' a ds ds' (at_ m).2 (at_ m').2 (pi_ h) (pi_ h')
  · obtain ⟨hl, h⟩ := at_ h
    obtain ⟨a, xs, h1, h2, h3⟩ := k'.there l ds h
    refine ⟨a, xs, by rw [c.pla l hl]; exact h1, h2, ?_⟩
    rcases hk.2 l hl with q | ⟨es, q, qc⟩
    · rw [q] at h
      obtain ⟨_, ys, _, _, r⟩ := k.there l ds h
      exact RepL.cut c h3 (by rw [← k.len]; exact RepL.clo he r)
    · rw [h] at q
      cases q
      exact RepL.cut c h3 qc
  · exact k'.hidP a ha l ds (at_ m).2 (pi_ h)
  · have hl : l < W.M.length := by
      rw [← k.len]
      exact (List.getElem?_eq_some_iff.mp h).1
    rw [c.pla l hl]
    exact e.pla l a h
  · obtain ⟨h1, n1⟩ := e.H a o h n t
    exact ⟨h1, fun q => n1 (c.own a q)⟩
theorem mapM_rep {f : D → Option D} (h : ∀ d v d', Rep G W d v → f d = some d' → Rep G W' d' v) : ∀ {ds ds' : List D} {vs : List V}, RepL G W ds vs → ds.mapM f = some ds' → RepL G W' ds' vs
  | [], ds', vs, r, e => by
    simp at e
    subst e
    exact r
  | d :: ds, ds', vs, r, e => by
    obtain ⟨v, us, rfl, r1, r2⟩ := r
    rw [List.mapM_cons] at e
    cases e1 : f d with
    | none => rw [e1] at e; cases e
    | some d1 =>
      rw [e1] at e
      cases e2 : ds.mapM f with
      | none => rw [e2] at e; cases e
      | some es =>
        rw [e2] at e
        cases e
        exact ⟨v, us, rfl, h d v d1 r1 e1, mapM_rep h r2 e2⟩
theorem fzD_rep (k' : WOk G W') {n : Nat} : ∀ (k : Nat) (d : D) (v : V) (d' : D), Rep G W' d v → fzD W'.M n k d = some d' → Rep G (W'.cutTo n) d' v
  | 0, _, _, _, _, e => by cases e
  | k + 1, .tup ds, v, d', r, e => by
    have e : (ds.mapM (fzD W'.M n k)).map D.tup = some d' := e
    obtain ⟨es, e1, rfl⟩ := Option.map_eq_some_iff.mp e
    obtain ⟨a, xs, rfl, h1, n1, r⟩ := r
    exact ⟨a, xs, rfl, h1, fun z => n1 ((cut_cutTo n).own a z), mapM_rep (fun d v d' => fzD_rep k' k d v d') r e1⟩
  | k + 1, .lst ds, v, d', r, e => by
    have e : (ds.mapM (fzD W'.M n k)).map D.lst = some d' := e
    obtain ⟨es, e1, rfl⟩ := Option.map_eq_some_iff.mp e
    obtain ⟨a, xs, rfl, h1, n1, r⟩ := r
    exact ⟨a, xs, rfl, h1, fun z => n1 ((cut_cutTo n).own a z), mapM_rep (fun d v d' => fzD_rep k' k d v d') r e1⟩
  | k + 1, .loc l, v, d', r, e => by
    have e : (if l < n then some (D.loc l) else (memAt W'.M l).bind fun ds => (ds.mapM (fzD W'.M n k)).map .lst) = some d' := e
    obtain ⟨a, h1, rfl⟩ := r
    split at e
    · rename_i hl
      cases e
      exact ⟨a, by rw [(cut_cutTo n).pla l hl]; exact h1, rfl⟩
    · rename_i hl
      cases em : memAt W'.M l with
      | none => rw [em] at e; cases e
      | some ds =>
        rw [em] at e
        have e : (ds.mapM (fzD W'.M n k)).map D.lst = some d' := e
        obtain ⟨es, e1, rfl⟩ := Option.map_eq_some_iff.mp e
        have hm := mem_eq em
        obtain ⟨a', xs, h2, h3, r⟩ := k'.there l ds hm
        rw [h1] at h2
        cases h2
        refine ⟨a, xs, rfl, h3, ?_, mapM_rep (fun d v d' => fzD_rep k' k d v d') r e1⟩
        rintro (z | ⟨l', ds', m', p'⟩)
        · exact k'.hidP a z l ds hm h1
        · have m' : (W'.M.take n)[l']? = some (some ds') := m'
          have p' : (W'.pla.take n)[l']? = some a := p'
          rw [List.getElem?_take] at m' p'
          by_cases hl' : l' < n
          · rw [if_pos hl'] at m' p'
            have := k'.inj l l' a ds ds' hm m' h1 p'
            omega
          · rw [if_neg hl'] at m'
            cases m'
  | k + 1, .non, v, d', r, e => by cases e; exact r
  | k + 1, .bl _, v, d', r, e => by cases e; exact r
  | k + 1, .int _, v, d', r, e => by cases e; exact r
  | k + 1, .str _, v, d', r, e => by cases e; exact r
  | k + 1, .ty _, v, d', r, e => by cases e; exact r
  | k + 1, .gr _, v, d', r, e => by cases e; exact r
  | k + 1, .kt _, v, d', r, e => by cases e
  | k + 1, .scr _, v, d', r, e => by
    cases e
    obtain ⟨a, e, h1⟩ := r
    exact ⟨a, e, h1.cut (cut_cutTo n)⟩
  | k + 1, .dic, v, d', r, e => by
    cases e
    obtain ⟨a, e, h1, n1⟩ := r
    exact ⟨a, e, h1, fun z => n1 ((cut_cutTo n).own a z)⟩
  | k + 1, .exn _ _ _ _, v, d', r, e => by cases e
theorem fz_rep (k' : WOk G W') {n : Nat} {d d' : D} {v : V} (r : Rep G W' d v) (e : fz W'.M n d = some d') : Rep G (W'.cutTo n) d' v := by
  unfold fz at e
  split at e
  · rename_i hc
    cases e
    exact Rep.cut (cut_cutTo n) r hc
  · exact fzD_rep k' 6 d v d' r e
end

/-! ### a def's promise -/
def spD (G : Gd) (n : Nat) (sem : FM) : Sp := fun vs H Q E => ∃ ds W, W.H = H ∧ W.ea = none ∧ WOk G W ∧ RepL G W ds vs ∧ ds.length = n ∧ pR G (fun cls dd _ H => E cls dd H) (Rep G) W [] (sem ds W.M) Q
def startD (N : List Str) (ds : List D) : DSt := ds.map some ++ List.replicate (N.length - ds.length) none
/-- a body's end: its places stay | are given up -/
@[simp] def endK (_ : Mem) (r : RS) : R D := match r with
  | .nx _ M' => .ok .non M'
  | .rt d M' => .ok d M'
  | .exc x _ M' => .exc x M'
  | _ => .bad
noncomputable def endT (M : Mem) (r : RS) : R D := match r with
  | .nx _ M' => trunc M M' .non
  | .rt d M' => trunc M M' d
  | .exc x _ M' => truncX M M' x
  | _ => .bad
theorem relS_start {G : Gd} {W : Wd} {N : List Str} {ds : List D} {vs : List V} (r : RepL G W ds vs) : RelS G W (startD N ds) (L2.start N vs) := by
  have hl := r.length
  refine ⟨by simp [startD, L2.start, hl], fun i d h => ?_⟩
  unfold startD at h
  unfold L2.start
  by_cases hi : i < ds.length
  · rw [List.getElem?_append_left (by simpa using hi), List.getElem?_map] at h
    rw [List.getElem?_append_left (by rw [List.length_map, ← hl]; exact hi), List.getElem?_map]
    cases e : ds[i]? with
    | none => rw [e] at h; cases h
    | some d' =>
      rw [e] at h
      cases h
      obtain ⟨v, h1, h2⟩ := r.get e
      exact ⟨v, by rw [h1]; rfl, h2⟩
  · rw [List.getElem?_append_right (by simpa using hi), List.getElem?_replicate] at h
    split at h <;> cases h
section
variable {P : Program} {w : World} {G : Gd} {mg : Str → Option Value} {base : Heap} {x qual : Str} {st : Stmt} {f : Addr} {fd : FuncData} {N ps : List Str} {k : Nat} {m : SM}
/-- the context of a def's body -/
def bodyC (G : Gd) (P : Program) (w : World) (mg : Str → Option Value) (base : Heap) (N : List Str) (qual : Str) (sc : Scope) (f : Addr) (cdv : Value) (A : Around) (outer : List Env) (s : Shared) (H : Hp) (E : XK) :
    DC G (cxOf (L2.CX P w) P w G.K mg base N qual sc f cdv A outer s H E) := ⟨fun cls d _ H => E cls d H, none, rfl, takes_of rfl rfl rfl rfl⟩
theorem fn_K (F : Fun G.K x qual st f fd) (S : FnScope N ps (defScope st))
    (hb : ∀ (cdv : Value) (A : Around) (outer : List Env) (s : Shared) (H : Hp) (E : XK), Room k (A.deeper (envOfC qual (defScope st) s.heap.objs.size f cdv)) → DSs (bodyC G P w mg base N qual (defScope st) f cdv A outer s H E) (defBody st) m) :
    FnOk P w G.K mg base (L2.CX P w) (k + 1) f fd ps (spD G ps.length fun ds M => endK M (m (startD N ds) M)) := by
  refine F.okX S (fun vs H Q E h => ?_) fun cdv A outer s H vs Q E hr h => ?_
  · obtain ⟨ds, W, _, _, _, r, hl, _⟩ := h
    rw [← r.length]
    exact hl
  · obtain ⟨ds, W, rfl, he, ok, r, hl, q⟩ := h
    refine ⟨_, hb cdv A outer s W.H E hr, startD N ds, W, rfl, he, ok, relS_start r, ?_⟩
    cases e : m (startD N ds) W.M with
    | nx τ M' =>
      simp only [e] at q
      exact fun σ W' m' k' e' s' => q .non W' m' k' e' rfl
    | rt d M' =>
      simp only [e] at q
      exact q
    | exc x τ M' =>
      simp only [e] at q
      exact fun c dd σ W' m' k' e' s' r' => q c dd W' m' k' e' r'
    | bk τ M' => simp only [e] at q; exact q.elim
    | ct τ M' => simp only [e] at q; exact q.elim
    | bad => simp only [e] at q; exact q
theorem trunc_ok {W : Wd} {E : XK} {Q : VK} {M' : Mem} {d : D} (ok : WOk G W) (he : W.ea = none) (q : pR G (fun cls dd _ H => E cls dd H) (Rep G) W [] (trunc W.M M' d) Q) :
    ∀ v W', W'.M = M' → WOk G W' → Ext W W' → Rep G W' d v → Q v W'.H := fun v W' m' k' e' r' => by
  subst m'
  unfold trunc at q
  split at q
  · rename_i hk
    cases ef : fz W'.M W.M.length d with
    | none => rw [ef] at q; exact q.elim
    | some d' =>
      rw [ef] at q
      obtain ⟨k2, e2⟩ := ok_cutTo ok k' he e' hk
      exact q v (W'.cutTo W.M.length) rfl k2 e2 (fz_rep k' r' ef)
  · exact q.elim
theorem fn_T (F : Fun G.K x qual st f fd) (S : FnScope N ps (defScope st))
    (hb : ∀ (cdv : Value) (A : Around) (outer : List Env) (s : Shared) (H : Hp) (E : XK), Room k (A.deeper (envOfC qual (defScope st) s.heap.objs.size f cdv)) → DSs (bodyC G P w mg base N qual (defScope st) f cdv A outer s H E) (defBody st) m) :
    FnOk P w G.K mg base (L2.CX P w) (k + 1) f fd ps (spD G ps.length fun ds M => endT M (m (startD N ds) M)) := by
  refine F.okX S (fun vs H Q E h => ?_) fun cdv A outer s H vs Q E hr h => ?_
  · obtain ⟨ds, W, _, _, _, r, hl, _⟩ := h
    rw [← r.length]
    exact hl
  · obtain ⟨ds, W, rfl, he, ok, r, hl, q⟩ := h
    refine ⟨_, hb cdv A outer s W.H E hr, startD N ds, W, rfl, he, ok, relS_start r, ?_⟩
    cases e : m (startD N ds) W.M with
    | nx τ M' =>
      simp only [e] at q
      exact fun σ W' m' k' e' s' => trunc_ok ok he q .non W' m' k' e' rfl
    | rt d M' =>
      simp only [e] at q
      exact trunc_ok ok he q
    | exc x τ M' =>
      simp only [e] at q
      intro c dd σ W' m' k' e' s' r'
      subst m'
      have q : pR G (fun cls dd _ H => E cls dd H) (Rep G) W [] (truncX W.M W'.M x) Q := q
      cases x with
      | exn c' hs f' d' =>
        open Classical in
        have q : pR G (fun cls dd _ H => E cls dd H) (Rep G) W [] (if Kept W.M W'.M ∧ Pur d' then .exc (.exn c' hs f' d') (W'.M.take W.M.length) else .bad) Q := q
        split at q
        · rename_i hk
          obtain ⟨k2, e2⟩ := ok_cutTo ok k' he e' hk.1
          refine q c dd (W'.cutTo W.M.length) rfl k2 e2 ⟨r'.1, ?_⟩
          have r2 := r'.2
          cases hs with
          | false => exact r2
          | true =>
            obtain ⟨a, v, e1, e2, e3, e4⟩ := r2
            exact ⟨a, v, e1, e2, fun z => e3 ((cut_cutTo _).own a z), Rep.cut (cut_cutTo _) e4 (Clo.mono (Nat.zero_le _) hk.2)⟩
        · exact q.elim
      | _ => exact q.elim
    | bk τ M' => simp only [e] at q; exact q.elim
    | ct τ M' => simp only [e] at q; exact q.elim
    | bad => simp only [e] at q; exact q
/-- a promise by a lesser known function -/
theorem fn_eq {n : Nat} {sem sem' : FM} (F : FnOk P w G.K mg base (L2.CX P w) k f fd ps (spD G n sem)) (h : ∀ ds M, ds.length = n → sem' ds M ≠ .bad → sem ds M = sem' ds M) : FnOk P w G.K mg base (L2.CX P w) k f fd ps (spD G n sem') :=
  F.imp fun vs H Q E q => by
    obtain ⟨ds, W, e1, e2, ok, r, hl, q⟩ := q
    refine ⟨ds, W, e1, e2, ok, r, hl, ?_⟩
    rw [h ds W.M hl]
    · exact q
    · intro z
      rw [z] at q
      exact q
end
section
variable {G : Gd} {X : Cx} {Γ : DC G X} {pos p : Pos} {x : Str} {k : Nat} {f : Addr} {fd : FuncData} {ps : List Str} {sem : FM} {a : Expr} {es : List Expr} {mr : AM}
@[simp] def eCall (n : Nat) (sem : FM) (r : AM) : EM := fun τ M => (r τ M).bind fun ds M1 => if ds.length = n then sem ds M1 else .bad
theorem de_call {n : Nat} (F : FnOk X.prog X.w X.K X.mg X.base (L2.CX X.prog X.w) k f fd ps (spD G n sem)) (hr : Room k X.A) (hm : X.mg x = some (.ref f)) (hk : PySem.W.keepIn X.K (.ref f) = true) (hb : Binds X.K fd ps []) (ha : DA Γ (a :: es) mr)
    (he : Γ.ea = none := by rfl) (hg : Gl X x := by rfl) (hdb : (x == ("__debug__" : Str)) = false := by decide) (hst : starEach (a :: es) X.env = (false, eval a X.env) :: starEach es X.env := by rfl) (hpl : (backTo pos (starEach es X.env)).any (·.1) = false := by rfl) :
    DE Γ (.Call (.Name x p) (a :: es) [] pos) (eCall n sem mr) := pe_imp (pe_callS (E := WE Γ.W) F hr hg hm hk hb (fun σ => passAt Γ.tk σ) ha hdb hst hpl) fun σ H Q q => by
  obtain ⟨τ, W, rfl, hea, ok, rs, h⟩ := q
  refine step hea ok rs h fun ds vs W1 k1 e1 r1 h1 => ?_
  split at h1
  · rename_i hl
    refine ⟨ds, W1, rfl, e1.ea.trans (hea.trans he), k1, r1, hl, ?_⟩
    cases e : sem ds W1.M with
    | ok d M => rw [e] at h1; exact h1
    | exc x M => rw [e] at h1; exact h1
    | bad => rw [e] at h1; exact h1
  · exact h1.elim

/-! ### raise -/
@[simp] def sRaise (c : String) : SM := fun τ M => .exc (.exn c false "" .non) τ M
theorem ds_raise {C : Addr} {bmB : List Value} {B newId initId : String} {m : Str} {j : Nat} {p2 cpos : Pos} {c : String} (F : ExcBaseFacts B newId initId bmB) (q : PySem.W.excIn X.K C bmB newId = true) (gC : X.mg x = some (.ref C)) (kC : PySem.W.keepIn X.K (.ref C) = true) (r : Raises X (.ref C)) (hC : G.ca c = C)
    (hc : X.calm = true := by rfl) (hg : Gl X x := by rfl) (hdb : (x == ("__debug__" : Str)) = false := by decide) : DS Γ (.Raise (some (.Call (.Name x p) [.Constant (.str m) j p2] [] cpos)) none pos) (sRaise c) :=
  ps_imp (ps_raise hc Γ.tk (pmk_own F q gC kC r hg hdb)) fun Dn σ H q => by
  obtain ⟨τ, W, rfl, hea, ok, rs, h⟩ := q
  exact h (.ref C) none σ W rfl ok (Ext.refl W) rs ⟨by rw [hC], rfl⟩
end
end DM

/-! DM: operations on data. -/
namespace DM
open PySem PySem.Spec PyProof.Rows L2
section
variable {G : Gd} {X : Cx} {Γ : DC G X} {pos p : Pos}
/-- as a list that stands in the heap as such (no script) -/
def ownL : D → Mem → Option (List D)
  | .lst ds, _ => some ds
  | .loc l, M => memAt M l
  | _, _ => none
theorem ownL_of {W : Wd} {d : D} {v : V} {ds : List D} (k : WOk G W) (r : Rep G W d v) (h : ownL d W.M = some ds) : ∃ a xs, v = .ref a ∧ W.H a = some (.lst xs) ∧ RepL G W ds xs := by
  cases d with
  | lst es =>
    obtain ⟨a, xs, rfl, h1, _, r⟩ := r
    cases h
    exact ⟨a, xs, rfl, h1, r⟩
  | loc l =>
    obtain ⟨a, h1, rfl⟩ := r
    obtain ⟨a', xs, h2, h3, r⟩ := k.there l ds (mem_eq h)
    rw [h1] at h2
    cases h2
    exact ⟨a, xs, rfl, h3, r⟩
  | _ => cases h
def tupT : D → Option (List D)
  | .tup ds => some ds
  | _ => none
theorem tupT_eq {d : D} {ds : List D} (h : tupT d = some ds) : d = .tup ds := by
  cases d <;> cases h <;> rfl

/-! ### ints -/
def int2 (f : Int → Int → Option D) : O2 := fun x y _ => match x with
  | .int i => match y with
    | .int j => (f i j).map .v
    | _ => none
  | _ => none
theorem real_int2 {C : Int → Int → Prop} {g : Int → Int → V} {f : Int → Int → Option D} (h : ∀ i j d, f i j = some d → C i j ∧ ∀ W, Rep G W d (g i j)) : Real2 G (int2 f) (rI C g) := fun W dx dy x y Q k rx ry q => by
  unfold int2 at q
  split at q
  · rename_i i
    split at q
    · rename_i j
      cases rx
      cases ry
      cases e : f i j with
      | none => rw [e] at q; exact q.elim
      | some d =>
        rw [e] at q
        obtain ⟨h1, h2⟩ := h i j d e
        exact ⟨i, j, rfl, rfl, h1, q _ W rfl k (Ext.refl W) (h2 W)⟩
    · exact q.elim
  · exact q.elim
theorem real_int20 {g : Int → Int → V} {f : Int → Int → Option D} (h : ∀ i j d, f i j = some d → ∀ W, Rep G W d (g i j)) : Real2 G (int2 f) (rI0 g) := fun W dx dy x y Q k rx ry q => by
  obtain ⟨i, j, e1, e2, _, z⟩ := real_int2 (C := fun _ _ => True) (fun i j d e => ⟨trivial, h i j d e⟩) W dx dy x y Q k rx ry q
  exact ⟨i, j, e1, e2, z⟩
def CMulG (i j : Int) : Prop := i.natAbs.log2 + j.natAbs.log2 < 130000000 ∨ i.natAbs < 2 ^ 64 ∨ j.natAbs < 2 ^ 64
def CDivG (_ j : Int) : Prop := j ≠ 0 ∧ j.natAbs.log2 < 9000
instance (i j : Int) : Decidable (CMulG i j) := inferInstanceAs (Decidable (_ ∨ _ ∨ _))
instance (i j : Int) : Decidable (CDivG i j) := inferInstanceAs (Decidable (_ ∧ _))
instance (i j : Int) : Decidable (CPow i j) := inferInstanceAs (Decidable (_ ∧ _ ∧ _))
theorem CMulG.ok {i j : Int} (h : CMulG i j) : IntMulOk i j := by
  rcases h with h | h | h
  rotate_left
  · exact CMul.ok (.inl ⟨by omega, by omega⟩)
  · exact CMul.ok (.inr ⟨by omega, by omega⟩)
  have b : ∀ x : Int, Builtin.Int.intBits x ≤ x.natAbs.log2 + 1 := fun x => by
    unfold Builtin.Int.intBits
    split <;> omega
  have h1 := b i
  have h2 := b j
  have h3 : i.natAbs.log2 + j.natAbs.log2 < 130000000 := h
  have e : bitsLine = 134217728 := by decide
  unfold IntMulOk
  intro z
  rw [Bool.and_eq_true] at z
  have z2 := z.2
  unfold Builtin.Int.intTooBig at z2
  have z3 := of_decide_eq_true z2
  rw [e] at z3
  omega
theorem op_mulG : OpR X (binaryOp .Mult) (rI CMulG fun i j => .int (i * j)) := opI fun _ _ _ _ _ _ _ hc q => mul_int q hc.ok
theorem op_fdivG : OpR X (binaryOp .FloorDiv) (rI CDivG fun i j => .int (i.fdiv j)) := opI fun _ _ _ _ _ _ _ hc q => floordiv_int hc.1 q (.inl (PyProof.noPylong_of_log2 hc.2))
def oSub : O2 := int2 fun i j => some (.int (i - j))
def oDiv : O2 := int2 fun i j => if CDivG i j then some (.int (i.fdiv j)) else none
def oMod : O2 := int2 fun i j => if j ≠ 0 then some (.int (i.fmod j)) else none
def oPow : O2 := int2 fun i j => if CPow i j then some (.int (i ^ j.toNat)) else none
def oLt : O2 := int2 fun i j => some (.bl (decide (i < j)))
def oLe : O2 := int2 fun i j => some (.bl (decide (i ≤ j)))
def oGt : O2 := int2 fun i j => some (.bl (decide (j < i)))
def oGe : O2 := int2 fun i j => some (.bl (decide (j ≤ i)))
theorem real_sub : Real2 G oSub (rI0 fun i j => .int (i - j)) := real_int20 fun i j d e => by cases e; exact fun _ => rfl
theorem real_div : Real2 G oDiv (rI CDivG fun i j => .int (i.fdiv j)) := real_int2 fun i j d e => by
  split at e
  · cases e; exact ⟨by assumption, fun _ => rfl⟩
  · cases e
theorem real_mod : Real2 G oMod (rI (fun _ j => j ≠ 0) fun i j => .int (i.fmod j)) := real_int2 fun i j d e => by
  split at e
  · cases e; exact ⟨by assumption, fun _ => rfl⟩
  · cases e
theorem real_pow : Real2 G oPow (rI CPow fun i j => .int (i ^ j.toNat)) := real_int2 fun i j d e => by
  split at e
  · cases e; exact ⟨by assumption, fun _ => rfl⟩
  · cases e
theorem real_lt : Real2 G oLt (rI0 fun i j => .bl (decide (i < j))) := real_int20 fun i j d e => by cases e; exact fun _ => rfl
theorem real_le : Real2 G oLe (rI0 fun i j => .bl (decide (i ≤ j))) := real_int20 fun i j d e => by cases e; exact fun _ => rfl
theorem real_gt : Real2 G oGt (rI0 fun i j => .bl (decide (j < i))) := real_int20 fun i j d e => by cases e; exact fun _ => rfl
theorem real_ge : Real2 G oGe (rI0 fun i j => .bl (decide (j ≤ i))) := real_int20 fun i j d e => by cases e; exact fun _ => rfl
theorem int2_v {f : Int → Int → Option D} : ∀ x y M o, int2 f x y M = some o → ∃ d, o = .v d := fun x y M o h => by
  unfold int2 at h
  split at h
  · split at h
    · obtain ⟨d, _, rfl⟩ := Option.map_eq_some_iff.mp h
      exact ⟨d, rfl⟩
    · cases h
  · cases h
def oNeg : O1 := fun x _ => match x with
  | .int i => some (.v (.int (-i)))
  | _ => none
theorem real_neg : Real1 G oNeg (rU fun i => .int (-i)) := fun W dx x Q k rx q => by
  unfold oNeg at q
  split at q
  · rename_i i
    cases rx
    exact ⟨i, rfl, q _ W rfl k (Ext.refl W) rfl⟩
  · exact q.elim

/-! ### + and * -/
def oAdd : O2 := fun x y M => match x with
  | .int i => match y with
    | .int j => some (.v (.int (i + j)))
    | _ => none
  | .tup ds => match y with
    | .tup es => if ds.length + es.length ≤ sizeLine then some (.v (.tup (ds ++ es))) else none
    | _ => none
  | _ => (ownL x M).bind fun ds => (ownL y M).bind fun es => if ds.length + es.length ≤ sizeLine then some (.l (ds ++ es)) else none
def rAddA (K : PySem.W.Frag) : R2 := fun x y H Q => (rI0 fun i j => .int (i + j)) x y H Q ∨ (rCatA K x y H Q ∨ rCat x y H Q)
theorem op_addA : OpR X (binaryOp .Add) (rAddA X.K) := op_add.or (op_catA.or op_cat)
theorem lst_cat {W : Wd} {dx dy : D} {x y : V} {Q : VK} (k : WOk G W) (rx : Rep G W dx x) (ry : Rep G W dy y)
    (q : pO G W ((ownL dx W.M).bind fun ds => (ownL dy W.M).bind fun es => if ds.length + es.length ≤ sizeLine then some (.l (ds ++ es)) else none) Q) : rCat x y W.H Q := by
  cases e1 : ownL dx W.M with
  | none => rw [e1] at q; exact q.elim
  | some ds =>
    cases e2 : ownL dy W.M with
    | none => rw [e1, e2] at q; exact q.elim
    | some es =>
      rw [e1, e2] at q
      have q : pO G W (if ds.length + es.length ≤ sizeLine then some (.l (ds ++ es)) else none) Q := q
      split at q
      · rename_i hl
        obtain ⟨a, xs, rfl, h1, r1⟩ := ownL_of k rx e1
        obtain ⟨b, ys, rfl, h2, r2⟩ := ownL_of k ry e2
        exact ⟨a, b, xs, ys, rfl, rfl, h1, h2, by rw [← r1.length, ← r2.length]; exact hl, fun p hp => q _ p (r1.append r2) hp⟩
      · exact q.elim
theorem real_add : Real2 G oAdd (rAddA G.K) := fun W dx dy x y Q k rx ry q => by
  cases dx with
  | int i =>
    cases dy with
    | int j =>
      cases rx
      cases ry
      exact .inl ⟨i, j, rfl, rfl, q _ W rfl k (Ext.refl W) rfl⟩
    | _ => exact q.elim
  | tup ds =>
    cases dy with
    | tup es =>
      have q : pO G W (if ds.length + es.length ≤ sizeLine then some (.v (.tup (ds ++ es))) else none) Q := q
      split at q
      · rename_i hl
        obtain ⟨a, xs, rfl, h1, n1, r1⟩ := rx
        obtain ⟨b, ys, rfl, h2, n2, r2⟩ := ry
        have fin : ∀ v W', W'.M = W.M → WOk G W' → Ext W W' → Rep G W' (.tup (ds ++ es)) v → Q v W'.H := q
        refine .inr (.inl ⟨a, b, xs, ys, rfl, rfl, .of h1, .of h2, by rw [← r1.length, ← r2.length]; exact hl, fun e => ?_, fun _ e => ?_, fun _ _ p hp => ?_⟩)
        · subst e
          cases ds with
          | nil => exact fin _ W rfl k (Ext.refl W) ⟨b, ys, rfl, h2, n2, r2⟩
          | cons d ds => obtain ⟨_, _, z, _⟩ := r1; cases z
        · subst e
          cases es with
          | nil => exact fin _ W rfl k (Ext.refl W) ⟨a, xs, rfl, h1, n1, by rw [List.append_nil]; exact r1⟩
          | cons d ds => obtain ⟨_, _, z, _⟩ := r2; cases z
        · exact fin (.ref p) (W.new p (.tup (xs ++ ys))) rfl (ok_new k hp) (ext_new k hp) ⟨p, _, rfl, upd_same, own_new k hp, (r1.append r2).mono (ext_new k hp)⟩
      · exact q.elim
    | _ => exact q.elim
  | lst ds => exact .inr (.inr (lst_cat k rx ry q))
  | loc l => exact .inr (.inr (lst_cat k rx ry q))
  | _ => exact (by
      have q : pO G W none Q := q
      exact q.elim)
def repD (n : Nat) (ds : List D) : List D := (List.replicate n ds).flatten
theorem RepL.rep {W : Wd} {ds : List D} {xs : List V} (r : RepL G W ds xs) : ∀ n, RepL G W (repD n ds) (List.replicate n xs).flatten
  | 0 => rfl
  | n + 1 => by
    unfold repD
    rw [List.replicate_succ, List.replicate_succ, List.flatten_cons, List.flatten_cons]
    exact r.append (RepL.rep r n)
/-- how often a list may be put behind itself -/
def repOk (n : Nat) (j : Int) : Prop := -(2 ^ 63) ≤ j ∧ j < 2 ^ 63 ∧ n * j.toNat ≤ sizeLine
noncomputable instance repOkD (n : Nat) (j : Int) : Decidable (repOk n j) := Classical.propDecidable _
noncomputable def oMul : O2 := fun x y M => match x with
  | .int i => match y with
    | .int j => if CMulG i j then some (.v (.int (i * j))) else none
    | _ => none
  | .tup ds => match y with
    | .int j => if ds ≠ [] ∧ 2 ≤ j ∧ j ≤ 1000 ∧ ds.length ≤ 1000 then some (.v (.tup (repD j.toNat ds))) else none
    | _ => none
  | _ => (ownL x M).bind fun ds => (intOf y).bind fun j => if repOk ds.length j then some (.l (repD j.toNat ds)) else none
def rMulA (K : PySem.W.Frag) : R2 := fun x y H Q => (rI CMulG fun i j => .int (i * j)) x y H Q ∨ (rRepT K x y H Q ∨ rRep x y H Q)
theorem op_mulA : OpR X (binaryOp .Mult) (rMulA X.K) := op_mulG.or (op_repT.or op_rep)
theorem lst_rep {W : Wd} {dx dy : D} {x y : V} {Q : VK} (k : WOk G W) (rx : Rep G W dx x) (ry : Rep G W dy y)
    (q : pO G W ((ownL dx W.M).bind fun ds => (intOf dy).bind fun j => if repOk ds.length j then some (.l (repD j.toNat ds)) else none) Q) : rRep x y W.H Q := by
  cases e1 : ownL dx W.M with
  | none => rw [e1] at q; exact q.elim
  | some ds =>
    cases e2 : intOf dy with
    | none => rw [e1, e2] at q; exact q.elim
    | some j =>
      rw [e1, e2] at q
      have q : pO G W (if repOk ds.length j then some (.l (repD j.toNat ds)) else none) Q := q
      split at q
      · rename_i hl
        obtain ⟨a, xs, rfl, h1, r1⟩ := ownL_of k rx e1
        have := int_eq e2
        subst this
        cases ry
        exact ⟨a, j, xs, rfl, rfl, h1, hl.1, hl.2.1, by rw [← r1.length]; exact hl.2.2, fun p hp => q _ p (r1.rep _) hp⟩
      · exact q.elim
theorem real_mul : Real2 G oMul (rMulA G.K) := fun W dx dy x y Q k rx ry q => by
  cases dx with
  | int i =>
    cases dy with
    | int j =>
      cases rx
      cases ry
      have q : pO G W (if CMulG i j then some (.v (.int (i * j))) else none) Q := q
      split at q
      · rename_i hc
        exact .inl ⟨i, j, rfl, rfl, hc, q _ W rfl k (Ext.refl W) rfl⟩
      · exact q.elim
    | _ => exact q.elim
  | tup ds =>
    cases dy with
    | int j =>
      have q : pO G W (if ds ≠ [] ∧ 2 ≤ j ∧ j ≤ 1000 ∧ ds.length ≤ 1000 then some (.v (.tup (repD j.toNat ds))) else none) Q := q
      split at q
      · rename_i hl
        obtain ⟨a, xs, rfl, h1, n1, r1⟩ := rx
        cases ry
        refine .inr (.inl ⟨a, j, xs, rfl, rfl, .of h1, fun e => hl.1 ?_, hl.2.1, hl.2.2.1, by rw [← r1.length]; exact hl.2.2.2, fun p hp => ?_⟩)
        · have := r1.length
          rw [e] at this
          exact List.length_eq_zero_iff.mp this
        · exact q (.ref p) (W.new p (.tup _)) rfl (ok_new k hp) (ext_new k hp) ⟨p, _, rfl, upd_same, own_new k hp, (r1.rep _).mono (ext_new k hp)⟩
      · exact q.elim
    | _ => exact q.elim
  | lst ds => exact .inr (.inr (lst_rep k rx ry q))
  | loc l => exact .inr (.inr (lst_rep k rx ry q))
  | _ => exact (by
      have q : pO G W none Q := q
      exact q.elim)

/-! ### == and is -/
def scaV : D → Option V
  | .non => some .non
  | .bl b => some (.bl b)
  | .int i => some (.int i)
  | .str x => some (.str x)
  | _ => none
theorem scaV_rep {W : Wd} {d : D} {v u : V} (h : scaV d = some u) (r : Rep G W d v) : v = u := by
  cases d <;> cases h <;> exact r
def oEq : O2 := fun x y _ => (scaV x).bind fun a => (scaV y).bind fun b => if scal a b = true then some (.v (.bl (decide (a = b)))) else none
def oNe : O2 := fun x y _ => (scaV x).bind fun a => (scaV y).bind fun b => if scal a b = true then some (.v (.bl (!decide (a = b)))) else none
theorem real_eq : Real2 G oEq rEq := fun W dx dy x y Q k rx ry q => by
  unfold oEq at q
  cases e1 : scaV dx with
  | none => rw [e1] at q; exact q.elim
  | some a =>
    cases e2 : scaV dy with
    | none => rw [e1, e2] at q; exact q.elim
    | some b =>
      rw [e1, e2] at q
      have q : pO G W (if scal a b = true then some (.v (.bl (decide (a = b)))) else none) Q := q
      split at q
      · rename_i hs
        rw [scaV_rep e1 rx, scaV_rep e2 ry]
        exact ⟨hs, q _ W rfl k (Ext.refl W) rfl⟩
      · exact q.elim
theorem real_ne : Real2 G oNe rNe := fun W dx dy x y Q k rx ry q => by
  unfold oNe at q
  cases e1 : scaV dx with
  | none => rw [e1] at q; exact q.elim
  | some a =>
    cases e2 : scaV dy with
    | none => rw [e1, e2] at q; exact q.elim
    | some b =>
      rw [e1, e2] at q
      have q : pO G W (if scal a b = true then some (.v (.bl (!decide (a = b)))) else none) Q := q
      split at q
      · rename_i hs
        rw [scaV_rep e1 rx, scaV_rep e2 ry]
        exact ⟨hs, q _ W rfl k (Ext.refl W) rfl⟩
      · exact q.elim
def isNon : D → Bool
  | .non => true
  | _ => false
theorem isNon_rep {W : Wd} {d : D} {v : V} (r : Rep G W d v) : decide (v = .non) = isNon d := by
  cases d with
  | non => cases r; rfl
  | bl b => cases r; rfl
  | int b => cases r; rfl
  | str b => cases r; rfl
  | ty b => cases r; rfl
  | gr b => cases r; rfl
  | tup b => obtain ⟨a, _, rfl, _⟩ := r; rfl
  | lst b => obtain ⟨a, _, rfl, _⟩ := r; rfl
  | kt b => obtain ⟨a, _, rfl, _⟩ := r; rfl
  | loc b => obtain ⟨a, _, rfl⟩ := r; rfl
  | scr b => obtain ⟨a, rfl, _⟩ := r; rfl
  | dic => obtain ⟨a, rfl, _⟩ := r; rfl
  | exn _ _ _ _ => obtain ⟨a, _, _, rfl, _⟩ := r; rfl
def oIs : O2 := fun x y _ => match y with
  | .non => some (.v (.bl (isNon x)))
  | _ => none
def oIsNot : O2 := fun x y _ => match y with
  | .non => some (.v (.bl (!isNon x)))
  | _ => none
theorem real_is : Real2 G oIs (fun x y H Q => y = .non ∧ Q (.bl (decide (x = .non))) H) := fun W dx dy x y Q k rx ry q => by
  unfold oIs at q
  split at q
  · rw [isNon_rep rx]
    exact ⟨ry, q _ W rfl k (Ext.refl W) rfl⟩
  · exact q.elim
theorem real_isNot : Real2 G oIsNot (fun x y H Q => y = .non ∧ Q (.bl (!decide (x = .non))) H) := fun W dx dy x y Q k rx ry q => by
  unfold oIsNot at q
  split at q
  · rw [isNon_rep rx]
    exact ⟨ry, q _ W rfl k (Ext.refl W) rfl⟩
  · exact q.elim
/-- x in a sequence of scalars -/
@[simp] def scaL : List D → Option (List V)
  | [] => some []
  | d :: ds => (scaV d).bind fun v => (scaL ds).map fun vs => v :: vs
theorem scaL_rep {W : Wd} : ∀ {ds : List D} {us vs : List V}, scaL ds = some us → RepL G W ds vs → vs = us
  | [], us, vs, h, r => by cases h; exact r
  | d :: ds, us, vs, h, r => by
    obtain ⟨v, r', rfl, r1, r2⟩ := r
    unfold scaL at h
    cases e1 : scaV d with
    | none => rw [e1] at h; cases h
    | some a =>
      cases e2 : scaL ds with
      | none => rw [e1, e2] at h; cases h
      | some bs =>
        rw [e1, e2] at h
        cases h
        rw [scaV_rep e1 r1, scaL_rep e2 r2]
@[simp] def oIn (neg : Bool) : O2 := fun x y M => (scaV x).bind fun a => (seqOf y M).bind fun it => (scaL it.xs).bind fun bs => if flatV a = true ∧ bs.all flatV = true then some (.v (.bl (if neg then !inV a bs else inV a bs))) else none
theorem real_in {neg : Bool} : Real2 G (oIn neg) (rIn G.K neg) := fun W dx dy x y Q k rx ry q => by
  unfold oIn at q
  cases e1 : scaV dx with
  | none => rw [e1] at q; exact q.elim
  | some a =>
    cases e2 : seqOf dy W.M with
    | none => rw [e1, e2] at q; exact q.elim
    | some it =>
      cases e3 : scaL it.xs with
      | none => simp only [e1, e2, e3, Option.bind_some, Option.bind_none] at q; exact q.elim
      | some bs =>
        simp only [e1, e2, e3, Option.bind_some] at q
        split at q
        · rename_i hf
          obtain ⟨b, xs, rfl, hs, r⟩ := seq_now k ry e2
          rw [scaV_rep e1 rx]
          have := scaL_rep e3 r
          subst this
          exact ⟨b, xs, rfl, hs, hf.1, hf.2, q _ W rfl k (Ext.refl W) rfl⟩
        · exact q.elim

/-! ### items, len -/
@[simp] def oIx : O2 := fun x y M => (seqOf x M).bind fun it => (intOf y).bind fun i => (atI it.xs i).map .v
theorem atI_rep {W : Wd} {ds : List D} {xs : List V} {i : Int} {d : D} (r : RepL G W ds xs) (h : atI ds i = some d) : ∃ v, atI xs i = some v ∧ Rep G W d v := by
  unfold atI at h ⊢
  rw [← r.length]
  cases e : ixN ds.length i with
  | none => rw [e] at h; cases h
  | some j =>
    rw [e] at h
    obtain ⟨v, h1, h2⟩ := r.get h
    exact ⟨v, h1, h2⟩
theorem real_ix : Real2 G oIx (rIx G.K) := fun W dx dy x y Q k rx ry q => by
  unfold oIx at q
  cases e1 : seqOf dx W.M with
  | none => rw [e1] at q; exact q.elim
  | some it =>
    cases e2 : intOf dy with
    | none => rw [e1, e2] at q; exact q.elim
    | some i =>
      cases e3 : atI it.xs i with
      | none => simp only [e1, e2, e3, Option.bind_some, Option.map_none] at q; exact q.elim
      | some d =>
        simp only [e1, e2, e3, Option.bind_some, Option.map_some] at q
        have := int_eq e2
        subst this
        cases ry
        obtain ⟨b, xs, rfl, hs, r⟩ := seq_now k rx e1
        obtain ⟨v, h1, h2⟩ := atI_rep r e3
        have fin := q v W rfl k (Ext.refl W) h2
        rcases hs with hs | hs
        · exact .inl ⟨b, xs, i, v, rfl, rfl, hs, h1, fin⟩
        · exact .inr (.inl ⟨b, xs, i, v, rfl, rfl, hs, h1, fin⟩)
variable {a b : Expr} {ma mb : EM}
theorem de_ix (ha : DE Γ a ma) (hb : DE Γ b mb) (hs : PlainIx b := by intro _ _; rfl) : DE Γ (.Subscript a b pos) (eBin false oIx ma mb) := pe_imp (pe_ix ix_seq ha hb hs) fun _ _ _ q => tOp_of (by rw [Γ.hK]; exact real_ix) q
theorem de_add (own : Bool) (ha : DE Γ a ma) (hb : DE Γ b mb) : DE Γ (.BinOp a .Add b pos) (eBin own oAdd ma mb) := de_bin own (by rw [Γ.hK]; exact real_add) op_addA ha hb
theorem de_mul (own : Bool) (ha : DE Γ a ma) (hb : DE Γ b mb) : DE Γ (.BinOp a .Mult b pos) (eBin own oMul ma mb) := de_bin own (by rw [Γ.hK]; exact real_mul) op_mulA ha hb
theorem de_sub (ha : DE Γ a ma) (hb : DE Γ b mb) : DE Γ (.BinOp a .Sub b pos) (eBin false oSub ma mb) := de_bin false real_sub op_sub ha hb
theorem de_div (ha : DE Γ a ma) (hb : DE Γ b mb) : DE Γ (.BinOp a .FloorDiv b pos) (eBin false oDiv ma mb) := de_bin false real_div op_fdivG ha hb
theorem de_mod (ha : DE Γ a ma) (hb : DE Γ b mb) : DE Γ (.BinOp a .Mod b pos) (eBin false oMod ma mb) := de_bin false real_mod op_modN ha hb
theorem de_pow (ha : DE Γ a ma) (hb : DE Γ b mb) : DE Γ (.BinOp a .Pow b pos) (eBin false oPow ma mb) := de_bin false real_pow op_pow ha hb
theorem de_neg (ha : DE Γ a ma) : DE Γ (.UnaryOp .USub a pos) (eUn false oNeg ma) := de_un false real_neg un_neg ha
/-- a comparison's rule -/
structure CmpD (X : Cx) (G : Gd) (op : CmpOp) (g : O2) : Prop where
  ex : ∃ r, OpR X (compareOp op) r ∧ Real2 G g r
theorem c_lt : CmpD X G .Lt oLt := ⟨_, op_lt, real_lt⟩
theorem c_le : CmpD X G .LtE oLe := ⟨_, op_le, real_le⟩
theorem c_gt : CmpD X G .Gt oGt := ⟨_, op_gt, real_gt⟩
theorem c_ge : CmpD X G .GtE oGe := ⟨_, op_ge, real_ge⟩
theorem c_eq : CmpD X G .Eq oEq := ⟨_, op_eq, real_eq⟩
theorem c_ne : CmpD X G .NotEq oNe := ⟨_, op_ne, real_ne⟩
theorem c_is : CmpD X G .Is oIs := ⟨_, op_isN, real_is⟩
theorem c_isNot : CmpD X G .IsNot oIsNot := ⟨_, op_notN, real_isNot⟩
theorem c_in (h : X.K = G.K) : CmpD X G .In (oIn false) := ⟨_, op_in_seq, by rw [h]; exact real_in⟩
theorem c_notIn (h : X.K = G.K) : CmpD X G .NotIn (oIn true) := ⟨_, op_notIn_seq, by rw [h]; exact real_in⟩
theorem de_c {op : CmpOp} {g : O2} (c : CmpD X G op g) (ha : DE Γ a ma) (hb : DE Γ b mb) (hm : behindInMarks op b = false := by first | exact nomark _ | rfl) : DE Γ (.Compare a [op] [b] pos) (eBin false g ma mb) :=
  let ⟨_, h1, h2⟩ := c.ex; de_cmp h2 h1 ha hb hm
theorem dt_c {op : CmpOp} {g : O2} (c : CmpD X G op g) (ha : DE Γ a ma) (hb : DE Γ b mb) (hm : behindInMarks op b = false := by first | exact nomark _ | rfl) : DT Γ (.Compare a [op] [b] pos) (asB (eBin false g ma mb)) :=
  let ⟨_, h1, h2⟩ := c.ex; dt_cmp h2 h1 ha hb hm
theorem dt_c2 {c : Expr} {mc : EM} {op op' : CmpOp} {f f' : Int → Int → Option D} (c1 : CmpD X G op (int2 f)) (c2 : CmpD X G op' (int2 f')) (ha : DE Γ a ma) (hb : DE Γ b mb) (hc : DE Γ c mc)
    (hm : lastMarks [op, op'] [b, c] = false := by with_unfolding_all rfl) : DT Γ (.Compare a [op, op'] [b, c] pos) (asB (eChain (int2 f) (int2 f') ma mb mc)) :=
  let ⟨_, h1, h2⟩ := c1.ex; let ⟨_, h3, h4⟩ := c2.ex; dt_chain h2 h4 int2_v h1 h3 ha hb hc hm

/-! ### built-ins -/
def oLen : OA := fun ds M => match ds with
  | [d] => (seqOf d M).map fun it => .v (.int it.xs.length)
  | _ => none
theorem real_len : RealA G oLen (fun xs H Q => ∃ x n, xs = [x] ∧ LenV G.K x H n ∧ Q (.int n) H) := fun W ds xs Q k r q => by
  unfold oLen at q
  split at q
  · rename_i d
    obtain ⟨v, rfl, r1⟩ := RepL.one r
    cases e : seqOf d W.M with
    | none => rw [e] at q; exact q.elim
    | some it =>
      rw [e] at q
      obtain ⟨b, ys, rfl, hs, r2⟩ := seq_now k r1 e
      have q : ∀ v W', W'.M = W.M → WOk G W' → Ext W W' → Rep G W' (.int it.xs.length) v → Q v W'.H := q
      refine ⟨.ref b, it.xs.length, rfl, ?_, q _ W rfl k (Ext.refl W) rfl⟩
      rcases hs with hs | hs
      · exact .inl ⟨ys, hs, r2.length⟩
      · exact .inr ⟨ys, hs, r2.length⟩
  · exact q.elim
def oAbs : OA := fun ds _ => match ds with
  | [.int i] => some (.v (.int (if i < 0 then -i else i)))
  | _ => none
theorem real_abs : RealA G oAbs (fun xs H Q => ∃ i, xs = [.int i] ∧ Q (.int (if i < 0 then -i else i)) H) := fun W ds xs Q k r q => by
  unfold oAbs at q
  split at q
  · obtain ⟨v, rfl, r1⟩ := RepL.one r
    cases r1
    exact ⟨_, rfl, q _ W rfl k (Ext.refl W) rfl⟩
  · exact q.elim
def oInt : OA := fun ds _ => match ds with
  | [.int i] => some (.v (.int i))
  | [.bl b] => some (.v (.int (if b then 1 else 0)))
  | _ => none
theorem real_int : RealA G oInt (fun xs H Q => (∃ i, xs = [.int i] ∧ Q (.int i) H) ∨ ∃ k, xs = [.bl k] ∧ Q (.int (if k then 1 else 0)) H) := fun W ds xs Q k r q => by
  unfold oInt at q
  split at q
  · obtain ⟨v, rfl, r1⟩ := RepL.one r
    cases r1
    exact .inl ⟨_, rfl, q _ W rfl k (Ext.refl W) rfl⟩
  · obtain ⟨v, rfl, r1⟩ := RepL.one r
    cases r1
    exact .inr ⟨_, rfl, q _ W rfl k (Ext.refl W) rfl⟩
  · exact q.elim
def oMax2 : OA := fun ds _ => match ds with
  | [.int i, .int j] => some (.v (.int (if j > i then j else i)))
  | _ => none
def oMin2 : OA := fun ds _ => match ds with
  | [.int i, .int j] => some (.v (.int (if j < i then j else i)))
  | _ => none
theorem real_max2 : RealA G oMax2 (fun xs H Q => ∃ i j, xs = [.int i, .int j] ∧ Q (.int (if j > i then j else i)) H) := fun W ds xs Q k r q => by
  unfold oMax2 at q
  split at q
  · obtain ⟨v, u, rfl, r1, r2⟩ := RepL.two r
    cases r1
    cases r2
    exact ⟨_, _, rfl, q _ W rfl k (Ext.refl W) rfl⟩
  · exact q.elim
theorem real_min2 : RealA G oMin2 (fun xs H Q => ∃ i j, xs = [.int i, .int j] ∧ Q (.int (if j < i then j else i)) H) := fun W ds xs Q k r q => by
  unfold oMin2 at q
  split at q
  · obtain ⟨v, u, rfl, r1, r2⟩ := RepL.two r
    cases r1
    cases r2
    exact ⟨_, _, rfl, q _ W rfl k (Ext.refl W) rfl⟩
  · exact q.elim
def oGcd : OA := fun ds _ => match ds with
  | [.int i, .int j] => some (.v (.int ((Nat.gcd i.natAbs j.natAbs : Nat) : Int)))
  | _ => none
theorem real_gcd : RealA G oGcd rGcd := fun W ds xs Q k r q => by
  unfold oGcd at q
  split at q
  · obtain ⟨v, u, rfl, r1, r2⟩ := RepL.two r
    cases r1
    cases r2
    exact ⟨_, _, rfl, q _ W rfl k (Ext.refl W) rfl⟩
  · exact q.elim
@[simp] def intsOf : List D → Option (List Int)
  | [] => some []
  | d :: ds => (intOf d).bind fun i => (intsOf ds).map fun is => i :: is
theorem intsOf_eq : ∀ {ds : List D} {is : List Int}, intsOf ds = some is → ds = is.map .int
  | [], is, h => by cases h; rfl
  | d :: ds, is, h => by
    unfold intsOf at h
    cases e1 : intOf d with
    | none => rw [e1] at h; cases h
    | some i =>
      cases e2 : intsOf ds with
      | none => rw [e1, e2] at h; cases h
      | some js =>
        rw [e1, e2] at h
        cases h
        rw [int_eq e1, intsOf_eq e2]
        rfl
@[simp] theorem intsOf_map : ∀ is : List Int, intsOf (is.map D.int) = some is
  | [] => rfl
  | i :: is => by
    show ((intOf (.int i)).bind fun i => (intsOf (is.map D.int)).map fun is => i :: is) = _
    rw [intsOf_map is]
    rfl
@[simp] def blsOf : List D → Option (List Bool)
  | [] => some []
  | d :: ds => match d with
    | .bl b => (blsOf ds).map fun is => b :: is
    | _ => none
theorem blsOf_eq : ∀ {ds : List D} {is : List Bool}, blsOf ds = some is → ds = is.map .bl
  | [], is, h => by cases h; rfl
  | d :: ds, is, h => by
    unfold blsOf at h
    split at h
    · cases e2 : blsOf ds with
      | none => rw [e2] at h; cases h
      | some js =>
        rw [e2] at h
        cases h
        rw [blsOf_eq e2]
        rfl
    · cases h
@[simp] theorem blsOf_map : ∀ is : List Bool, blsOf (is.map D.bl) = some is
  | [] => rfl
  | i :: is => by
    show ((blsOf (is.map D.bl)).map fun is => i :: is) = _
    rw [blsOf_map is]
    rfl
/-- of a list of ints -/
def oInts (f : List Int → Option D) : OA := fun ds M => match ds with
  | [d] => (lstOf d M).bind fun it => (intsOf it.xs).bind fun is => (f is).map .v
  | _ => none
def oBls (f : List Bool → D) : OA := fun ds M => match ds with
  | [d] => (lstOf d M).bind fun it => (blsOf it.xs).map fun is => .v (f is)
  | _ => none
theorem lst_now {W : Wd} {d : D} {v : V} {it : ItD} (k : WOk G W) (r : Rep G W d v) (h : lstOf d W.M = some it) : ∃ a xs, v = .ref a ∧ SqL G.K W.H a xs ∧ RepL G W it.xs xs := by
  obtain ⟨a, rfl, f⟩ := lst_at r h
  have hc : Chk it.src W.M := by
    cases d with
    | loc l =>
      have h1 : (match W.M[l]? with
        | some (some ds) => some { xs := ds, src := [(l, ds)] }
        | _ => none) = some it := h
      split at h1
      · rename_i ds ed
        cases h1
        intro p hp
        have : p = (l, ds) := by simpa using hp
        rw [this]
        exact ed
      · cases h1
    | lst ds => cases h; exact fun p hp => nomatch hp
    | scr ds => cases h; exact fun p hp => nomatch hp
    | _ => cases h
  obtain ⟨xs, h2, h3⟩ := f W k (Ext0.refl W) hc
  exact ⟨a, xs, rfl, h2, h3⟩
def oSum : OA := oInts fun is => some (.int is.sum)
theorem oInts_real {f : List Int → Option D} {r : List V → Hp → VK → Prop} (h : ∀ (W : Wd) (a : Addr) (is : List Int) (d : D) (Q : VK), WOk G W → SqL G.K W.H a (is.map V.int) → f is = some d → (∀ v W', W'.M = W.M → WOk G W' → Ext W W' → Rep G W' d v → Q v W'.H) → r [.ref a] W.H Q) : RealA G (oInts f) r := fun W ds xs Q k rr q => by
  unfold oInts at q
  split at q
  · rename_i d
    obtain ⟨v, rfl, r1⟩ := RepL.one rr
    cases e : lstOf d W.M with
    | none => rw [e] at q; exact q.elim
    | some it =>
      cases e2 : intsOf it.xs with
      | none => simp only [e, e2, Option.bind_some, Option.bind_none] at q; exact q.elim
      | some is =>
        cases e3 : f is with
        | none => simp only [e, e2, e3, Option.bind_some, Option.map_none] at q; exact q.elim
        | some d' =>
          simp only [e, e2, e3, Option.bind_some, Option.map_some] at q
          obtain ⟨b, ys, rfl, hs, r2⟩ := lst_now k r1 e
          rw [intsOf_eq e2] at r2
          have := RepL.ints r2
          subst this
          exact h W b is d' Q k hs e3 q
  · exact q.elim
theorem oBls_real {f : List Bool → D} {r : List V → Hp → VK → Prop} (h : ∀ (W : Wd) (a : Addr) (is : List Bool) (Q : VK), WOk G W → SqL G.K W.H a (is.map V.bl) → (∀ v W', W'.M = W.M → WOk G W' → Ext W W' → Rep G W' (f is) v → Q v W'.H) → r [.ref a] W.H Q) : RealA G (oBls f) r := fun W ds xs Q k rr q => by
  unfold oBls at q
  split at q
  · rename_i d
    obtain ⟨v, rfl, r1⟩ := RepL.one rr
    cases e : lstOf d W.M with
    | none => rw [e] at q; exact q.elim
    | some it =>
      cases e2 : blsOf it.xs with
      | none => simp only [e, e2, Option.bind_some, Option.map_none] at q; exact q.elim
      | some is =>
        simp only [e, e2, Option.bind_some, Option.map_some] at q
        obtain ⟨b, ys, rfl, hs, r2⟩ := lst_now k r1 e
        rw [blsOf_eq e2] at r2
        have := RepL.bls r2
        subst this
        exact h W b is Q k hs q
  · exact q.elim
theorem real_sum : RealA G oSum (rSum G.K) := oInts_real fun W a is d Q k hs e q => by
  cases e
  exact ⟨a, is, rfl, hs, q _ W rfl k (Ext.refl W) rfl⟩
def oAll : OA := oBls fun bs => .bl (bs.all id)
def oAny : OA := oBls fun bs => .bl (bs.any id)
theorem real_all : RealA G oAll (rAll G.K) := oBls_real fun W a is Q k hs q => ⟨a, is, rfl, hs, q _ W rfl k (Ext.refl W) rfl⟩
theorem real_any : RealA G oAny (rAny G.K) := oBls_real fun W a is Q k hs q => ⟨a, is, rfl, hs, q _ W rfl k (Ext.refl W) rfl⟩
def maxL : List Int → Option Int
  | [] => none
  | i :: is => some (is.foldl max i)
def minL : List Int → Option Int
  | [] => none
  | i :: is => some (is.foldl min i)
theorem foldl_max_spec : ∀ (is : List Int) (i : Int), (is.foldl max i = i ∨ is.foldl max i ∈ is) ∧ i ≤ is.foldl max i ∧ ∀ y ∈ is, y ≤ is.foldl max i
  | [], i => ⟨.inl rfl, Int.le_refl _, fun _ h => nomatch h⟩
  | j :: is, i => by
    obtain ⟨h1, h2, h3⟩ := foldl_max_spec is (max i j)
    refine ⟨?_, by simp only [List.foldl_cons]; omega, fun y hy => ?_⟩
    · simp only [List.foldl_cons, List.mem_cons]
      rcases h1 with h1 | h1
      · rw [h1]; omega
      · exact .inr (.inr h1)
    · simp only [List.foldl_cons]
      rcases List.mem_cons.mp hy with e | e
      · subst e; omega
      · exact h3 y e
theorem foldl_min_spec : ∀ (is : List Int) (i : Int), (is.foldl min i = i ∨ is.foldl min i ∈ is) ∧ is.foldl min i ≤ i ∧ ∀ y ∈ is, is.foldl min i ≤ y
  | [], i => ⟨.inl rfl, Int.le_refl _, fun _ h => nomatch h⟩
  | j :: is, i => by
    obtain ⟨h1, h2, h3⟩ := foldl_min_spec is (min i j)
    refine ⟨?_, by simp only [List.foldl_cons]; omega, fun y hy => ?_⟩
    · simp only [List.foldl_cons, List.mem_cons]
      rcases h1 with h1 | h1
      · rw [h1]; omega
      · exact .inr (.inr h1)
    · simp only [List.foldl_cons]
      rcases List.mem_cons.mp hy with e | e
      · subst e; omega
      · exact h3 y e
def oMaxL : OA := oInts fun is => (maxL is).map .int
def oMinL : OA := oInts fun is => (minL is).map .int
theorem real_maxL : RealA G oMaxL (rMax G.K) := oInts_real fun W a is d Q k hs e q => by
  cases is with
  | nil => cases e
  | cons i is =>
    cases e
    refine ⟨a, i :: is, rfl, hs, by simp, fun m hm hl => ?_⟩
    obtain ⟨h1, h2, h3⟩ := foldl_max_spec is i
    have : m = is.foldl max i := by
      have a1 := hl (is.foldl max i) (by
        rcases h1 with h1 | h1
        · rw [h1]; exact List.mem_cons_self
        · exact List.mem_cons_of_mem _ h1)
      rcases List.mem_cons.mp hm with e | e
      · omega
      · have := h3 m e; omega
    rw [this]
    exact q _ W rfl k (Ext.refl W) rfl
theorem real_minL : RealA G oMinL (rMin G.K) := oInts_real fun W a is d Q k hs e q => by
  cases is with
  | nil => cases e
  | cons i is =>
    cases e
    refine ⟨a, i :: is, rfl, hs, by simp, fun m hm hl => ?_⟩
    obtain ⟨h1, h2, h3⟩ := foldl_min_spec is i
    have : m = is.foldl min i := by
      have a1 := hl (is.foldl min i) (by
        rcases h1 with h1 | h1
        · rw [h1]; exact List.mem_cons_self
        · exact List.mem_cons_of_mem _ h1)
      rcases List.mem_cons.mp hm with e | e
      · omega
      · have := h3 m e; omega
    rw [this]
    exact q _ W rfl k (Ext.refl W) rfl
/-- list(..), tuple(..) of a list or a tuple -/
def oList : OA := fun ds M => match ds with
  | [d] => (seqOf d M).map fun it => .l it.xs
  | _ => none
theorem real_list : RealA G oList (fun xs H Q => ∃ p ys, xs = [.ref p] ∧ (SqL G.K H p ys ∨ SqT G.K H p ys) ∧ ∀ l, H l = none → Q (.ref l) (upd H l (.lst ys))) := fun W ds xs Q k r q => by
  unfold oList at q
  split at q
  · rename_i d
    obtain ⟨v, rfl, r1⟩ := RepL.one r
    cases e : seqOf d W.M with
    | none => rw [e] at q; exact q.elim
    | some it =>
      rw [e] at q
      obtain ⟨b, ys, rfl, hs, r2⟩ := seq_now k r1 e
      exact ⟨b, ys, rfl, hs, fun l hl => q ys l r2 hl⟩
  · exact q.elim
def oTuple : OA := fun ds M => match ds with
  | [d] => match d with
    | .tup ds => some (.v (.tup ds))
    | .kt ds => some (.v (.kt ds))
    | _ => (lstOf d M).map fun it => .v (.tup it.xs)
  | _ => none
theorem real_tuple : RealA G oTuple (fun xs H Q => ∃ p ys, xs = [.ref p] ∧ ((SqL G.K H p ys ∧ ∀ l, H l = none → Q (.ref l) (upd H l (.tup ys))) ∨ (SqT G.K H p ys ∧ Q (.ref p) H))) := fun W ds xs Q k r q => by
  have lst : ∀ (d : D) (v : V), Rep G W d v → pO G W ((lstOf d W.M).map fun it => .v (.tup it.xs)) Q → ∃ p ys, [v] = [.ref p] ∧ ((SqL G.K W.H p ys ∧ ∀ l, W.H l = none → Q (.ref l) (upd W.H l (.tup ys))) ∨ (SqT G.K W.H p ys ∧ Q (.ref p) W.H)) := fun d v r1 q => by
    cases e : lstOf d W.M with
    | none => rw [e] at q; exact q.elim
    | some it =>
      rw [e] at q
      obtain ⟨b, ys, rfl, hs, r2⟩ := lst_now k r1 e
      exact ⟨b, ys, rfl, .inl ⟨hs, fun l hl => q (.ref l) (W.new l (.tup ys)) rfl (ok_new k hl) (ext_new k hl) ⟨l, ys, rfl, upd_same, own_new k hl, r2.mono (ext_new k hl)⟩⟩⟩
  unfold oTuple at q
  split at q
  · rename_i d
    obtain ⟨v, rfl, r1⟩ := RepL.one r
    cases d with
    | tup es =>
      obtain ⟨a, ys, rfl, h1, n1, r2⟩ := r1
      exact ⟨a, ys, rfl, .inr ⟨.of h1, q _ W rfl k (Ext.refl W) ⟨a, ys, rfl, h1, n1, r2⟩⟩⟩
    | kt es =>
      obtain ⟨a, ys, rfl, h1, r2⟩ := r1
      exact ⟨a, ys, rfl, .inr ⟨h1.sq rfl, q _ W rfl k (Ext.refl W) ⟨a, ys, rfl, h1, r2⟩⟩⟩
    | _ => exact lst _ _ r1 q
  · exact q.elim
/-- sorted of ints -/
def oSorted : OA := fun ds M => match ds with
  | [d] => (lstOf d M).bind fun it => (intsOf it.xs).map fun is => .l ((is.mergeSort (fun a b => decide (a ≤ b))).map .int)
  | _ => none
theorem sorted_one {l l' : List Int} (h1 : l'.Perm l) (h2 : l'.Pairwise (· ≤ ·)) : l' = l.mergeSort (fun a b => decide (a ≤ b)) := by
  refine List.Perm.eq_of_pairwise (le := (· ≤ ·)) (fun a b _ _ h h' => Int.le_antisymm h h') h2 ?_ (h1.trans (List.mergeSort_perm l _).symm)
  have := List.pairwise_mergeSort (le := fun a b : Int => decide (a ≤ b)) (fun a b c h h' => by simp at *; omega) (fun a b => by simp; omega) l
  exact this.imp fun h => by simpa using h
theorem real_sorted : RealA G oSorted (rSortedI G.K) := fun W ds xs Q k r q => by
  unfold oSorted at q
  split at q
  · rename_i d
    obtain ⟨v, rfl, r1⟩ := RepL.one r
    cases e : lstOf d W.M with
    | none => rw [e] at q; exact q.elim
    | some it =>
      cases e2 : intsOf it.xs with
      | none => simp only [e, e2, Option.bind_some, Option.map_none] at q; exact q.elim
      | some is =>
        simp only [e, e2, Option.bind_some, Option.map_some] at q
        obtain ⟨b, ys, rfl, hs, r2⟩ := lst_now k r1 e
        rw [intsOf_eq e2] at r2
        have := RepL.ints r2
        subst this
        refine ⟨b, is, rfl, hs, fun ns' p h1 h2 hp => ?_⟩
        rw [sorted_one h1 h2]
        exact q _ p (RepL.of_ints _) hp
  · exact q.elim
/-! ### isinstance -/
def tyOf : D → Option String
  | .non => some "NoneType"
  | .bl _ => some "bool"
  | .int _ => some "int"
  | .str _ => some "str"
  | .tup _ => some "tuple"
  | .lst _ => some "list"
  | .kt _ => some "tuple"
  | .dic => some "dict"
  | _ => none
def tyOfM (d : D) (M : Mem) : Option String := match d with
  | .loc l => (memAt M l).map fun _ => "list"
  | d => tyOf d
def isTy (t n : String) : Bool := t == n || (t == "bool" && n == "int")
def tys : List String := ["NoneType", "bool", "int", "str", "tuple", "list", "dict"]
theorem kit_all : tys.all (fun t => tys.all fun n => n == "NoneType" || kitB t n == some (isTy t n)) = true := by decide +kernel
theorem kit_at {t n : String} {K : PySem.W.Frag} (h1 : t ∈ tys) (h2 : n ∈ tys) (h3 : n ≠ "NoneType") : PySem.W.kitOne K (.type t) (.type n) = some (isTy t n) := by
  have h := List.all_eq_true.mp (List.all_eq_true.mp kit_all t h1) n h2
  rw [Bool.or_eq_true] at h
  rcases h with h | h
  · exact absurd (by simpa using h) h3
  · exact kit_ty (by simpa using h)
theorem tyOf_mem {d : D} {t : String} (h : tyOf d = some t) : t ∈ tys := by
  cases d <;> cases h <;> decide
theorem ty_x {W : Wd} {d : D} {v : V} {t : String} (k : WOk G W) (r : Rep G W d v) (h : tyOfM d W.M = some t) : TyX G.K W.H v (.type t) ∧ t ∈ tys := by
  cases d with
  | loc l =>
    cases e : memAt W.M l with
    | none =>
      have h : (memAt W.M l).map (fun _ => "list") = some t := h
      rw [e] at h; cases h
    | some ds =>
      have h : (memAt W.M l).map (fun _ => "list") = some t := h
      rw [e] at h
      cases h
      obtain ⟨a, h1, rfl⟩ := r
      obtain ⟨a', xs, h2, h3, _⟩ := k.there l ds (mem_eq e)
      rw [h1] at h2
      cases h2
      exact ⟨.base (.lst h3), show "list" ∈ tys by decide⟩
  | non => cases r; cases h; exact ⟨.base .non, by decide⟩
  | bl b => cases r; cases h; exact ⟨.base (.bl _), by decide⟩
  | int b => cases r; cases h; exact ⟨.base (.int _), by decide⟩
  | str b => cases r; cases h; exact ⟨.base (.str _), by decide⟩
  | tup ds => obtain ⟨a, xs, rfl, h1, _⟩ := r; cases h; exact ⟨.base (.tup h1), by decide⟩
  | lst ds => obtain ⟨a, xs, rfl, h1, _⟩ := r; cases h; exact ⟨.base (.lst h1), by decide⟩
  | kt ds =>
    obtain ⟨a, xs, rfl, ⟨o, its, n, h1, h2, h3, h4, h5⟩, _⟩ := r
    cases h
    exact ⟨.kTuple h1 h2, by decide⟩
  | dic => obtain ⟨a, rfl, h1, _⟩ := r; cases h; exact ⟨.base (.dK h1), by decide⟩
  | _ => cases h
@[simp] def tyNames : List D → Option (List String)
  | [] => some []
  | d :: ds => match d with
    | .ty n => (tyNames ds).map fun r => n :: r
    | _ => none
def oIsi : OA := fun ds M => match ds with
  | [d, .ty n] => (tyOfM d M).bind fun t => if n ∈ tys ∧ n ≠ "NoneType" then some (.v (.bl (isTy t n))) else none
  | [d, .tup cs] => (tyOfM d M).bind fun t => (tyNames cs).bind fun ns => if (ns.all fun n => decide (n ∈ tys) && decide (n ≠ "NoneType")) = true then some (.v (.bl (ns.any (isTy t)))) else none
  | _ => none
theorem tyNames_rep {W : Wd} : ∀ {cs : List D} {ns : List String} {vs : List V}, tyNames cs = some ns → RepL G W cs vs → vs = ns.map V.ty
  | [], ns, vs, h, r => by cases h; exact r
  | d :: ds, ns, vs, h, r => by
    unfold tyNames at h
    split at h
    · rename_i n
      cases e : tyNames ds with
      | none => rw [e] at h; cases h
      | some ms =>
        rw [e] at h
        cases h
        obtain ⟨v, r', rfl, r1, r2⟩ := r
        cases r1
        rw [tyNames_rep e r2]
        rfl
    · cases h
theorem kitAny_all {K : PySem.W.Frag} {t : String} (ht : t ∈ tys) : ∀ {ns : List String}, (ns.all fun n => decide (n ∈ tys) && decide (n ≠ "NoneType")) = true → PySem.W.kitAny K (.type t) (ns.map Value.type) = some (ns.any (isTy t))
  | [], _ => kitAny_nil
  | n :: ns, h => by
    rw [List.all_cons, Bool.and_eq_true, Bool.and_eq_true, decide_eq_true_eq, decide_eq_true_eq] at h
    refine kitAny_cons (kit_at ht h.1.1 h.1.2) (fun e => ?_) (fun e => ?_)
    · rw [List.any_cons, e, Bool.false_or]
      exact kitAny_all ht h.2
    · rw [List.any_cons, e, Bool.true_or]
theorem clsV_tys : ∀ ns : List String, Paired ClsV (ns.map V.ty) (ns.map Value.type)
  | [] => .nil
  | n :: ns => .cons (.ty n) (clsV_tys ns)
theorem real_isi : RealA G oIsi (fun xs H Q => rIsi G.K xs H Q ∨ rIsiT G.K xs H Q) := fun W ds xs Q k r q => by
  unfold oIsi at q
  split at q
  · rename_i d n
    obtain ⟨v, u, rfl, r1, r2⟩ := RepL.two r
    cases e : tyOfM d W.M with
    | none => rw [e] at q; exact q.elim
    | some t =>
      rw [e] at q
      have q : pO G W (if n ∈ tys ∧ n ≠ "NoneType" then some (.v (.bl (isTy t n))) else none) Q := q
      split at q
      · rename_i hn
        cases r2
        obtain ⟨h1, h2⟩ := ty_x k r1 e
        exact .inl ⟨v, .ty n, .type t, .type n, isTy t n, rfl, .ty n, h1, kit_at h2 hn.1 hn.2, q _ W rfl k (Ext.refl W) rfl⟩
      · exact q.elim
  · rename_i d cs
    obtain ⟨v, u, rfl, r1, r2⟩ := RepL.two r
    cases e : tyOfM d W.M with
    | none => rw [e] at q; exact q.elim
    | some t =>
      cases e2 : tyNames cs with
      | none => simp only [e, e2, Option.bind_some, Option.bind_none] at q; exact q.elim
      | some ns =>
        simp only [e, e2, Option.bind_some] at q
        split at q
        · rename_i hn
          obtain ⟨a, ys, rfl, h3, _, r3⟩ := r2
          have := tyNames_rep e2 r3
          subst this
          obtain ⟨h1, h2⟩ := ty_x k r1 e
          exact .inr ⟨v, a, _, .type t, ns.map Value.type, ns.any (isTy t), rfl, h3, clsV_tys ns, h1, kitAny_all h2 hn, q _ W rfl k (Ext.refl W) rfl⟩
        · exact q.elim
  · exact q.elim
end
end DM

/-! DM: try with several clauses «except X as n», isinstance of what is handled. -/
namespace DM
open PySem PySem.Spec PyProof.Rows L2
def wManyA (K : PySem.W.Frag) (Wout : WX) (D : Ends) : List (Value × Nat × (Addr → Value → Option Addr → TS)) → WX
  | [] => Wout
  | (c, i, ts) :: r => fun cls d σ H => ∃ b, PySem.W.exmOne K cls c = some b ∧ (b = true → ∀ a, H a = none → ts a cls d { nx := fun σ' H' => D.nx (σ'.set i none) H', rt := D.rt, bk := fun σ' H' => D.bk (σ'.set i none) H', ct := fun σ' H' => D.ct (σ'.set i none) H' } (σ.set i (some (.ref a))) H) ∧ (b = false → wManyA K Wout D r cls d σ H)
inductive HdsA (X : Cx) : List ExceptHandler → List (Value × Nat × (Addr → Value → Option Addr → TS)) → Prop
  | nil : HdsA X [] []
  | cons {x n : Str} {i : Nat} {c : Value} {ts : Addr → Value → Option Addr → TS} {b₀ : Stmt} {suite : List Stmt} {np pos' : Pos} {hds : List ExceptHandler} {l : List (Value × Nat × (Addr → Value → Option Addr → TS))} (hc : Names X x c) (hi : X.N[i]? = some n) (hln : X.env.kindOf n = some .local)
      (hsu : ∀ (a : Addr) (oe : Obj) (cls : Value) (d : Option Addr) (pn : List (Addr × Obj)), Zc cls d oe → (∃ vs, oe.data = .fields vs) → PSs (X.suite a ((a, oe) :: pn)) (b₀ :: suite) (ts a cls d)) (r : HdsA X hds l) :
      HdsA X (.ExceptHandler (some (.Name x np)) (some n) (b₀ :: suite) pos' :: hds) ((c, i, ts) :: l)
section
variable {X : Cx} {body : List Stmt} {h₀ : ExceptHandler} {hds : List ExceptHandler} {l : List (Value × Nat × (Addr → Value → Option Addr → TS))} {pos : Pos} {tb : WX → TS} {Wout : WX}
theorem ps_try_manyA (hs : X.stack = X.env :: X.outer) (hf : X.env.frame = some X.env.locals) (hN : X.N.Nodup) (tk : Takes X Wout)
    (hb : ∀ (W : WX) (pn : List (Addr × Obj)) (xe : Value → Shared → Prop), Takes (X.tr pn xe) W → PassesOwn (model X.prog X.w) X.A X.env xe → PSs (X.tr pn xe) body (tb W))
    (hh : HdsA X (h₀ :: hds) l) : PS X (.Try body (h₀ :: hds) [] [] pos) (fun D σ H => tb (wManyA X.K Wout D l) D σ H) := by
  refine ⟨fun pins s σ H D I h => ?_⟩
  have ok := I.ok
  have hfr : X.A.frames = some (X.env :: X.outer) := by rw [ok.frames, hs]
  refine wpAny_Try_except ?_
  refine wpAny_mono ((hb (wManyA X.K Wout D l) (X.pn ++ pins) (fun e s₁ => wpAny (model X.prog X.w) X.A (noteFrame e X.env) (fun _ s₂ => wpAny (model X.prog X.w) X.A (setFlight e none) (fun _ s₃ =>
    wpAny (model X.prog X.w) X.A (handleBy e X.env (h₀ :: hds)) (SP X pins D) X.xe s₃) X.xe s₂) X.xe s₁) (fun u s' xx => ?_) PassesOwn.looking).run [] s σ H D (I.toTry _) h) (fun f s1 hsp => ?_) (fun e s1 he => he)
  · obtain ⟨a, B, sI, pins', σ', H', cls, d, rfl, J', nb, up, sky, na, os, ag, w⟩ := xx
    have J : Inv X pins σ' H' sI := J'.ofTry ok
    have sky' : Sky B (X.env :: X.outer) a (Zc cls d) X.env.locals s'.heap := by rw [← hs]; exact sky
    show wpAny (model X.prog X.w) X.A (noteFrame (.ref a) X.env) _ _ _
    refine Sky.land Zc.steady hfr hf sky' fun h3 fl3 up3 => ?_
    have J3 : Inv X pins σ' H' { s' with heap := h3 } := J.landed nb fl3.1 (up.trans up3) os ag
    obtain ⟨oe3, vs3, he3, hz3, hd3⟩ := fl3.there
    have notFr : ∀ {h : Heap} {o : Obj} {vs : Array Value}, h.FunFrames B (X.env :: X.outer) → h.get? a = some o → o.data = .fields vs → a ∉ frs (X.env :: X.outer) := fun {h o vs} ff e dd hm => by
      obtain ⟨_, o', e', hnf⟩ := ff.mem hm
      rw [e] at e'; cases e'
      exact hnf _ dd
    have nfr := notFr fl3.2.2.1 he3 hd3
    have nL : a ≠ X.env.locals := fun z => nfr (List.mem_filterMap.mpr ⟨X.env, List.mem_cons_self, by rw [hf, z]⟩)
    have nF : a ∉ X.fs := fun hm => by
      obtain ⟨e, he, q⟩ := List.mem_filterMap.mp hm
      exact nfr (List.mem_filterMap.mpr ⟨e, List.mem_cons_of_mem _ he, q⟩)
    have S3 := J3.suite he3 hd3 na nL nF
    have go : ∀ {hds' : List ExceptHandler} {l' : List (Value × Nat × (Addr → Value → Option Addr → TS))}, HdsA X hds' l' → wManyA X.K Wout D l' cls d σ' H' →
        wpAny (model X.prog X.w) X.A (handleBy (.ref a) X.env hds') (SP X pins D) X.xe { s' with heap := h3 } := by
      intro hds' l' hk
      induction hk with
      | nil =>
        intro w
        refine wpAny_handleBy_nil ?_
        obtain ⟨k1, k2, k3, oe, vs, T, oT, ts', he, hz, hd, h1, hr⟩ := id fl3
        unfold PySem.passOn
        refine wpAny_bind (wpAny_field he hd h1 ?_)
        rw [if_neg (show ¬ ((Value.ref T == Value.none) = true) from by simp)]
        have fin : wpAny (model X.prog X.w) X.A (setFlight (.ref a) X.env.frame) (fun _ s4 => wpAny (model X.prog X.w) X.A (throw (.ref a) : Sem Flow) (SP X pins D) X.xe s4) X.xe { s' with heap := h3 } := by
          rw [hf]
          refine HandSPX.setFlight_upZ fl3 fun h4 hh4 up4 => wpAny_throw (tk _ _ ?_)
          exact ⟨a, B, sI, pins, σ', H', cls, d, rfl, J, nb, (up.trans up3).trans up4, .inr (.inr (by rw [hs]; exact hh4)), na, os, ag, w⟩
        first
          | exact wpAny_bind (wpAny_pure (wpAny_bind fin))
          | exact wpAny_bind fin
      | @cons x n i c ts b₀ suite np pos' hds2 l2 hc hi hln hsu r ih =>
        intro w
        obtain ⟨b, hb1, hyes, hno⟩ := w
        have hloc : L2.Loc X.env.scope n := .inl hln
        refine wpAny_handleBy_cons (codeAny_handlers_test ?_) (by intro q; cases q)
        have LT : PySem.W.Looks (model X.prog X.w) h3 (typeOf (.ref a)) cls := fun A Q E s k q => wpAny_typeOf_ref (k _ _ he3) (by rw [hz3.1]; exact q)
        have LM := PySem.W.exm_one (M := model X.prog X.w) (J3.kIn) LT hb1
        have test : ∀ {Q : Value → Shared → Prop} {E : Value → Shared → Prop}, Q c { s' with heap := h3 } → wpAny (model X.prog X.w) (X.A.mark (some (.ref a))) (eval (.Name x np) X.env) Q E { s' with heap := h3 } := fun {Q E} q => by
          obtain ⟨hg, hdbg, hm | ⟨hm, hv, hnn⟩⟩ := hc
          · exact ld_glob (X := X.suite a ((a, oe3) :: (X.pn ++ pins))) S3 hg hm q hdbg
          · exact ld_blt (X := X.suite a ((a, oe3) :: (X.pn ++ pins))) S3 hg hm hv q hnn hdbg
        refine test (LM.here ?_)
        cases b with
        | true =>
          refine codeAny_handlers_suite_as ?_
          refine HandSPX.lands_againZ fl3 fun h4 fl4 up4 => ?_
          have J4 : Inv X pins σ' H' { s' with heap := h4 } := J.landed nb fl4.1 ((up.trans up3).trans up4) os ag
          obtain ⟨oe4, vs4, he4, hz4, hd4⟩ := fl4.there
          have S4 := J4.suite he4 hd4 na nL nF
          refine store_ok (X := X.suite a ((a, oe4) :: (X.pn ++ pins))) (v := .ref a) S4 hN hi hloc rfl (fun s5 S5 => ?_) (.inr hln)
          refine wpAny_mono ((hsu a oe4 cls d (X.pn ++ pins) hz4 ⟨_, hd4⟩).run [] s5 _ H' _ S5 (hyes rfl a na)) (fun f s6 hsp => ?_) (fun _ _ z => False.elim z)
          have end_ : ∀ {σ6 : L2.St} {H6 : Hp} {Q : Shared → Prop}, Inv (X.suite a ((a, oe4) :: (X.pn ++ pins))) [] σ6 H6 s6 → (∀ s7, Inv X pins (σ6.set i none) H6 s7 → Q s7) →
              wpAny (model X.prog X.w) X.A (do bindName X.env n .none; unbindBehindTheSuite X.env n pos') (fun _ s7 => Q s7) X.xe s6 := fun {σ6 H6 Q} S6 hq => gone_ok (S6.unsuite ok) hN hi hln hq
          cases f with
          | next =>
            obtain ⟨σ6, H6, S6, q6⟩ := hsp
            exact end_ S6 fun s7 J7 => ⟨_, _, J7, q6⟩
          | brk =>
            obtain ⟨σ6, H6, S6, q6⟩ := hsp
            exact end_ S6 fun s7 J7 => ⟨_, _, J7, q6⟩
          | cont =>
            obtain ⟨σ6, H6, S6, q6⟩ := hsp
            exact end_ S6 fun s7 J7 => ⟨_, _, J7, q6⟩
          | ret u =>
            obtain ⟨v6, σ6, H6, S6, r6, q6⟩ := hsp
            exact end_ S6 fun s7 J7 => ⟨_, _, _, J7, r6, q6⟩
        | false =>
          show wpAny _ X.A (handleBy (.ref a) X.env hds2) _ _ _
          exact ih (hno rfl)
    exact go hh w
  · cases f with
    | next =>
      obtain ⟨σ', H', J', q⟩ := hsp
      exact wpAny_execs_nil ⟨σ', H', J'.ofTry ok, q⟩
    | brk =>
      obtain ⟨σ', H', J', q⟩ := hsp
      exact ⟨σ', H', J'.ofTry ok, q⟩
    | cont =>
      obtain ⟨σ', H', J', q⟩ := hsp
      exact ⟨σ', H', J'.ofTry ok, q⟩
    | ret u =>
      obtain ⟨v, σ', H', J', r, q⟩ := hsp
      exact ⟨v, σ', H', J'.ofTry ok, r, q⟩
end

/-! ### by data -/
section
variable {G : Gd} {X : Cx} {Γ : DC G X} {pos : Pos}
/-- a clause: does it take the class? the slot of its name; its suite -/
structure Hd where
  tst : String → Option Bool
  i : Nat
  s : SM
mutual
def NoX : D → Prop
  | .tup ds => NoXL ds
  | .lst ds => NoXL ds
  | .kt ds => NoXL ds
  | .exn _ _ _ _ => False
  | _ => True
def NoXL : List D → Prop
  | [] => True
  | d :: ds => NoX d ∧ NoXL ds
end
open Classical in
noncomputable def handle : List Hd → D → DSt → Mem → RS
  | [], x, τ, M => .exc x τ M
  | h :: r, x, τ, M => match x with
    | .exn c _ _ _ => match h.tst c with
      | some true => match h.s (τ.set h.i (some x)) M with
        | .rt d M' => if NoX d ∧ M' = M then .rt d M' else .bad
        | _ => .bad
      | some false => handle r x τ M
      | none => .bad
    | _ => .bad
noncomputable def sTry (b : SM) (hs : List Hd) : SM := fun τ M => match b τ M with
  | .exc x τ' M' => handle hs x τ' M'
  | r => r
/-- the same world, another exception handled -/
abbrev Wd.hnd (W : Wd) (ea : Option (Addr × String × Option Addr)) : Wd := { W with ea := ea }
theorem own_hnd {W : Wd} {ea : Option (Addr × String × Option Addr)} {a : Addr} : (W.hnd ea).own a ↔ W.own a := Iff.rfl
mutual
theorem Rep.hnd {W : Wd} {ea : Option (Addr × String × Option Addr)} : ∀ {d : D} {v : V}, Rep G W d v → NoX d ∨ W.ea = none → Rep G (W.hnd ea) d v
  | .non, _, h, _ => h
  | .bl _, _, h, _ => h
  | .int _, _, h, _ => h
  | .str _, _, h, _ => h
  | .ty _, _, h, _ => h
  | .gr _, _, h, _ => h
  | .loc _, _, h, _ => h
  | .scr _, _, h, _ => h
  | .dic, _, h, _ => h
  | .tup ds, _, h, q => by
    obtain ⟨a, xs, e, h1, n1, r⟩ := h
    exact ⟨a, xs, e, h1, n1, RepL.hnd r q⟩
  | .lst ds, _, h, q => by
    obtain ⟨a, xs, e, h1, n1, r⟩ := h
    exact ⟨a, xs, e, h1, n1, RepL.hnd r q⟩
  | .kt ds, _, h, q => by
    obtain ⟨a, xs, e, h1, r⟩ := h
    exact ⟨a, xs, e, h1, RepL.hnd r q⟩
  | .exn _ _ _ _, _, h, q => by
    rcases q with q | q
    · exact False.elim q
    · obtain ⟨a, dd, h1, _⟩ := h
      rw [q] at h1
      cases h1
theorem RepL.hnd {W : Wd} {ea : Option (Addr × String × Option Addr)} : ∀ {ds : List D} {vs : List V}, RepL G W ds vs → NoXL ds ∨ W.ea = none → RepL G (W.hnd ea) ds vs
  | [], _, h, _ => h
  | _ :: _, _, h, q => by
    obtain ⟨v, r, e, h1, h2⟩ := h
    exact ⟨v, r, e, Rep.hnd h1 (q.imp (fun z => z.1) id), RepL.hnd h2 (q.imp (fun z => z.2) id)⟩
end
theorem ok_hnd {W : Wd} {ea : Option (Addr × String × Option Addr)} (k : WOk G W) (he : W.ea = none) : WOk G (W.hnd ea) :=
  ⟨k.len, k.inj, fun l ds h => let ⟨a, xs, h1, h2, h3⟩ := k.there l ds h; ⟨a, xs, h1, h2, RepL.hnd h3 (.inr he)⟩, k.hidT, k.hidP, k.hidN, k.tab⟩
mutual
theorem Clo.nox {n : Nat} : ∀ {d : D}, Clo n d → NoX d
  | .non, _ => trivial
  | .bl _, _ => trivial
  | .int _, _ => trivial
  | .str _, _ => trivial
  | .ty _, _ => trivial
  | .gr _, _ => trivial
  | .loc _, _ => trivial
  | .scr _, _ => trivial
  | .dic, _ => trivial
  | .tup _, h => CloL.nox (show CloL n _ from h)
  | .lst _, h => CloL.nox (show CloL n _ from h)
  | .kt _, h => CloL.nox (show CloL n _ from h)
  | .exn _ _ _ _, h => False.elim h
theorem CloL.nox {n : Nat} : ∀ {ds : List D}, CloL n ds → NoXL ds
  | [], _ => trivial
  | _ :: _, h => ⟨Clo.nox h.1, CloL.nox h.2⟩
end
/-- back from a suite -/
theorem ok_unhnd {W W' : Wd} (k : WOk G W) (he : W.ea = none) (k' : WOk G W') (hm : W'.M = W.M) : WOk G (W'.hnd none) := by
  refine ⟨k'.len, k'.inj, fun l ds h => ?_, k'.hidT, k'.hidP, k'.hidN, k'.tab⟩
  obtain ⟨a, xs, h1, h2, h3⟩ := k'.there l ds h
  have h : W'.M[l]? = some (some ds) := h
  rw [hm] at h
  obtain ⟨_, ys, _, _, r⟩ := k.there l ds h
  exact ⟨a, xs, h1, h2, RepL.hnd h3 (.inl (CloL.nox (RepL.clo he r)))⟩
theorem NoX.of_rep {W : Wd} (he : W.ea = none) {d : D} {v : V} (r : Rep G W d v) : NoX d := Clo.nox (Rep.clo he r)

/-! ### the rule -/
abbrev DC.tr (Γ : DC G X) (W : WX) (pn : List (Addr × Obj)) (xe : Value → Shared → Prop) (tk : Takes (X.tr pn xe) W) : DC G (X.tr pn xe) := ⟨W, Γ.ea, Γ.hK, tk⟩
abbrev DC.suite (Γ : DC G X) (a : Addr) (cn : String) (dd : Option Addr) (pn : List (Addr × Obj)) : DC G (X.suite a pn) := ⟨fun _ _ _ _ => False, some (a, cn, dd), Γ.hK, takes0⟩
/-- the clauses of a try -/
inductive HdsD (Γ : DC G X) : List ExceptHandler → List Hd → Prop
  | nil : HdsD Γ [] []
  | cons {x n : Str} {i : Nat} {c : Value} {tst : String → Option Bool} {s : SM} {b₀ : Stmt} {suite : List Stmt} {np pos' : Pos} {hds : List ExceptHandler} {l : List Hd} (hc : Names X x c) (hi : X.N[i]? = some n) (hln : X.env.kindOf n = some .local)
      (ht : ∀ cn b, tst cn = some b → PySem.W.exmOne X.K (.ref (G.ca cn)) c = some b)
      (hsu : ∀ (a : Addr) (oe : Obj) (pn : List (Addr × Obj)) (cn : String) (dd : Option Addr), tst cn = some true → Zc (.ref (G.ca cn)) dd oe → (∃ vs, oe.data = .fields vs) → DSs (Γ.suite a cn dd ((a, oe) :: pn)) (b₀ :: suite) s) (r : HdsD Γ hds l) :
      HdsD Γ (.ExceptHandler (some (.Name x np)) (some n) (b₀ :: suite) pos' :: hds) ({ tst := tst, i := i, s := s } :: l)
theorem hds_of {hds : List ExceptHandler} {l : List Hd} (hh : HdsD Γ hds l) : ∃ lV, HdsA X hds lV ∧ ∀ (Dn : Ends) (x : D) (τ : DSt) (W : Wd) (cls : Value) (dd : Option Addr) (σ : L2.St), WOk G W → W.ea = none → RelS G W τ σ → RepX G W x cls dd → pS G Γ.W W (handle l x τ W.M) Dn → wManyA X.K Γ.W Dn lV cls dd σ W.H := by
  induction hh with
  | nil => exact ⟨[], .nil, fun Dn x τ W cls dd σ k he rs rx h => h cls dd σ W rfl k (Ext.refl W) rs rx⟩
  | @cons x n i c tst s b₀ suite np pos' hds l hc hi hln ht hsu r ih =>
    obtain ⟨lV, h1, h2⟩ := ih
    refine ⟨(c, i, fun a cls d Dn σ H => ∃ cn, tst cn = some true ∧ cls = .ref (G.ca cn) ∧ tS G (fun _ _ _ _ => False) (some (a, cn, d)) s Dn σ H) :: lV, .cons hc hi hln (fun a oe cls d pn hz hv => ⟨fun pins s' σ H Dn I q => ?_⟩) h1, fun Dn x τ W cls dd σ k he rs rx h => ?_⟩
    · obtain ⟨cn, e1, rfl, q⟩ := q
      exact (hsu a oe pn cn d e1 hz hv).run pins s' σ H Dn I q
    · cases x with
      | exn cn has f d =>
        have rx1 : cls = .ref (G.ca cn) := rx.1
        subst rx1
        unfold handle at h
        cases et : tst cn with
        | none => simp only [et] at h; exact h.elim
        | some b =>
          cases b with
          | false =>
            simp only [et] at h
            exact ⟨false, ht cn false et, (fun q => nomatch q), fun _ => h2 Dn (.exn cn has f d) τ W _ dd σ k he rs rx h⟩
          | true =>
            simp only [et] at h
            refine ⟨true, ht cn true et, fun _ a na => ⟨cn, et, rfl, τ.set i (some (.exn cn has f d)), W.hnd (some (a, cn, dd)), rfl, rfl, ok_hnd k he, ?_, ?_⟩, (fun q => nomatch q)⟩
            · have rs' : RelS G (W.hnd (some (a, cn, dd))) τ σ := ⟨rs.1, fun j e q => let ⟨v, q1, q2⟩ := rs.2 j e q; ⟨v, q1, Rep.hnd q2 (.inr he)⟩⟩
              refine rs'.set i ⟨a, dd, rfl, rfl, ?_⟩
              have r2 := rx.2
              cases has with
              | false => exact .inl ⟨rfl, r2⟩
              | true =>
                obtain ⟨b, u, e1, e2, e3, e4⟩ := r2
                exact .inr ⟨rfl, b, u, e1, e2, e3, Rep.hnd e4 (.inr he)⟩
            · show pS G _ _ (s (τ.set i (some (.exn cn has f d))) W.M) _
              cases es : s (τ.set i (some (.exn cn has f d))) W.M with
              | rt d2 M2 =>
                rw [es] at h
                open Classical in
                have h : pS G Γ.W W (if NoX d2 ∧ M2 = W.M then .rt d2 M2 else .bad) Dn := h
                split at h
                · rename_i hn
                  obtain ⟨n1, rfl⟩ := hn
                  intro v W2 m2 k2 e2 r2
                  refine h v (W2.hnd none) m2 (ok_unhnd k he k2 m2) ⟨⟨e2.pla, e2.H, he.symm⟩, e2.hid, e2.hidH⟩ (Rep.hnd r2 (.inl n1))
                · exact h.elim
              | nx _ _ => rw [es] at h; exact h.elim
              | bk _ _ => rw [es] at h; exact h.elim
              | ct _ _ => rw [es] at h; exact h.elim
              | exc _ _ _ => rw [es] at h; exact h.elim
              | bad => rw [es] at h; exact h.elim
      | _ => exact rx.elim
theorem ds_try {body : List Stmt} {h₀ : ExceptHandler} {hds : List ExceptHandler} {l : List Hd} {b : SM} (hN : X.N.Nodup)
    (hb : ∀ (W : WX) (pn : List (Addr × Obj)) (xe : Value → Shared → Prop) (tk : Takes (X.tr pn xe) W), PassesOwn (model X.prog X.w) X.A X.env xe → DSs (Γ.tr W pn xe tk) body b)
    (hh : HdsD Γ (h₀ :: hds) l) (he : Γ.ea = none := by rfl) (hs : X.stack = X.env :: X.outer := by rfl) (hf : X.env.frame = some X.env.locals := by rfl) : DS Γ (.Try body (h₀ :: hds) [] [] pos) (sTry b l) := by
  obtain ⟨lV, h1, h2⟩ := hds_of hh
  refine ps_imp (ps_try_manyA (tb := fun W => tS G W Γ.ea b) hs hf hN Γ.tk (fun W pn xe tk hp => hb W pn xe tk hp) h1) fun Dn σ H q => ?_
  obtain ⟨τ, W, rfl, hea, ok, rs, h⟩ := q
  refine ⟨τ, W, rfl, hea, ok, rs, ?_⟩
  unfold sTry at h
  cases e : b τ W.M with
  | nx τ' M' => rw [e] at h; exact h
  | bk τ' M' => rw [e] at h; exact h
  | ct τ' M' => rw [e] at h; exact h
  | rt d M' => rw [e] at h; exact h
  | bad => rw [e] at h; exact h
  | exc x τ' M' =>
    rw [e] at h
    intro cls dd σ' W' m' k' e' s' r'
    subst m'
    exact h2 Dn x τ' W' cls dd σ' k' (e'.ea.trans (hea.trans he)) s' r' (pS.ext e' h)

/-! ### names of the text's own things; isinstance of what is handled -/
theorem de_glob {x : Str} {p : Pos} {u : Value} {v : V} {d : D} (hm : X.mg x = some u) (r : RelV v u) (rd : ∀ W : Wd, Rep G W d v) (hg : Gl X x := by rfl) (hdb : (x == ("__debug__" : Str)) = false := by decide) : DE Γ (.Name x p) (eC d) := ⟨fun pins s σ H Q I q => by
  obtain ⟨τ, W, rfl, he, ok, rs, h⟩ := q
  exact ld_glob I hg hm ⟨v, W.H, I, r, h v W rfl ok (Ext.refl W) (rd W)⟩ hdb⟩
theorem de_cls {x : Str} {p : Pos} {C : Addr} (hm : X.mg x = some (.ref C)) (hg : Gl X x := by rfl) (hdb : (x == ("__debug__" : Str)) = false := by decide) : DE Γ (.Name x p) (eC (.gr C)) := de_glob (v := .ref C) hm rfl (fun _ => rfl) hg hdb
theorem de_ty {x : Str} {p : Pos} {n : String} (hm : X.mg x = none) (hv : bootBuiltins x = some (.type n)) (hg : Gl X x := by rfl) (hn : x ≠ "__name__" := by decide) (hdb : (x == ("__debug__" : Str)) = false := by decide) : DE Γ (.Name x p) (eC (.ty n)) := ⟨fun pins s σ H Q I q => by
  obtain ⟨τ, W, rfl, he, ok, rs, h⟩ := q
  exact ld_blt I hg hm hv ⟨.ty n, W.H, I, rfl, h (.ty n) W rfl ok (Ext.refl W) rfl⟩ hn hdb⟩
theorem pe_clsN {X : Cx} {x : Str} {p : Pos} {C : Addr} (hm : X.mg x = some (.ref C)) (hg : Gl X x := by rfl) (hdb : (x == ("__debug__" : Str)) = false := by decide) : PE X (.Name x p) (tC (.ref C)) := ⟨fun pins s σ H Q I q => ld_glob I hg hm ⟨.ref C, H, I, rfl, q⟩ hdb⟩
@[simp] def eIsE (tst : String → Option Bool) (m : EM) : EM := fun τ M => (m τ M).bind fun x M1 => match x with
  | .exn c false _ _ => match tst c with
    | some b => .ok (.bl b) M1
    | none => .bad
  | _ => .bad
theorem de_isE {a : Addr} {cn : String} {dd : Option Addr} {oe : Obj} {pn : List (Addr × Obj)} {ea eb : Expr} {ma : EM} {C2 : Addr} {tst : String → Option Bool} {p : Pos} (C : ExcC X.K (G.ca cn)) (hz : Zc (.ref (G.ca cn)) dd oe) (hf : ∃ vs, oe.data = .fields vs)
    (ht : ∀ b, tst cn = some b → PySem.W.kitOne X.K (.ref (G.ca cn)) (.ref C2) = some b) (hm : X.mg "isinstance" = none) (ha : DE (Γ.suite a cn dd ((a, oe) :: pn)) ea ma) (hb : PE (X.suite a ((a, oe) :: pn)) eb (tC (.ref C2))) (hg : Gl (X.suite a ((a, oe) :: pn)) "isinstance" := by rfl)
    (he : starEach (ea :: [eb]) (X.suite a ((a, oe) :: pn)).env = (false, eval ea (X.suite a ((a, oe) :: pn)).env) :: starEach [eb] (X.suite a ((a, oe) :: pn)).env := by rfl) (hs2 : starEach (eb :: []) (X.suite a ((a, oe) :: pn)).env = (false, eval eb (X.suite a ((a, oe) :: pn)).env) :: starEach [] (X.suite a ((a, oe) :: pn)).env := by rfl) (hpl : (backTo pos (starEach [eb] (X.suite a ((a, oe) :: pn)).env)).any (·.1) = false := by rfl) :
    DE (Γ.suite a cn dd ((a, oe) :: pn)) (.Call (.Name "isinstance" p) [ea, eb] [] pos) (eIsE tst ma) := by
  have cr : CallR (X.suite a ((a, oe) :: pn)) (.builtin "isinstance") (fun xs H Q => dd = none ∧ ∃ b, tst cn = some b ∧ xs = [.ref a, .ref C2] ∧ Q (.bl b) H) := by
    intro pins s σ H xs us Q I r h
    obtain ⟨rfl, b, e, rfl, q⟩ := h
    exact call_isE C hz hf pins s σ H _ us Q I r ⟨.ref C2, .ref C2, b, rfl, fun u h => h, ht b e, q⟩
  refine pe_imp (pe_callB cr hg hm (by rfl) (pa_cons ha (pa_cons hb pa_nil hs2) he) (by decide) (by decide) he hpl) fun σ H Q q => ?_
  obtain ⟨τ, W, rfl, hea, ok, rs, h⟩ := q
  refine step hea ok rs h fun dx x W1 k1 e1 r1 h1 => ?_
  cases dx with
  | exn c has f d =>
    cases has with
    | true => exact h1.elim
    | false =>
      obtain ⟨a', dd', e2, rfl, e3⟩ := r1
      have e4 := (e2.symm.trans (e1.ea.trans hea))
      cases e4
      rcases e3 with ⟨_, e3⟩ | ⟨z, _⟩
      · have h1 : pR G noW (Rep G) W1 σ (match tst cn with
          | some b => .ok (.bl b) W1.M
          | none => .bad) Q := h1
        cases e : tst cn with
        | none => rw [e] at h1; exact h1.elim
        | some b =>
          rw [e] at h1
          exact ⟨e3, b, rfl, rfl, h1 (.bl b) W1 rfl k1 (Ext.refl W1) rfl⟩
      · cases z
  | _ => exact h1.elim
end
end DM

/-! DM: parallel stores, enumerate, zip, slices, methods of lists. -/
namespace DM
open PySem PySem.Spec PyProof.Rows L2
section
variable {G : Gd} {X : Cx} {Γ : DC G X} {pos : Pos}
/-! ### a, b = x, y -/
@[simp] def sPar (i j : Nat) (m : AM) : SM := fun τ M => andS (m τ M) τ fun ds M1 => match ds with
  | [a, b] => .nx ((τ.set i (some a)).set j (some b)) M1
  | _ => .bad
@[simp] def sPar3 (i j l : Nat) (m : AM) : SM := fun τ M => andS (m τ M) τ fun ds M1 => match ds with
  | [a, b, c] => .nx (((τ.set i (some a)).set j (some b)).set l (some c)) M1
  | _ => .bad
theorem ds_par {i j : Nat} {x y : Str} {a b : Expr} {m : AM} {px py pt : Pos} {kt k2 pt2} (hN : X.N.Nodup) (ha : DA Γ [a, b] m) (hc : X.calm = true := by rfl) (hi : X.N[i]? = some x := by rfl) (hj : X.N[j]? = some y := by rfl) (hij : i ≠ j := by decide)
    (hx : X.env.scope.names.lookup x = some .local := by rfl) (hy : X.env.scope.names.lookup y = some .local := by rfl)
    (hw : swappedStores [.Tuple [.Name x px, .Name y py] kt pt] (.Tuple [a, b] k2 pt2) X.env = pure (some [x, y]) := by rfl)
    (hs : swapsWithSole [.Tuple [.Name x px, .Name y py] kt pt] (.Tuple [a, b] k2 pt2) pos.line X.env = pure false := by rfl) :
    DS Γ (.Assign [.Tuple [.Name x px, .Name y py] kt pt] (.Tuple [a, b] k2 pt2) pos) (sPar i j m) := ps_imp (ps_par hc hN hi hj hij hx hy ha hw hs) fun Dn σ H q => by
  obtain ⟨τ, W, rfl, he, ok, rs, h⟩ := q
  show tA Γ m σ W.H _
  refine stepS he ok rs h fun ds vs W1 k1 e1 r1 h1 => ?_
  split at h1
  · rename_i d e
    obtain ⟨v, u, rfl, r2, r3⟩ := RepL.two r1
    exact ⟨v, u, rfl, h1 _ W1 rfl k1 (Ext.refl W1) (((rs.mono e1).set i r2).set j r3)⟩
  · exact h1.elim
theorem RepL.three {W : Wd} {d e f : D} {xs : List V} (r : RepL G W [d, e, f] xs) : ∃ v u w, xs = [v, u, w] ∧ Rep G W d v ∧ Rep G W e u ∧ Rep G W f w := by
  obtain ⟨v, r', rfl, h1, h2⟩ := r
  obtain ⟨u, w, rfl, h3, h4⟩ := RepL.two h2
  exact ⟨v, u, w, rfl, h1, h3, h4⟩
theorem ds_par3 {i j l : Nat} {x y z : Str} {a b c : Expr} {m : AM} {px py pz pt : Pos} {kt k2 pt2} (hN : X.N.Nodup) (ha : DA Γ [a, b, c] m) (hc : X.calm = true := by rfl) (hi : X.N[i]? = some x := by rfl) (hj : X.N[j]? = some y := by rfl) (hl : X.N[l]? = some z := by rfl) (hij : i ≠ j := by decide) (hil : i ≠ l := by decide) (hjl : j ≠ l := by decide)
    (hx : X.env.scope.names.lookup x = some .local := by rfl) (hy : X.env.scope.names.lookup y = some .local := by rfl) (hz : X.env.scope.names.lookup z = some .local := by rfl)
    (hw : swappedStores [.Tuple [.Name x px, .Name y py, .Name z pz] kt pt] (.Tuple [a, b, c] k2 pt2) X.env = pure (some [x, y, z]) := by rfl)
    (hs : swapsWithSole [.Tuple [.Name x px, .Name y py, .Name z pz] kt pt] (.Tuple [a, b, c] k2 pt2) pos.line X.env = pure false := by rfl) :
    DS Γ (.Assign [.Tuple [.Name x px, .Name y py, .Name z pz] kt pt] (.Tuple [a, b, c] k2 pt2) pos) (sPar3 i j l m) := ps_imp (ps_par3 hc hN hi hj hl hij hil hjl hx hy hz ha hw hs) fun Dn σ H q => by
  obtain ⟨τ, W, rfl, he, ok, rs, h⟩ := q
  show tA Γ m σ W.H _
  refine stepS he ok rs h fun ds vs W1 k1 e1 r1 h1 => ?_
  split at h1
  · obtain ⟨v, u, w, rfl, r2, r3, r4⟩ := RepL.three r1
    exact ⟨v, u, w, rfl, h1 _ W1 rfl k1 (Ext.refl W1) ((((rs.mono e1).set i r2).set j r3).set l r4)⟩
  · exact h1.elim

/-! ### enumerate, zip -/
def enumD : Nat → List D → List D
  | _, [] => []
  | i, d :: ds => .tup [.int (i : Int), d] :: enumD (i + 1) ds
theorem enumD_get : ∀ {ds : List D} {n i : Nat} {d : D}, (enumD n ds)[i]? = some d → ∃ e, ds[i]? = some e ∧ d = .tup [.int ((n + i : Nat) : Int), e]
  | [], n, i, d, h => by simp [enumD] at h
  | e :: ds, n, 0, d, h => by
    simp [enumD] at h
    exact ⟨e, rfl, h.symm⟩
  | e :: ds, n, i + 1, d, h => by
    simp [enumD] at h
    obtain ⟨e', h1, h2⟩ := enumD_get h
    refine ⟨e', by simpa using h1, ?_⟩
    rw [h2, show n + 1 + i = n + (i + 1) by omega]
theorem enumD_len : ∀ (ds : List D) (n : Nat), (enumD n ds).length = ds.length
  | [], _ => rfl
  | d :: ds, n => by
    show (enumD (n + 1) ds).length + 1 = _
    rw [enumD_len ds]
    rfl
theorem ite_ok {K : PySem.W.Frag} {W0 : Wd} {a : Addr} {it : ItD} (hK : K = G.K) (f : ∀ W, WOk G W → Ext0 W0 W → Chk it.src W.M → ∃ xs, SqL G.K W.H a xs ∧ RepL G W it.xs xs) : ItOk G W0 (Ite K a) { xs := enumD 0 it.xs, src := it.src } := fun W k e c => by
  subst hK
  obtain ⟨xs, h1, h2⟩ := f W k e c
  refine ⟨fun i d hd => ?_, fun i hi => ⟨xs, h1, ?_⟩⟩
  · obtain ⟨e', g1, rfl⟩ := enumD_get hd
    obtain ⟨v, e1, e2⟩ := h2.get g1
    refine ⟨⟨xs, v, h1, e1⟩, fun x H' y => ?_⟩
    obtain ⟨T, x', rfl, hT, rfl, y⟩ := y
    have := (y xs h1).symm.trans e1
    cases this
    refine ⟨W.new T (.tup [.int (i : Nat), v]), rfl, rfl, ok_new k hT, ext_new k hT, T, _, rfl, upd_same, own_new k hT, ?_⟩
    rw [Nat.zero_add]
    exact ⟨_, _, rfl, rfl, _, _, rfl, e2.mono (ext_new k hT), rfl⟩
  · rw [← h2.length]
    have hi : (enumD 0 it.xs).length ≤ i := hi
    rw [enumD_len] at hi
    exact hi
@[simp] def iEnumD (m : AM) : IM := fun τ M => (m τ M).bind fun ds M1 => match ds with
  | [d] => match lstOf d M1 with
    | some it => .ok { xs := enumD 0 it.xs, src := it.src } M1
    | none => .bad
  | _ => .bad
theorem di_enum {e : Expr} {m : AM} {p pos tpos : Pos} {elts : List Expr} {kk : Nat} (hm : X.mg "enumerate" = none) (ha : DA Γ [e] m) (hg : Gl X "enumerate" := by rfl) (hs : starEach [e] X.env = [(false, eval e X.env)] := by rfl) :
    DI Γ (.Tuple elts kk tpos) (.Call (.Name "enumerate" p) [e] [] pos) (iEnumD m) := pi_imp (pi_enum hg hm ha hs) fun σ H Q q => by
  obtain ⟨τ, W, rfl, he, ok, rs, h⟩ := q
  refine step he ok rs h fun ds vs W1 k1 e1 r1 h1 => ?_
  split at h1
  · rename_i d
    obtain ⟨v, rfl, r2⟩ := RepL.one r1
    cases el : lstOf d W1.M with
    | none => rw [el] at h1; exact h1.elim
    | some it =>
      rw [el] at h1
      obtain ⟨a, rfl, f⟩ := lst_at r2 el
      obtain ⟨a', xs, e', hq, _⟩ := lst_now k1 r2 el
      cases e'
      exact ⟨a, xs, rfl, by rw [Γ.hK]; exact hq, h1 (Ite X.K a) W1 rfl k1 (Ext.refl W1) (ite_ok Γ.hK f)⟩
  · exact h1.elim
def zipD (ds es : List D) : List D := List.zipWith (fun a b => .tup [a, b]) ds es
theorem zipD_get {ds es : List D} {i : Nat} {d : D} (h : (zipD ds es)[i]? = some d) : ∃ a b, ds[i]? = some a ∧ es[i]? = some b ∧ d = .tup [a, b] := by
  unfold zipD at h
  rw [List.getElem?_zipWith] at h
  split at h
  · rename_i a b h1 h2
    cases h
    exact ⟨a, b, h1, h2, rfl⟩
  · cases h
theorem zipD_stop {ds es : List D} {i : Nat} (h : (zipD ds es).length ≤ i) : ds.length ≤ i ∨ es.length ≤ i := by
  unfold zipD at h
  rw [List.length_zipWith] at h
  omega
theorem itz_ok {K : PySem.W.Frag} {W0 : Wd} {a b : Addr} {it jt : ItD} (hK : K = G.K) (f : ∀ W, WOk G W → Ext0 W0 W → Chk it.src W.M → ∃ xs, SqL G.K W.H a xs ∧ RepL G W it.xs xs)
    (g : ∀ W, WOk G W → Ext0 W0 W → Chk jt.src W.M → ∃ xs, SqL G.K W.H b xs ∧ RepL G W jt.xs xs) : ItOk G W0 (Itz K a b) { xs := zipD it.xs jt.xs, src := it.src ++ jt.src } := fun W k e c => by
  subst hK
  obtain ⟨xs, h1, h2⟩ := f W k e (fun p hp => c p (List.mem_append_left _ hp))
  obtain ⟨ys, g1, g2⟩ := g W k e (fun p hp => c p (List.mem_append_right _ hp))
  refine ⟨fun i d hd => ?_, fun i hi => ⟨xs, ys, h1, g1, ?_⟩⟩
  · obtain ⟨x1, x2, q1, q2, rfl⟩ := zipD_get hd
    obtain ⟨v, e1, e2⟩ := h2.get q1
    obtain ⟨u, e3, e4⟩ := g2.get q2
    refine ⟨⟨xs, ys, v, u, h1, g1, e1, e3⟩, fun x H' y => ?_⟩
    obtain ⟨T, x', y', rfl, hT, rfl, z1, z2⟩ := y
    cases (z1 xs h1).symm.trans e1
    cases (z2 ys g1).symm.trans e3
    exact ⟨W.new T (.tup [v, u]), rfl, rfl, ok_new k hT, ext_new k hT, T, _, rfl, upd_same, own_new k hT, _, _, rfl, e2.mono (ext_new k hT), _, _, rfl, e4.mono (ext_new k hT), rfl⟩
  · rw [← h2.length, ← g2.length]
    exact zipD_stop hi
theorem itzT_ok {K : PySem.W.Frag} {W0 : Wd} {a b : Addr} {ds es : List D} (hK : K = G.K) (f : ∀ W, Ext0 W0 W → ∃ xs, SqT G.K W.H a xs ∧ RepL G W ds xs) (g : ∀ W, Ext0 W0 W → ∃ xs, SqT G.K W.H b xs ∧ RepL G W es xs) : ItOk G W0 (RZ.ItzT K a b) { xs := zipD ds es } := fun W k e c => by
  subst hK
  obtain ⟨xs, h1, h2⟩ := f W e
  obtain ⟨ys, g1, g2⟩ := g W e
  refine ⟨fun i d hd => ?_, fun i hi => ⟨xs, ys, h1, g1, ?_⟩⟩
  · obtain ⟨x1, x2, q1, q2, rfl⟩ := zipD_get hd
    obtain ⟨v, e1, e2⟩ := h2.get q1
    obtain ⟨u, e3, e4⟩ := g2.get q2
    refine ⟨⟨xs, ys, v, u, h1, g1, e1, e3⟩, fun x H' y => ?_⟩
    obtain ⟨T, x', y', rfl, hT, rfl, z1, z2⟩ := y
    cases (z1 xs h1).symm.trans e1
    cases (z2 ys g1).symm.trans e3
    exact ⟨W.new T (.tup [v, u]), rfl, rfl, ok_new k hT, ext_new k hT, T, _, rfl, upd_same, own_new k hT, _, _, rfl, e2.mono (ext_new k hT), _, _, rfl, e4.mono (ext_new k hT), rfl⟩
  · rw [← h2.length, ← g2.length]
    exact zipD_stop hi
def zipI (x y : D) (M : Mem) : Option ItD := match tupOf x with
  | some ds => match tupOf y with
    | some es => some { xs := zipD ds es }
    | none => none
  | none => match lstOf x M with
    | some it => match lstOf y M with
      | some jt => some { xs := zipD it.xs jt.xs, src := it.src ++ jt.src }
      | none => none
    | none => none
@[simp] def iZipD (m : AM) : IM := fun τ M => (m τ M).bind fun ds M1 => match ds with
  | [x, y] => match zipI x y M1 with
    | some it => .ok it M1
    | none => .bad
  | _ => .bad
theorem di_zip {e e2 : Expr} {m : AM} {p pos tpos : Pos} {elts : List Expr} {kk : Nat} (hm : X.mg "zip" = none) (ha : DA Γ [e, e2] m) (hg : Gl X "zip" := by rfl)
    (hs : starEach [e, e2] X.env = (false, eval e X.env) :: starEach [e2] X.env := by rfl) (hpl : (backTo pos (starEach [e2] X.env)).any (·.1) = false := by rfl) :
    DI Γ (.Tuple elts kk tpos) (.Call (.Name "zip" p) [e, e2] [] pos) (iZipD m) := pi_imp (RZ.pi_zipA hg hm ha hs hpl) fun σ H Q q => by
  obtain ⟨τ, W, rfl, he, ok, rs, h⟩ := q
  refine step he ok rs h fun ds vs W1 k1 e1 r1 h1 => ?_
  split at h1
  · rename_i x y
    obtain ⟨v, u, rfl, r2, r3⟩ := RepL.two r1
    cases ez : zipI x y W1.M with
    | none => rw [ez] at h1; exact h1.elim
    | some it =>
      rw [ez] at h1
      unfold zipI at ez
      split at ez
      · rename_i ds et
        split at ez
        · rename_i es et2
          cases ez
          obtain ⟨a, rfl, f⟩ := tup_at r2 et
          obtain ⟨b, rfl, g⟩ := tup_at r3 et2
          obtain ⟨xs, f1, _⟩ := f W1 (Ext0.refl W1)
          obtain ⟨ys, g1, _⟩ := g W1 (Ext0.refl W1)
          rw [Γ.hK]
          exact ⟨a, b, xs, ys, rfl, .inr ⟨f1, g1, h1 (RZ.ItzT G.K a b) W1 rfl k1 (Ext.refl W1) (itzT_ok rfl f g)⟩⟩
        · cases ez
      · split at ez
        · rename_i it1 el1
          split at ez
          · rename_i it2 el2
            cases ez
            obtain ⟨a, rfl, f⟩ := lst_at r2 el1
            obtain ⟨b, rfl, g⟩ := lst_at r3 el2
            obtain ⟨_, xs, e', f1, _⟩ := lst_now k1 r2 el1
            cases e'
            obtain ⟨_, ys, e', g1, _⟩ := lst_now k1 r3 el2
            cases e'
            rw [Γ.hK]
            exact ⟨a, b, xs, ys, rfl, .inl ⟨f1, g1, h1 (Itz G.K a b) W1 rfl k1 (Ext.refl W1) (itz_ok rfl f g)⟩⟩
          · cases ez
        · cases ez
  · exact h1.elim

/-! ### slices -/
abbrev PM := DSt → Mem → R (Option Int)
abbrev DO (Γ : DC G X) (e : Option Expr) (m : PM) : Prop := PO X e (tR G Γ.W Γ.ea (fun _ a b => a = b) m)
@[simp] def pNo : PM := fun _ M => .ok none M
@[simp] def pSome (m : EM) : PM := fun τ M => (m τ M).bind fun x M1 => match x with
  | .int i => .ok (some i) M1
  | _ => .bad
theorem po_imp {X : Cx} {e : Option Expr} {t t' : TO} (h : PO X e t) (i : ∀ σ H Q, t' σ H Q → t σ H Q) : PO X e t' := ⟨fun pins s σ H Q I q => h.run pins s σ H Q I (i _ _ _ q)⟩
theorem do_none : DO Γ none pNo := po_imp po_none fun σ H Q q => by
  obtain ⟨τ, W, rfl, he, ok, rs, h⟩ := q
  exact h none W rfl ok (Ext.refl W) rfl
theorem do_some {e : Expr} {m : EM} (h : DE Γ e m) : DO Γ (some e) (pSome m) := po_imp (po_some h) fun σ H Q q => by
  obtain ⟨τ, W, rfl, he, ok, rs, h⟩ := q
  refine step he ok rs h fun d v W1 k1 e1 r1 h1 => ?_
  cases d with
  | int i => exact ⟨i, r1, h1 (some i) W1 rfl k1 (Ext.refl W1) rfl⟩
  | _ => exact h1.elim
def cutD (xs : List D) (lo hi : Option Int) : List D := (xs.drop (HT.sIx xs.length 0 lo)).take (HT.sIx xs.length xs.length hi - HT.sIx xs.length 0 lo)
theorem cut_rep {W : Wd} {ds : List D} {xs : List V} (r : RepL G W ds xs) (lo hi : Option Int) : RepL G W (cutD ds lo hi) (cutV xs lo hi) := by
  unfold cutD cutV
  rw [r.length]
  exact (r.drop _).take _
def oSl (lo hi : Option Int) : O1 := fun x M => match x with
  | .tup ds => some (.v (.tup (cutD ds lo hi)))
  | _ => (lstOf x M).map fun it => .l (cutD it.xs lo hi)
@[simp] def eSl (own : Bool) (m : EM) (lo hi : PM) : EM := fun τ M => (m τ M).bind fun x M1 => (lo τ M1).bind fun l M2 => (hi τ M2).bind fun u M3 => fin own (oSl l u x M3) M3
theorem de_slice (own : Bool) {e : Expr} {lo hi : Option Expr} {m : EM} {ml mh : PM} {p2 : Pos} (he : DE Γ e m) (hl : DO Γ lo ml) (hu : DO Γ hi mh) : DE Γ (.Subscript e (.Slice lo hi none p2) pos) (eSl own m ml mh) :=
  pe_imp (pe_slice (sl_list.or sl_tupA) he hl hu) fun σ H Q q => by
  obtain ⟨τ, W, rfl, hea, ok, rs, h⟩ := q
  refine step hea ok rs h fun d v W1 k1 e1 r1 h1 => ?_
  refine step (e1.ea.trans hea) k1 (rs.mono e1) h1 fun l l' W2 k2 e2 r2 h2 => ?_
  refine step (e2.ea.trans (e1.ea.trans hea)) k2 ((rs.mono e1).mono e2) h2 fun u u' W3 k3 e3 r3 h3 => ?_
  cases r2
  cases r3
  have rr := (r1.mono e2).mono e3
  have po := po_of k3 h3
  have lst : pO G W3 ((lstOf d W3.M).map fun it => .l (cutD it.xs l u)) Q → rSlL X.K v l u W3.H Q := fun po => by
    cases el : lstOf d W3.M with
    | none => rw [el] at po; exact po.elim
    | some it =>
      rw [el] at po
      obtain ⟨a, xs, rfl, hq, rl⟩ := lst_now k3 rr el
      exact ⟨a, xs, rfl, by rw [Γ.hK]; exact hq, fun p hp => po _ p (cut_rep rl l u) hp⟩
  cases d with
  | tup ds =>
    obtain ⟨a, xs, rfl, g1, n1, rl⟩ := rr
    have po : ∀ v W', W'.M = W3.M → WOk G W' → Ext W3 W' → Rep G W' (.tup (cutD ds l u)) v → Q v W'.H := po
    refine .inr ⟨a, xs, rfl, .of g1, fun hw => ?_, fun _ p hp => ?_⟩
    · refine po _ W3 rfl k3 (Ext.refl W3) ⟨a, xs, rfl, g1, n1, ?_⟩
      have c := cut_rep rl l u
      unfold cutV at c
      rw [hw.1, hw.2] at c
      simpa using c
    · exact po (.ref p) (W3.new p (.tup _)) rfl (ok_new k3 hp) (ext_new k3 hp) ⟨p, _, rfl, upd_same, own_new k3 hp, (cut_rep rl l u).mono (ext_new k3 hp)⟩
  | _ => exact .inl (lst po)
def oRev : O1 := fun x M => (lstOf x M).map fun it => .l it.xs.reverse
theorem de_rev (own : Bool) {e : Expr} {m : EM} {k : Nat} {p1 p2 p3 : Pos} (he : DE Γ e m) : DE Γ (.Subscript e (.Slice none none (some (.UnaryOp .USub (.Constant (.int 1) k p1) p2)) p3) pos) (eUn own oRev m) := pe_imp (pe_revL he) fun σ H Q q => by
  obtain ⟨τ, W, rfl, hea, ok, rs, h⟩ := q
  refine step hea ok rs h fun d v W1 k1 e1 r1 h1 => ?_
  have po := po_of k1 h1
  unfold oRev at po
  cases el : lstOf d W1.M with
  | none => rw [el] at po; exact po.elim
  | some it =>
    rw [el] at po
    obtain ⟨a, xs, rfl, hq, rl⟩ := lst_now k1 r1 el
    exact ⟨a, xs, rfl, by rw [Γ.hK]; exact hq, fun p hp => po _ p rl.reverse hp⟩

/-! ### methods of lists that change -/
abbrev OM := D → List D → Mem → Option ON
def RealM (G : Gd) (g : OM) (r : V → List V → Hp → VK → Prop) : Prop := ∀ (W : Wd) (d : D) (x : V) (ds : List D) (xs : List V) (Q : VK), WOk G W → Rep G W d x → RepL G W ds xs → pO G W (g d ds W.M) Q → r x xs W.H Q
@[simp] def eMt (g : OM) (m : EM) (r : AM) : EM := fun τ M => (m τ M).bind fun x M1 => match placeOf x with
  | some l => match memAt M1 l with
    | some _ => (r τ M1).bind fun ds M2 => fin false (g x ds M2) M2
    | none => .bad
  | none => .bad
theorem de_mt {g : OM} {id : String} {r : V → List V → Hp → VK → Prop} {o e : Expr} {es : List Expr} {m : EM} {mr : AM} {name : Str} {apos cpos : Pos} (hr : RealM G g r) (hm : MtR X id r) (slot : Slot "list" name id) (hty : typeOf (.builtin id) = pure (.type "method_descriptor")) (ho : DE Γ o m) (ha : DA Γ (e :: es) mr)
    (hbase : attributeBase o name X.env (eval o X.env) = eval o X.env := by rfl)
    (hfew : ((backTo cpos (starEach (e :: es) X.env)).all (fun x => !x.1) && (backToKw cpos (keywordEach [] X.env)).all (fun x => x.1.isSome)
      && decide ((e :: es).length + ([] : List Keyword).length + (if ([] : List Keyword).isEmpty then 0 else 1) < 30)) = true := by rfl)
    (hline : (apos.endLine == cpos.line) = true := by rfl) (hs : starEach (e :: es) X.env = (false, eval e X.env) :: starEach es X.env := by rfl) (hplain : (backTo cpos (starEach es X.env)).any (·.1) = false := by rfl) :
    DE Γ (.Call (.Attribute o name apos) (e :: es) [] cpos) (eMt g m mr) := pe_imp (pe_bm PySem.F.plainAttrs_list slot hty hm ho ha hbase hfew hline hs hplain) fun σ H Q q => by
  obtain ⟨τ, W, rfl, hea, ok, rs, h⟩ := q
  refine step hea ok rs h fun d v W1 k1 e1 r1 h1 => ?_
  split at h1
  · rename_i l el
    split at h1
    · rename_i ds em
      have := place_eq el
      subst this
      have r0 := r1
      obtain ⟨a, g1, rfl⟩ := r0
      obtain ⟨a', xs, g2, g3, _⟩ := k1.there l ds (mem_eq em)
      rw [g1] at g2
      cases g2
      refine ⟨.inl ⟨rfl, xs, .of g3⟩, ?_⟩
      refine step (e1.ea.trans hea) k1 (rs.mono e1) h1 fun es ys W2 k2 e2 r2 h2 => ?_
      exact hr W2 (.loc l) (.ref a) es ys Q k2 (r1.mono e2) r2 (po_of k2 h2)
    · exact h1.elim
  · exact h1.elim
@[simp] def oAppend : OM := fun x ds M => match ds with
  | [y] => (placeOf x).bind fun l => (memAt M l).bind fun xs => if xs.length < sizeLine then some (.p l (xs ++ [y]) .non) else none
  | _ => none
theorem real_append : RealM G oAppend rAppend := fun W d x ds xs Q k r1 r2 q => by
  unfold oAppend at q
  split at q
  · rename_i y
    obtain ⟨v, rfl, r3⟩ := RepL.one r2
    cases e1 : placeOf d with
    | none => rw [e1] at q; exact q.elim
    | some l =>
      cases e2 : memAt W.M l with
      | none => simp only [e1, e2, Option.bind_some, Option.bind_none] at q; exact q.elim
      | some es =>
        simp only [e1, e2, Option.bind_some] at q
        split at q
        · rename_i hl
          have := place_eq e1
          subst this
          obtain ⟨a, g1, rfl⟩ := r1
          obtain ⟨a', zs, g2, g3, g4⟩ := k.there l es (mem_eq e2)
          rw [g1] at g2
          cases g2
          exact ⟨a, zs, v, rfl, rfl, g3, by rw [← g4.length]; exact hl, q a _ .non es (mem_eq e2) g1 (g4.append ⟨v, [], rfl, r3, rfl⟩) rfl⟩
        · exact q.elim
  · exact q.elim
def popOk (i : Int) : Prop := -(2 ^ 63) ≤ i ∧ i < 2 ^ 63
noncomputable instance popOkD (i : Int) : Decidable (popOk i) := Classical.propDecidable _
@[simp] noncomputable def oPopAt : OM := fun x ds M => match ds with
  | [.int i] => (placeOf x).bind fun l => (memAt M l).bind fun xs => if popOk i then (seqIndex? i xs.length).bind fun k => (xs[k]?).map fun y => .p l (xs.eraseIdx k) y else none
  | _ => none
theorem real_popAt : RealM G oPopAt rPopAt := fun W d x ds xs Q k r1 r2 q => by
  unfold oPopAt at q
  split at q
  · rename_i i
    obtain ⟨v, rfl, r3⟩ := RepL.one r2
    cases r3
    cases e1 : placeOf d with
    | none => rw [e1] at q; exact q.elim
    | some l =>
      cases e2 : memAt W.M l with
      | none => simp only [e1, e2, Option.bind_some, Option.bind_none] at q; exact q.elim
      | some es =>
        simp only [e1, e2, Option.bind_some] at q
        split at q
        · rename_i hl
          cases e3 : seqIndex? i es.length with
          | none => rw [e3] at q; exact q.elim
          | some j =>
            cases e4 : es[j]? with
            | none => simp only [e3, e4, Option.bind_some, Option.map_none] at q; exact q.elim
            | some y =>
              simp only [e3, e4, Option.bind_some, Option.map_some] at q
              have := place_eq e1
              subst this
              obtain ⟨a, g1, rfl⟩ := r1
              obtain ⟨a', zs, g2, g3, g4⟩ := k.there l es (mem_eq e2)
              rw [g1] at g2
              cases g2
              obtain ⟨u, g5, g6⟩ := g4.get e4
              exact ⟨a, zs, i, j, u, rfl, rfl, g3, hl.1, hl.2, by rw [← g4.length]; exact e3, g5, q a _ u es (mem_eq e2) g1 (g4.eraseIdx j) g6⟩
        · exact q.elim
  · exact q.elim
noncomputable instance rgOkD (a b : Int) : Decidable (RgOk a b) := Classical.propDecidable _
/-- list(range(..)) -/
noncomputable def rangeA (a : AM) : DSt → Mem → R (List D) := fun τ M => (a τ M).bind fun ds M1 => match ds with
  | [.int n] => if RgOk 0 n then .ok (rangeD 0 n.toNat) M1 else .bad
  | _ => .bad
end
end DM

/-! DM: functions of math; list(range(..)); targets of two names. -/
namespace DM
open PySem PySem.Spec PyProof.Rows L2
section
variable {G : Gd} {X : Cx} {Γ : DC G X} {pos p : Pos}
theorem de_callFun (own : Bool) {x : Str} {a : Expr} {es : List Expr} {mr : AM} {id : String} {g : OA} {r : List V → Hp → VK → Prop} (hr : RealA G g r) (hc : CallR X (.builtin id) r) (hm : X.mg x = some (.builtin id)) (ha : DA Γ (a :: es) mr) (hg : Gl X x := by rfl) (hdb : (x == ("__debug__" : Str)) = false := by decide)
    (he : starEach (a :: es) X.env = (false, eval a X.env) :: starEach es X.env := by rfl) (hpl : (backTo pos (starEach es X.env)).any (·.1) = false := by rfl) : DE Γ (.Call (.Name x p) (a :: es) [] pos) (eArgs own g mr) :=
  pe_imp (pe_callBfun hc hg hm ha hdb he hpl) fun _ _ _ q => tArgs_of hr q
def oComb : OA := fun ds _ => match ds with
  | [.int a, .int b] => if 0 ≤ a ∧ a ≤ 18000 ∧ 0 ≤ b then some (.v (.int (PySem.W.mcComb a b))) else none
  | _ => none
def rComb : List V → Hp → VK → Prop := fun vs H Q => ∃ a b : Int, vs = [.int a, .int b] ∧ (0 ≤ a ∧ a ≤ 18000 ∧ 0 ≤ b) ∧ Q (.int (PySem.W.mcComb a b)) H
theorem cr_comb : CallR X (.builtin "math.comb") rComb := by
  intro pins s σ H vs us Q I r h
  obtain ⟨a, b, rfl, ⟨h1, h2, h3⟩, q⟩ := h
  obtain ⟨t, u, rfl⟩ := Vals.int2 r
  exact PySem.W.mc_comb h1 h3 (by omega) (.inr h2) fun _ => ⟨.int _, H, I.tok _, ⟨_, rfl⟩, q⟩
theorem real_comb : RealA G oComb rComb := fun W ds xs Q k r q => by
  unfold oComb at q
  split at q
  · split at q
    · rename_i hc
      obtain ⟨v, u, rfl, r1, r2⟩ := RepL.two r
      cases r1
      cases r2
      exact ⟨_, _, rfl, hc, q _ W rfl k (Ext.refl W) rfl⟩
    · exact q.elim
  · exact q.elim
noncomputable def oRangeL : OA := fun ds _ => match ds with
  | [.int n] => if RgOk 0 n then some (.l (rangeD 0 n.toNat)) else none
  | [.int a, .int b] => if RgOk a b then some (.l (rangeD a (b - a).toNat)) else none
  | _ => none
theorem rg_rep {W : Wd} (a b : Int) : RepL G W (rangeD a (b - a).toNat) (rgV a b) := by
  rw [rangeD_eq]
  unfold rgV
  generalize List.range (b - a).toNat = l
  induction l with
  | nil => rfl
  | cons i l ih => exact ⟨_, _, rfl, rfl, ih⟩
theorem de_listRange (own : Bool) {a : Expr} {mr : EM} {q1 q2 q3 : Pos} (hm : X.mg "list" = none) (hm2 : X.mg "range" = none) (ha : DE Γ a mr) (hc : X.calm = true := by rfl) (hg : Gl X "list" := by rfl) (hg2 : Gl X "range" := by rfl)
    (na : starEach [a] X.env = (false, eval a X.env) :: starEach [] X.env := by rfl) (nb : starEach [.Call (.Name "range" q2) [a] [] q3] X.env = (false, eval (.Call (.Name "range" q2) [a] [] q3) X.env) :: starEach [] X.env := by rfl) :
    DE Γ (.Call (.Name "list" q1) [.Call (.Name "range" q2) [a] [] q3] [] pos) (eArgs own oRangeL (aCons mr aNil)) := pe_imp (pe_listRg hc hg hm (prg_1 hg2 hm2 ha na) nb) fun σ H Q q => by
  obtain ⟨τ, W, rfl, hea, ok, rs, h⟩ := q
  have h : pR G Γ.W (Rep G) W σ ((mr τ W.M).bind fun x M1 => fin own (oRangeL [x] M1) M1) Q := by
    have e : ∀ r : R D, (r.bind fun x M1 => (aNil τ M1).bind fun xs M2 => R.ok (x :: xs) M2).bind (fun xs M1 => fin own (oRangeL xs M1) M1) = r.bind fun x M1 => fin own (oRangeL [x] M1) M1 := fun r => by
      cases r <;> rfl
    rw [← e]
    exact h
  refine step hea ok rs h fun d v W1 k1 e1 r1 h1 => ?_
  have po := po_of k1 h1
  unfold oRangeL at po
  cases d with
  | int n =>
    have po : pO G W1 (if RgOk 0 n then some (.l (rangeD 0 n.toNat)) else none) Q := po
    split at po
    · rename_i hr
      cases r1
      refine ⟨n, rfl, hr, fun q hq => po _ q ?_ hq⟩
      have := rg_rep (G := G) (W := W1) 0 n
      rw [show (n - 0 : Int) = n by omega] at this
      exact this
    · exact po.elim
  | _ => exact po.elim
theorem hm_tup2 (i j : Nat) : ∀ d τ M τ' M', mTup 2 (mCons (mName i) (mCons (mName j) mNil)) d τ M = .ok τ' M' → M' = M := fun d τ M τ' M' h => by
  unfold mTup at h
  split at h
  · split at h
    · rename_i ds hl
      match ds, hl with
      | [a, b], _ => cases h; rfl
    · cases h
  · split at h
    · rename_i ds hl
      match ds, hl with
      | [a, b], _ => cases h; rfl
    · cases h
  · cases h
end
end DM

/-! DM: what the top has left, by facts; the law. -/
namespace DM
open PySem PySem.Spec PyProof.Rows L2
section
variable {G : Gd} {X : Cx} {Γ : DC G X} {pos p : Pos}
theorem pt_ifExp {c a b : Expr} {tc ta tb : TT} (hc : PT X c tc) (ha : PT X a ta) (hb : PT X b tb) : PT X (.IfExp c a b pos) (fun σ H Q => tc σ H fun k H1 => if k = true then ta σ H1 Q else tb σ H1 Q) := by
  refine ⟨fun pins s σ H Q I h => ?_⟩
  refine isTrue_IfExp (thn (hc.run pins s σ H _ I h) fun k s1 ⟨H1, I1, q1⟩ => ?_)
  cases k with
  | true => exact ha.run pins s1 σ H1 Q I1 q1
  | false => exact hb.run pins s1 σ H1 Q I1 q1
@[simp] def mIf (t a b : TM) : TM := fun τ M => (t τ M).bind fun x M1 => if x = true then a τ M1 else b τ M1
theorem dt_if {c a b : Expr} {tc ta tb : TM} (hc : DT Γ c tc) (ha : DT Γ a ta) (hb : DT Γ b tb) : DT Γ (.IfExp c a b pos) (mIf tc ta tb) := pt_imp (pt_ifExp hc ha hb) fun σ H Q q => by
  obtain ⟨τ, W, rfl, he, ok, rs, h⟩ := q
  show tT Γ tc σ W.H _
  refine step he ok rs h fun dx x W1 k1 e1 r1 h1 => ?_
  cases r1
  cases dx with
  | true => exact ⟨τ, W1, rfl, by rw [e1.ea, he], k1, rs.mono e1, h1⟩
  | false => exact ⟨τ, W1, rfl, by rw [e1.ea, he], k1, rs.mono e1, h1⟩
end
/-- a def stands at a name -/
def Def1 (K : PySem.W.Frag) (x : Str) (st : Stmt) : Prop := ∃ (f : Addr) (oc : Value) (od : Option Addr) (kV doc pm : Value) (an : Option Addr) (cdv ct : Value) (osl : Array (Option Value)),
  PySem.W.nsIn K mainGlobals x = some (some (.ref f)) ∧ K.lookup f = some ⟨oc, od, .func (PySem.W.fnOf x x (defArgs st) (defBody st) (defScope st) .none kV doc pm an cdv ct), osl⟩ ∧ PySem.W.codeIn K cdv x = true ∧ PySem.W.keepIn K (.ref f) = true
theorem Def1.get {K : PySem.W.Frag} {h : Heap} {mg : Str → Option Value} {x : Str} {st : Stmt} (d : Def1 K x st) (X : K.In h) (g : h.Ns mainGlobals mg) : ∃ f fd, Fun K x x st f fd ∧ mg x = some (.ref f) := by
  obtain ⟨f, oc, od, kV, doc, pm, an, cdv, ct, osl, h1, h2, h3, h4⟩ := d
  exact ⟨f, _, fun_mk h2 h3 h4, PySem.W.mg_of X g h1⟩
/-- an own exception class stands at a name -/
structure Exc1 (K : PySem.W.Frag) (x : Str) (C : Addr) : Prop where
  at_ : PySem.W.nsIn K mainGlobals x = some (some (.ref C))
  q : PySem.W.excIn K C [.type "ValueError", .type "Exception", .type "BaseException", .type "object"] "ValueError.__new__" = true
  k : PySem.W.keepIn K (.ref C) = true
  b : PySem.W.subIn K (.ref C) (.type "BaseException") = some true
  t : PySem.W.typeIn K (.ref C) = some (.type "type")
  x : ExcC K C
/-- the law's promise: at every script it gives True -/
def spLaw (G : Gd) : Sp := fun vs H Q _ => ∃ (a : Addr) (ns : List Int), vs = [.ref a] ∧ SqL G.K H a (ns.map V.int) ∧ ns.length ≤ 63 ∧ (∀ p, p ∈ G.tabs → GxR.TabG H p) ∧ ∀ H', Q (.bl true) H'
section
variable {P : Program} {w : World} {G : Gd} {mg : Str → Option Value} {base : Heap} {x qual : Str} {st : Stmt} {f : Addr} {fd : FuncData} {N ps : List Str} {k : Nat} {m : SM}
/-- the law's own def: nothing leaves it -/
def lawC (G : Gd) (P : Program) (w : World) (mg : Str → Option Value) (base : Heap) (N : List Str) (qual : Str) (sc : Scope) (f : Addr) (cdv : Value) (A : Around) (outer : List Env) (s : Shared) (H : Hp) (E : XK) :
    DC G (cxOf CX0 P w G.K mg base N qual sc f cdv A outer s H E).nox := ⟨fun _ _ _ _ => False, none, rfl, takes0⟩
end
end DM
namespace DM
open PySem PySem.Spec PyProof.Rows L2
section
variable {P : Program} {w : World} {G : Gd} {mg : Str → Option Value} {base : Heap} {x qual : Str} {st : Stmt} {f : Addr} {fd : FuncData} {N ps : List Str} {k : Nat} {m : SM}
theorem fn_law (F : Fun G.K x qual st f fd) (S : FnScope N ["script"] (defScope st))
    (hb : ∀ (cdv : Value) (A : Around) (outer : List Env) (s : Shared) (H : Hp) (E : XK), Room k (A.deeper (envOfC qual (defScope st) s.heap.objs.size f cdv)) → DSs (lawC G P w mg base N qual (defScope st) f cdv A outer s H E) (defBody st) m)
    (hl : ∀ ns : List Int, ns.length ≤ 63 → ∃ M, m (startD N [.scr ns]) [] = .rt (.bl true) M) : FnOk P w G.K mg base CX0 (k + 1) f fd ["script"] (spLaw G) := by
  refine F.ok S (fun vs H Q E h => ?_) fun cdv A outer s H vs Q E hr h => ?_
  · obtain ⟨a, ns, rfl, _⟩ := h
    rfl
  · obtain ⟨a, ns, rfl, hS, hlen, ht, q⟩ := h
    obtain ⟨M, e⟩ := hl ns hlen
    let W : Wd := { H := H, pla := [], M := [], ea := none, hid := [] }
    have no : ∀ b, ¬ W.own b := fun b z => by
      rcases z with z | ⟨l, ds, z, _⟩
      · cases z
      · have z : ([] : Mem)[l]? = some (some ds) := z
        simp at z
    have ok : WOk G W := by
      refine ⟨rfl, fun l l' a ds ds' z => ?_, fun l ds z => ?_, fun a z => (nomatch z), fun a z => (nomatch z), List.nodup_nil, ht⟩
      · have z : ([] : Mem)[l]? = some (some ds) := z
        simp at z
      · have z : ([] : Mem)[l]? = some (some ds) := z
        simp at z
    refine ⟨_, hb cdv A outer s H E hr, startD N [.scr ns], W, rfl, rfl, ok, relS_start ⟨.ref a, [], rfl, ⟨a, rfl, ?_⟩, rfl⟩, ?_⟩
    · rcases hS with hS | hS
      · exact .inl ⟨hS, no a⟩
      · exact .inr hS
    · have e : m (startD N [.scr ns]) W.M = .rt (.bl true) M := e
      rw [e]
      intro v W' m' k' e' r'
      have r' : v = .bl true := r'
      rw [r']
      exact q W'.H
end
section
variable {G : Gd} {X : Cx} {Γ : DC G X} {pos : Pos}
theorem de_dic : DE Γ (.Dict [] [] pos) (eC .dic) := pe_imp pe_dnewK fun σ H Q q => by
  obtain ⟨τ, W, rfl, he, ok, rs, h⟩ := q
  exact fun p hp => h (.ref p) (W.new p (.dK [])) rfl (ok_new ok hp) (ext_new ok hp) ⟨p, rfl, upd_same, own_new ok hp⟩
end
end DM

set_option maxHeartbeats 2000000
/-! DM: max of a generator expression over whole numbers. -/
namespace DM
open PySem PySem.Spec PyProof.Rows L2

/-- the element, of a whole number n the whole number f n; names of the module and built-in ones are to be had -/
def EltN (prog : Program) (w : World) (mg : Str → Option Value) (scope : Scope) (x : Str) (elt : Expr) (f : Int → Int) : Prop :=
  ∀ (ce : Env) (A1 : Around) (E1 : Value → Shared → Prop) (n : Int) (t : Tok) (sh : Shared) (mL mB : Str → Option Value), ce.scope = scope → sh.heap.Ns ce.locals mL → mL x = some (.int n t) →
    sh.heap.Ns ce.globals mg → sh.heap.Ns ce.builtins mB → (∀ y : Str, y ≠ "__name__" → mB y = bootBuiltins y) →
    wpAny (model prog w) A1 (eval elt ce) (fun y s9 => (∃ t9, y = .int (f n) t9) ∧ Keeps sh s9) E1 sh

theorem elt_abs {prog : Program} {w : World} {mg : Str → Option Value} {scope : Scope} {x : Str} {p1 p2 p3 : Pos} (hk : scope.kind = .function) (hl : scope.names.lookup x = some .local) (ha : scope.names.lookup ("abs" : Str) = some .globalImplicit) (hm : mg "abs" = none)
    (hd : (x == ("__debug__" : Str)) = false := by decide) : EltN prog w mg scope x (.Call (.Name "abs" p1) [.Name x p2] [] p3) (fun n => if n < 0 then -n else n) := by
  intro ce A1 E1 n t sh mL mB hs hn hx hg hb hbb
  refine wpAny_Call_Name_kw (Calls.Name_function_global (by rw [hs]; exact hk) (by show ce.scope.names.lookup _ = _; rw [hs]; exact ha) (Calls.loadGlobal_builtin hg hm hb ((hbb _ (by decide)).trans (by rfl)) ?_) (by decide))
  refine PyProof.Rows.callWith_builtin1 (id := "abs") ?_ (by rfl) (by rfl)
  show wpAny _ _ (spliced ((false, eval (.Name x p2) ce) :: backTo p3 (starEach [] ce))) _ _ sh
  refine Calls.spliced_cons (wpAny_Name (wpAny_loadName_local (by rw [hs]; exact hk) (by show ce.scope.names.lookup _ = _; rw [hs]; exact hl) hn hx ?_) hd)
  refine Calls.spliced_nil (call_abs_int fun u tk => ?_)
  exact ⟨⟨u, rfl⟩, GxR.keeps_tok _ _⟩

section
variable {X : Cx} {pins : List (Addr × Obj)} {σ : L2.St} {H : Hp} {s : Shared}
/-- the generator g over the numbers ns, ready to be walked -/
def RdyN (X : Cx) (pins : List (Addr × Obj)) (σ : L2.St) (H1 : Hp) (P : Addr) (ns : List Int) (f : Int → Int) (g : Addr) (s5 : Shared) : Prop :=
  ∃ (fp wr : List Addr) (Gq : Array GenState → Array GenState → Prop) (F : Nat → Value → Prop) (St : Nat → Shared → Prop),
    WalksS X.prog X.w X.A.in1 g fp wr Gq ns.length F St ∧ St 0 s5 ∧ (∀ b ∈ fp, b < s5.heap.objs.size) ∧ (∀ j v, F j v → ∃ (n : Int) (t : Tok), ns[j]? = some n ∧ v = .int (f n) t) ∧
    ∀ s', Moved wr Gq s5 s' → ∃ H2, GxR.Tabbed P H1 H2 ∧ Inv X pins σ H2 s'

/-- what walks the thing at yl, from its beginning, by an iterator at I -/
structure Wlk (prog : Program) (w : World) (I yl : Addr) (its : List Value) (St : Nat → Heap → Prop) : Prop where
  wk : ∀ A' : Around, A'.handled = none → Walks prog w A' I [I, yl] [I] its.toArray.size (fun i v => its.toArray[i]? = some v) St
  at_ : ∀ (h h' : Heap), St 0 h → (∀ o, h.get? I = some o → h'.get? I = some o) → (∀ o, h.get? yl = some o → h'.get? yl = some o) → St 0 h'

theorem gen_num {c P : Addr} {elt iter : Expr} {x : Str} {px gpos : Pos} {scope : Scope} {f : Int → Int} {te : TE} {k : Nat} {Q' : Value → Shared → Prop} {Rr : List Int → Hp → Prop}
    (hr : Room k X.A) (TB : GxR.TabB X.base X.mg c P) (hcode : X.env.code = .ref c) (S : GxR.GenS X.env scope x) (hi : PE X iter te) (hel : EltN X.prog X.w X.mg scope x elt f) (hs : ∀ v, genFold iter X.env v = pure v) (I : Inv X pins σ H s)
    (h : te σ H fun v H1 => ∃ (yl : Addr) (ns : List Int), v = .ref yl ∧ (SqL X.K H1 yl (ns.map V.int) ∨ SqT X.K H1 yl (ns.map V.int)) ∧ GxR.TabG H1 P ∧ Rr ns H1)
    (hQ : ∀ ns H1 g s5, Rr ns H1 → RdyN X pins σ H1 P ns f g s5 → Q' (.ref g) s5) :
    wpAny (model X.prog X.w) X.A (eval (.GeneratorExp elt [⟨.Name x px, iter, [], 0⟩] scope gpos) X.env) Q' X.xe s := by
  refine wpAny_GeneratorExp_walksQ hr.hd S.co (closure_ok S.free) S.cell S.dot S.loc S.kind (show X.A.depth < recursionLimit by have := hr.dp; omega) (thn (hi.run pins s σ H _ I h) fun xv s1 hh => ?_) hs
  obtain ⟨v, H1, I1, r1, yl, ns, rfl, hyl, ⟨ps, hP, ht⟩, q1⟩ := hh
  obtain rfl : xv = Value.ref yl := r1
  -- the walk of the thing itself
  have key : ∃ its : List Value, Vals (ns.map V.int) its ∧ (∃ ob, s1.heap.get? yl = some ob ∧ ∃ vs n, ob.data = .seq vs n) ∧
      ∀ (Q : Value → Shared → Prop), (∀ (o : Obj) (St : Nat → Heap → Prop), St 0 (s1.heap.push o) → Wlk X.prog X.w s1.heap.objs.size yl its St → Q (.ref s1.heap.objs.size) { s1 with heap := s1.heap.push o }) →
        wpAny (model X.prog X.w) X.A (pyIter (.ref yl)) Q X.xe s1 := by
    rcases hyl with hyl | hyl
    · obtain ⟨its, rv, hl, _⟩ := I1.list hyl
      have iL := hl.isList
      obtain ⟨ob, e1, e2, e3⟩ := _root_.id iL
      have ne : yl ≠ s1.heap.objs.size := Nat.ne_of_lt (Heap.lt_size e1)
      refine ⟨its, rv, ⟨ob, e1, _, e3⟩, fun Q hq => wpAny_pyIter_list iL ?_⟩
      refine hq _ (fun i h => h.IsListIter s1.heap.objs.size yl i ∧ h.IsList yl its.toArray) ⟨⟨_, Heap.get?_push_size _ rfl, rfl, rfl⟩, ob, Heap.get?_push_of_some _ e1, e2, e3⟩ ⟨fun A' hA => Walks.list hA _ _ ne _, fun h h' hst k1 k2 => ?_⟩
      obtain ⟨⟨o1, a1, a2⟩, o2, b1, b2⟩ := hst
      exact ⟨⟨o1, k1 _ a1, a2⟩, o2, k2 _ b1, b2⟩
    · obtain ⟨its, rv, hl, _⟩ := I1.tuple hyl
      obtain ⟨ob, e1, e2, e3⟩ := _root_.id hl
      have ne : yl ≠ s1.heap.objs.size := Nat.ne_of_lt (Heap.lt_size e1)
      obtain ⟨e3n, e3d⟩ := e3
      refine ⟨its, rv, ⟨ob, e1, _, e3n, e3d⟩, fun Q hq => wpAny_pyIter_tuple (items := its.toArray) ⟨ob, e1, e2, e3n, e3d⟩ ?_⟩
      refine hq _ (fun i h => h.IsTupleIter s1.heap.objs.size yl i ∧ h.IsTuple yl its.toArray) ⟨⟨_, Heap.get?_push_size _ rfl, rfl, rfl⟩, ob, Heap.get?_push_of_some _ e1, e2, e3n, e3d⟩ ⟨fun A' hA => Walks.tuple hA _ _ ne _, fun h h' hst k1 k2 => ?_⟩
      obtain ⟨⟨o1, a1, a2⟩, o2, b1, b2⟩ := hst
      exact ⟨⟨o1, k1 _ a1, a2⟩, o2, k2 _ b1, b2⟩
  obtain ⟨its, rv, ⟨oy, ey, hseq⟩, hit⟩ := key
  have sizes : its.toArray.size = ns.length := by have z := rv.length; rw [List.length_map] at z; rw [List.size_toArray]; exact z.symm
  have item : ∀ (i : Nat) (v : Value), its.toArray[i]? = some v → ∃ (n : Int) (u : Tok), ns[i]? = some n ∧ v = .int n u := fun i v hv => by
    have hv : its[i]? = some v := by simpa using hv
    have il : i < ns.length := by rw [← sizes, List.size_toArray]; exact (List.getElem?_eq_some_iff.mp hv).1
    have en : ns[i]? = some ns[i] := List.getElem?_eq_getElem il
    obtain ⟨u, hu, t, ru⟩ := rv.get (show (ns.map V.int)[i]? = some (V.int ns[i]) by rw [List.getElem?_map, en]; rfl)
    rw [hv] at hu
    cases hu
    exact ⟨_, t, en, ru⟩
  refine hit _ fun o St hst WL => ?_
  have tabP : s1.heap.get? P = some { cls := .none, data := .fields ps } := I1.hok P _ hP
  have ltP : P < s1.heap.objs.size := Heap.lt_size tabP
  have tabP2 := Heap.get?_push_of_some o tabP
  have neY : yl ≠ P := fun z => by
    obtain ⟨vs, n, hd⟩ := hseq
    rw [z, tabP] at ey
    cases ey
    cases hd
  have old : ∀ b u, X.base.get? b = some u → (s1.heap.push o).get? b = some u := fun b u e => Heap.get?_push_of_some o (I1.bk b u e)
  obtain ⟨mB, nsB, bootB⟩ := I1.mod.blt
  have neB : builtinsNs ≠ P := fun z => by
    obtain ⟨ob, es, ep, e1, e2, _⟩ := nsB
    have e1 := I1.bk _ _ e1
    rw [z, tabP] at e1
    cases e1
    cases e2
  have neS : cStatics ≠ P := fun z => by
    obtain ⟨_, ⟨ob, es, ep, e1, e2, _⟩, _⟩ := I1.nolimit
    rw [z, tabP] at e1
    cases e1
    cases e2
  have ltS : cStatics < s1.heap.objs.size := (fun (y : s1.heap.NoLimit) => let ⟨_, hn, _⟩ := y; hn.lt) I1.nolimit
  have szp : (s1.heap.push o).objs.size = s1.heap.objs.size + 1 := Heap.size_push ..
  have noLim : (s1.heap.push o).NoLimit := I1.nolimit.push o
  refine ⟨noLim, ?_⟩
  have go : ∀ (code : Value) (h3 : Heap) (tk : Nat) (more : Array Value), Heap.ExtBut P (s1.heap.push o) h3 → (s1.heap.push o).objs.size ≤ h3.objs.size → h3.get? P = some { cls := .none, data := .fields (ps ++ more) } → TriplesOk (ps ++ more).toList →
      wpAny (model X.prog X.w) X.A (builtinsFor X.env.globals X.env.builtins) (fun bi s₄ =>
        ∃ Ia fp wr n₀ Pf St₀ pz F, Value.ref s1.heap.objs.size = .ref Ia ∧ (∀ A' : Around, A'.handled = none → Walks X.prog X.w A' Ia fp wr n₀ Pf St₀) ∧ St₀ 0 s₄.heap ∧ (∀ b ∈ fp, b < s₄.heap.objs.size) ∧ s₄.heap.NoLimit ∧ cStatics ∉ wr ∧ (∀ href : Heap, (∀ b o, s₄.heap.get? b = some o → href.get? b = some o) →
            QuietGen X.prog X.w (genEnv scope (cloFrom X.env.cells scope.names []) s₄.heap.objs.size code bi X.env) x [] elt (List.range s₄.heap.objs.size) wr Pf pz F href) ∧ (∀ a h₅ tk gs, gs.bare = true → s₄.heap.objs.size < a → h₅.objs.size = a + 1 → (∀ b o, s₄.heap.get? b = some o → h₅.get? b = some o) →
            WalksS X.prog X.w X.A.in4 a (a :: s₄.heap.objs.size :: List.range s₄.heap.objs.size) (s₄.heap.objs.size :: wr) (GenOnlyQ s₄.gens.size) (passing pz n₀ 0).length (fun j y => ∃ i, (passing pz n₀ 0)[j]? = some i ∧ F i y) (GenAt X.prog X.w X.A.in4 a s₄.gens.size s₄.heap.objs.size (List.range s₄.heap.objs.size) wr pz n₀ F) →
            GenAt X.prog X.w X.A.in4 a s₄.gens.size s₄.heap.objs.size (List.range s₄.heap.objs.size) wr pz n₀ F 0 { s₄ with gens := s₄.gens.push gs, toks := tk, heap := h₅ } → Q' (.ref a) { s₄ with gens := s₄.gens.push gs, toks := tk, heap := h₅ })) X.xe { s1 with heap := h3, toks := tk } := by
    intro code h3 tk more ext szz tab3 tr3
    obtain ⟨bm, ob, m1, m2, m3, m4, m5, m6, m7, m8⟩ := TB.bm
    have nsG : h3.Ns mainGlobals X.mg := ((I1.mod.glob.keeps I1.bk).push o).extBut ext TB.gP
    have nsB3 : h3.Ns builtinsNs mB := ((nsB.keeps I1.bk).push o).extBut ext neB
    have ltG : mainGlobals < s1.heap.objs.size := (I1.mod.glob.keeps I1.bk).lt
    have ltB : builtinsNs < s1.heap.objs.size := (nsB.keeps I1.bk).lt
    have kept : ∀ b u, b ≠ P → s1.heap.get? b = some u → h3.get? b = some u := fun b u nb e => ext b u nb (Heap.get?_push_of_some o e)
    have lt3 : s1.heap.objs.size < h3.objs.size := by omega
    refine wpAny_builtinsFor (m := X.mg) (by rw [I1.ok.glob]; exact nsG) m1 m2 (kept _ _ m4 (I1.bk _ _ m5)) m6 m7 m8 ?_
    refine ⟨s1.heap.objs.size, [s1.heap.objs.size, yl], [s1.heap.objs.size], its.toArray.size, (fun i v => its.toArray[i]? = some v), St, (fun _ => true), (fun i y => ∃ (n : Int) (t : Tok), ns[i]? = some n ∧ y = .int (f n) t), rfl, WL.wk, WL.at_ _ _ hst (fun u e => ext _ u (Nat.ne_of_gt ltP) e) (fun u e => ext _ u neY e), ?_, noLim.extBut ext neS, ?_, fun href hhref => ⟨fun A' E' i v s₂ m₂ hA hPv hn hm hk => ?_, fun A' E' i v s₂ m₂ hA hPv hp hn hm hk => ?_⟩, ?_⟩
    · intro b hb
      have z : b = s1.heap.objs.size ∨ b = yl := by simpa using hb
      show b < h3.objs.size
      rcases z with z | z
      · rw [z]; exact lt3
      · rw [z]; exact Nat.lt_trans (Heap.lt_size ey) lt3
    · intro z
      have z : cStatics = s1.heap.objs.size := by simpa using z
      exact Nat.ne_of_lt ltS z
    · simp only [List.forIn_nil]; exact wpAny_pure ⟨rfl, GxR.keeps_refl _⟩
    · obtain ⟨n, u, en, rfl⟩ := item i v hPv
      have far : ∀ {b : Addr} {mm : Str → Option Value}, b < s1.heap.objs.size → h3.Ns b mm → s₂.heap.Ns b mm := fun {b mm} lb hh => hh.at fun u e => hk b (List.mem_range.mpr (Nat.lt_trans lb lt3)) (by simpa using Nat.ne_of_lt lb) u (hhref b u e)
      refine wpAny_mono (hel _ A' E' n u s₂ m₂ mB rfl hn hm (by show s₂.heap.Ns X.env.globals X.mg; rw [I1.ok.glob]; exact far ltG nsG) (far ltB nsB3) bootB) (fun y s3 r => ?_) fun _ _ e => e
      exact ⟨let ⟨t, e⟩ := r.1; ⟨n, t, en, e⟩, r.2⟩
    · intro g h5 tk5 gs bare gt sz5 k5 W5 gat
      simp only [GxR.passing_true, List.length_range] at W5
      rw [sizes] at W5 gat
      refine hQ ns H1 g _ q1 ⟨_, _, _, _, _, W5.in4_1, gat, fun b hb => ?_, fun j v hv => ?_, fun s' hm => ?_⟩
      · show b < h5.objs.size
        have gt : h3.objs.size < g := gt
        have sz5 : h5.objs.size = g + 1 := sz5
        have z : b = g ∨ b = h3.objs.size ∨ b < h3.objs.size := by
          rcases List.mem_cons.mp hb with z | z
          · exact .inl z
          · rcases List.mem_cons.mp z with z | z
            · exact .inr (.inl z)
            · exact .inr (.inr (List.mem_range.mp z))
        rw [sz5]
        rcases z with z | z | z
        · rw [z]; exact Nat.lt_succ_self g
        · rw [z]; exact Nat.lt_succ_of_lt gt
        · exact Nat.lt_succ_of_lt (Nat.lt_trans z gt)
      · obtain ⟨i, ei, n, t, en, e⟩ := hv
        obtain ⟨il, ej⟩ := List.getElem?_eq_some_iff.mp ei
        rw [List.getElem_range] at ej
        exact ⟨n, t, ej ▸ en, e⟩
      · have away : ∀ b u, s1.heap.get? b = some u → b ∉ h3.objs.size :: [s1.heap.objs.size] := fun b u e z => by
          have lb := Heap.lt_size e
          have z : b = h3.objs.size ∨ b = s1.heap.objs.size := by simpa using z
          rcases z with z | z
          · rw [z] at lb; exact Nat.lt_irrefl _ (Nat.lt_trans lb lt3)
          · rw [z] at lb; exact Nat.lt_irrefl _ lb
        have J := GxR.inv_tab (more := more) (h' := s'.heap) (g' := s'.gens) (d' := s'.drawn) (t' := s'.toks) I1 hP (fun b u nb e => hm.heap b u (away b u e) (k5 b u (kept b u nb e))) (hm.heap P _ (away P _ tabP) (k5 P _ tab3)) (AllBare.movedS (I1.bare.push bare) hm)
        rw [GxR.sh_eta s1 s' hm.os] at J
        exact ⟨_, ⟨⟨ps ++ more, upd_same, tr3⟩, fun b nb => upd_ne nb⟩, J⟩
  have cd : PySem.W.CodeHd (s1.heap.push o) c P := TB.code.keeps old
  cases hf : codeAmong gpos ps.toList with
  | some cv => exact wpAny_genexprCode_hit hcode (cd.code tabP2 ht) hf (go cv (s1.heap.push o) s1.toks #[] (Heap.ExtBut.refl _ _) (Nat.le_refl _) (by rw [Array.append_empty]; exact tabP2) (by rw [Array.append_empty]; exact ht))
  | none =>
    refine wpAny_genexprCodeX hcode (cd.code tabP2 ht) (cd.tab tabP2) hf fun c' h' tk hx hge hlt hco' _ htab' _ => ?_
    obtain ⟨o1, vs, f1, tf, fl, tg, inF, tx, tt, op, _, _, _, _, _, _, _, _, _, htr, _⟩ := hco'
    exact go _ h' tk _ hx (Nat.le_trans hge (Nat.le_of_lt hlt)) htab'.2 htr

/-- the greatest of a row of numbers that is not empty -/
def mxL : Int → List Int → Int
  | m, [] => m
  | m, n :: ns => mxL (if m < n then n else m) ns
theorem mxL_ge : ∀ (ns : List Int) (m : Int), m ≤ mxL m ns ∧ ∀ n, n ∈ ns → n ≤ mxL m ns
  | [], m => ⟨Int.le_refl _, fun _ h => nomatch h⟩
  | n :: ns, m => by
    obtain ⟨h1, h2⟩ := mxL_ge ns (if m < n then n else m)
    refine ⟨Int.le_trans (by split <;> omega) h1, fun k hk => ?_⟩
    rcases List.mem_cons.mp hk with z | z
    · exact Int.le_trans (by split <;> omega) h1
    · exact h2 k z
theorem mxL_mem : ∀ (ns : List Int) (m : Int), mxL m ns = m ∨ mxL m ns ∈ ns
  | [], m => .inl rfl
  | n :: ns, m => by
    rcases mxL_mem ns (if m < n then n else m) with h | h
    · unfold mxL
      rw [h]
      split
      · exact .inr (List.mem_cons_self ..)
      · exact .inl rfl
    · exact .inr (List.mem_cons_of_mem _ h)
theorem mxL_is {n : Int} {ns : List Int} {m : Int} (h1 : m ∈ n :: ns) (h2 : ∀ k, k ∈ n :: ns → k ≤ m) : m = mxL n ns := by
  obtain ⟨g1, g2⟩ := mxL_ge ns n
  have a : m ≤ mxL n ns := by
    rcases List.mem_cons.mp h1 with z | z
    · rw [z]; exact g1
    · exact g2 m z
  have b : mxL n ns ≤ m := by
    rcases mxL_mem ns n with z | z
    · rw [z]; exact h2 n (List.mem_cons_self ..)
    · exact h2 _ (List.mem_cons_of_mem _ z)
  omega

/-- max(elt for x in e), e a row of numbers -/
def tMaxN (K : PySem.W.Frag) (P : Addr) (f : Int → Int) (te : TE) : TE := fun σ H Q => te σ H fun v H1 => ∃ (yl : Addr) (ns : List Int), v = .ref yl ∧ (SqL K H1 yl (ns.map V.int) ∨ SqT K H1 yl (ns.map V.int)) ∧ GxR.TabG H1 P ∧ ∃ n ms, ns = n :: ms ∧ ∀ H2, GxR.Tabbed P H1 H2 → Q (.int (mxL (f n) (ms.map f))) H2
theorem pe_maxN {c P : Addr} {elt iter : Expr} {x : Str} {px p pos gpos : Pos} {scope : Scope} {f : Int → Int} {te : TE} {k : Nat} (hr : Room k X.A) (hg : Gl X "max") (hm : X.mg "max" = none) (TB : GxR.TabB X.base X.mg c P) (hcode : X.env.code = .ref c) (S : GxR.GenS X.env scope x) (hi : PE X iter te)
    (hel : EltN X.prog X.w X.mg scope x elt f) (hs : ∀ v, genFold iter X.env v = pure v)
    (he : starEach [.GeneratorExp elt [⟨.Name x px, iter, [], 0⟩] scope gpos] X.env = (false, eval (.GeneratorExp elt [⟨.Name x px, iter, [], 0⟩] scope gpos) X.env) :: starEach [] X.env := by rfl) : PE X (.Call (.Name "max" p) [.GeneratorExp elt [⟨.Name x px, iter, [], 0⟩] scope gpos] [] pos) (tMaxN X.K P f te) := by
  refine ⟨fun pins s σ H Q I h => wpAny_Call_Name_kw (ld_blt I hg hm (by rfl) (PyProof.Rows.callWith_builtin1 (id := "max") ?_ he (by rfl)))⟩
  rw [he]
  refine Calls.spliced_cons (gen_num (f := f) (Rr := fun ns H1 => ∃ n ms, ns = n :: ms ∧ ∀ H2, GxR.Tabbed P H1 H2 → Q (.int (mxL (f n) (ms.map f))) H2) hr TB hcode S hi hel hs I h fun ns H1 g s5 hR hG => ?_)
  · obtain ⟨n, ms, rfl, hR⟩ := hR
    obtain ⟨fp, wr, Gq, F, St, W, hst, hfp, hF, hI⟩ := hG
    have hval : ∀ j v, F j v → ∃ t, v = .int (((n :: ms).map f).getD j 0) t := fun j v hv => by
      obtain ⟨m, t, em, e⟩ := hF j v hv
      exact ⟨t, by rw [e, List.getD_eq_getElem?_getD, List.getElem?_map, em]; rfl⟩
    refine Calls.spliced_nil (call_max_walkS (W.self 0 _ _ _ hst ⟨g, fp, wr, Gq, _, F, St, _, rfl, W, hst, hfp, Nat.succ_pos _, CmpOf.ints_gt _ hval, fun v s' hv hmv => ?_⟩))
    obtain ⟨t, rfl⟩ := hval _ v hv
    obtain ⟨H2, hT, J⟩ := hI s' hmv
    obtain ⟨b1, b2⟩ := argBest_gt (fun j => ((n :: ms).map f).getD j 0) ((n :: ms).length - 1)
    have in_ : ∀ j, j < ((n :: ms).map f).length → ((n :: ms).map f).getD j 0 ∈ (n :: ms).map f := fun j hj => by
      rw [List.getD_eq_getElem?_getD, List.getElem?_eq_getElem hj]
      exact List.getElem_mem hj
    have em : ((n :: ms).map f).getD (argBest (fun i j => decide (((n :: ms).map f).getD i 0 > ((n :: ms).map f).getD j 0)) ((n :: ms).length - 1)) 0 = mxL (f n) (ms.map f) := by
      refine mxL_is (in_ _ ?_) fun z hz => ?_
      · rw [List.length_map]
        exact Nat.lt_of_le_of_lt b1 (by rw [List.length_cons]; omega)
      · obtain ⟨j, hj, e⟩ := List.getElem_of_mem (show z ∈ (n :: ms).map f from hz)
        have b3 := b2 j (by rw [List.length_map] at hj; omega)
        rw [List.getD_eq_getElem?_getD, List.getElem?_eq_getElem hj] at b3
        rw [← e]
        exact b3
    refine ⟨.int (mxL (f n) (ms.map f)), H2, J, ?_, hR H2 hT⟩
    rw [← em]
    exact ⟨t, rfl⟩

/-! ### on data -/
def absI (n : Int) : Int := if n < 0 then -n else n
def oMaxA : O1 := fun d M => (seqOf d M).bind fun it => (intsOf it.xs).bind fun ns => match ns with
  | n :: ms => some (.v (.int (mxL (absI n) (ms.map absI))))
  | [] => none
end
section
variable {G : Gd} {X : Cx} {Γ : DC G X} {c P : Addr} {iter : Expr} {x : Str} {px p pos gpos q1 q2 q3 : Pos} {scope : Scope} {k : Nat} {m : EM}
theorem ok_tab {W : Wd} {H2 : Hp} (k : WOk G W) (ht : GxR.TabG W.H P) (hT : GxR.Tabbed P W.H H2) : WOk G { W with H := H2 } ∧ Ext W { W with H := H2 } := by
  obtain ⟨ps, hP, _⟩ := _root_.id ht
  have nl : ∀ {a : Addr} {xs : List V}, W.H a = some (.lst xs) → H2 a = some (.lst xs) := fun {a xs} h => (hT.2 a fun z => by
    rw [z, hP] at h
    cases h).trans h
  have e : Ext W { W with H := H2 } := by
    refine ⟨⟨fun _ _ h => h, fun a o h n t => ⟨(hT.2 a fun z => ?_).trans h, n⟩, rfl⟩, rfl, fun a h => ?_⟩
    · rw [z, hP] at h
      exact t ps (Option.some.inj h).symm
    · obtain ⟨xs, q⟩ := k.hidT a h
      exact (nl q).trans q.symm
  refine ⟨⟨k.len, k.inj, fun l ds h => ?_, fun a h => ?_, k.hidP, k.hidN, fun q h => ?_⟩, e⟩
  · obtain ⟨a, xs, h1, h2, h3⟩ := k.there l ds h
    exact ⟨a, xs, h1, nl h2, h3.mono e⟩
  · obtain ⟨xs, q⟩ := k.hidT a h
    exact ⟨xs, nl q⟩
  · by_cases z : q = P
    · rw [z]
      exact hT.1
    · obtain ⟨qs, e1, e2⟩ := k.tab q h
      exact ⟨qs, (hT.2 q z).trans e1, e2⟩
theorem de_maxabs (hr : Room k X.A) (TB : GxR.TabB X.base X.mg c P) (hcode : X.env.code = .ref c) (hP : P ∈ G.tabs) (S : GxR.GenS X.env scope x) (hi : DE Γ iter m) (ha : X.mg "abs" = none) (hm : X.mg "max" = none)
    (hk : scope.kind = .function := by rfl) (hl : scope.names.lookup x = some .local := by rfl) (hab : scope.names.lookup ("abs" : Str) = some .globalImplicit := by rfl) (hg : Gl X "max" := by rfl) (hd : (x == ("__debug__" : Str)) = false := by decide) (hs : ∀ v, genFold iter X.env v = pure v := by intro _; rfl) :
    DE Γ (.Call (.Name "max" p) [.GeneratorExp (.Call (.Name "abs" q1) [.Name x q2] [] q3) [⟨.Name x px, iter, [], 0⟩] scope gpos] [] pos) (eUn false oMaxA m) :=
  pe_imp (pe_maxN hr hg hm TB hcode S hi (elt_abs hk hl hab ha hd) hs) fun σ H Q q => by
  obtain ⟨τ, W, rfl, he, ok, rs, h⟩ := q
  show tE Γ m σ W.H _
  refine step he ok rs h fun dx v W1 k1 e1 r1 h1 => ?_
  unfold oMaxA at h1
  cases es : seqOf dx W1.M with
  | none => rw [es] at h1; exact h1.elim
  | some it =>
    rw [es] at h1
    simp only [Option.bind_some] at h1
    obtain ⟨a, xs, rfl, hsq, rx⟩ := seq_now k1 r1 es
    cases ei : intsOf it.xs with
    | none => rw [ei] at h1; exact h1.elim
    | some is =>
      rw [ei] at h1
      rw [intsOf_eq ei] at rx
      obtain rfl := rx.ints
      have ht := k1.tab P hP
      cases is with
      | nil => exact h1.elim
      | cons n ms =>
        refine ⟨a, n :: ms, rfl, by rw [Γ.hK]; exact hsq, ht, n, ms, rfl, fun H2 hT => ?_⟩
        obtain ⟨k2, e2⟩ := ok_tab k1 ht hT
        exact h1 _ { W1 with H := H2 } rfl k2 e2 rfl
end
end DM

set_option maxHeartbeats 2000000
/-! DM: an own exception class over ValueError whose __init__ calls super().__init__(x) and stores x. -/
namespace DM
open PySem PySem.Spec PyProof.Rows L2

/-- ValueError.__init__ as bound to the exception at e, called -/
theorem call_veB {prog : Program} {w : World} {A : Around} {E : Value → Shared → Prop} {h : Heap} {g : Array GenState} {d : Drawn} {t : Nat} {os : OsState} {nm qn : Str} {C N u e t0 : Addr} {bs bm : List Value} {hd : Bool} {sn : List Str} {sub : List Value} {ab : Bool} {col : Option Bool} {dd : Option Addr} {k0 k1 k2 k3 k5 : Option Value} {v : Value} {Q : Value → Shared → Prop}
    (hC : h.get? C = some (excClassObj nm qn C N bs bm hd sn sub ab col dd k0 k1 k2 k3 k5 "ValueError.__new__")) (he : h.get? e = some (PySem.W.excObj C t0 none .none)) (hu : h.get? u = some (PySem.W.kxs_mw "ValueError.__init__" e))
    (hq : ∀ h' t1, (∀ b o, b ≠ e → h.get? b = some o → h'.get? b = some o) → h'.get? e = some (PySem.W.excObj C t1 none .none) → Q .none ⟨h', g, d, t, os⟩) : wpAny (model prog w) A (call (.ref u) [v]) Q E ⟨h, g, d, t, os⟩ := by
  refine wpAny_call (codeAny_of_tree (show wpAny _ A.in1 (callAny (.ref u) ⟨[v], []⟩) _ _ _ from ?_))
  simp only [callAny]
  refine wpAny_bind (wpAny_load hu ?_)
  have y1 : (Value.type "method-wrapper" == Value.type "method" || Value.type "method-wrapper" == Value.type "builtin_function_or_method" || Value.type "method-wrapper" == Value.type "method-wrapper") = true := by decide
  simp only [PySem.W.kxs_mw, y1, if_true]
  refine PySem.W.KFB.if_so (by decide) (wpAny_bind (PySem.W.check_bound_init F.excBase_ValueError.toExcCallFacts hC he rfl (wpAny_bind (wpAny_pure (wpAny_pure ⟨plainId_quiet F.excBase_ValueError.init.plain _, codeAny_builtin F.excBase_ValueError.initEntry ?_⟩)))))
  exact PySem.W.exc_init_tree (cls := .ref C) (t0 := t0) (dv := none) (c2 := .none) (c3 := .none) (b4 := .bool false) he (by rw [sizeLine_eq]; show 1 ≤ _; omega) fun h' k1 k2 _ => hq h' _ k1 k2

/-- what is known of such a class; fl: the program's file -/
structure SupC (K : PySem.W.Frag) (C fI : Addr) (fl : Str) (x f : Str) (st : Stmt) (fd : FuncData) : Prop where
  ox : OexC K C
  init : PySem.W.findIn K (.ref C) "__init__" = some (some (.ref fI))
  tI : PySem.W.typeIn K (.ref fI) = some (.type "function")
  ex : ∃ oc od qual kV doc pm an cda ct osl cc ccl cdd vs ccs tf cl cld csl, fd = PySem.W.ksFn "__init__" qual (defArgs st) (defBody st) (defScope st) .none kV doc pm an (.ref cda) ct cc ∧ K.lookup fI = some ⟨oc, od, .func fd, osl⟩ ∧ PySem.W.codeIn K (.ref cda) qual = true ∧
    K.lookup cda = some ⟨ccl, cdd, .fields vs, ccs⟩ ∧ vs[2]? = some (.str fl tf) ∧ K.lookup cc = some ⟨cl, cld, .cell (some (.ref C)), csl⟩
  superN : PySem.W.nsIn K mainGlobals "super" = some none
  opq : PySem.W.nsIn K cStatics "thirdparty.any" = some none
  sub : PySem.W.mroIn K C (.ref C) = some true
  along : PySem.W.ks_superIn K C C "__init__" = some (some (.builtin "ValueError.__init__"))
  isVE : PySem.W.subIn K (.ref C) (.type "ValueError") = some true
  nof : PySem.W.findIn K (.ref C) f = some none

/-- the promise of that __init__ -/
def spI (C : Addr) (f : Str) : Sp := fun vs H Q _ => ∃ a y, vs = [.ref a, y] ∧ H a = some (exo a C none) ∧ ∀ d, H d = none → d ≠ a → Q .non (upd (upd H d (exd d [(f, y)])) a (exo a C (some d)))

theorem un_end {P : Program} {w : World} {outer : List Env} {H : Hp} {hp h' : Heap} {a C d t2 : Addr} {f : Str} {y : V} {u : Value} (hok : HOk P w H hp) (ea : H a = some (exo a C none)) (k : ∀ b o, b ≠ a → hp.get? b = some o → h'.get? b = some o) (dn : hp.objs.size ≤ d) (dne : d ≠ a)
    (hx : h'.get? a = some (PySem.W.excObj C t2 (some d) .none)) (hn : h'.Ns1 d (fun z => if z = f then some u else none)) (ry : RelV y u) :
    Un (frs outer) [] H (upd (upd H d (exd d [(f, y)])) a (exo a C (some d))) hp h' ∧ HOk P w (upd (upd H d (exd d [(f, y)])) a (exo a C (some d))) h' := by
  have hnd : H d = none := hok.fresh dn
  have nd : ∀ {b : Addr} {o : Obj}, hp.get? b = some o → b ≠ d := fun {b o} q => Nat.ne_of_lt (Nat.lt_of_lt_of_le (Heap.lt_size q) dn)
  have na : ∀ {b : Addr}, H b = none → b ≠ a := fun {b} n z => by rw [z, ea] at n; cases n
  refine ⟨⟨fun b o q n _ _ => k b o (na n) q, fun b o q n _ _ => ⟨o.slots, k b o (na n) q⟩, fun b o q n _ => (upd_ne (na n)).trans ((upd_ne (nd q)).trans n), fun b o q _ => ?_, fun b xs q => (upd_ne (at_ne ea q exo_tup)).trans ((upd_ne (ne_of_none q hnd)).trans q), fun b o v q => (upd_ne (at_ne ea q exo_frz)).trans ((upd_ne (ne_of_none q hnd)).trans q), fun b ps q => ⟨#[], ?_⟩⟩, fun b o q => ?_⟩
  · by_cases hb : b = a
    · exact ⟨_, hb ▸ hx⟩
    · exact ⟨o, k b o hb q⟩
  · rw [upd_ne (at_ne ea q exo_tbl), upd_ne (ne_of_none q hnd), Array.append_empty]
    exact q
  · by_cases hb : b = a
    · subst hb
      rw [upd_same] at q
      cases q
      exact exo_ok hx
    · rw [upd_ne hb] at q
      by_cases hd : b = d
      · subst hd
        rw [upd_same] at q
        cases q
        exact exd_ok hn (relO_put (fs := []) ry fun _ => True.intro)
      · rw [upd_ne hd] at q
        refine (hok b o q).stay (fun c v hc z => k c v (hc.elim (fun e => by rw [e]; exact hb) fun e => at_ne ea e exo_own) z) (fun c hc => (upd_ne (at_ne ea hc exo_own)).trans ((upd_ne (ne_of_none hc hnd)).trans hc)) fun c xs hc => (upd_ne (at_ne ea hc exo_tup)).trans ((upd_ne (ne_of_none hc hnd)).trans hc)

/-- the two statements of such an __init__ -/
abbrev supE (x : Str) (p0 p1 p2 p3 p4 : Pos) : Expr := .Call (.Attribute (.Call (.Name "super" p0) [] [] p1) "__init__" p2) [.Name x p3] [] p4
structure SupS (st : Stmt) (x f : Str) (p0 p1 p2 p3 p4 p5 p6 p7 p8 p9 : Pos) : Prop where
  body : defBody st = [.Expr (supE x p0 p1 p2 p3 p4) p5, .Assign [.Attribute (.Name "self" p6) f p7] (.Name x p8) p9]
  args : ((defArgs st).posonlyargs ++ (defArgs st).args).head?.map (·.arg) = some ("self" : Str)
  nself : x ≠ ("self" : Str)
  dbg : (x == ("__debug__" : Str)) = false
  ks : (defScope st).names.lookup ("super" : Str) = some .globalImplicit
  kc : (defScope st).names.lookup ("__class__" : Str) = some .free
  kse : (defScope st).names.lookup ("self" : Str) = some .local
  kx : (defScope st).names.lookup x = some .local
  cell : ∀ y ∈ (defScope st).names, y.2 ≠ .cell
  knd : (defScope st).kind = .function
  co : (defScope st).isCoroutine = false
  gen : (defScope st).isGenerator = false
  env1 : ∀ (q : Str) (L fI : Addr) (cd : Value) (cc : Addr), interactive (PySem.W.ksEnv q (defScope st) L fI cd cc) = false ∧ swapsWith (supE x p0 p1 p2 p3 p4) none p5.line (PySem.W.ksEnv q (defScope st) L fI cd cc) = pure false ∧
    swapsWith (.Name x p8) (some (.Attribute (.Name "self" p6) f p7)) p9.line (PySem.W.ksEnv q (defScope st) L fI cd cc) = pure false
  env2 : ∃ pl : Sem Bool, ∀ (q : Str) (L fI : Addr) (cd : Value) (cc : Addr), eval (supE x p0 p1 p2 p3 p4) (PySem.W.ksEnv q (defScope st) L fI cd cc) = (do
      let ov ← attributeBase (.Call (.Name "super" p0) [] [] p1) "__init__" (PySem.W.ksEnv q (defScope st) L fI cd cc) (eval (.Call (.Name "super" p0) [] [] p1) (PySem.W.ksEnv q (defScope st) L fI cd cc))
      standAt p2.atName
      let (fx, first) ← holding [ov] (getMethod ov "__init__" pl)
      callWith p4 fx first (backTo p4 (starEach [.Name x p3] (PySem.W.ksEnv q (defScope st) L fI cd cc))) [])
  env3 : ∀ (q : Str) (L fI : Addr) (cd : Value) (cc : Addr), starEach [.Name x p3] (PySem.W.ksEnv q (defScope st) L fI cd cc) = (false, eval (.Name x p3) (PySem.W.ksEnv q (defScope st) L fI cd cc)) :: starEach [] (PySem.W.ksEnv q (defScope st) L fI cd cc)

theorem fn_sinit {P : Program} {w : World} {K : PySem.W.Frag} {mg : Str → Option Value} {base : Heap} {CX : CXT} {k : Nat} {C fI : Addr} {fl x f : Str} {st : Stmt} {fd : FuncData} {p0 p1 p2 p3 p4 p5 p6 p7 p8 p9 : Pos} (T : SupC K C fI fl x f st fd) (S : SupS st x f p0 p1 p2 p3 p4 p5 p6 p7 p8 p9)
    (hfl : ((P.main.file : Str) == fl) = true) (htop : (P.main.scope.names.lookup ("super" : Str)).isSome = false) : FnOk P w K mg base CX (k + 1) fI fd ["self", x] (spI C f) := by
  refine ⟨fun vs H Q E h => by obtain ⟨a, y, rfl, _⟩ := h; rfl, fun A outer s H args us vs Q E hr e0 hb r hsp => ?_⟩
  obtain ⟨a, y, rfl, ea, q⟩ := hsp
  obtain ⟨ua, u, rfl, ra, ry⟩ := vals2 r
  obtain rfl : ua = Value.ref a := ra
  obtain ⟨oc, od, qual, kV, doc, pm, an, cda, ct, osl, cc, ccl, cdd, vs, ccs, tf, cl, cld, csl, rfl, lk, hcd, lcd, hvs, lcc⟩ := T.ex
  have KX : K.In s.heap := e0.mod.kin.keeps fun b o e => (e0.bs b o e).1
  have lim : s.heap.NoLimit := e0.mod.nolimit.keeps fun b o e => (e0.bs b o e).1
  obtain ⟨t1, ho⟩ := exo_at e0.hok ea
  obtain ⟨nm, qn, N, bs, bm, sn, sub, ab, col, dd, k0, k1, k2, k3, k5, hC, hbm⟩ := T.ox.cls
  have hcl : PySem.W.clsIn K C = some { name := nm, bases := bs, mro := .ref C :: bm, ns := N, qualname := qn, hasDict := true, slotNames := sn, subclasses := sub, abstract := ab, collection := col, hasDel := false } := by unfold PySem.W.clsIn; rw [hC] <;> rfl
  obtain ⟨mB, nsB, bootB⟩ := e0.mod.blt
  have nsG : s.heap.Ns mainGlobals mg := e0.mod.glob.keeps fun b o e => (e0.bs b o e).1
  have nsBs : s.heap.Ns builtinsNs mB := nsB.keeps fun b o e => (e0.bs b o e).1
  have neC : a ≠ C := fun z => by
    have e1 := KX _ _ hC
    rw [← z, ho] at e1
    cases e1
  have mgS : mg "super" = none := PySem.W.mg_none_of KX nsG T.superN
  obtain ⟨hp, g, dr, tk, os⟩ := s
  refine ks_codeAny_call_defAt (body := defBody st) (binds := [(("self" : Str), Value.ref a), (x, u)]) hr.depth (KX _ _ lk) rfl lim (PySem.W.codeRec_of KX hcd) rfl hb S.cell ?_ (fun h₀ hns kp => ?_) S.co S.gen S.knd
  · intro z hz
    have hz : z = (("self" : Str), Value.ref a) ∨ z = (x, u) := by simpa using hz
    rcases hz with hz | hz
    · rw [hz]; exact S.kse
    · rw [hz]; exact S.kx
  have ns0 : h₀.Ns hp.objs.size (fun z => [(("self" : Str), Value.ref a), (x, u)].reverse.lookup z) := hns
  have mS : (fun z => [(("self" : Str), Value.ref a), (x, u)].reverse.lookup z) ("self" : Str) = some (.ref a) := by
    show List.lookup ("self" : Str) [(x, u), (("self" : Str), Value.ref a)] = _
    have : (("self" : Str) == x) = false := by simpa using Ne.symm S.nself
    simp [List.lookup, this]
  have mX : (fun z => [(("self" : Str), Value.ref a), (x, u)].reverse.lookup z) x = some u := by
    show List.lookup x [(x, u), (("self" : Str), Value.ref a)] = _
    simp [List.lookup]
  generalize (fun z => [(("self" : Str), Value.ref a), (x, u)].reverse.lookup z) = mL at ns0 mS mX
  have K0 : K.In h₀ := KX.keeps kp
  have hps0 := S.args
  obtain ⟨ar, har, hars⟩ : ∃ ar, ((defArgs st).posonlyargs ++ (defArgs st).args).head? = some ar ∧ ar.arg = ("self" : Str) := by
    cases e : ((defArgs st).posonlyargs ++ (defArgs st).args).head? with
    | none => rw [e] at hps0; cases hps0
    | some ar => rw [e] at hps0; exact ⟨ar, rfl, Option.some.inj hps0⟩
  have ltL : ∀ {b : Addr} {o : Obj}, hp.get? b = some o → b ≠ hp.objs.size := fun e => Nat.ne_of_lt (Heap.lt_size e)
  obtain ⟨pl, hev⟩ := S.env2
  rw [S.body]
  have hev := hev qual hp.objs.size fI (.ref cda) cc
  have env3 := S.env3 qual hp.objs.size fI (.ref cda) cc
  obtain ⟨en1, en2, en3⟩ := S.env1 qual hp.objs.size fI (.ref cda) cc
  have henv : callEnv (PySem.W.ksFn "__init__" qual (defArgs st) (defBody st) (defScope st) .none kV doc pm an (.ref cda) ct cc) (⟨hp, g, dr, tk, os⟩ : Shared).heap.objs.size fI = PySem.W.ksEnv qual (defScope st) hp.objs.size fI (.ref cda) cc := rfl
  rw [S.body] at henv
  rw [henv]
  obtain ⟨oD, hD1, hD2⟩ : ∃ oD, hp.get? C = some oD ∧ oD.data = .cls _ := ⟨_, KX _ _ hC, rfl⟩
  refine ks_wpAt_execs_cons (ks_wpAt_Expr_any (ks_wpAt_MethodCall (pl := pl) (ks_wpAt_super_base (ar := ar) S.ks S.kc (by decide) rfl (K0 _ _ lk) rfl har rfl (K0 _ _ lcd) rfl hvs hfl htop ?_) hev) en1 en2)
  -- super, __class__, self
  refine PySem.W.ks_loadName_global S.knd S.ks (Calls.loadGlobal_builtin (nsG.keeps kp) mgS (nsBs.keeps kp) ((bootB _ (by decide)).trans (by rfl)) ⟨rfl, ?_⟩)
  refine wpAny_loadName_free S.knd S.kc rfl ⟨_, K0 _ _ lcc, rfl⟩ ?_
  refine wpAny_loadName_local S.knd (by rw [hars]; exact S.kse) ns0 (by rw [hars]; exact mS) ?_
  refine ks_wpAny_isType_cls (K0 _ _ hC) rfl ⟨rfl, ?_⟩
  refine ks_wpAny_call_super (K0 _ _ hC) rfl (kp _ _ ho) rfl (fun c e => by cases e) (PySem.W.looks_mroIn K0 T.sub) (fun h1 e1 kp1 => ?_)
  have K1 : K.In h1 := K0.keeps kp1
  have ho1 := kp1 _ _ (kp _ _ ho)
  have I1 : PySem.W.InstAt h1 a _ C none := ⟨ho1, rfl, rfl, trivial⟩
  have al := T.along
  unfold PySem.W.ks_superIn at al
  rw [hcl] at al
  refine PySem.W.kxs_getMethod PySem.W.kxs_ValueError e1 (PySem.W.looks_opaque K1 T.opq) (l₀ := .ref C :: bm) ((PySem.W.looks_clsIn K1 hcl).andThen .now) rfl K1 al (I1.type.andThen (PySem.W.looks_subIn K1 T.isVE)) neC (by decide) ?_
  -- the bound __init__, called
  have hu2 : (h1.push (PySem.W.kxs_mw "ValueError.__init__" a)).get? h1.objs.size = some (PySem.W.kxs_mw "ValueError.__init__" a) := Heap.get?_push_at rfl rfl
  have kp2 : ∀ b o, h1.get? b = some o → (h1.push (PySem.W.kxs_mw "ValueError.__init__" a)).get? b = some o := fun b o e => Heap.get?_push_of_some _ e
  generalize (h1.push (PySem.W.kxs_mw "ValueError.__init__" a)) = h2 at hu2 kp2
  have kp02 : ∀ b o, h₀.get? b = some o → h2.get? b = some o := fun b o e => kp2 b o (kp1 b o e)
  have K2 : K.In h2 := K1.keeps kp2
  have ns2 : h2.Ns hp.objs.size mL := ns0.keeps kp02
  have ho2 := kp2 _ _ ho1
  refine PySem.W.kxs_callWith (i := "ValueError.__init__") (x := a) ?_ ?_
  · rw [env3]
    rfl
  · rw [env3]
    refine Calls.evalArgs_plain (Calls.spliced_cons (wpAny_Name (wpAny_loadName_local S.knd S.kx ns2 mX ?_) S.dbg))
    refine Calls.spliced_nil ⟨hu2, call_veB (K2 _ _ hC) ho2 hu2 fun h3 t3 kp3 ho3 => ?_⟩
    have kp03 : ∀ b o, b ≠ a → hp.get? b = some o → h3.get? b = some o := fun b o nb e => kp3 b o nb (kp02 b o (kp b o e))
    have neL : hp.objs.size ≠ a := fun z => by
      have := Heap.lt_size (show hp.get? a = _ from ho)
      rw [← z] at this
      exact Nat.lt_irrefl _ this
    have ns3 : h3.Ns hp.objs.size mL := ns2.at fun o e => kp3 _ o neL e
    have K3 : K.In h3 := fun b o e => kp3 b o (fun z => by
      have e1 := (e0.bs _ _ (e0.mod.kin _ _ e)).2
      rw [z, ea] at e1
      cases e1) (K2 b o e)
    have ns3S : mL "self" = some (.ref a) := mS
    refine wpAt_of_wpAny (wpAny_execs_cons (plainObj_wpAny_Assign_Attribute (wpAny_Name (wpAny_loadName_local S.knd S.kx ns3 mX (wpAny_Name (wpAny_loadName_local S.knd S.kse ns3 mS ?_) (by decide))) S.dbg) en3))
    refine PySem.W.set_plain K3 (ox := PySem.W.excObj C t3 none .none) (od := none) ⟨ho3, rfl, rfl, trivial⟩ T.ox.sa ?_
    refine PySem.HandSPX.exc_osa K3 ho3 hcl (show PySem.HandSPX.refsVE (.ref C :: bm) = true from hbm) rfl T.nof (fun h' tk' d kp4 dn dne hx hn => wpAny_execs_nil ?_)
    have szle : hp.objs.size ≤ d := Nat.le_trans (Nat.le_of_lt ns3.lt) dn
    obtain ⟨U1, U2⟩ := un_end (outer := outer) e0.hok ea (fun b o nb e => kp4 b o nb (kp03 b o nb e)) szle dne hx hn ry
    exact ⟨.non, _, rfl, e0.bare, U1, U2, rfl, q d (e0.hok.fresh szle) dne⟩

theorem SupC.binds {K : PySem.W.Frag} {C fI : Addr} {fl x f : Str} {st : Stmt} {fd : FuncData} (T : SupC K C fI fl x f st fd)
    (h : ∀ (q : Str) (kV doc pm : Value) (an : Option Addr) (cdv ct : Value) (cc : Addr) (us : List Value), us.length = 2 → bindArgs (PySem.W.ksFn "__init__" q (defArgs st) (defBody st) (defScope st) .none kV doc pm an cdv ct cc) ⟨us, []⟩ = pure ([("self" : Str), x].zip us)) : Binds K fd ["self", x] [] := by
  obtain ⟨oc, od, qual, kV, doc, pm, an, cda, ct, osl, cc, ccl, cdd, vs, ccs, tf, cl, cld, csl, rfl, _⟩ := T.ex
  exact .all (h qual kV doc pm an (.ref cda) ct cc)

section
variable {G : Gd} {X : Cx} {Γ : DC G X} {pos p cpos : Pos} {x : Str} {e : Expr} {mr : AM}
/-- raise C(e), C's __init__ storing it as f -/
@[simp] def sRaiseF (c : String) (f : Str) (m : AM) : SM := fun τ M => andS (m τ M) τ fun ds M1 => match ds with
  | [d] => .exc (.exn c true f d) τ M1
  | _ => .bad
theorem del_upd {H : Hp} {a d : Addr} {o o' : HO} {fs : List (Str × V)} (n : H a = none) (ne : d ≠ a) : upd (del (upd (upd (upd H a o) d (exd d fs)) a o') a) d (.xd fs) = upd H d (.xd fs) := by
  funext b
  by_cases h1 : b = d
  · rw [h1, upd_same, upd_same]
  · rw [upd_ne h1, upd_ne h1]
    by_cases h2 : b = a
    · rw [h2, del_same, n]
    · rw [del_ne h2, upd_ne h2, upd_ne h1, upd_ne h2]
theorem ds_raiseF {C fI : Addr} {fl x' f : Str} {st : Stmt} {fd : FuncData} {k : Nat} {c : String} (T : SupC X.K C fI fl x' f st fd) (F : FnOk X.prog X.w X.K X.mg X.base CX0 k fI fd ["self", x'] (spI C f)) (hb : Binds X.K fd ["self", x'] []) (hr : Room (k + 1) X.A) (gC : X.mg x = some (.ref C)) (hC : G.ca c = C) (he : DA Γ [e] mr)
    (hc : X.calm = true := by rfl) (hg : Gl X x := by rfl) (hdb : (x == ("__debug__" : Str)) = false := by decide) (hst : starEach [e] X.env = (false, eval e X.env) :: starEach [] X.env := by rfl) (hpl : (backTo cpos (starEach [] X.env)).any (·.1) = false := by rfl) :
    DS Γ (.Raise (some (.Call (.Name x p) [e] [] cpos)) none pos) (sRaiseF c f mr) :=
  ps_imp (ps_raise hc Γ.tk (pmk_oex T.ox T.init T.tI F hr hb .nil pass0 hg gC he hdb hst hpl)) fun Dn σ H q => by
  obtain ⟨τ, W, rfl, hea, ok, rs, h⟩ := q
  refine stepS hea ok rs h fun ds vs W1 k1 e1 r1 h1 => ?_
  have hl := r1.length
  match ds, r1, h1, hl with
  | [d], r1, h1, _ =>
    obtain ⟨v, r, rfl, rd, rn⟩ := r1
    obtain rfl : r = [] := rn
    refine ⟨by show 1 ≤ 1000; omega, fun a na => ⟨a, v, rfl, upd_same, fun dx nd ne => ⟨rfl, dx, [(f, v)], upd_same, (upd_ne ne).trans upd_same, ?_, ?_⟩⟩⟩
    · rw [upd_ne ne] at nd
      exact nd
    · rw [del_upd na ne]
      have nd : W1.H dx = none := by rw [upd_ne ne] at nd; exact nd
      exact h1 (.ref C) (some dx) σ (W1.new dx (.xd [(f, v)])) rfl (ok_new k1 nd) (ext_new k1 nd) ((rs.mono e1).mono (ext_new k1 nd)) ⟨by rw [hC], dx, v, rfl, upd_same, own_new k1 nd, rd.mono (ext_new k1 nd)⟩

/-! ### what a suite asks of its exception -/
/-- the caught exception at a, its dict as the world has it -/
theorem exn_at {pins : List (Addr × Obj)} {σ : L2.St} {H : Hp} {s : Shared} {Y : Cx} {a C : Addr} {oe : Obj} {dd : Option Addr} (I : Inv Y pins σ H s) (hp : s.heap.get? a = some oe) (hz : Zc (.ref C) dd oe) (hf : ∃ vs, oe.data = .fields vs)
    (hd : ∀ b, dd = some b → ∃ fs, H b = some (.xd fs)) : ∃ od, PySem.W.InstAt s.heap a oe C od := by
  obtain ⟨oc, odi, oda, osl⟩ := oe
  obtain ⟨vs, hv⟩ := hf
  obtain ⟨h1, h2⟩ := hz
  dsimp only at h1 h2 hv
  subst h1 h2 hv
  cases odi with
  | none => exact ⟨none, hp, rfl, rfl, trivial⟩
  | some b =>
    obtain ⟨fs, e⟩ := hd b rfl
    have q : ObjOk Y.prog Y.w H s.heap b (.xd fs) := I.hok b _ e
    obtain ⟨mA, hns, _⟩ := q
    obtain ⟨od, ho, _⟩ := lookIn_ns hns
    exact ⟨some od, hp, rfl, rfl, ho⟩
@[simp] def eIsX (tst : String → Option Bool) (m : EM) : EM := fun τ M => (m τ M).bind fun x M1 => match x with
  | .exn c _ _ _ => match tst c with
    | some b => .ok (.bl b) M1
    | none => .bad
  | _ => .bad
theorem de_isX {a : Addr} {cn : String} {dd : Option Addr} {oe : Obj} {pn : List (Addr × Obj)} {ea eb : Expr} {ma : EM} {c2 : Value} {v2 : V} {tst : String → Option Bool} {p : Pos} (C : ExcC X.K (G.ca cn)) (hz : Zc (.ref (G.ca cn)) dd oe) (hf : ∃ vs, oe.data = .fields vs)
    (ht : ∀ b, tst cn = some b → PySem.W.kitOne X.K (.ref (G.ca cn)) c2 = some b) (hm : X.mg "isinstance" = none) (ha : DE (Γ.suite a cn dd ((a, oe) :: pn)) ea ma) (hv : ∀ u, RelV v2 u → u = c2) (hb : PE (X.suite a ((a, oe) :: pn)) eb (tC v2)) (hg : Gl (X.suite a ((a, oe) :: pn)) "isinstance" := by rfl)
    (he : starEach (ea :: [eb]) (X.suite a ((a, oe) :: pn)).env = (false, eval ea (X.suite a ((a, oe) :: pn)).env) :: starEach [eb] (X.suite a ((a, oe) :: pn)).env := by rfl) (hs2 : starEach (eb :: []) (X.suite a ((a, oe) :: pn)).env = (false, eval eb (X.suite a ((a, oe) :: pn)).env) :: starEach [] (X.suite a ((a, oe) :: pn)).env := by rfl) (hpl : (backTo pos (starEach [eb] (X.suite a ((a, oe) :: pn)).env)).any (·.1) = false := by rfl) :
    DE (Γ.suite a cn dd ((a, oe) :: pn)) (.Call (.Name "isinstance" p) [ea, eb] [] pos) (eIsX tst ma) := by
  have cr : CallR (X.suite a ((a, oe) :: pn)) (.builtin "isinstance") (fun xs H Q => (∀ b, dd = some b → ∃ fs, H b = some (.xd fs)) ∧ ∃ b, tst cn = some b ∧ xs = [.ref a, v2] ∧ Q (.bl b) H) := by
    intro pins s σ H xs us Q I r h
    obtain ⟨hd, b, e, rfl, q⟩ := h
    obtain ⟨u1, u2, rfl, r1, r2⟩ := vals2 r
    obtain rfl : u1 = Value.ref a := r1
    rw [hv _ r2]
    obtain ⟨hget, _⟩ := I.pin (a, oe) (List.mem_append.mpr (.inl List.mem_cons_self))
    obtain ⟨od, J⟩ := exn_at I hget hz hf hd
    have hcl : (PySem.W.clsIn X.K (G.ca cn)).isSome = true := by
      have z := C.hd
      unfold PySem.W.hasDictIn at z
      cases e : PySem.W.clsIn X.K (G.ca cn) with
      | some _ => rfl
      | none => rw [e] at z; cases z
    exact PySem.W.kia_one (PySem.W.kitx_exc hcl C.hg C.hk C.hs C.ha C.hn C.ht C.hm) I.kIn J (ht b e) (fun z => nomatch z) fun tk => ⟨.bl b, H, I.kept (t' := tk) fun _ _ z => z, rfl, q⟩
  refine pe_imp (pe_callB cr hg hm (by rfl) (pa_cons ha (pa_cons hb pa_nil hs2) he) (by decide) (by decide) he hpl) fun σ H Q q => ?_
  obtain ⟨τ, W, rfl, hea, ok, rs, h⟩ := q
  refine step hea ok rs h fun dx x W1 k1 e1 r1 h1 => ?_
  cases dx with
  | exn c has f d =>
    obtain ⟨a', dd', e2, rfl, e3⟩ := r1
    have e4 := (e2.symm.trans (e1.ea.trans hea))
    cases e4
    have h1 : pR G noW (Rep G) W1 σ (match tst cn with
      | some b => .ok (.bl b) W1.M
      | none => .bad) Q := h1
    cases e : tst cn with
    | none => rw [e] at h1; exact h1.elim
    | some b =>
      rw [e] at h1
      refine ⟨fun bb eb => ?_, b, rfl, rfl, h1 (.bl b) W1 rfl k1 (Ext.refl W1) rfl⟩
      rcases e3 with ⟨_, e3⟩ | ⟨_, b', u, e3, e5, _⟩
      · rw [e3] at eb; cases eb
      · rw [e3] at eb; cases eb; exact ⟨_, e5⟩
  | _ => exact h1.elim
/-- e.n -/
@[simp] def eFld (n : Str) (m : EM) : EM := fun τ M => (m τ M).bind fun x M1 => match x with
  | .exn _ true f d => if f = n then .ok d M1 else .bad
  | _ => .bad
theorem de_fld {a : Addr} {cn : String} {dd : Option Addr} {oe : Obj} {pn : List (Addr × Obj)} {ea : Expr} {ma : EM} {n : Str} {p : Pos} (C : ExcC X.K (G.ca cn)) (hno : PySem.W.findIn X.K (.ref (G.ca cn)) n = some none) (hz : Zc (.ref (G.ca cn)) dd oe) (hf : ∃ vs, oe.data = .fields vs)
    (ha : DE (Γ.suite a cn dd ((a, oe) :: pn)) ea ma) (hb : attributeBase ea n X.env (eval ea X.env) = eval ea X.env := by rfl) : DE (Γ.suite a cn dd ((a, oe) :: pn)) (.Attribute ea n p) (eFld n ma) :=
  pe_imp (pe_xf (C := G.ca cn) ⟨C.hg, C.hk, C.hs, C.hd⟩ hno hz hf ha hb) fun σ H Q q => by
  obtain ⟨τ, W, rfl, hea, ok, rs, h⟩ := q
  refine step hea ok rs h fun dx x W1 k1 e1 r1 h1 => ?_
  cases dx with
  | exn c has f d =>
    obtain ⟨a', dd', e2, rfl, e3⟩ := r1
    have e4 := (e2.symm.trans (e1.ea.trans hea))
    cases e4
    rcases e3 with ⟨rfl, e3⟩ | ⟨rfl, b', u, e3, e5, e6, e7⟩
    · exact h1.elim
    · have h2 : pR G noW (Rep G) W1 σ (if f = n then .ok d W1.M else .bad) Q := h1
      clear h1 h
      by_cases e : f = n
      · rw [if_pos e] at h2
        subst e
        exact ⟨rfl, rfl, b', [(f, u)], u, e3, e5, by simp [List.lookup], h2 u W1 rfl k1 (Ext.refl W1) e7⟩
      · rw [if_neg e] at h2
        exact h2.elim
  | _ => exact h1.elim
end
end DM

set_option maxHeartbeats 2000000
/-! DM: comprehensions of two clauses. -/
namespace DM
open PySem PySem.Spec PyProof.Rows L2
section
variable {G : Gd} {X : Cx} {Γ : DC G X} {pos : Pos}
/-- the list that is being made at p, in W2: acc, as av -/
structure MkAt (G : Gd) (W1 : Wd) (p : Addr) (acc : List D) (av : List V) (W2 : Wd) : Prop where
  ok : WOk G W2
  e : Ext0 W1 W2
  hid : W2.hid = p :: W1.hid
  hh : ∀ a, a ∈ W1.hid → W2.H a = W1.H a
  at_ : W2.H p = some (.lst av)
  r : RepL G W2 acc av
theorem MkAt.ext {W1 W2 W4 : Wd} {p : Addr} {acc : List D} {av : List V} (m : MkAt G W1 p acc av W2) (k : WOk G W4) (e : Ext W2 W4) : MkAt G W1 p acc av W4 :=
  ⟨k, m.e.trans e.toExt0, e.hid.trans m.hid, fun a h => (e.hidH a (by rw [m.hid]; exact List.mem_cons_of_mem _ h)).trans (m.hh a h), (e.hidH p (by rw [m.hid]; exact List.mem_cons_self)).trans m.at_, m.r.mono e⟩
theorem MkAt.app {W1 W2 : Wd} {p : Addr} {acc : List D} {av : List V} {y : D} {v : V} (m : MkAt G W1 p acc av W2) (r : Rep G W2 y v) : MkAt G W1 p (acc ++ [y]) (av ++ [v]) (W2.grow p (av ++ [v])) ∧ Ext0 W2 (W2.grow p (av ++ [v])) := by
  have hin : p ∈ W2.hid := by rw [m.hid]; exact List.mem_cons_self
  refine ⟨⟨ok_grow m.ok hin, m.e.trans (ext_grow hin), m.hid, fun a h => ?_, upd_same, RepL.mono0 (ext_grow hin) (m.r.append ⟨v, [], rfl, r, rfl⟩)⟩, ext_grow hin⟩
  have hN := m.ok.hidN
  rw [m.hid] at hN
  exact (upd_ne (show a ≠ p from fun z => (List.nodup_cons.mp hN).1 (z ▸ h))).trans (m.hh a h)

open Classical in
noncomputable def lc2L (src : List (Nat × List D)) (g : GM) (t : TM) (i1 : IM) (g1 : GM) (t1 : TM) (e : EM) (vs1 : List Nat) : List D → DSt → Mem → R (List D)
  | [], _, M => if Chk src M then .ok [] M else .bad
  | d :: ds, τ, M => if Chk src M then match g d τ M with
      | .ok τ1 M1 => match t τ1 M1 with
        | .ok true M2 => match i1 τ1 M2 with
          | .ok it1 M3 => match lcL it1.src g1 t1 e it1.xs (wipeD τ1 vs1) M3 with
            | .ok ys M4 => (lc2L src g t i1 g1 t1 e vs1 ds τ M4).bind fun zs M5 => .ok (ys ++ zs) M5
            | _ => .bad
          | _ => .bad
        | .ok false M2 => lc2L src g t i1 g1 t1 e vs1 ds τ M2
        | _ => .bad
      | _ => .bad
    else .bad
@[simp] noncomputable def eLc2 (own : Bool) (i : IM) (g : GM) (t : TM) (i1 : IM) (g1 : GM) (t1 : TM) (e : EM) (vs vs1 : List Nat) : EM := fun τ M => (i τ M).bind fun it M1 => (lc2L it.src g t i1 g1 t1 e vs1 it.xs (wipeD τ vs) M1).bind fun ys M2 => if ys.length ≤ sizeLine then DM.fin own (some (.l ys)) M2 else .bad

theorem lc2L_nox {src : List (Nat × List D)} {g : GM} {t : TM} {i1 : IM} {g1 : GM} {t1 : TM} {e : EM} {vs1 : List Nat} : ∀ (ds : List D) (τ : DSt) (M : Mem) (x : D) (M' : Mem), lc2L src g t i1 g1 t1 e vs1 ds τ M ≠ .exc x M'
  | [], τ, M, x, M' => by
    unfold lc2L
    split <;> exact fun h => nomatch h
  | d :: ds, τ, M, x, M' => by
    unfold lc2L
    split
    · split
      · split
        · split
          · split
            · rename_i ys M4 _
              cases el : lc2L src g t i1 g1 t1 e vs1 ds τ M4 with
              | ok ys M4 => exact fun h => nomatch h
              | exc x' M4 => exact absurd el (lc2L_nox ds τ _ _ _)
              | bad => exact fun h => nomatch h
            · exact fun h => nomatch h
          · exact fun h => nomatch h
        · exact lc2L_nox ds τ _ _ _
        · exact fun h => nomatch h
      · exact fun h => nomatch h
    · exact fun h => nomatch h

/-- the inner loop, from W4 on: Fi says what the rest must give -/
theorem lc2_in {W1 : Wd} {p : Addr} {J1 : It} {it1 : ItD} {g1 : TG} {m1 : GM} {t1 : TM} {e : EM} {vs1 : List Nat} {ea : Option (Addr × String × Option Addr)} {Nx : Hp → Prop} (hg : GWp G vs1 g1 m1) (hM : ∀ d τ M τ' M', m1 d τ M = .ok τ' M' → M' = M) {W4 : Wd} {τ : DSt} {σ : L2.St} {acc : List D} {av : List V} (Fi : List D → Mem → Prop)
    (hI : ItOk G W4 J1 it1) (he : W4.ea = ea) (mk : MkAt G W1 p acc av W4) (rs : RelS G W4 τ σ) (hl : ∀ acc M, Fi acc M → acc.length ≤ sizeLine) (hN : ∀ acc av W5, MkAt G W1 p acc av W5 → Fi acc W5.M → Nx W5.H)
    (f : match lcL it1.src m1 t1 e it1.xs (wipeD τ vs1) W4.M with | .ok ys M => Fi (acc ++ ys) M | _ => False) :
    ∃ Wv : Nat → Nat → Hp → Prop, (∃ m, Wv 0 m W4.H) ∧ ∀ j k H, Wv j k H → (J1.stop j H ∧ Nx H) ∨ (J1.go j H ∧ ∃ Nx1 : Hp → Prop, (∀ H', Nx1 H' → ∃ k', k' < k ∧ Wv (j + 1) k' H') ∧ ∀ x H', J1.yld j H x H' → g1 x (L2.wipe σ vs1) H' fun σ3 H5 => L2.wipe σ3 vs1 = L2.wipe σ vs1 ∧ tR G (fun _ _ _ _ => False) ea rT t1 σ3 H5 fun b H6 =>
        if b = true then tR G (fun _ _ _ _ => False) ea (Rep G) e σ3 H6 fun y H7 => ∃ acc, H7 p = some (.lst acc) ∧ acc.length < sizeLine ∧ Nx1 (upd H7 p (.lst (acc ++ [y]))) else Nx1 H6) := by
  let Fr : List D → R (List D) → Prop := fun acc r => match r with | .ok ys M => Fi (acc ++ ys) M | _ => False
  have f0 : Fr acc (lcL it1.src m1 t1 e (it1.xs.drop 0) (wipeD τ vs1) W4.M) := f
  refine ⟨fun j k H => j + k = it1.xs.length ∧ ∃ (W5 : Wd) (acc : List D) (av : List V), W5.H = H ∧ MkAt G W1 p acc av W5 ∧ Ext0 W4 W5 ∧ Fr acc (lcL it1.src m1 t1 e (it1.xs.drop j) (wipeD τ vs1) W5.M), ⟨it1.xs.length, by omega, W4, acc, av, rfl, mk, Ext0.refl W4, f0⟩, ?_⟩
  rintro j k H2 ⟨en, W5, acc, av, rfl, mk, e5, f2⟩
  by_cases hj : j < it1.xs.length
  · rw [List.drop_eq_getElem_cons hj] at f2
    unfold lcL at f2
    split at f2
    · rename_i hc2
      obtain ⟨f3, _⟩ := hI W5 mk.ok e5 hc2
      obtain ⟨g1', g2⟩ := f3 j it1.xs[j] (List.getElem?_eq_getElem hj)
      refine .inr ⟨g1', fun H' => ∃ (W6 : Wd) (acc : List D) (av : List V), W6.H = H' ∧ MkAt G W1 p acc av W6 ∧ Ext0 W4 W6 ∧ Fr acc (lcL it1.src m1 t1 e (it1.xs.drop (j + 1)) (wipeD τ vs1) W6.M), fun H' hN => ⟨k - 1, by omega, by omega, hN⟩, fun x H' hy => ?_⟩
      obtain ⟨W6, rfl, m6, k6, e6, r6⟩ := g2 x H' hy
      have s6 : RelS G W6 (wipeD τ vs1) (L2.wipe σ vs1) := RelS.wipe (rs.mono0 (e5.trans e6.toExt0)) vs1
      refine hg W6 _ _ it1.xs[j] x _ k6 s6 r6 ?_
      rw [m6]
      cases eg : m1 it1.xs[j] (wipeD τ vs1) W5.M with
      | ok τ3 M3 =>
        rw [eg] at f2
        obtain rfl := hM _ _ _ _ _ eg
        have hwip : L2.wipe (L2.wipe σ vs1) vs1 = L2.wipe σ vs1 := by
          apply List.ext_getElem?
          intro jj
          rw [wipe_get, wipe_get, wipe_length]
          split <;> rfl
        have ea6 : W6.ea = ea := e6.ea.trans (e5.ea.trans he)
        refine ⟨rfl, fun σ4 s4 w4 => ⟨w4.trans hwip, τ3, W6, rfl, ea6, k6, s4, ?_⟩⟩
        rw [m6]
        have f2 : Fr acc (match t1 τ3 W5.M with
          | .ok true M2 => match e τ3 M2 with
            | .ok y M3 => (lcL it1.src m1 t1 e (it1.xs.drop (j + 1)) (wipeD τ vs1) M3).bind fun ys M4 => .ok (y :: ys) M4
            | _ => .bad
          | .ok false M2 => lcL it1.src m1 t1 e (it1.xs.drop (j + 1)) (wipeD τ vs1) M2
          | _ => .bad) := f2
        cases et : t1 τ3 W5.M with
        | ok b M4 =>
          rw [et] at f2
          intro b' W7 m7 k7 e7 hb
          cases hb
          have e57 := e6.trans e7
          cases b with
          | true =>
            refine ⟨τ3, W7, rfl, e7.ea.trans ea6, k7, s4.mono e7, ?_⟩
            rw [m7]
            have f2 : Fr acc (match e τ3 M4 with
              | .ok y M3 => (lcL it1.src m1 t1 e (it1.xs.drop (j + 1)) (wipeD τ vs1) M3).bind fun ys M4 => .ok (y :: ys) M4
              | _ => .bad) := f2
            cases ee : e τ3 M4 with
            | ok y M5 =>
              rw [ee] at f2
              intro yv W8 m8 k8 e8 r8
              have mk8 := mk.ext k8 (e57.trans e8)
              obtain ⟨mk9, e9⟩ := mk8.app r8
              have f2 : Fr acc ((lcL it1.src m1 t1 e (it1.xs.drop (j + 1)) (wipeD τ vs1) M5).bind fun ys M4 => .ok (y :: ys) M4) := f2
              have fin : Fr (acc ++ [y]) (lcL it1.src m1 t1 e (it1.xs.drop (j + 1)) (wipeD τ vs1) M5) := by
                cases el : lcL it1.src m1 t1 e (it1.xs.drop (j + 1)) (wipeD τ vs1) M5 with
                | ok ys M6 =>
                  rw [el] at f2
                  show Fi (acc ++ [y] ++ ys) M6
                  rw [List.append_assoc]
                  exact f2
                | exc x M => rw [el] at f2; exact f2
                | bad => rw [el] at f2; exact f2
              have lg : av.length < sizeLine := by
                rw [← mk.r.length]
                cases el : lcL it1.src m1 t1 e (it1.xs.drop (j + 1)) (wipeD τ vs1) M5 with
                | ok ys M6 =>
                  rw [el] at fin
                  have := hl _ _ (show Fi (acc ++ [y] ++ ys) M6 from fin)
                  simp only [List.length_append, List.length_cons, List.length_nil] at this
                  omega
                | exc x M => rw [el] at fin; exact fin.elim
                | bad => rw [el] at fin; exact fin.elim
              refine ⟨av, mk8.at_, lg, _, acc ++ [y], av ++ [yv], rfl, mk9, (e5.trans (e57.trans e8).toExt0).trans e9, ?_⟩
              show Fr _ (lcL it1.src m1 t1 e (it1.xs.drop (j + 1)) (wipeD τ vs1) W8.M)
              rw [m8]
              exact fin
            | exc x M => rw [ee] at f2; exact f2.elim
            | bad => rw [ee] at f2; exact f2.elim
          | false =>
            exact ⟨W7, acc, av, rfl, mk.ext k7 e57, e5.trans e57.toExt0, by rw [m7]; exact f2⟩
        | exc x M => rw [et] at f2; exact f2.elim
        | bad => rw [et] at f2; exact f2.elim
      | exc x M => rw [eg] at f2; exact f2.elim
      | bad => rw [eg] at f2; exact f2.elim
    · exact f2.elim
  · rw [List.drop_of_length_le (by omega)] at f2
    unfold lcL at f2
    split at f2
    · rename_i hc2
      obtain ⟨_, f4⟩ := hI W5 mk.ok e5 hc2
      have f2 : Fi (acc ++ []) W5.M := f2
      rw [List.append_nil] at f2
      exact .inl ⟨f4 j (by omega), hN acc av W5 mk f2⟩
    · exact f2.elim

theorem lc2_of {own : Bool} {i i1 : IM} {g g1 : TG} {m m1 : GM} {t t1 : TM} {e : EM} {vs vs1 : List Nat} (hg : GWp G vs g m) (hM : ∀ d τ M τ' M', m d τ M = .ok τ' M' → M' = M) (hg1 : GWp G vs1 g1 m1) (hM1 : ∀ d τ M τ' M', m1 d τ M = .ok τ' M' → M' = M) {σ : L2.St} {H : Hp} {Q : VK} (q : tE Γ (eLc2 own i m t i1 m1 t1 e vs vs1) σ H Q) :
    tLc2 (tI Γ i) g (tR G (fun _ _ _ _ => False) Γ.ea rT t) (tR G (fun _ _ _ _ => False) Γ.ea (fun W it J => ItOk G W J it) i1) g1 (tR G (fun _ _ _ _ => False) Γ.ea rT t1) (tR G (fun _ _ _ _ => False) Γ.ea (Rep G) e) vs vs1 σ H Q := by
  obtain ⟨τ, W, rfl, he, ok, rs, h⟩ := q
  refine step he ok rs h fun it J W1 k1 e1 r1 h1 => ?_
  intro p hp
  let F : List DM.D → R (List DM.D) → Prop := fun acc r => match r with
    | .ok ys M => (acc ++ ys).length ≤ sizeLine ∧ pR G Γ.W (Rep G) W1 σ (DM.fin own (some (.l (acc ++ ys))) M) Q
    | _ => False
  let L : List DM.D → Mem → R (List DM.D) := fun ds M => lc2L it.src m t i1 m1 t1 e vs1 ds (wipeD τ vs) M
  have start : F [] (L (it.xs.drop 0) W1.M) := by
    have h1 : pR G Γ.W (Rep G) W1 σ ((L it.xs W1.M).bind fun ys M2 => if ys.length ≤ sizeLine then DM.fin own (some (.l ys)) M2 else .bad) Q := h1
    show F [] (L it.xs W1.M)
    cases el : L it.xs W1.M with
    | ok ys M =>
      rw [el] at h1
      have h1 : pR G Γ.W (Rep G) W1 σ (if ys.length ≤ sizeLine then DM.fin own (some (.l ys)) M else .bad) Q := h1
      split at h1
      · rename_i hz
        exact ⟨hz, h1⟩
      · exact h1.elim
    | exc x M => exact absurd el (lc2L_nox _ _ _ _ _)
    | bad => rw [el] at h1; exact h1
  have mk0 : MkAt G W1 p [] [] (W1.push p) := ⟨ok_push k1 hp, ext_push k1 hp, rfl, fun a ha => by
    obtain ⟨xs, q⟩ := k1.hidT a ha
    exact upd_ne (ne_of_none q hp), upd_same, rfl⟩
  refine ⟨fun j n H => j + n = it.xs.length ∧ ∃ (W2 : Wd) (acc : List DM.D) (av : List V), W2.H = H ∧ MkAt G W1 p acc av W2 ∧ F acc (L (it.xs.drop j) W2.M), ⟨it.xs.length, by omega, W1.push p, [], [], rfl, mk0, start⟩, ?_⟩
  rintro j n H2 ⟨en, W2, acc, av, rfl, mk, f2⟩
  by_cases hj : j < it.xs.length
  · rw [List.drop_eq_getElem_cons hj] at f2
    have f2 : F acc (lc2L it.src m t i1 m1 t1 e vs1 (it.xs[j] :: it.xs.drop (j + 1)) (wipeD τ vs) W2.M) := f2
    unfold lc2L at f2
    split at f2
    · rename_i hc2
      obtain ⟨f3, _⟩ := r1 W2 mk.ok mk.e hc2
      obtain ⟨gg1, gg2⟩ := f3 j it.xs[j] (List.getElem?_eq_getElem hj)
      refine .inr ⟨gg1, fun H' => ∃ (W3 : Wd) (acc : List DM.D) (av : List V), W3.H = H' ∧ MkAt G W1 p acc av W3 ∧ F acc (L (it.xs.drop (j + 1)) W3.M), fun H' hN => ⟨n - 1, by omega, by omega, hN⟩, fun x H' hy => ?_⟩
      obtain ⟨W3, rfl, m3, k3, e3, r3⟩ := gg2 x H' hy
      have s3 : RelS G W3 (wipeD τ vs) (L2.wipe σ vs) := RelS.wipe ((rs.mono e1).mono0 (mk.e.trans e3.toExt0)) vs
      refine hg W3 _ _ it.xs[j] x _ k3 s3 r3 ?_
      rw [m3]
      cases eg : m it.xs[j] (wipeD τ vs) W2.M with
      | ok τ3 M3 =>
        rw [eg] at f2
        obtain rfl := hM _ _ _ _ _ eg
        have hwip : L2.wipe (L2.wipe σ vs) vs = L2.wipe σ vs := by
          apply List.ext_getElem?
          intro jj
          rw [wipe_get, wipe_get, wipe_length]
          split <;> rfl
        have ea3 : W3.ea = Γ.ea := e3.ea.trans (mk.e.ea.trans (e1.ea.trans he))
        refine ⟨rfl, fun σ4 s4 w4 => ⟨w4.trans hwip, τ3, W3, rfl, ea3, k3, s4, ?_⟩⟩
        rw [m3]
        have f2 : F acc (match t τ3 W2.M with
          | .ok true M2 => match i1 τ3 M2 with
            | .ok it1 M3 => match lcL it1.src m1 t1 e it1.xs (wipeD τ3 vs1) M3 with
              | .ok ys M4 => (L (it.xs.drop (j + 1)) M4).bind fun zs M5 => .ok (ys ++ zs) M5
              | _ => .bad
            | _ => .bad
          | .ok false M2 => L (it.xs.drop (j + 1)) M2
          | _ => .bad) := f2
        cases et : t τ3 W2.M with
        | ok b M4 =>
          rw [et] at f2
          intro b' W4 m4 k4 e4 hb
          cases hb
          have e24 := e3.trans e4
          have mk4 := mk.ext k4 e24
          cases b with
          | true =>
            refine ⟨τ3, W4, rfl, e4.ea.trans ea3, k4, s4.mono e4, ?_⟩
            rw [m4]
            have f2 : F acc (match i1 τ3 M4 with
              | .ok it1 M3 => match lcL it1.src m1 t1 e it1.xs (wipeD τ3 vs1) M3 with
                | .ok ys M4 => (L (it.xs.drop (j + 1)) M4).bind fun zs M5 => .ok (ys ++ zs) M5
                | _ => .bad
              | _ => .bad) := f2
            cases ei : i1 τ3 M4 with
            | ok it1 M5 =>
              rw [ei] at f2
              have f2 : F acc (match lcL it1.src m1 t1 e it1.xs (wipeD τ3 vs1) M5 with
                | .ok ys M4 => (L (it.xs.drop (j + 1)) M4).bind fun zs M5 => .ok (ys ++ zs) M5
                | _ => .bad) := f2
              intro J1 W5 m5 k5 e5 hI
              have mk5 := mk4.ext k5 e5
              refine lc2_in hg1 hM1 (W4 := W5) (τ := τ3) (acc := acc) (av := av) (fun acc M => F acc (L (it.xs.drop (j + 1)) M)) hI ((e5.ea.trans e4.ea).trans ea3) mk5 ((s4.mono e4).mono e5) (fun acc M hF => ?_) (fun acc av W6 mk6 hF => ⟨W6, acc, av, rfl, mk6, hF⟩) ?_
              · have hF : F acc (L (it.xs.drop (j + 1)) M) := hF
                cases el : L (it.xs.drop (j + 1)) M with
                | ok ys M6 =>
                  rw [el] at hF
                  have := hF.1
                  rw [List.length_append] at this
                  omega
                | exc x M => rw [el] at hF; exact hF.elim
                | bad => rw [el] at hF; exact hF.elim
              · rw [m5]
                cases eb : lcL it1.src m1 t1 e it1.xs (wipeD τ3 vs1) M5 with
                | ok ys M6 =>
                  rw [eb] at f2
                  have f2 : F acc ((L (it.xs.drop (j + 1)) M6).bind fun zs M5 => .ok (ys ++ zs) M5) := f2
                  show F (acc ++ ys) (L (it.xs.drop (j + 1)) M6)
                  cases el : L (it.xs.drop (j + 1)) M6 with
                  | ok zs M7 =>
                    rw [el] at f2
                    have f2 : (acc ++ (ys ++ zs)).length ≤ sizeLine ∧ pR G Γ.W (Rep G) W1 σ (DM.fin own (some (.l (acc ++ (ys ++ zs)))) M7) Q := f2
                    show (acc ++ ys ++ zs).length ≤ sizeLine ∧ pR G Γ.W (Rep G) W1 σ (DM.fin own (some (.l (acc ++ ys ++ zs))) M7) Q
                    rw [List.append_assoc]
                    exact f2
                  | exc x M => rw [el] at f2; exact f2
                  | bad => rw [el] at f2; exact f2
                | exc x M => rw [eb] at f2; exact f2
                | bad => rw [eb] at f2; exact f2
            | exc x M => rw [ei] at f2; exact f2.elim
            | bad => rw [ei] at f2; exact f2.elim
          | false => exact ⟨W4, acc, av, rfl, mk4, by rw [m4]; exact f2⟩
        | exc x M => rw [et] at f2; exact f2.elim
        | bad => rw [et] at f2; exact f2.elim
      | exc x M => rw [eg] at f2; exact f2.elim
      | bad => rw [eg] at f2; exact f2.elim
    · exact f2.elim
  · rw [List.drop_of_length_le (by omega)] at f2
    have f2 : F acc (lc2L it.src m t i1 m1 t1 e vs1 [] (wipeD τ vs) W2.M) := f2
    unfold lc2L at f2
    split at f2
    · rename_i hc2
      obtain ⟨_, f4⟩ := r1 W2 mk.ok mk.e hc2
      have f2 : (acc ++ []).length ≤ sizeLine ∧ pR G Γ.W (Rep G) W1 σ (DM.fin own (some (.l (acc ++ []))) W2.M) Q := f2
      rw [List.append_nil] at f2
      exact .inl ⟨f4 j (by omega), made_out hp k1 mk.ok mk.e mk.hid mk.hh mk.at_ mk.r f2.2⟩
    · exact f2.elim
theorem de_lc2 (own : Bool) {elt tg iter tg1 iter1 : Expr} {ifs ifs1 : List Expr} {scope : Scope} {ow : List (Str × Nat)} {vs1 : List Nat} {i i1 : IM} {g g1 : TG} {m m1 : GM} {t t1 : TM} {e : EM} (hN : X.N.Nodup) (hi : DI Γ tg iter i) (ok : BlkOk X.N X.env.scope scope ow) (hv : ∀ i ∈ vs1, i ∈ ow.map (·.2))
    (hw : GWp G (ow.map (·.2)) g m) (hM : ∀ d τ M τ' M', m d τ M = .ok τ' M' → M' = M) (hw1 : GWp G vs1 g1 m1) (hM1 : ∀ d τ M τ' M', m1 d τ M = .ok τ' M' → M' = M)
    (hg : ∀ (s : Shared) (H : Hp) (C : Addr) (cl : List (Str × Addr)) (fp : List Addr), PG (X.blk s H scope (compEnvC scope cl C X.env) fp) tg g)
    (ht : ∀ (s : Shared) (H : Hp) (C : Addr) (cl : List (Str × Addr)) (fp : List Addr), DTs (Γ.blk s H scope (compEnvC scope cl C X.env) fp) ifs t)
    (hi1 : ∀ (s : Shared) (H : Hp) (C : Addr) (cl : List (Str × Addr)) (fp : List Addr), DI (Γ.blk s H scope (compEnvC scope cl C X.env) fp) tg1 iter1 i1)
    (hg1 : ∀ (s : Shared) (H : Hp) (C : Addr) (cl : List (Str × Addr)) (fp : List Addr), PG (X.blk s H scope (compEnvC scope cl C X.env) fp) tg1 g1)
    (ht1 : ∀ (s : Shared) (H : Hp) (C : Addr) (cl : List (Str × Addr)) (fp : List Addr), DTs (Γ.blk s H scope (compEnvC scope cl C X.env) fp) ifs1 t1)
    (he : ∀ (s : Shared) (H : Hp) (C : Addr) (cl : List (Str × Addr)) (fp : List Addr), DE (Γ.blk s H scope (compEnvC scope cl C X.env) fp) elt e)
    (hc : X.calm = true := by rfl) (hs : ∀ x, foldedSetIterable iter X.env x = pure x := by intro _; rfl) (hs1 : ∀ env x, foldedSetIterable iter1 env x = pure x := by intro _ _; rfl) :
    DE Γ (.ListComp elt [⟨tg, iter, ifs, 0⟩, ⟨tg1, iter1, ifs1, 0⟩] scope pos) (eLc2 own i m t i1 m1 t1 e (ow.map (·.2)) vs1) :=
  pe_imp (pe_lc2 hc hN hi ok hv hg ht hi1 hg1 ht1 he hs hs1) fun σ H Q q => lc2_of hw hM hw1 hM1 q
end
end DM

set_option maxHeartbeats 4000000
/-! DM: tuple * int where nothing is repeated. -/
namespace DM
open PySem PySem.Spec PyProof.Rows L2

theorem tmul_same (l : Addr) (items : Array Value) (n : Nat) (dd : Option Addr) (sl : Array (Option Value)) (x : Int) (u : Tok) (c0 : (decide (x < -(2 ^ 63)) || decide (x ≥ 2 ^ 63)) = false) (c1 : (items.isEmpty || x == 1) = true) :
    Meets (Builtin.«tuple.__mul__» ⟨[.ref l, .int x u], []⟩) (fun _ R s => s.heap.get? l = some { cls := .type "tuple", dict := dd, data := .seq items n, slots := sl } ∧ R (.ok (.ret (Value.ref l))) s) :=
  .of_wp fun prog w A R s h => by
    obtain ⟨hp, g, d, tk, os⟩ := s
    obtain ⟨hl, h⟩ := h
    have hT : (⟨hp, g, d, tk, os⟩ : Shared).TypeIs (.ref l) "tuple" := ⟨_, hl, rfl⟩
    have f1 := AutoSeq1.idx_int
    wp_walk using wpAny_loadPart' hl, wpAny_typeOf hT
    repeat (first
      | (refine wpAny_ite_false (decide_eq_false (by rw [c0]; exact Bool.false_ne_true)) ?_; wp_walk using wpAny_loadPart' hl, wpAny_typeOf hT)
      | (refine wpAny_ite_true (decide_eq_true c1) ?_; wp_walk using wpAny_loadPart' hl, wpAny_typeOf hT))
    exact ⟨_, rfl, h⟩
theorem tmul_none (l : Addr) (items : Array Value) (n : Nat) (dd : Option Addr) (sl : Array (Option Value)) (x : Int) (u : Tok) (c0 : (decide (x < -(2 ^ 63)) || decide (x ≥ 2 ^ 63)) = false) (c1 : (items.isEmpty || x == 1) = false) (c2 : (decide (x ≤ 0) || items.isEmpty) = true) :
    Meets (Builtin.«tuple.__mul__» ⟨[.ref l, .int x u], []⟩) (fun _ R s => s.heap.get? l = some { cls := .type "tuple", dict := dd, data := .seq items n, slots := sl } ∧ R (.ok (.ret (Value.ref s.heap.objs.size))) { s with heap := s.heap.push { cls := Value.type "tuple", data := Data.seq #[] }, toks := s.toks }) :=
  .of_wp fun prog w A R s h => by
    obtain ⟨hp, g, d, tk, os⟩ := s
    obtain ⟨hl, h⟩ := h
    have f1 := AutoSeq1.idx_int
    wp_walk using wpAny_loadPart' hl
    repeat (first
      | (refine wpAny_ite_false (decide_eq_false (by rw [c0]; exact Bool.false_ne_true)) ?_; wp_walk using wpAny_loadPart' hl)
      | (refine wpAny_ite_false (decide_eq_false (by rw [c1]; exact Bool.false_ne_true)) ?_; wp_walk using wpAny_loadPart' hl)
      | (refine wpAny_ite_true (decide_eq_true c2) ?_; wp_walk using wpAny_loadPart' hl))
    exact ⟨_, rfl, h⟩

/-- t * k: t itself, or () -/
def rRepS (K : PySem.W.Frag) : R2 := fun x y H Q => ∃ l k xs, x = .ref l ∧ y = .int k ∧ SqT K H l xs ∧ -(2 ^ 62) < k ∧ k < 2 ^ 62 ∧ (((xs = [] ∨ k = 1) ∧ Q (.ref l) H) ∨ (xs ≠ [] ∧ k ≤ 0 ∧ ∀ p, H p = none → Q (.ref p) (upd H p (.tup []))))
theorem op_repS {X : Cx} : OpR X (binaryOp .Mult) (rRepS X.K) := by
  intro pins s σ H x y v u Q I rx ry h
  obtain ⟨l, k, xs, rfl, rfl, hT, h1, h2, q⟩ := h
  cases rx
  obtain ⟨t, rfl⟩ := ry
  obtain ⟨its, r, ⟨⟨cls, dd, data, sl⟩, ho, hc, n, hd⟩, hs⟩ := I.tuple hT
  simp only at hc hd
  subst hc hd
  have hle : its.length = xs.length := r.length.symm
  have c0 : (decide (k < -(2 ^ 63)) || decide (k ≥ 2 ^ 63)) = false := by
    rw [decide_eq_false (by omega), decide_eq_false (by omega)] <;> rfl
  have em : its.toArray.isEmpty = true ↔ xs = [] := by
    constructor
    · intro z
      have : its = [] := by simpa using z
      rw [this] at hle
      exact List.eq_nil_of_length_eq_zero hle.symm
    · intro z
      rw [z] at hle
      have : its = [] := List.eq_nil_of_length_eq_zero hle
      rw [this]; rfl
  rcases q with ⟨hx, q⟩ | ⟨hx, hk, q⟩
  · have c1 : (its.toArray.isEmpty || k == 1) = true := by
      rcases hx with hx | hx
      · rw [em.mpr hx, Bool.true_or]
      · rw [hx]; simp
    exact wpAny_binaryOp_repeat_ref (T := "tuple") (U := "int") (by decide) ⟨_, ho, rfl⟩ (fun s' => typeIs_int s' k t) noFill_tuple_mul F.fills_int_mul F.slot_int_rmul repeat_tuple F.slot_int_index.lookup
      (call_meets F.slot_int_rmul (typeIs_int s k t) F.entry_int_rmul (F.args_int_rmul_2 _ _) (int_rmul_tuple k t l its.toArray n dd sl) ⟨ho, rfl, ⟨_, ho, rfl⟩, call_meets F.slot_tuple_mul ⟨_, ho, rfl⟩ F.entry_tuple_mul (F.args_tuple_mul_2 _ _) (tmul_same l its.toArray n dd sl k t c0 c1) ⟨ho, .ref l, H, I, rfl, q⟩⟩)
  · have ni : its.toArray.isEmpty = false := by
      cases e : its.toArray.isEmpty with
      | false => rfl
      | true => exact absurd (em.mp e) hx
    have c1 : (its.toArray.isEmpty || k == 1) = false := by
      rw [ni, Bool.false_or]
      exact beq_eq_false_iff_ne.mpr (by omega)
    have c2 : (decide (k ≤ 0) || its.toArray.isEmpty) = true := by rw [decide_eq_true hk, Bool.true_or]
    refine wpAny_binaryOp_repeat_ref (T := "tuple") (U := "int") (by decide) ⟨_, ho, rfl⟩ (fun s' => typeIs_int s' k t) noFill_tuple_mul F.fills_int_mul F.slot_int_rmul repeat_tuple F.slot_int_index.lookup
      (call_meets F.slot_int_rmul (typeIs_int s k t) F.entry_int_rmul (F.args_int_rmul_2 _ _) (int_rmul_tuple k t l its.toArray n dd sl) ⟨ho, rfl, ⟨_, ho, rfl⟩, call_meets F.slot_tuple_mul ⟨_, ho, rfl⟩ F.entry_tuple_mul (F.args_tuple_mul_2 _ _) (tmul_none l its.toArray n dd sl k t c0 c1 c2) ⟨ho, ?_⟩⟩)
    refine ⟨.ref s.heap.objs.size, _, I.laid (t' := s.toks) (o := .tup []) (fun b ob q => Heap.get?_push_of_some _ q) (Nat.le_refl _) ⟨by rw [sizeLine_eq]; exact Nat.zero_le _, [], .nil, IsTup.new _ _⟩, rfl, q _ (I.hok.fresh (Nat.le_refl _))⟩
noncomputable def oMulT : O2 := fun x y M => match x with
  | .tup ds => match y with
    | .int j => if ds = [] ∨ j = 1 then (if -(2 ^ 62) < j ∧ j < 2 ^ 62 then some (.v (.tup ds)) else none) else if j ≤ 0 then (if -(2 ^ 62) < j then some (.v (.tup [])) else none) else oMul x y M
    | _ => none
  | _ => oMul x y M
section
variable {G : Gd} {X : Cx} {Γ : DC G X} {pos : Pos} {a b : Expr} {ma mb : EM}
def rMulT (K : PySem.W.Frag) : R2 := fun x y H Q => rMulA K x y H Q ∨ rRepS K x y H Q
theorem op_mulT : OpR X (binaryOp .Mult) (rMulT X.K) := op_mulA.or op_repS
theorem real_mulT : Real2 G oMulT (rMulT G.K) := fun W dx dy x y Q k rx ry q => by
  cases dx with
  | tup ds =>
    cases dy with
    | int j =>
      have q : pO G W (if ds = [] ∨ j = 1 then (if -(2 ^ 62) < j ∧ j < 2 ^ 62 then some (.v (.tup ds)) else none) else if j ≤ 0 then (if -(2 ^ 62) < j then some (.v (.tup [])) else none) else oMul (.tup ds) (.int j) W.M) Q := q
      split at q
      · rename_i h1
        split at q
        · rename_i h2
          obtain ⟨a, xs, rfl, g1, n1, r1⟩ := _root_.id rx
          cases ry
          refine .inr ⟨a, j, xs, rfl, rfl, .of g1, h2.1, h2.2, .inl ⟨h1.imp (fun e => ?_) id, q _ W rfl k (Ext.refl W) rx⟩⟩
          have := r1.length
          rw [e] at this
          exact List.length_eq_zero_iff.mp this.symm
        · exact q.elim
      · rename_i h1
        split at q
        · rename_i h2
          split at q
          · rename_i h3
            obtain ⟨a, xs, rfl, g1, n1, r1⟩ := rx
            cases ry
            refine .inr ⟨a, j, xs, rfl, rfl, .of g1, h3, by omega, .inr ⟨fun e => h1 (.inl ?_), h2, fun p hp => ?_⟩⟩
            · have := r1.length
              rw [e] at this
              exact List.length_eq_zero_iff.mp this
            · exact q (.ref p) (W.new p (.tup [])) rfl (ok_new k hp) (ext_new k hp) ⟨p, [], rfl, upd_same, own_new k hp, rfl⟩
          · exact q.elim
        · exact .inl (real_mul W (.tup ds) (.int j) x y Q k rx ry q)
    | _ => exact q.elim
  | non => exact .inl (real_mul W _ dy x y Q k rx ry q)
  | bl _ => exact .inl (real_mul W _ dy x y Q k rx ry q)
  | int _ => exact .inl (real_mul W _ dy x y Q k rx ry q)
  | str _ => exact .inl (real_mul W _ dy x y Q k rx ry q)
  | ty _ => exact .inl (real_mul W _ dy x y Q k rx ry q)
  | gr _ => exact .inl (real_mul W _ dy x y Q k rx ry q)
  | lst _ => exact .inl (real_mul W _ dy x y Q k rx ry q)
  | kt _ => exact .inl (real_mul W _ dy x y Q k rx ry q)
  | loc _ => exact .inl (real_mul W _ dy x y Q k rx ry q)
  | scr _ => exact .inl (real_mul W _ dy x y Q k rx ry q)
  | dic => exact .inl (real_mul W _ dy x y Q k rx ry q)
  | exn _ _ _ _ => exact .inl (real_mul W _ dy x y Q k rx ry q)
theorem de_mulT (own : Bool) (ha : DE Γ a ma) (hb : DE Γ b mb) : DE Γ (.BinOp a .Mult b pos) (eBin own oMulT ma mb) := de_bin own (by rw [Γ.hK]; exact real_mulT) op_mulT ha hb
end
end DM

/-! DM: tools for working out what mirrors give. -/
namespace DM
open PySem PySem.Spec PyProof.Rows L2
@[simp] theorem chk_nil (M : Mem) : Chk [] M = True := by simp [Chk]
theorem rngOk_nat {n : Nat} (h : n < 2 ^ 62) : rngOk (n : Int) := ⟨by omega, by omega⟩
theorem rngOk_of {n : Int} (h0 : -(2 ^ 62) ≤ n) (h : n < 2 ^ 62) : rngOk n := ⟨h0, h⟩
@[simp] theorem rngOk_s {j : Int} (h0 : -4611686018427387904 ≤ j) (h1 : j < 4611686018427387904) : rngOk j = True := eq_true ⟨h0, h1⟩
@[simp] theorem rngOk_n {j : Nat} (h1 : j < 4611686018427387904) : rngOk (j : Int) = True := eq_true (rngOk_nat h1)
theorem rgOk_of {a b : Int} (h0 : -4611686018427387904 ≤ a) (h1 : a < 4611686018427387904) (h2 : b < 4611686018427387904) (h3 : -4611686018427387904 ≤ b) (h4 : (b - a).toNat ≤ 16777216) : RgOk a b := ⟨h0, h1, h3, h2, h4⟩
theorem repOk_of {n : Nat} {j : Int} (h0 : -9223372036854775808 ≤ j) (h1 : j < 9223372036854775808) (h2 : n * j.toNat ≤ 16777216) : repOk n j := ⟨h0, h1, h2⟩
@[simp] theorem repD_one (n : Nat) (d : D) : repD n [d] = List.replicate n d := by
  unfold repD
  induction n with
  | zero => rfl
  | succ n ih => rw [List.replicate_succ, List.flatten_cons, ih]; rfl
@[simp] theorem iRange1_eq (a : AM) (τ : DSt) (M : Mem) : iRange1 a τ M = (a τ M).bind fun ds M1 => match ds with
  | [.int j] => if rngOk j then .ok { xs := rangeD 0 j.toNat } M1 else .bad
  | _ => .bad := rfl
@[simp] theorem iRange2_eq (a : AM) (τ : DSt) (M : Mem) : iRange2 a τ M = (a τ M).bind fun ds M1 => match ds with
  | [.int i, .int j] => if rngOk i ∧ rngOk j then .ok { xs := rangeD i (j - i).toNat } M1 else .bad
  | _ => .bad := rfl
@[simp] theorem le_line {n : Nat} (h : n ≤ 16777216) : (n ≤ sizeLine) = True := eq_true h
@[simp] theorem rangeD_len (a : Int) (n : Nat) : (rangeD a n).length = n := by simp [rangeD_eq]
theorem filter_all {α : Type} (xs : List α) : xs.filter (fun _ => true) = xs := by simp
section
variable (i j : Int) (b c : Bool) (x y : Str) (n : String) (ds es : List D) (l : Nat) (M : Mem) (d e : D) (ns : List Int)
@[simp] theorem fin_none (o : Bool) : fin o none M = .bad := rfl
@[simp] theorem fin_v (o : Bool) : fin o (some (.v d)) M = .ok d M := rfl
@[simp] theorem fin_lt : fin true (some (.l ds)) M = .ok (.loc M.length) (M ++ [some ds]) := rfl
@[simp] theorem fin_lf : fin false (some (.l ds)) M = .ok (.lst ds) M := rfl
@[simp] theorem fin_p (o : Bool) : fin o (some (.p l ds d)) M = .ok d (M.set l (some ds)) := rfl
@[simp] theorem andS_bad {α : Type} (τ : DSt) (k : α → Mem → RS) : andS (R.bad (α := α)) τ k = .bad := rfl
@[simp] theorem oSub_ii : oSub (.int i) (.int j) M = some (.v (.int (i - j))) := rfl
@[simp] theorem oDiv_ii : oDiv (.int i) (.int j) M = (if CDivG i j then some (D.int (i.fdiv j)) else none).map .v := rfl
@[simp] theorem oMod_ii : oMod (.int i) (.int j) M = (if j ≠ 0 then some (D.int (i.fmod j)) else none).map .v := rfl
@[simp] theorem oPow_ii : oPow (.int i) (.int j) M = (if CPow i j then some (D.int (i ^ j.toNat)) else none).map .v := rfl
@[simp] theorem oLt_ii : oLt (.int i) (.int j) M = some (.v (.bl (decide (i < j)))) := rfl
@[simp] theorem oLe_ii : oLe (.int i) (.int j) M = some (.v (.bl (decide (i ≤ j)))) := rfl
@[simp] theorem oGt_ii : oGt (.int i) (.int j) M = some (.v (.bl (decide (j < i)))) := rfl
@[simp] theorem oGe_ii : oGe (.int i) (.int j) M = some (.v (.bl (decide (j ≤ i)))) := rfl
@[simp] theorem oNeg_i : oNeg (.int i) M = some (.v (.int (-i))) := rfl
@[simp] theorem oAdd_ii : oAdd (.int i) (.int j) M = some (.v (.int (i + j))) := rfl
@[simp] theorem oAdd_tt : oAdd (.tup ds) (.tup es) M = if ds.length + es.length ≤ sizeLine then some (.v (.tup (ds ++ es))) else none := rfl
@[simp] theorem oAdd_l : oAdd (.lst ds) e M = (ownL e M).bind fun es => if ds.length + es.length ≤ sizeLine then some (.l (ds ++ es)) else none := rfl
@[simp] theorem oAdd_loc : oAdd (.loc l) e M = (memAt M l).bind fun ds => (ownL e M).bind fun es => if ds.length + es.length ≤ sizeLine then some (.l (ds ++ es)) else none := rfl
@[simp] theorem oMul_ii : oMul (.int i) (.int j) M = if CMulG i j then some (.v (.int (i * j))) else none := rfl
@[simp] theorem oMul_ti : oMul (.tup ds) (.int j) M = if ds ≠ [] ∧ 2 ≤ j ∧ j ≤ 1000 ∧ ds.length ≤ 1000 then some (.v (.tup (repD j.toNat ds))) else none := rfl
@[simp] theorem oMul_li : oMul (.lst ds) (.int j) M = if repOk ds.length j then some (.l (repD j.toNat ds)) else none := rfl
@[simp] theorem isNon_non : isNon .non = true := rfl
@[simp] theorem isNon_int : isNon (.int i) = false := rfl
@[simp] theorem isNon_bl : isNon (.bl b) = false := rfl
@[simp] theorem isNon_str : isNon (.str x) = false := rfl
@[simp] theorem isNon_tup : isNon (.tup ds) = false := rfl
@[simp] theorem isNon_lst : isNon (.lst ds) = false := rfl
@[simp] theorem isNon_loc : isNon (.loc l) = false := rfl
@[simp] theorem isNon_dic : isNon .dic = false := rfl
@[simp] theorem scaV_non : scaV .non = some .non := rfl
@[simp] theorem scaV_int : scaV (.int i) = some (.int i) := rfl
@[simp] theorem scaV_bl : scaV (.bl b) = some (.bl b) := rfl
@[simp] theorem scaV_str : scaV (.str x) = some (.str x) := rfl
@[simp] theorem seqOf_tup : seqOf (.tup ds) M = some { xs := ds } := rfl
@[simp] theorem seqOf_kt : seqOf (.kt ds) M = some { xs := ds } := rfl
@[simp] theorem seqOf_lst : seqOf (.lst ds) M = some { xs := ds } := rfl
@[simp] theorem seqOf_scr : seqOf (.scr ns) M = some { xs := ns.map D.int } := rfl
theorem seqOf_loc {l : Nat} {M : Mem} {ds : List D} (h : memAt M l = some ds) : seqOf (.loc l) M = some { xs := ds, src := [(l, ds)] } := by
  show (match M[l]? with | some (some ds) => some ({ xs := ds, src := [(l, ds)] } : ItD) | _ => none) = _
  rw [mem_eq h]
theorem lstOf_loc {l : Nat} {M : Mem} {ds : List D} (h : memAt M l = some ds) : lstOf (.loc l) M = some { xs := ds, src := [(l, ds)] } := seqOf_loc h
@[simp] theorem lstOf_lst : lstOf (.lst ds) M = some { xs := ds } := rfl
@[simp] theorem lstOf_scr : lstOf (.scr ns) M = some { xs := ns.map D.int } := rfl
@[simp] theorem tupOf_tup : tupOf (.tup ds) = some ds := rfl
@[simp] theorem tupOf_kt : tupOf (.kt ds) = some ds := rfl
@[simp] theorem tupOf_lst : tupOf (.lst ds) = none := rfl
@[simp] theorem tupOf_loc : tupOf (.loc l) = none := rfl
@[simp] theorem ownL_lst : ownL (.lst ds) M = some ds := rfl
@[simp] theorem ownL_loc : ownL (.loc l) M = memAt M l := rfl
@[simp] theorem intOf_int : intOf (.int i) = some i := rfl
@[simp] theorem placeOf_loc : placeOf (.loc l) = some l := rfl
@[simp] theorem tyM_loc : tyOfM (.loc l) M = (memAt M l).map fun _ => "list" := rfl
@[simp] theorem tyM_non : tyOfM .non M = some "NoneType" := rfl
@[simp] theorem tyM_bl : tyOfM (.bl b) M = some "bool" := rfl
@[simp] theorem tyM_int : tyOfM (.int i) M = some "int" := rfl
@[simp] theorem tyM_str : tyOfM (.str x) M = some "str" := rfl
@[simp] theorem tyM_tup : tyOfM (.tup ds) M = some "tuple" := rfl
@[simp] theorem tyM_lst : tyOfM (.lst ds) M = some "list" := rfl
@[simp] theorem tyM_kt : tyOfM (.kt ds) M = some "tuple" := rfl
@[simp] theorem tyM_dic : tyOfM .dic M = some "dict" := rfl
@[simp] theorem dTru_non : dTru .non M = some false := rfl
@[simp] theorem dTru_bl : dTru (.bl b) M = some b := rfl
@[simp] theorem dTru_int : dTru (.int i) M = some (i != 0) := rfl
@[simp] theorem dTru_tup : dTru (.tup ds) M = some (!ds.isEmpty) := rfl
@[simp] theorem dTru_lst : dTru (.lst ds) M = some (!ds.isEmpty) := rfl
@[simp] theorem dTru_dic : dTru .dic M = some false := rfl
@[simp] theorem oIs_n : oIs d .non M = some (.v (.bl (isNon d))) := rfl
@[simp] theorem oIsNot_n : oIsNot d .non M = some (.v (.bl (!isNon d))) := rfl
@[simp] theorem oEq_ii : oEq (.int i) (.int j) M = some (.v (.bl (decide (i = j)))) := by simp [oEq, scal, scaV]
@[simp] theorem oNe_ii : oNe (.int i) (.int j) M = some (.v (.bl (!decide (i = j)))) := by simp [oNe, scal, scaV]
@[simp] theorem oEq_bb : oEq (.bl b) (.bl c) M = some (.v (.bl (decide (b = c)))) := by simp [oEq, scal, scaV]
@[simp] theorem oEq_ss : oEq (.str x) (.str y) M = some (.v (.bl (decide (x = y)))) := by simp [oEq, scal, scaV]
@[simp] theorem oIsi_1 : oIsi [d, .ty n] M = (tyOfM d M).bind fun t => if n ∈ tys ∧ n ≠ "NoneType" then some (.v (.bl (isTy t n))) else none := rfl
@[simp] theorem oIsi_2 : oIsi [d, .tup ds] M = (tyOfM d M).bind fun t => (tyNames ds).bind fun ns => if (ns.all fun n => decide (n ∈ tys) && decide (n ≠ "NoneType")) = true then some (.v (.bl (ns.any (isTy t)))) else none := rfl
@[simp] theorem oLen_1 : oLen [d] M = (seqOf d M).map fun it => .v (.int it.xs.length) := rfl
@[simp] theorem oAbs_1 : oAbs [.int i] M = some (.v (.int (if i < 0 then -i else i))) := rfl
@[simp] theorem oInt_i : oInt [.int i] M = some (.v (.int i)) := rfl
@[simp] theorem oInt_b : oInt [.bl b] M = some (.v (.int (if b then 1 else 0))) := rfl
@[simp] theorem oMax2_1 : oMax2 [.int i, .int j] M = some (.v (.int (if j > i then j else i))) := rfl
@[simp] theorem oMin2_1 : oMin2 [.int i, .int j] M = some (.v (.int (if j < i then j else i))) := rfl
@[simp] theorem oGcd_1 : oGcd [.int i, .int j] M = some (.v (.int ((Nat.gcd i.natAbs j.natAbs : Nat) : Int))) := rfl
@[simp] theorem oComb_1 : oComb [.int i, .int j] M = if 0 ≤ i ∧ i ≤ 18000 ∧ 0 ≤ j then some (.v (.int (PySem.W.mcComb i j))) else none := rfl
@[simp] theorem oSum_1 : oSum [d] M = (lstOf d M).bind fun it => (intsOf it.xs).bind fun is => (some (D.int is.sum)).map .v := rfl
@[simp] theorem oAll_1 : oAll [d] M = (lstOf d M).bind fun it => (blsOf it.xs).map fun is => .v (.bl (is.all id)) := rfl
@[simp] theorem oAny_1 : oAny [d] M = (lstOf d M).bind fun it => (blsOf it.xs).map fun is => .v (.bl (is.any id)) := rfl
@[simp] theorem oList_1 : oList [d] M = (seqOf d M).map fun it => .l it.xs := rfl
@[simp] theorem oTuple_t : oTuple [.tup ds] M = some (.v (.tup ds)) := rfl
@[simp] theorem oTuple_l : oTuple [.lst ds] M = some (.v (.tup ds)) := rfl
theorem oTuple_loc {l : Nat} {M : Mem} {ds : List D} (h : memAt M l = some ds) : oTuple [.loc l] M = some (.v (.tup ds)) := by
  show (lstOf (.loc l) M).map (fun it => ON.v (.tup it.xs)) = _
  rw [lstOf_loc h]
  rfl
@[simp] theorem oRangeL_1 : oRangeL [.int i] M = if RgOk 0 i then some (.l (rangeD 0 i.toNat)) else none := rfl
@[simp] theorem oRev_l : oRev d M = (lstOf d M).map fun it => .l it.xs.reverse := rfl
end
section
variable {α : Type} (a b c d e f g h : α) (xs : List α)
@[simp] theorem atI_0 : atI (a :: xs) 0 = some a := atI_nat (j := 0) rfl
@[simp] theorem atI_1 : atI (a :: b :: xs) 1 = some b := atI_nat (j := 1) rfl
@[simp] theorem atI_2 : atI (a :: b :: c :: xs) 2 = some c := atI_nat (j := 2) rfl
@[simp] theorem atI_3 : atI (a :: b :: c :: d :: xs) 3 = some d := atI_nat (j := 3) rfl
@[simp] theorem atI_4 : atI (a :: b :: c :: d :: e :: xs) 4 = some e := atI_nat (j := 4) rfl
theorem atI_of {xs : List α} {i : Int} {x : α} (h0 : 0 ≤ i) (h : xs[i.toNat]? = some x) : atI xs i = some x := by
  have := atI_nat h
  rwa [Int.toNat_of_nonneg h0] at this
theorem ixN_of {n : Nat} {i : Int} (h0 : 0 ≤ i) (h : i < n) : ixN n i = some i.toNat := by
  unfold ixN
  rw [if_pos h0, if_pos h]
theorem atI_map {β : Type} (f : β → α) (xs : List β) (i : Int) : atI (xs.map f) i = (atI xs i).map f := by
  unfold atI
  rw [List.length_map]
  cases ixN xs.length i with
  | none => rfl
  | some j => simp
end
theorem scal_ii (a b : Int) : scal (.int a) (.int b) = true := rfl
@[simp] theorem dec_vint (a b : Int) : (V.int a = V.int b) = (a = b) := by simp
@[simp] theorem dec_vbl (a b : Bool) : (V.bl a = V.bl b) = (a = b) := by simp
@[simp] theorem dec_vstr (a b : Str) : (V.str a = V.str b) = (a = b) := by simp
@[simp] theorem memAt_app (M : Mem) (ds : List D) : memAt (M ++ [some ds]) M.length = some ds := by simp [memAt]
theorem memAt_of {M : Mem} {l : Nat} {ds : List D} (h : M[l]? = some (some ds)) : memAt M l = some ds := by simp [memAt, h]
theorem memAt_lt {M : Mem} {l : Nat} {ds : List D} (h : memAt M l = some ds) : l < M.length := (List.getElem?_eq_some_iff.mp (mem_eq h)).1
@[simp] theorem memAt_set_self {M : Mem} {l : Nat} {ds : List D} (h : l < M.length) : memAt (M.set l (some ds)) l = some ds := by simp [memAt, h]
theorem memAt_set_ne {M : Mem} {l k : Nat} {o : Option (List D)} (h : k ≠ l) : memAt (M.set k o) l = memAt M l := by simp [memAt, List.getElem?_set_ne h]
theorem memAt_app_lt {M : Mem} {l : Nat} {o : Option (List D)} (h : l < M.length) : memAt (M ++ [o]) l = memAt M l := by simp [memAt, List.getElem?_append_left h]

/-- a loop, step by step: R says how the state stands for x -/
theorem forL_rel {α β : Type} {src : List (Nat × List D)} {g : GM} {b : SM} {enc : β → D} {R : α → DSt → Mem → Prop} {f : α → β → α} {Inv : α → List β → Prop}
    (hs : ∀ x y ys τ M, Inv x (y :: ys) → R x τ M → Chk src M ∧ ∃ τ1 M1 τ' M', g (enc y) τ M = .ok τ1 M1 ∧ (b τ1 M1 = .nx τ' M' ∨ b τ1 M1 = .ct τ' M') ∧ R (f x y) τ' M' ∧ Inv (f x y) ys)
    (he : ∀ x τ M, Inv x [] → R x τ M → Chk src M) : ∀ (ys : List β) (x : α) (τ : DSt) (M : Mem), Inv x ys → R x τ M →
    ∃ τ' M', forL src g b (ys.map enc) τ M = .nx τ' M' ∧ R (ys.foldl f x) τ' M' ∧ Inv (ys.foldl f x) []
  | [], x, τ, M, hi, hr => ⟨τ, M, by simp [forL, he x τ M hi hr], hr, hi⟩
  | y :: ys, x, τ, M, hi, hr => by
    obtain ⟨hc, τ1, M1, τ', M', e1, e2, hr', hi'⟩ := hs x y ys τ M hi hr
    obtain ⟨τ2, M2, e3, hr2, hi2⟩ := forL_rel hs he ys (f x y) τ' M' hi' hr'
    refine ⟨τ2, M2, ?_, hr2, hi2⟩
    rw [List.map_cons]
    unfold forL
    rw [if_pos hc]
    simp only [e1]
    rcases e2 with e2 | e2 <;> (simp only [e2]; exact e3)
/-- a loop that is left by break when it is done -/
theorem forL_brk {α : Type} {g : GM} {b : SM} {R : α → DSt → Mem → Prop} {done : α → Bool} {f : α → α} {Inv : α → Prop}
    (hb : ∀ x d τ M, Inv x → R x τ M → done x = true → ∃ τ1 M1 τ' M', g d τ M = .ok τ1 M1 ∧ b τ1 M1 = .bk τ' M' ∧ R x τ' M')
    (hs : ∀ x d τ M, Inv x → R x τ M → done x = false → ∃ τ1 M1 τ' M', g d τ M = .ok τ1 M1 ∧ b τ1 M1 = .nx τ' M' ∧ R (f x) τ' M' ∧ Inv (f x)) :
    ∀ (k : Nat) (ds : List D) (x : α) (τ : DSt) (M : Mem), Inv x → R x τ M → k < ds.length → done (Nat.repeat f k x) = true → (∀ j, j < k → done (Nat.repeat f j x) = false) →
      ∃ τ' M', forL [] g b ds τ M = .nx τ' M' ∧ R (Nat.repeat f k x) τ' M'
  | k, [], x, τ, M, hi, hr, hk, hd, hn => absurd hk (Nat.not_lt_zero _)
  | 0, d :: ds, x, τ, M, hi, hr, hk, hd, hn => by
    obtain ⟨τ1, M1, τ', M', e1, e2, hr'⟩ := hb x d τ M hi hr hd
    refine ⟨τ', M', ?_, hr'⟩
    unfold forL
    simp [e1, e2]
  | k + 1, d :: ds, x, τ, M, hi, hr, hk, hd, hn => by
    obtain ⟨τ1, M1, τ', M', e1, e2, hr', hi'⟩ := hs x d τ M hi hr (hn 0 (by omega))
    have rep : ∀ j, Nat.repeat f j (f x) = Nat.repeat f (j + 1) x := fun j => by
      induction j with
      | zero => rfl
      | succ j ih => show f (Nat.repeat f j (f x)) = _; rw [ih]; rfl
    obtain ⟨τ2, M2, e3, hr2⟩ := forL_brk hb hs k ds (f x) τ' M' hi' hr' (by simpa using hk) (by rw [rep]; exact hd) (fun j hj => by rw [rep]; exact hn (j + 1) (by omega))
    refine ⟨τ2, M2, ?_, by rw [← rep]; exact hr2⟩
    unfold forL
    simp [e1, e2, e3]
/-- a while loop by steps -/
theorem whileN_rel {α : Type} {c : TM} {b : SM} {R : α → DSt → Mem → Prop} {done : α → Bool} {f : α → α} {Inv : α → Prop}
    (hd : ∀ x τ M, Inv x → R x τ M → ∃ M1, c τ M = .ok (!done x) M1 ∧ R x τ M1)
    (hs : ∀ x τ M, Inv x → R x τ M → done x = false → ∃ τ' M', b τ M = .nx τ' M' ∧ R (f x) τ' M' ∧ Inv (f x)) :
    ∀ (k : Nat) (x : α) (τ : DSt) (M : Mem), Inv x → R x τ M → done (Nat.repeat f k x) = true → (∀ j, j < k → done (Nat.repeat f j x) = false) →
      ∃ τ' M', whileN c b (k + 1) τ M = .nx τ' M' ∧ R (Nat.repeat f k x) τ' M'
  | 0, x, τ, M, hi, hr, h0, hn => by
    obtain ⟨M1, e1, hr1⟩ := hd x τ M hi hr
    have h0 : done x = true := h0
    refine ⟨τ, M1, ?_, hr1⟩
    unfold whileN
    simp [e1, h0]
  | k + 1, x, τ, M, hi, hr, h0, hn => by
    obtain ⟨M1, e1, hr1⟩ := hd x τ M hi hr
    have hx : done x = false := hn 0 (by omega)
    obtain ⟨τ', M', e2, hr', hi'⟩ := hs x τ M1 hi hr1 hx
    have rep : ∀ j, Nat.repeat f j (f x) = Nat.repeat f (j + 1) x := fun j => by
      induction j with
      | zero => rfl
      | succ j ih => show f (Nat.repeat f j (f x)) = _; rw [ih]; rfl
    obtain ⟨τ2, M2, e3, hr2⟩ := whileN_rel hd hs k (f x) τ' M' hi' hr' (by rw [rep]; exact h0) (fun j hj => by rw [rep]; exact hn (j + 1) (by omega))
    refine ⟨τ2, M2, ?_, by rw [← rep]; exact hr2⟩
    unfold whileN
    simp [e1, hx, e2, e3]
theorem sWhile_rel {α : Type} {c : TM} {b : SM} {R : α → DSt → Mem → Prop} {done : α → Bool} {f : α → α} {Inv : α → Prop}
    (hd : ∀ x τ M, Inv x → R x τ M → ∃ M1, c τ M = .ok (!done x) M1 ∧ R x τ M1)
    (hs : ∀ x τ M, Inv x → R x τ M → done x = false → ∃ τ' M', b τ M = .nx τ' M' ∧ R (f x) τ' M' ∧ Inv (f x))
    {k : Nat} {x : α} {τ : DSt} {M : Mem} (hi : Inv x) (hr : R x τ M) (h1 : done (Nat.repeat f k x) = true) (h2 : ∀ j, j < k → done (Nat.repeat f j x) = false) :
    ∃ τ' M', sWhile c b τ M = .nx τ' M' ∧ R (Nat.repeat f k x) τ' M' := by
  obtain ⟨τ', M', e, hr'⟩ := whileN_rel hd hs k x τ M hi hr h1 h2
  refine ⟨τ', M', ?_, hr'⟩
  rw [sWhile_eq (n := k + 1) (by rw [e]; exact fun h => nomatch h), e]
/-- a comprehension whose items' values are known -/
theorem lcL_map {β : Type} {src : List (Nat × List D)} {g : GM} {t : TM} {e : EM} {enc : β → D} {p : β → Bool} {v : β → D} {τ : DSt} {M : Mem} (hc : Chk src M) : ∀ (ys : List β),
    (∀ y, y ∈ ys → ∃ τ1, g (enc y) τ M = .ok τ1 M ∧ t τ1 M = .ok (p y) M ∧ (p y = true → e τ1 M = .ok (v y) M)) → lcL src g t e (ys.map enc) τ M = .ok ((ys.filter p).map v) M
  | [], _ => by simp [lcL, hc]
  | y :: ys, h => by
    obtain ⟨τ1, e1, e2, e3⟩ := h y List.mem_cons_self
    have ih := lcL_map hc ys fun z hz => h z (List.mem_cons_of_mem _ hz)
    rw [List.map_cons]
    unfold lcL
    rw [if_pos hc]
    cases hp : p y with
    | true => simp [e1, e2, hp, e3 hp, ih, List.filter_cons]
    | false => simp [e1, e2, hp, ih, List.filter_cons]
theorem lcL_all {β : Type} {src : List (Nat × List D)} {g : GM} {e : EM} {enc : β → D} {v : β → D} {τ : DSt} {M : Mem} (hc : Chk src M) (ys : List β)
    (h : ∀ y, y ∈ ys → ∃ τ1, g (enc y) τ M = .ok τ1 M ∧ e τ1 M = .ok (v y) M) : lcL src g mYes e (ys.map enc) τ M = .ok (ys.map v) M := by
  have := lcL_map (t := mYes) (e := e) (p := fun _ => true) (v := v) hc ys fun y hy => by
    obtain ⟨τ1, e1, e2⟩ := h y hy
    exact ⟨τ1, e1, by simp, fun _ => e2⟩
  rwa [filter_all] at this
/-! trees without places -/
@[simp] theorem clo_int (n : Nat) (i : Int) : Clo n (.int i) = True := rfl
@[simp] theorem clo_bl (n : Nat) (i : Bool) : Clo n (.bl i) = True := rfl
@[simp] theorem clo_str (n : Nat) (i : Str) : Clo n (.str i) = True := rfl
@[simp] theorem clo_non (n : Nat) : Clo n .non = True := rfl
@[simp] theorem clo_tup (n : Nat) (ds : List D) : Clo n (.tup ds) = CloL n ds := rfl
@[simp] theorem clo_lst (n : Nat) (ds : List D) : Clo n (.lst ds) = CloL n ds := rfl
@[simp] theorem clo_loc (n l : Nat) : Clo n (.loc l) = (l < n) := rfl
@[simp] theorem cloL_nil (n : Nat) : CloL n [] = True := rfl
@[simp] theorem cloL_cons (n : Nat) (d : D) (ds : List D) : CloL n (d :: ds) = (Clo n d ∧ CloL n ds) := rfl
@[simp] theorem cloL_ints (n : Nat) (is : List Int) : CloL n (is.map .int) = True := by
  simp [CloL_iff]
theorem fz_clo {M : Mem} {n : Nat} {d : D} (h : Clo n d) : fz M n d = some d := by simp [fz, h]
theorem fz_loc {M : Mem} {n l : Nat} {ds : List D} (hl : n ≤ l) (h : memAt M l = some ds) (hc : CloL n ds) (hk : ∀ k, ds.mapM (fzD M n (k + 1)) = some ds) : fz M n (.loc l) = some (.lst ds) := by
  unfold fz
  rw [if_neg (by simp; omega)]
  show (if l < n then some (D.loc l) else (memAt M l).bind fun ds => (ds.mapM (fzD M n 5)).map D.lst) = _
  rw [if_neg (by omega), h]
  show (ds.mapM (fzD M n (4 + 1))).map D.lst = _
  rw [hk 4]
  rfl
theorem mapM_some {f : D → Option D} : ∀ {ds : List D}, (∀ d ∈ ds, f d = some d) → ds.mapM f = some ds
  | [], _ => rfl
  | d :: ds, h => by
    rw [List.mapM_cons, h d List.mem_cons_self, mapM_some fun x hx => h x (List.mem_cons_of_mem _ hx)]
    rfl
theorem fz_ints {M : Mem} {n l : Nat} {is : List Int} (hl : n ≤ l) (h : memAt M l = some (is.map .int)) : fz M n (.loc l) = some (.lst (is.map .int)) := by
  refine fz_loc hl h (by simp) fun k => mapM_some fun d hd => ?_
  obtain ⟨i, _, rfl⟩ := List.mem_map.mp hd
  rfl
theorem kept_app {M : Mem} {o : List (Option (List D))} : Kept M (M ++ o) := ⟨by simp, fun l hl => .inl (List.getElem?_append_left hl)⟩
theorem trunc_app {M : Mem} {o : List (Option (List D))} {d d' : D} (h : fz (M ++ o) M.length d = some d') : trunc M (M ++ o) d = .ok d' M := by
  unfold trunc
  rw [if_pos kept_app, h]
  simp
theorem trunc_same {M : Mem} {d d' : D} (h : fz M M.length d = some d') : trunc M M d = .ok d' M := by
  have := trunc_app (o := []) (d := d) (d' := d') (M := M) (by rw [List.append_nil]; exact h)
  rw [List.append_nil] at this
  exact this
end DM

/-! DM: loops by measures; numbers. -/
namespace DM
open PySem PySem.Spec PyProof.Rows L2
/-- a loop over a range that is left by break, or goes on with a smaller measure -/
theorem forL_mu {α : Type} {g : GM} {b : SM} {R : α → DSt → Mem → Prop} {F : DSt → Mem → Prop} (μ : α → Nat)
    (h : ∀ x d τ M, R x τ M → ∃ τ1 M1, g d τ M = .ok τ1 M1 ∧ ((∃ τ' M', b τ1 M1 = .bk τ' M' ∧ F τ' M') ∨ (∃ x' τ' M', b τ1 M1 = .nx τ' M' ∧ R x' τ' M' ∧ μ x' < μ x))) :
    ∀ (ds : List D) (x : α) (τ : DSt) (M : Mem), R x τ M → μ x < ds.length → ∃ τ' M', forL [] g b ds τ M = .nx τ' M' ∧ F τ' M'
  | [], x, τ, M, hr, hk => absurd hk (Nat.not_lt_zero _)
  | d :: ds, x, τ, M, hr, hk => by
    obtain ⟨τ1, M1, e1, e2⟩ := h x d τ M hr
    rcases e2 with ⟨τ', M', e2, hf⟩ | ⟨x', τ', M', e2, hr', hm⟩
    · refine ⟨τ', M', ?_, hf⟩
      unfold forL
      simp [e1, e2]
    · obtain ⟨τ2, M2, e3, hf⟩ := forL_mu μ h ds x' τ' M' hr' (by simp at hk; omega)
      refine ⟨τ2, M2, ?_, hf⟩
      unfold forL
      simp [e1, e2, e3]
/-- a while loop that goes on with a smaller measure -/
theorem whileN_mu {α : Type} {c : TM} {b : SM} {R : α → DSt → Mem → Prop} {F : DSt → Mem → Prop} (μ : α → Nat)
    (h : ∀ x τ M, R x τ M → (∃ M1, c τ M = .ok false M1 ∧ F τ M1) ∨ (∃ M1 x' τ' M', c τ M = .ok true M1 ∧ b τ M1 = .nx τ' M' ∧ R x' τ' M' ∧ μ x' < μ x)) :
    ∀ (n : Nat) (x : α) (τ : DSt) (M : Mem), R x τ M → μ x < n → ∃ τ' M', whileN c b n τ M = .nx τ' M' ∧ F τ' M'
  | 0, x, τ, M, hr, hk => absurd hk (Nat.not_lt_zero _)
  | n + 1, x, τ, M, hr, hk => by
    rcases h x τ M hr with ⟨M1, e1, hf⟩ | ⟨M1, x', τ', M', e1, e2, hr', hm⟩
    · refine ⟨τ, M1, ?_, hf⟩
      unfold whileN
      simp [e1]
    · obtain ⟨τ2, M2, e3, hf⟩ := whileN_mu μ h n x' τ' M' hr' (by omega)
      refine ⟨τ2, M2, ?_, hf⟩
      unfold whileN
      simp [e1, e2, e3]
theorem sWhile_mu {α : Type} {c : TM} {b : SM} {R : α → DSt → Mem → Prop} {F : DSt → Mem → Prop} (μ : α → Nat)
    (h : ∀ x τ M, R x τ M → (∃ M1, c τ M = .ok false M1 ∧ F τ M1) ∨ (∃ M1 x' τ' M', c τ M = .ok true M1 ∧ b τ M1 = .nx τ' M' ∧ R x' τ' M' ∧ μ x' < μ x))
    (x : α) (τ : DSt) (M : Mem) (hr : R x τ M) : ∃ τ' M', sWhile c b τ M = .nx τ' M' ∧ F τ' M' := by
  obtain ⟨τ', M', e, hf⟩ := whileN_mu μ h (μ x + 1) x τ M hr (by omega)
  refine ⟨τ', M', ?_, hf⟩
  rw [sWhile_eq (n := μ x + 1) (by rw [e]; exact fun h => nomatch h), e]
/-- a loop over a list that goes on to its end -/
theorem forL_all {β : Type} {g : GM} {b : SM} {enc : β → D} {src : List (Nat × List D)} {R : List β → DSt → Mem → Prop}
    (h : ∀ y ys τ M, R (y :: ys) τ M → Chk src M ∧ ∃ τ1 M1 τ' M', g (enc y) τ M = .ok τ1 M1 ∧ (b τ1 M1 = .nx τ' M' ∨ b τ1 M1 = .ct τ' M') ∧ R ys τ' M') (h0 : ∀ τ M, R [] τ M → Chk src M) :
    ∀ (ys : List β) (τ : DSt) (M : Mem), R ys τ M → ∃ τ' M', forL src g b (ys.map enc) τ M = .nx τ' M' ∧ R [] τ' M'
  | [], τ, M, hr => ⟨τ, M, by simp [forL, h0 τ M hr], hr⟩
  | y :: ys, τ, M, hr => by
    obtain ⟨hc, τ1, M1, τ', M', e1, e2, hr'⟩ := h y ys τ M hr
    obtain ⟨τ2, M2, e3, hr2⟩ := forL_all h h0 ys τ' M' hr'
    refine ⟨τ2, M2, ?_, hr2⟩
    rw [List.map_cons]
    unfold forL
    rw [if_pos hc]
    simp only [e1]
    rcases e2 with e2 | e2 <;> (simp only [e2]; exact e3)
/-- a loop over so many things: what holds at each turn -/
theorem forL_idx {g : GM} {b : SM} {enc : Nat → D} {src : List (Nat × List D)} {n : Nat} {R : Nat → DSt → Mem → Prop}
    (h : ∀ i τ M, i < n → R i τ M → Chk src M ∧ ∃ τ1 M1 τ' M', g (enc i) τ M = .ok τ1 M1 ∧ (b τ1 M1 = .nx τ' M' ∨ b τ1 M1 = .ct τ' M') ∧ R (i + 1) τ' M') (h0 : ∀ τ M, R n τ M → Chk src M)
    {τ : DSt} {M : Mem} (hr : R 0 τ M) : ∃ τ' M', forL src g b ((List.range n).map enc) τ M = .nx τ' M' ∧ R n τ' M' := by
  have fin : ∀ i, ([] : List Nat) = (List.range n).drop i → i ≤ n → i = n := fun i h hi => by
    have := congrArg List.length h
    simp at this
    omega
  have := forL_all (g := g) (b := b) (enc := enc) (src := src) (R := fun ys τ M => ∃ i, ys = (List.range n).drop i ∧ i ≤ n ∧ R i τ M)
    (fun y ys τ M hR => by
      obtain ⟨i, e, hi, hR⟩ := hR
      have hlt : i < n := by
        by_cases z : i < n
        · exact z
        · have : (List.range n).drop i = [] := List.drop_eq_nil_of_le (by simp; omega)
          rw [this] at e
          cases e
      have ed : (List.range n).drop i = i :: (List.range n).drop (i + 1) := by
        rw [List.drop_eq_getElem_cons (by simpa using hlt)]
        simp
      rw [ed] at e
      obtain ⟨ey, es⟩ := List.cons.inj e
      obtain ⟨hc, τ1, M1, τ', M', e1, e2, e3⟩ := h i τ M hlt hR
      exact ⟨hc, τ1, M1, τ', M', by rw [ey]; exact e1, e2, i + 1, es, hlt, e3⟩) (fun τ M ⟨i, e, hi, hR⟩ => by
      have := fin i e hi
      subst this
      exact h0 _ _ hR) (List.range n) τ M ⟨0, rfl, by omega, hr⟩
  obtain ⟨τ', M', e, i, h1, h2, h3⟩ := this
  have := fin i h1 h2
  subst this
  exact ⟨τ', M', e, h3⟩
/-- a loop over range(lo, lo + n): what holds at each turn -/
theorem forL_range {g : GM} {b : SM} {lo : Int} {n : Nat} {R : Nat → DSt → Mem → Prop}
    (h : ∀ i τ M, i < n → R i τ M → ∃ τ1 M1 τ' M', g (.int (lo + i)) τ M = .ok τ1 M1 ∧ (b τ1 M1 = .nx τ' M' ∨ b τ1 M1 = .ct τ' M') ∧ R (i + 1) τ' M')
    {τ : DSt} {M : Mem} (hr : R 0 τ M) : ∃ τ' M', forL [] g b (rangeD lo n) τ M = .nx τ' M' ∧ R n τ' M' := by
  rw [rangeD_eq]
  exact forL_idx (fun i τ M hi hR => ⟨by simp, h i τ M hi hR⟩) (fun _ _ _ => by simp) hr
theorem enumD_range' (f : Nat → D) : ∀ (n s : Nat), enumD s ((List.range' s n).map f) = (List.range' s n).map fun j => .tup [.int j, f j]
  | 0, s => rfl
  | n + 1, s => by
    rw [List.range'_succ, List.map_cons, List.map_cons]
    have := enumD_range' f n (s + 1)
    unfold enumD
    rw [← this]
theorem enumD_range (f : Nat → D) (n : Nat) : enumD 0 ((List.range n).map f) = (List.range n).map fun j => .tup [.int j, f j] := by
  have := enumD_range' f n 0
  rw [← List.range_eq_range'] at this
  exact this
/-! whole numbers -/
theorem fmod_pos {a b : Int} (h : 0 ≤ b) : a.fmod b = a % b := Int.fmod_eq_emod_of_nonneg _ h
theorem fdiv_pos {a b : Int} (h : 0 ≤ b) : a.fdiv b = a / b := Int.fdiv_eq_ediv_of_nonneg _ h
theorem cmul_l {i j : Int} (h : i.natAbs < 2 ^ 64) : CMulG i j := .inr (.inl h)
theorem cmul_r {i j : Int} (h : j.natAbs < 2 ^ 64) : CMulG i j := .inr (.inr h)
theorem log2_le {n k : Nat} (h : n < 2 ^ (k + 1)) : n.log2 ≤ k := by
  have := PySem.Flt.log2_lt_of (n := n) (k := k + 1) (by omega) h
  omega
theorem cmul_log {i j : Int} {a b : Nat} (hi : i.natAbs < 2 ^ (a + 1)) (hj : j.natAbs < 2 ^ (b + 1)) (h : a + b < 130000000) : CMulG i j := by
  have := log2_le hi
  have := log2_le hj
  exact .inl (by omega)
theorem cdiv_small {i j : Int} (h0 : j ≠ 0) (h : j.natAbs < 2 ^ 9000) : CDivG i j := ⟨h0, PySem.Flt.log2_lt_of (by omega) h⟩
end DM

/-! DM: a module's dict whose keys are whole numbers, read by [ ]. -/
namespace DM
open PySem PySem.Spec PyProof.Rows L2
def KRow (G : Gd) (r : Int × D) (e : DictEntry) : Prop := e.hash = hashInt r.1 ∧ (∃ t, e.key = .int r.1 t) ∧ ∃ v, RelV v e.val ∧ ∀ W : Wd, Rep G W r.2 v
def KDict (G : Gd) (a : Addr) (rows : List (Int × D)) : Prop :=
  ∃ (o : Obj) (es : Array DictEntry) (ep : Nat), G.K.lookup a = some o ∧ o.ExactDict ∧ o.data = .dict es ep ∧ Paired (KRow G) rows es.toList
theorem krow_keys {P : Program} {w : World} {G : Gd} {rows : List (Int × D)} {l : List DictEntry} (h : Paired (KRow G) rows l) : ∀ e ∈ l, ∃ k, (mixKind P w).is k e.key = true ∧ e.hash = (mixKind P w).hash k := by
  induction h with
  | nil => exact fun _ h => nomatch h
  | cons h t ih =>
    intro e he
    rcases List.mem_cons.mp he with rfl | he
    · obtain ⟨h1, ⟨t, h2⟩, _⟩ := h
      exact ⟨.inl _, by rw [h2]; exact mixKind_int P w _ t, h1⟩
    · exact ih e he
theorem krow_find {P : Program} {w : World} {G : Gd} {rows : List (Int × D)} {l : List DictEntry} (h : Paired (KRow G) rows l) {k : Int} {r : Int × D} (hr : rows.find? (fun r => r.1 == k) = some r) :
    ∃ e v, l.find? (fun e => (mixKind P w).is (.inl k) e.key) = some e ∧ RelV v e.val ∧ ∀ W : Wd, Rep G W r.2 v := by
  induction h with
  | nil => exact nomatch hr
  | @cons p e ps es h t ih =>
    obtain ⟨h1, ⟨t', h2⟩, v, h3, h4⟩ := h
    rw [List.find?_cons] at hr ⊢
    have hk : (mixKind P w).is (.inl k) e.key = (p.1 == k) := by
      rw [h2, mixKind_is]
      show Value.isInt k (.int p.1 t') = _
      by_cases q : p.1 = k <;> simp [Value.isInt, q]
    rw [hk]
    cases q : p.1 == k with
    | true =>
      rw [q] at hr
      cases hr
      exact ⟨e, v, rfl, h3, h4⟩
    | false =>
      rw [q] at hr
      exact ih hr
def eKd (rows : List (Int × D)) (b : EM) : EM := fun τ M => (b τ M).bind fun y M1 => match y with
  | .int k => match rows.find? (fun r => r.1 == k) with
    | some r => .ok r.2 M1
    | none => .bad
  | _ => .bad
section
variable {G : Gd} {X : Cx} {Γ : DC G X} {pos : Pos}
theorem de_kd {o i : Expr} {u : Addr} {rows : List (Int × D)} {mb : EM} (ho : PE X o (tC (.ref u))) (hd : KDict G u rows) (hi : DE Γ i mb) (hs : NoSl i := by intro _ _; rfl) : DE Γ (.Subscript o i pos) (eKd rows mb) := ⟨fun pins s σ H Q I q => by
  obtain ⟨τ, W, rfl, he, ok, rs, h⟩ := q
  refine subD_of PySem.F.slot_dict_getitem.lookup hs (thn (ho.run pins s σ W.H (fun v H1 => v = .ref u ∧ H1 = W.H) I ⟨rfl, rfl⟩) fun ov s1 ⟨x, H1, I1, rx, ex, eH⟩ => ?_)
  subst ex eH
  obtain rfl : ov = Value.ref u := rx
  refine thn (hi.run pins s1 σ W.H (fun y H2 => ∃ k r, y = .int k ∧ rows.find? (fun r => r.1 == k) = some r ∧ ∀ v : V, (∀ W : Wd, Rep G W r.2 v) → Q v H2) I1 (step he ok rs h fun d v W1 k1 e1 r1 h1 => ?_)) fun iv s2 ⟨y, H2, I2, ry, k, r, ey, hr, q⟩ => ?_
  · split at h1
    · rename_i k
      have r1 : v = .int k := r1
      split at h1
      · rename_i r hr
        exact ⟨k, r, r1, hr, fun v hv => h1 v W1 rfl k1 (Ext.refl W1) (hv W1)⟩
      · exact h1.elim
    · exact h1.elim
  · subst ey
    obtain ⟨ob, es, ep, lk, hx, hdt, hp⟩ := hd
    obtain ⟨e, v, h1, h2, h3⟩ := krow_find (P := X.prog) (w := X.w) hp hr
    have lk : X.K.lookup u = some ob := by rw [Γ.hK]; exact lk
    have mo : s2.heap.MapOf (mixKind X.prog X.w) u fun k => findBy (mixKind X.prog X.w).is es k := ⟨ob, es, ep, I2.kIn _ _ lk, hx, hdt, fun e he => krow_keys hp e (by simpa using he), fun _ => rfl⟩
    refine ⟨mo.typeIs, wpAny_getItem_of (k := .inl k) (v := e.val) (kV_is (k := .inl k) ry) mo ?_ ⟨v, H2, I2.tok _, h2, q v h3⟩⟩
    show (es.find? _).map _ = _
    rw [← Array.find?_toList, h1]
    rfl⟩
end
end DM

/-! DM: what the top has left: facts of the written part, and what the rules want of them. -/
namespace DM
open PySem PySem.Spec PyProof.Rows L2
section
variable {K : PySem.W.Frag} {h : Heap} {mg : Str → Option Value}
theorem Def1.mk1 (X : K.In h) {x : Str} {st : Stmt} {f : Addr} {oc : Value} {od : Option Addr} {kV doc pm : Value} {an : Option Addr} {cdv ct : Value} {osl : Array (Option Value)}
    (a : PySem.W.nsIn K mainGlobals x = some (some (.ref f))) (b : K.lookup f = some ⟨oc, od, .func (PySem.W.fnOf x x (defArgs st) (defBody st) (defScope st) .none kV doc pm an cdv ct), osl⟩) (c : PySem.W.codeIn K cdv x = true) (d : PySem.W.keepIn K (.ref f) = true) : Def1 K x st :=
  ⟨f, oc, od, kV, doc, pm, an, cdv, ct, osl, a, b, c, d⟩
def No1 (K : PySem.W.Frag) (x : Str) : Prop := PySem.W.nsIn K mainGlobals x = some none
theorem No1.mk1 (X : K.In h) {x : Str} (a : PySem.W.nsIn K mainGlobals x = some none) : No1 K x := a
theorem No1.get {x : Str} (e : No1 K x) (X : K.In h) (g : h.Ns mainGlobals mg) : mg x = none := PySem.W.mg_none_of X g e
def Blt1 (K : PySem.W.Frag) (x : Str) (b : String) : Prop := PySem.W.nsIn K mainGlobals x = some (some (.builtin b))
theorem Blt1.mk1 (X : K.In h) {x : Str} {b : String} (a : PySem.W.nsIn K mainGlobals x = some (some (.builtin b))) : Blt1 K x b := a
theorem Blt1.get {x : Str} {b : String} (e : Blt1 K x b) (X : K.In h) (g : h.Ns mainGlobals mg) : mg x = some (.builtin b) := PySem.W.mg_of X g e
def Int1 (K : PySem.W.Frag) (x : Str) (i : Int) : Prop := ∃ t, PySem.W.nsIn K mainGlobals x = some (some (.int i t))
theorem Int1.mk1 (X : K.In h) {x : Str} {i : Int} {t : Tok} (a : PySem.W.nsIn K mainGlobals x = some (some (.int i t))) : Int1 K x i := ⟨t, a⟩
theorem Int1.get {x : Str} {i : Int} (e : Int1 K x i) (X : K.In h) (g : h.Ns mainGlobals mg) : ∃ t, mg x = some (.int i t) := let ⟨t, a⟩ := e; ⟨t, PySem.W.mg_of X g a⟩

/-! ### tuples of whole numbers, tuples of such, dicts of such -/
def valInt : Value → Option Int
  | .int i _ => some i
  | _ => none
def valRef : Value → Option Addr
  | .ref a => some a
  | _ => none
def mapO {α β : Type} (f : α → Option β) : List α → Option (List β)
  | [] => some []
  | x :: xs => match f x, mapO f xs with
    | some y, some ys => some (y :: ys)
    | _, _ => none
def tupItems (o : Obj) : Option (List Value) := match o with
  | ⟨.type "tuple", _, .seq its _, _⟩ => if its.size ≤ sizeLine then some its.toList else none
  | _ => none
theorem mapO_paired {α β : Type} {f : α → Option β} : ∀ {xs : List α} {ys : List β}, mapO f xs = some ys → Paired (fun y x => f x = some y) ys xs
  | [], ys, h => by
    cases h
    exact .nil
  | x :: xs, ys, h => by
    unfold mapO at h
    split at h
    · rename_i y zs h1 h2
      cases h
      exact .cons h1 (mapO_paired h2)
    · cases h
/-- a tuple of whole numbers -/
def KtI (K : PySem.W.Frag) (u : Addr) (is : List Int) : Prop := ∃ o its, K.lookup u = some o ∧ tupItems o = some its ∧ mapO valInt its = some is
theorem KtI.mk1 (X : K.In h) {u : Addr} {o : Obj} {its : List Value} {is : List Int} (a : K.lookup u = some o) (b : tupItems o = some its) (c : mapO valInt its = some is) : KtI K u is := ⟨o, its, a, b, c⟩
theorem tup_items {o : Obj} {its : List Value} (h : tupItems o = some its) : ∃ (a : Array Value) (n : Nat), o.cls = .type "tuple" ∧ o.data = .seq a n ∧ a.size ≤ sizeLine ∧ a.toList = its := by
  unfold tupItems at h
  split at h
  · split at h
    · rename_i its' n _ hs
      cases h
      exact ⟨its', n, rfl, rfl, hs, rfl⟩
    · cases h
  · cases h
theorem KtI.rep {G : Gd} {u : Addr} {is : List Int} (t : KtI G.K u is) (W : Wd) : Rep G W (.kt (is.map .int)) (.ref u) := by
  obtain ⟨o, its, l, h1, h2⟩ := t
  obtain ⟨a, n, c, d, s, e⟩ := tup_items h1
  refine ⟨u, is.map V.int, rfl, ⟨o, a, n, l, c, d, s, ?_⟩, RepL.of_ints is⟩
  rw [e]
  have := mapO_paired h2
  clear h1 h2 l e c d s
  induction this with
  | nil => exact .nil
  | @cons i v is its h t ih =>
    refine .cons ?_ ih
    cases v <;> simp [valInt] at h
    subst h
    exact ⟨_, rfl⟩
/-- a tuple of tuples of whole numbers, at a name -/
def KtT (K : PySem.W.Frag) (x : Str) (rows : List (List Int)) : Prop := ∃ u o its as, PySem.W.nsIn K mainGlobals x = some (some (.ref u)) ∧ K.lookup u = some o ∧ tupItems o = some its ∧ mapO valRef its = some as ∧ Paired (fun r a => KtI K a r) rows as
theorem KtT.mk1 (X : K.In h) {x : Str} {u : Addr} {o : Obj} {its : List Value} {as : List Addr} {rows : List (List Int)} (a : PySem.W.nsIn K mainGlobals x = some (some (.ref u))) (b : K.lookup u = some o) (c : tupItems o = some its) (d : mapO valRef its = some as)
    (e : Paired (fun r a => KtI K a r) rows as) : KtT K x rows := ⟨u, o, its, as, a, b, c, d, e⟩
theorem KtT.get {G : Gd} {x : Str} {rows : List (List Int)} (t : KtT G.K x rows) (X : G.K.In h) (g : h.Ns mainGlobals mg) : ∃ u, mg x = some (.ref u) ∧ ∀ W : Wd, Rep G W (.kt (rows.map fun r => .kt (r.map .int))) (.ref u) := by
  obtain ⟨u, o, its, as, h1, l, h2, h3, h4⟩ := t
  refine ⟨u, PySem.W.mg_of X g h1, fun W => ?_⟩
  obtain ⟨a, n, c, d, s, e⟩ := tup_items h2
  refine ⟨u, as.map V.ref, rfl, ⟨o, a, n, l, c, d, s, ?_⟩, ?_⟩
  · rw [e]
    have := mapO_paired h3
    clear h2 h3 h4 l e c d s
    induction this with
    | nil => exact .nil
    | @cons i v is its h t ih =>
      refine .cons ?_ ih
      cases v <;> simp [valRef] at h
      subst h
      rfl
  · clear h3
    induction h4 with
    | nil => rfl
    | cons h t ih => exact ⟨_, _, rfl, h.rep W, ih⟩
/-- a tuple of whole numbers, at a name -/
def KtN (K : PySem.W.Frag) (x : Str) (is : List Int) : Prop := ∃ u, PySem.W.nsIn K mainGlobals x = some (some (.ref u)) ∧ KtI K u is
theorem KtN.mk1 (X : K.In h) {x : Str} {u : Addr} {is : List Int} (a : PySem.W.nsIn K mainGlobals x = some (some (.ref u))) (b : KtI K u is) : KtN K x is := ⟨u, a, b⟩
theorem KtN.get {G : Gd} {x : Str} {is : List Int} (t : KtN G.K x is) (X : G.K.In h) (g : h.Ns mainGlobals mg) : ∃ u, mg x = some (.ref u) ∧ ∀ W : Wd, Rep G W (.kt (is.map .int)) (.ref u) :=
  let ⟨u, a, b⟩ := t; ⟨u, PySem.W.mg_of X g a, b.rep⟩
/-- a dict from whole numbers to tuples of whole numbers, at a name -/
def dictRow (e : DictEntry) : Option (Int × Addr) := match e with
  | ⟨hs, .int i _, .ref a⟩ => if hs = hashInt i then some (i, a) else none
  | _ => none
def dictItems (o : Obj) : Option (List DictEntry) := match o with
  | ⟨.type "dict", none, .dict es _, ⟨[]⟩⟩ => some es.toList
  | _ => none
def KdN (K : PySem.W.Frag) (x : Str) (rows : List (Int × List Int)) : Prop := ∃ u o es ps, PySem.W.nsIn K mainGlobals x = some (some (.ref u)) ∧ K.lookup u = some o ∧ dictItems o = some es ∧ mapO dictRow es = some ps ∧ Paired (fun r p => r.1 = p.1 ∧ KtI K p.2 r.2) rows ps
theorem KdN.mk1 (X : K.In h) {x : Str} {u : Addr} {o : Obj} {es : List DictEntry} {ps : List (Int × Addr)} {rows : List (Int × List Int)} (a : PySem.W.nsIn K mainGlobals x = some (some (.ref u))) (b : K.lookup u = some o) (c : dictItems o = some es) (d : mapO dictRow es = some ps)
    (e : Paired (fun r p => r.1 = p.1 ∧ KtI K p.2 r.2) rows ps) : KdN K x rows := ⟨u, o, es, ps, a, b, c, d, e⟩
theorem dict_items {o : Obj} {es : List DictEntry} (h : dictItems o = some es) : ∃ (a : Array DictEntry) (n : Nat), o.ExactDict ∧ o.data = .dict a n ∧ a.toList = es := by
  unfold dictItems at h
  split at h
  · rename_i es' n
    cases h
    exact ⟨es', n, ⟨rfl, rfl, rfl⟩, rfl, rfl⟩
  · cases h
theorem KdN.get {G : Gd} {x : Str} {rows : List (Int × List Int)} (t : KdN G.K x rows) (X : G.K.In h) (g : h.Ns mainGlobals mg) : ∃ u, mg x = some (.ref u) ∧ KDict G u (rows.map fun r => (r.1, .kt (r.2.map .int))) := by
  obtain ⟨u, o, es, ps, h1, l, h2, h3, h4⟩ := t
  refine ⟨u, PySem.W.mg_of X g h1, ?_⟩
  obtain ⟨a, n, hx, hd, e⟩ := dict_items h2
  refine ⟨o, a, n, l, hx, hd, ?_⟩
  rw [e]
  have := mapO_paired h3
  clear h2 h3 e
  induction h4 generalizing es with
  | nil =>
    cases this
    exact .nil
  | @cons r p rs ps h t ih =>
    cases this with
    | @cons _ e _ es h' t' =>
      refine .cons ?_ (ih es t')
      obtain ⟨hs, k, v⟩ := e
      cases k <;> try (simp [dictRow] at h'; done)
      cases v <;> try (simp [dictRow] at h'; done)
      rename_i i t a
      unfold dictRow at h'
      simp only [Option.ite_none_right_eq_some, Option.some.injEq] at h'
      obtain ⟨h5, h6⟩ := h'
      subst h6
      obtain ⟨h7, h8⟩ := h
      refine ⟨?_, ⟨t, ?_⟩, .ref a, rfl, h8.rep⟩
      · rw [h5, h7]
      · show Value.int i t = Value.int r.1 t
        rw [h7]

/-! ### own exception classes -/
theorem Exc1.mk1 (X : K.In h) {x : Str} {C : Addr} (a : PySem.W.nsIn K mainGlobals x = some (some (.ref C)))
    (q : PySem.W.excIn K C [.type "ValueError", .type "Exception", .type "BaseException", .type "object"] "ValueError.__new__" = true)
    (k : PySem.W.keepIn K (.ref C) = true) (b : PySem.W.subIn K (.ref C) (.type "BaseException") = some true) (t : PySem.W.typeIn K (.ref C) = some (.type "type"))
    (hg : PySem.W.findIn K (.ref C) "__getattribute__" = some (some (.builtin "BaseException.__getattribute__"))) (hk : PySem.W.findIn K (.ref C) "__getattr__" = some none)
    (hd : PySem.W.hasDictIn K C = true) (ha : PySem.W.findIn K (.ref C) "__class__" = some (some (.builtin "object.__class__")))
    (hn : PySem.W.specialIn K (.builtin "object.__class__") "__get__" = some (some (.builtin "getset_descriptor.__get__"))) (ht : PySem.W.takesIn K (.builtin "object.__class__") = some true)
    (hm : PySem.W.mroIn K C (.type "object") = some true) : Exc1 K x C := ⟨a, q, k, b, t, ⟨hg, hk, b, hd, ha, hn, ht, hm⟩⟩
/-- the same for a class with an own __init__ -/
structure Exc0 (K : PySem.W.Frag) (x : Str) (C : Addr) : Prop where
  at_ : PySem.W.nsIn K mainGlobals x = some (some (.ref C))
  k : PySem.W.keepIn K (.ref C) = true
  b : PySem.W.subIn K (.ref C) (.type "BaseException") = some true
  t : PySem.W.typeIn K (.ref C) = some (.type "type")
  x : ExcC K C
theorem Exc0.mk1 (X : K.In h) {x : Str} {C : Addr} (a : PySem.W.nsIn K mainGlobals x = some (some (.ref C)))
    (k : PySem.W.keepIn K (.ref C) = true) (b : PySem.W.subIn K (.ref C) (.type "BaseException") = some true) (t : PySem.W.typeIn K (.ref C) = some (.type "type"))
    (hg : PySem.W.findIn K (.ref C) "__getattribute__" = some (some (.builtin "BaseException.__getattribute__"))) (hk : PySem.W.findIn K (.ref C) "__getattr__" = some none)
    (hd : PySem.W.hasDictIn K C = true) (ha : PySem.W.findIn K (.ref C) "__class__" = some (some (.builtin "object.__class__")))
    (hn : PySem.W.specialIn K (.builtin "object.__class__") "__get__" = some (some (.builtin "getset_descriptor.__get__"))) (ht : PySem.W.takesIn K (.builtin "object.__class__") = some true)
    (hm : PySem.W.mroIn K C (.type "object") = some true) : Exc0 K x C := ⟨a, k, b, t, ⟨hg, hk, b, hd, ha, hn, ht, hm⟩⟩
theorem Exc0.exm {x : Str} {C D : Addr} {b : Bool} (e : Exc0 K x C) (h : PySem.W.subIn K (.ref D) (.ref C) = some b) : PySem.W.exmOne K (.ref D) (.ref C) = some b := PySem.W.exm_ref e.b e.x.hd e.t h
theorem Exc0.kit {x : Str} {C D : Addr} {b : Bool} (e : Exc0 K x C) (h : PySem.W.subIn K (.ref D) (.ref C) = some b) (hs : PySem.W.subIn K (.ref C) (.ref C) = some true) : PySem.W.kitOne K (.ref D) (.ref C) = some b := by
  have q := e.exm h
  unfold PySem.W.exmOne at q
  split at q
  · unfold PySem.W.kitOne
    split
    · rename_i z
      have z : (Value.ref D) = .ref C := by simpa using z
      cases z
      rw [hs] at h
      exact h
    · exact q
  · cases q
theorem Exc1.exm {x : Str} {C D : Addr} {b : Bool} (e : Exc1 K x C) (h : PySem.W.subIn K (.ref D) (.ref C) = some b) : PySem.W.exmOne K (.ref D) (.ref C) = some b := PySem.W.exm_ref e.b e.x.hd e.t h
theorem Exc1.kit {x : Str} {C D : Addr} {b : Bool} (e : Exc1 K x C) (h : PySem.W.subIn K (.ref D) (.ref C) = some b) (hs : PySem.W.subIn K (.ref C) (.ref C) = some true) : PySem.W.kitOne K (.ref D) (.ref C) = some b := by
  have q := e.exm h
  unfold PySem.W.exmOne at q
  split at q
  · unfold PySem.W.kitOne
    split
    · rename_i z
      have z : (Value.ref D) = .ref C := by simpa using z
      cases z
      rw [hs] at h
      exact h
    · exact q
  · cases q
end
end DM

/-! DM: tables and own __init__s, as the head has them; the end of a law with tables. -/
namespace DM
open PySem PySem.Spec PyProof.Rows L2
def isFd : Stmt → Bool
  | .FunctionDef .. => true
  | _ => false
/-- the first def in a class's body -/
def initOf : Stmt → Stmt
  | .ClassDef (body := b) .. => (b.find? isFd).getD (.Pass ⟨0, 0, 0, 0⟩)
  | s => s
section
variable {K : PySem.W.Frag} {h : Heap} {mg : Str → Option Value}
/-- the table of a def -/
def TabF (K : PySem.W.Frag) (x : Str) : Prop := ∃ c P, PySem.W.tabIn K x = some (c, P)
theorem TabF.mk1 (X : K.In h) {x : Str} {f c P : Addr} {oc ccl : Value} {od cdd : Option Addr} {fd : FuncData} {osl csl : Array (Option Value)} {vs : Array Value} (a : PySem.W.nsIn K mainGlobals x = some (some (.ref f))) (b : K.lookup f = some ⟨oc, od, .func fd, osl⟩) (e : fd.code = .ref c)
    (d : K.lookup c = some ⟨ccl, cdd, .fields vs, csl⟩) (g : vs[11]? = some (.ref P)) : TabF K x := by
  refine ⟨c, P, ?_⟩
  unfold PySem.W.tabIn
  rw [a]
  simp only [b, e, d, g]
theorem tab_code {x : Str} {st : Stmt} {f c P : Addr} {fd : FuncData} (F : Fun K x x st f fd) (X : K.In h) (g : h.Ns mainGlobals mg) (hm : mg x = some (.ref f)) (t : PySem.W.tabIn K x = some (c, P)) : fd.code = .ref c := by
  obtain ⟨oc, od, kV, doc, pm, an, cdv, ct, osl, rfl, lk, hcd⟩ := F.ex
  exact PySem.W.law_code X g t hm (X _ _ lk) rfl
theorem no_tab {P : Addr} (X : K.In h) (nt : PySem.W.noTabs K = true) (e : h.get? P = some (PySem.W.tabObj #[])) : K.lookup P = none := by
  cases q : K.lookup P with
  | none => rfl
  | some o =>
    have e2 := X _ _ q
    rw [e] at e2
    cases e2
    have h2 := List.all_eq_true.mp nt _ (PySem.W.mem_of_lookupK q)
    cases h2
def SupSE (st : Stmt) (x f : Str) : Prop := ∃ p0 p1 p2 p3 p4 p5 p6 p7 p8 p9, SupS st x f p0 p1 p2 p3 p4 p5 p6 p7 p8 p9
theorem fn_sinitE {P : Program} {w : World} {K : PySem.W.Frag} {mg : Str → Option Value} {base : Heap} {CX : CXT} {k : Nat} {C fI : Addr} {fl x f : Str} {st : Stmt} {fd : FuncData} (T : SupC K C fI fl x f st fd) (S : SupSE st x f) (hfl : ((P.main.file : Str) == fl) = true) (htop : (P.main.scope.names.lookup ("super" : Str)).isSome = false) :
    FnOk P w K mg base CX (k + 1) fI fd ["self", x] (spI C f) := by
  obtain ⟨_, _, _, _, _, _, _, _, _, _, S⟩ := S
  exact fn_sinit T S hfl htop
theorem genS {env : Env} {scope : Scope} {x : Str} (k : scope.kind = .function) (c : scope.isCoroutine = false) (d : scope.names.lookup (".0" : Str) = some NameKind.local) (l : scope.names.lookup x = some .local) (a : scope.names.all (fun y => y.2 != .cell && y.2 != .free) = true) : GxR.GenS env scope x := by
  have h : ∀ y ∈ scope.names, y.2 ≠ .cell ∧ y.2 ≠ .free := fun y hy => by
    have := List.all_eq_true.mp a y hy
    simpa using this
  exact ⟨k, c, fun y hy => (h y hy).1, d, l, fun y hy e => absurd e (h y hy).2⟩
/-- an own class with its __init__ -/
def SupF (K : PySem.W.Frag) (C : Addr) (pf x f : Str) (st : Stmt) : Prop := ∃ fI fl fd, SupC K C fI fl x f st fd ∧ ((pf : Str) == fl) = true
theorem SupF.mk1 (X : K.In h) {C fI : Addr} {pf fl x f : Str} {st : Stmt} {oc : Value} {od : Option Addr} {qual : Str} {kV doc pm : Value} {an : Option Addr} {cda : Addr} {ct : Value} {osl : Array (Option Value)} {cc : Addr} {ccl : Value} {cdd : Option Addr} {vs : Array Value} {ccs : Array (Option Value)} {tf : Tok} {cl : Value} {cld : Option Addr} {csl : Array (Option Value)}
    {nm qn : Str} {N : Addr} {bs bm : List Value} {sn : List Str} {sub : List Value} {ab : Bool} {col : Option Bool} {dd : Option Addr} {k0 k1 k2 k3 k5 : Option Value}
    (a1 : K.lookup C = some (excClassObj nm qn C N bs bm true sn sub ab col dd k0 k1 k2 k3 k5 "ValueError.__new__")) (a2 : PySem.HandSPX.refsVE bm = true) (a3 : PySem.W.findIn K (.ref C) "__setattr__" = some (some (.builtin "object.__setattr__"))) (a4 : PySem.W.subIn K (.ref C) (.type "BaseException") = some true)
    (a5 : PySem.W.typeIn K (.ref C) = some (.type "type")) (a6 : PySem.W.keepIn K (.ref C) = true) (b1 : PySem.W.findIn K (.ref C) "__init__" = some (some (.ref fI))) (b2 : PySem.W.typeIn K (.ref fI) = some (.type "function"))
    (b3 : K.lookup fI = some ⟨oc, od, .func (PySem.W.ksFn "__init__" qual (defArgs st) (defBody st) (defScope st) .none kV doc pm an (.ref cda) ct cc), osl⟩) (b4 : PySem.W.codeIn K (.ref cda) qual = true) (b5 : K.lookup cda = some ⟨ccl, cdd, .fields vs, ccs⟩) (b6 : vs[2]? = some (.str fl tf))
    (b7 : K.lookup cc = some ⟨cl, cld, .cell (some (.ref C)), csl⟩) (c1 : PySem.W.nsIn K mainGlobals "super" = some none) (c2 : PySem.W.nsIn K cStatics "thirdparty.any" = some none) (c3 : PySem.W.mroIn K C (.ref C) = some true) (c4 : PySem.W.ks_superIn K C C "__init__" = some (some (.builtin "ValueError.__init__")))
    (c5 : PySem.W.subIn K (.ref C) (.type "ValueError") = some true) (c6 : PySem.W.findIn K (.ref C) f = some none) (c7 : ((pf : Str) == fl) = true) : SupF K C pf x f st :=
  ⟨fI, fl, _, ⟨⟨⟨nm, qn, N, bs, bm, sn, sub, ab, col, dd, k0, k1, k2, k3, k5, a1, a2⟩, a3, a4, a5, a6⟩, b1, b2, ⟨oc, od, qual, kV, doc, pm, an, cda, ct, osl, cc, ccl, cdd, vs, ccs, tf, cl, cld, csl, rfl, b3, b4, b5, b6, b7⟩, c1, c2, c3, c4, c5, c6⟩, c7⟩
end
section
variable {P : Program} {w : World} {G : Gd} {mg : Str → Option Value} {base : Heap} {x qual : Str} {st : Stmt} {f : Addr} {fd : FuncData} {N ps : List Str} {k : Nat} {m : SM}
/-- as fn_K, where the def's code object is known -/
theorem fn_Kc {c : Addr} (hc : fd.code = .ref c) (F : Fun G.K x qual st f fd) (S : FnScope N ps (defScope st))
    (hb : ∀ (A : Around) (outer : List Env) (s : Shared) (H : Hp) (E : XK), Room k (A.deeper (envOfC qual (defScope st) s.heap.objs.size f (.ref c))) → DSs (bodyC G P w mg base N qual (defScope st) f (.ref c) A outer s H E) (defBody st) m) :
    FnOk P w G.K mg base (L2.CX P w) (k + 1) f fd ps (spD G ps.length fun ds M => endK M (m (startD N ds) M)) := by
  obtain ⟨oc, od, kV, doc, pm, an, cdv, ct, osl, rfl, lk, hcd⟩ := F.ex
  obtain rfl : cdv = .ref c := hc
  refine fn_of lk hcd S (fun vs H Q E h => ?_) fun A outer s H vs Q E hr h => ?_
  · obtain ⟨ds, W, _, _, _, r, hl, _⟩ := h
    rw [← r.length]
    exact hl
  · obtain ⟨ds, W, rfl, he, ok, r, hl, q⟩ := h
    refine ⟨_, hb A outer s W.H E hr, startD N ds, W, rfl, he, ok, relS_start r, ?_⟩
    cases e : m (startD N ds) W.M with
    | nx τ M' =>
      simp only [e] at q
      exact fun σ W' m' k' e' s' => q .non W' m' k' e' rfl
    | rt d M' =>
      simp only [e] at q
      exact q
    | exc x τ M' =>
      simp only [e] at q
      exact fun c dd σ W' m' k' e' s' r' => q c dd W' m' k' e' r'
    | bk τ M' => simp only [e] at q; exact q.elim
    | ct τ M' => simp only [e] at q; exact q.elim
    | bad => simp only [e] at q; exact q
end
theorem fun_same {K : PySem.W.Frag} {x q : Str} {st : Stmt} {f : Addr} {fd fd' : FuncData} (a : Fun K x q st f fd) (b : Fun K x q st f fd') : fd = fd' := by
  obtain ⟨_, _, _, _, _, _, _, _, _, _, l1, _⟩ := a.ex
  obtain ⟨_, _, _, _, _, _, _, _, _, _, l2, _⟩ := b.ex
  rw [l1] at l2
  cases l2
  rfl
/-- the law's promise, with the tables -/
theorem law_fin {l : PySem.W.OpenLaw} {w : World} {G : Gd} {mg : Str → Option Value} {fa f : Addr} {fd : FuncData} {st : Stmt} {k : Nat} {h : Heap} {cs : List (Addr × Addr)} (X : G.K.In h) (g : h.Ns mainGlobals mg) (F : Fun G.K "law" "law" st f fd) (hg : mg "law" = some (.ref f)) (hf : mg "law" = some (.ref fa))
    (ht : G.tabs = cs.map (·.2)) (hcs : ∀ p ∈ cs, PySem.W.CodeHd h p.1 p.2 ∧ h.get? p.2 = some (PySem.W.tabObj #[])) (nt : PySem.W.noTabs G.K = true)
    (hb : ∀ (kV doc pm : Value) (an : Option Addr) (cdv ct u : Value), bindArgs (PySem.W.fnOf "law" "law" (defArgs st) (defBody st) (defScope st) .none kV doc pm an cdv ct) ⟨[u], []⟩ = pure [(("script" : Str), u)])
    (hok : ∀ base : Heap, G.K.In base → base.Ns mainGlobals mg → (∀ p ∈ cs, GxR.TabB base mg p.1 p.2) → FnOk l.prog w G.K mg base CX0 k f fd ["script"] (spLaw G)) : LamX.LawAtS l w G.K CX0 k 63 "script" mg fa h := by
  rw [hg] at hf
  cases hf
  obtain ⟨oc, od, kV, doc, pm, an, cdv, ct, osl, rfl, lk, hcd⟩ := F.ex
  refine ⟨_, cs, spLaw G, fun p hp => (hcs p hp).2, fun p hp => no_tab X nt (hcs p hp).2, fun p hp => (hcs p hp).1, fun s u => .of_eq (hb _ _ _ _ _ _ u), fun H a ns hl _ hT hS => ⟨a, ns, rfl, hS, hl, fun p hp => ?_, fun _ => rfl⟩, fun base h1 h2 h3 => hok base h1 h2 fun p hp => ?_⟩
  · rw [ht] at hp
    obtain ⟨q, hq, e⟩ := List.mem_map.mp hp
    exact ⟨#[], by rw [← e]; exact hT q hq, by unfold TriplesOk; trivial⟩
  · obtain ⟨h4, h5, h6⟩ := h3 p hp
    exact ⟨h4, h5, h6⟩
/-- the row's walk, with what the tables of the named defs are at the head -/
theorem walk_tab {l : PySem.W.OpenLaw} {n k : Nat} {q : Program} {loose : List Str} {XP : (Str → Option Value) → Heap → Prop} {YP : World → Heap → Prop} {d : DefRec} {K : Params → PySem.W.Frag} {x : Str} {xs : List Str} (hn : l.most = some n) (hn2 : n ≤ sizeLine) (hdf : d.params.defaults = []) (hr : Room k callerA)
    (hrec : ∀ y ∈ xs, ∃ dd, (recsOf q).find? (fun e => e.name == y) = some dd) (hY : ∀ (w : World) (h : Heap), YP w h → (K w.params).In h)
    (F : ∀ (w : World) (mg : Str → Option Value) (fa : Addr) (h : Heap), (K w.params).In h → h.Ns mainGlobals mg → mg d.name = some (.ref fa) → (∀ y ∈ xs, ∀ c P, PySem.W.tabIn (K w.params) y = some (c, P) → PySem.W.CodeHd h c P ∧ h.get? P = some (PySem.W.tabObj #[])) → LamX.LawAtS l w (K w.params) CX0 k n x mg fa h) :
    PySem.W.WalkO q loose XP YP l.row.toRowW d [] (fun f vs => PySem.call f vs) := by
  refine Att.attach_callB hn hdf fun w s₀ s₁ mg mb fa o pm cd doc a vs ns T Y ho hd hcd hmg hobj hints hlen hbits hg => ?_
  have X := hY w _ Y
  obtain ⟨fd, cs, sp, c1, c2, c3, c4, c5, c6⟩ := F w mg fa _ X T.T.g hmg fun y hy c P e => by
    obtain ⟨dd, hdd⟩ := hrec y hy
    exact PySem.W.tab_of T.T X hdd e
  exact LamX.law_callTs X T.T.g T.T.b T.T.builtins T.T.nolimit hg c1 c2 c3 T.T.bmain hobj hints (Nat.le_trans hlen hn2) hr c6 c4 (fun H hH hS => c5 H a ns hlen hbits hH hS) fun H e s' z => z.elim
end DM

set_option maxHeartbeats 4000000
/-! DM: zip of any number of lists and tuples. -/
namespace DM
open PySem PySem.Spec PyProof.Rows L2

/-- a source: a tuple (true) or a list -/
def SrcAt (t : Bool) (h : Heap) (a : Addr) (its : Array Value) : Prop := match t with
  | true => h.IsTuple a its
  | false => h.IsList a its
def ItAt (t : Bool) (h : Heap) (i a : Addr) (k : Nat) : Prop := match t with
  | true => h.IsTupleIter i a k
  | false => h.IsListIter i a k
theorem SrcAt.at {t : Bool} {h h' : Heap} {a : Addr} {its : Array Value} (x : SrcAt t h a its) (k : ∀ o, h.get? a = some o → h'.get? a = some o) : SrcAt t h' a its := by
  cases t with
  | true => obtain ⟨o, e, r⟩ := (show h.IsTuple a its from x); exact ⟨o, k _ e, r⟩
  | false => obtain ⟨o, e, r⟩ := (show h.IsList a its from x); exact ⟨o, k _ e, r⟩
theorem SrcAt.lt {t : Bool} {h : Heap} {a : Addr} {its : Array Value} (x : SrcAt t h a its) : a < h.objs.size := by
  cases t with
  | true => obtain ⟨o, e, r⟩ := (show h.IsTuple a its from x); exact Heap.lt_size e
  | false => obtain ⟨o, e, r⟩ := (show h.IsList a its from x); exact Heap.lt_size e
theorem ItAt.at {t : Bool} {h h' : Heap} {i a : Addr} {n : Nat} (x : ItAt t h i a n) (k : ∀ o, h.get? i = some o → h'.get? i = some o) : ItAt t h' i a n := by
  cases t with
  | true => obtain ⟨o, e, r⟩ := (show h.IsTupleIter i a n from x); exact ⟨o, k _ e, r⟩
  | false => obtain ⟨o, e, r⟩ := (show h.IsListIter i a n from x); exact ⟨o, k _ e, r⟩
theorem ItAt.obj {t : Bool} {h : Heap} {i a : Addr} {n : Nat} (x : ItAt t h i a n) : ∃ o, h.get? i = some o ∧ ∀ v, o.data ≠ .cell v := by
  cases t with
  | true => obtain ⟨o, e, _, d⟩ := (show h.IsTupleIter i a n from x); exact ⟨o, e, fun v q => by rw [d] at q; cases q⟩
  | false => obtain ⟨o, e, _, d⟩ := (show h.IsListIter i a n from x); exact ⟨o, e, fun v q => by rw [d] at q; cases q⟩
abbrev IsTupN (h : Heap) (T : Addr) (vs : Array Value) : Prop := h.get? T = some { cls := .type "tuple", data := .seq vs }
section
variable {prog : Program} {w : World} {A : Around} {E : Value → Shared → Prop} {s : Shared}
theorem nx_item {t : Bool} {it l : Addr} {i : Nat} {items : Array Value} {x : Value} {Q : Value → Shared → Prop} (hit : ItAt t s.heap it l i) (hl : SrcAt t s.heap l items) (hx : items[i]? = some x)
    (hQ : ∀ h', ItAt t h' it l (i + 1) → Heap.SameBut it s.heap h' → Q x { s with heap := h' }) : wpAny (model prog w) A (Builtin.SmallTypes.nextOf (.ref it)) Q E s := by
  cases t with
  | true => exact RZ.nextOf_tuple_item hit hl hx hQ
  | false => exact wpAny_nextOf_list_item hit hl hx hQ
theorem nx_end {t : Bool} {it l : Addr} {i : Nat} {items : Array Value} {Q : Value → Shared → Prop} (hh : A.handled = none) (hit : ItAt t s.heap it l i) (hl : SrcAt t s.heap l items) (hx : items[i]? = none)
    (hE : ∀ h' e, Heap.ExtBut it s.heap h' → (∃ o, h'.get? e = some o ∧ o.cls = .type "StopIteration") → E (.ref e) { s with heap := h' }) : wpAny (model prog w) A (Builtin.SmallTypes.nextOf (.ref it)) Q E s := by
  cases t with
  | true => exact RZ.nextOf_tuple_end hh hit hl hx hE
  | false => exact wpAny_nextOf_list_end hh hit hl hx hE
theorem up_seq {T : Addr} {vs : Array Value} {x : Value} {k : Nat} {Q : Unit → Shared → Prop} (hz : vs.size ≤ sizeLine) (hT : IsTupN s.heap T vs) (h : ∀ h', IsTupN h' T (vs.setIfInBounds k x) → Heap.SameBut T s.heap h' → Q () { s with heap := h' }) :
    wpAny (model prog w) A (updateSeq T (·.setIfInBounds k x)) Q E s := by
  refine wpAny_updateSeq hT rfl (h _ ?_ (Heap.SameBut.update ..)) (hz := hz) (_hz' := by simp; omega)
  show (s.heap.update T _).get? T = _
  rw [Heap.get?_update_self _ hT rfl]
  simp [Obj.mapSeq]
/-- a loop over numbered things that none leaves early -/
theorem zl_loop {M : Model} {α : Type} {P : Nat → Shared → Prop} {B : Value × Nat → (Option α × Unit) → Sem (ForInStep (Option α × Unit))} : ∀ (l : List Value) (k0 : Nat) (s : Shared), P k0 s →
    (∀ k it s, l[k]? = some it → P (k0 + k) s → wpAny M A (B (it, k0 + k) (none, ())) (fun r s' => r = .yield (none, ()) ∧ P (k0 + k + 1) s') E s) →
    wpAny M A (forIn (l.zipIdx k0) (none, ()) B) (fun r s' => r = (none, ()) ∧ P (k0 + l.length) s') E s
  | [], k0, s, h0, _ => by
    simp only [List.zipIdx_nil, List.forIn_nil]
    exact wpAny_pure ⟨rfl, h0⟩
  | v :: l, k0, s, h0, h => by
    simp only [List.zipIdx_cons, List.forIn_cons]
    refine wpAny_bind (wpAny_mono (h 0 v s rfl h0) (fun r s1 hr => ?_) fun _ _ e => e)
    obtain ⟨rfl, h1⟩ := hr
    have ih := zl_loop (M := M) (P := P) (B := B) l (k0 + 1) s1 h1 fun k it s2 hk hp => by
      have := h (k + 1) it s2 (by simpa using hk) (by rw [show k0 + (k + 1) = k0 + 1 + k by omega]; exact hp)
      rw [show k0 + (k + 1) = k0 + 1 + k by omega] at this
      exact this
    refine wpAny_mono ih (fun r s2 hr => ⟨hr.1, ?_⟩) fun _ _ e => e
    have := hr.2
    rw [show k0 + 1 + l.length = k0 + (l.length + 1) by omega] at this
    exact this

/-- a zip over src, its own things from b on -/
structure ZN (b : Nat) (src : List (Bool × Addr)) (f0 : Value) (pos : Nat → Nat) (h : Heap) : Prop where
  zip : IsZip h (b + src.length + 2) (b + src.length) (b + src.length + 1) f0
  ti : IsTupN h (b + src.length) ((List.range src.length).map fun i => Value.ref (b + i)).toArray
  to : ∃ kp : Array Value, IsTupN h (b + src.length + 1) kp ∧ kp.size = src.length
  it : ∀ (i : Nat) (t : Bool) (a : Addr), src[i]? = some (t, a) → ItAt t h (b + i) a (pos i)
/-- c is one of the zip's own things that turn -/
def Own (b m c : Nat) : Prop := c = b + m + 2 ∨ c = b + m + 1 ∨ (b ≤ c ∧ c < b + m)

/-- the draws, up to k -/
structure ZP (b : Nat) (src : List (Bool × Addr)) (p : Nat) (xs : Nat → Option Value) (h₁ : Heap) (k : Nat) (h : Heap) : Prop where
  sz : h.objs.size = h₁.objs.size
  zip : IsZip h (b + src.length + 2) (b + src.length) (b + src.length + 1) .ellipsis
  to : ∃ kp : Array Value, IsTupN h (b + src.length + 1) kp ∧ kp.size = src.length ∧ ∀ i : Nat, i < k → kp[i]? = xs i
  it : ∀ (i : Nat) (t : Bool) (a : Addr), src[i]? = some (t, a) → ItAt t h (b + i) a (if i < k then p + 1 else p)
  keep : ∀ c o, ¬ Own b src.length c → h₁.get? c = some o → h.get? c = some o

theorem nat_ne {a b : Nat} (h : a ≠ b) : (show Addr from a) ≠ b := h
theorem own_it {b m k c : Nat} (hk : k < m) (z : c = b + k) : Own b m c := .inr (.inr (by omega))
theorem not_own {b m c : Nat} (h : c < b) : ¬ Own b m c := by unfold Own; omega
theorem zip_nextN {b p : Nat} {src : List (Bool × Addr)} {items : Nat → Array Value} {Q : Fin → Shared → Prop} (hh : A.handled = none) (hne : src ≠ []) (hsz : src.length ≤ sizeLine) (hz : ZN b src .none (fun _ => p) s.heap) (hs : ∀ (i : Nat) (t : Bool) (a : Addr), src[i]? = some (t, a) → SrcAt t s.heap a (items i)) (hb : ∀ (i : Nat) (t : Bool) (a : Addr), src[i]? = some (t, a) → a < b)
    (hQ : ∀ (vs : Array Value) h', vs.size = src.length → (∀ i, i < src.length → vs[i]? = (items i)[p]?) → (∀ i, i < src.length → ∃ v, (items i)[p]? = some v) → ZN b src (rawInt s.heap.objs.size) (fun _ => p + 1) h' → IsTupN h' s.heap.objs.size vs → h'.objs.size = s.heap.objs.size + 1 → (∀ c o, ¬ Own b src.length c → s.heap.get? c = some o → h'.get? c = some o) → Q (.done (.ret (.ref s.heap.objs.size))) { s with heap := h' })
    (hE : (∃ i, i < src.length ∧ (items i)[p]? = none) → ∀ h' e, (∀ c o, ¬ Own b src.length c → s.heap.get? c = some o → h'.get? c = some o) → (∃ o, h'.get? e = some o ∧ o.cls = .type "StopIteration") → E (.ref e) { s with heap := h' }) :
    wpAny (model prog w) A (Builtin.«zip.__next__» ⟨[.ref (b + src.length + 2)], []⟩) Q E s := by
  obtain ⟨z1, z2, ⟨kp, z3, z3s⟩, z4⟩ := hz
  have z1 : IsZip s.heap (b + src.length + 2) (b + src.length) (b + src.length + 1) .none := z1
  have hem : ((List.range src.length).map fun i => Value.ref (b + i)).toArray.isEmpty = false := by
    cases src with
    | nil => exact absurd rfl hne
    | cons x r => simp [List.range_succ_eq_map]
  show wpAny _ _ (field (.ref (b + src.length + 2)) 2 >>= _) _ _ _
  refine wpAny_bind (wpAny_field z1 rfl (x := .bool false) rfl ?_)
  show wpAny _ _ (field (.ref (b + src.length + 2)) 3 >>= _) _ _ _
  refine wpAny_bind (wpAny_field z1 rfl (x := .ref (b + src.length)) rfl (wpAny_bind (wpAny_seqItems z2 rfl ?_)))
  simp only [hem]
  refine wpAny_ite_false (by simp) (wpAny_bind ?_)
  unfold Builtin.SmallTypes.ownedTupleIsFree
  refine wpAny_bind (wpAny_field z1 rfl (x := .none) rfl (wpAny_pure ?_))
  simp only [if_true]
  refine wpAny_bind (wpAny_rule (wpAny_bind (wpAny_field z1 rfl (x := .ref (b + src.length + 1)) rfl ?_)))
  refine wpAny_bind (wpAny_setField_rec z1 (by simp) fun h₁ hz₁ hs₁ => wpAny_bind ?_)
  replace hz₁ : IsZip h₁ (b + src.length + 2) (b + src.length) (b + src.length + 1) .ellipsis := hz₁
  have k1 : ∀ c o, c ≠ b + src.length + 2 → s.heap.get? c = some o → h₁.get? c = some o := fun c o nc e => hs₁.extBut _ _ nc e
  have k1' : ∀ c o, ¬ Own b src.length c → s.heap.get? c = some o → h₁.get? c = some o := fun c o nc e => k1 c o (fun z => nc (.inl z)) e
  have il : ∀ {i : Nat} {t : Bool} {a : Addr}, src[i]? = some (t, a) → i < src.length := fun e => (List.getElem?_eq_some_iff.mp e).1
  have src1 : ∀ (i : Nat) (t : Bool) (a : Addr) (h : Heap), src[i]? = some (t, a) → (∀ c o, ¬ Own b src.length c → h₁.get? c = some o → h.get? c = some o) → SrcAt t h a (items i) := fun i t a h e k => (hs i t a e).at fun o q => by
    have no : ¬ Own b src.length a := not_own (hb i t a e)
    exact k _ o no (k1' _ o no q)
  have start : ZP b src p (fun i => (items i)[p]?) h₁ 0 h₁ := ⟨rfl, hz₁, ⟨kp, k1 _ _ (nat_ne (by omega)) z3, z3s, fun i hi => absurd hi (by omega)⟩, fun i t a e => by
    rw [if_neg (Nat.not_lt_zero _)]
    exact (z4 i t a e).at fun o q => k1 _ o (nat_ne (by have := il e; omega)) q, fun c o _ e => e⟩
  have its_at : ∀ {k : Nat} {v : Value}, ((List.range src.length).map fun i => Value.ref (b + i)).toArray.toList[k]? = some v → k < src.length ∧ v = .ref (b + k) := fun {k v} e => by
    have e : ((List.range src.length).map fun i => Value.ref (b + i))[k]? = some v := e
    rw [List.getElem?_map] at e
    by_cases hk : k < src.length
    · rw [List.getElem?_eq_getElem (by simpa using hk)] at e
      simp at e
      exact ⟨hk, e.symm⟩
    · rw [List.getElem?_eq_none (by simp; omega)] at e
      cases e
  -- one draw
  have draw : ∀ (Q1 : ForInStep (Option Fin × Unit) → Shared → Prop) (B : Value × Nat → (Option Fin × Unit) → Sem (ForInStep (Option Fin × Unit))), True := fun _ _ => trivial
  refine wpAny_mono (zl_loop (P := fun k s' => (∀ i, i < k → (∃ v, (items i)[p]? = some v)) ∧ (s'.gens = s.gens ∧ s'.drawn = s.drawn ∧ s'.toks = s.toks ∧ s'.os = s.os) ∧ ZP b src p (fun i => (items i)[p]?) h₁ k s'.heap) _ 0 _ ⟨fun i hi => absurd hi (by omega), ⟨rfl, rfl, rfl, rfl⟩, start⟩ fun k it s2 hk hp => ?_) (fun r s2 hr => ?_) fun _ _ e => e
  · rw [Nat.zero_add] at hp ⊢
    obtain ⟨hall, ⟨g1, g2, g3, g4⟩, zp⟩ := hp
    obtain ⟨hkm, rfl⟩ := its_at hk
    obtain ⟨⟨t, a⟩, hta⟩ : ∃ q, src[k]? = some q := ⟨src[k], List.getElem?_eq_getElem hkm⟩
    have ita := zp.it k t a hta
    rw [if_neg (Nat.lt_irrefl _)] at ita
    have sra := src1 k t a s2.heap hta zp.keep
    refine wpAny_bind (wpAny_onRaise ?_)
    cases hx : (items k)[p]? with
    | none =>
      show wpAny _ _ (Builtin.SmallTypes.nextOf (.ref (b + k)) >>= _) _ _ _
      refine wpAny_bind (nx_end hh ita sra hx fun h₂ e hs₂ he => ?_)
      obtain ⟨oe, hoe, hce⟩ := he
      have hz₂ : IsZip h₂ (b + src.length + 2) (b + src.length) (b + src.length + 1) .ellipsis := hs₂ _ _ (nat_ne (by omega)) zp.zip
      have hez : e ≠ b + src.length + 2 := fun x => by subst x; rw [hz₂] at hoe; cases hoe; simp at hce
      refine wpAny_setField_rec hz₂ (by simp) fun h₃ _ hs₃ => ?_
      have := hE ⟨k, hkm, hx⟩ h₃ e (fun c o nc q => hs₃.extBut _ _ (fun z => nc (.inl z)) (hs₂ _ _ (fun z => nc (own_it hkm z)) (zp.keep c o nc (k1' c o nc q)))) ⟨oe, hs₃.extBut _ _ hez hoe, hce⟩
      obtain ⟨h9, g9, d9, t9, o9⟩ := s2
      dsimp only at g1 g2 g3 g4
      subst g1 g2 g3 g4
      exact this
    | some x =>
      show wpAny _ _ (Builtin.SmallTypes.nextOf (.ref (b + k)) >>= _) _ _ _
      refine wpAny_bind (nx_item ita sra hx fun h₂ hi₂ hs₂ => wpAny_pure ?_)
      obtain ⟨kq, q1, q2, q3⟩ := zp.to
      have hTO₂ : IsTupN h₂ (b + src.length + 1) kq := hs₂.extBut _ _ (nat_ne (by omega)) q1
      refine wpAny_bind (wpAny_seqItems hTO₂ rfl (wpAny_bind (up_seq (by rw [q2]; exact hsz) hTO₂ fun h₃ hTO₃ hs₃ => wpAny_bind (wpAny_letGo (wpAny_pure ⟨rfl, fun i hi => ?_, ⟨g1, g2, g3, g4⟩, ?_⟩)))))
      · by_cases e : i = k
        · exact ⟨x, e ▸ hx⟩
        · exact hall i (by omega)
      · refine ⟨by rw [hs₃.1, hs₂.1, zp.sz], hs₃.extBut _ _ (nat_ne (by omega)) (hs₂.extBut _ _ (nat_ne (by omega)) zp.zip), ⟨_, hTO₃, by simp [q2], fun i hi => ?_⟩, fun i t' a' e => ?_, fun c o nc q => hs₃.extBut _ _ (fun z => nc (.inr (.inl z))) (hs₂.extBut _ _ (fun z => nc (own_it hkm z)) (zp.keep c o nc q))⟩
        · by_cases e : i = k
          · subst e
            rw [Array.getElem?_setIfInBounds_self_of_lt (by omega), hx]
          · rw [Array.getElem?_setIfInBounds_ne (Ne.symm e)]
            exact q3 i (by omega)
        · have il' := il e
          by_cases ek : i = k
          · subst ek
            rw [hta] at e
            cases e
            rw [if_pos (Nat.lt_succ_self _)]
            exact hi₂.at fun o q => hs₃.extBut _ o (nat_ne (by omega)) q
          · have h9 := zp.it i t' a' e
            have : (i < k + 1) ↔ i < k := by omega
            simp only [this]
            exact h9.at fun o q => hs₃.extBut _ o (nat_ne (by omega)) (hs₂.extBut _ o (nat_ne (by omega)) q)
  · obtain ⟨rfl, hall, ⟨g1, g2, g3, g4⟩, zp⟩ := hr
    have hlen : 0 + ((List.range src.length).map fun i => Value.ref (b + i)).toArray.toList.length = src.length := by simp
    rw [hlen] at hall zp
    obtain ⟨kq, q1, q2, q3⟩ := zp.to
    obtain ⟨h9, gg, dd, tt, oo⟩ := s2
    dsimp only at g1 g2 g3 g4
    subst g1 g2 g3 g4
    refine wpAny_bind (wpAny_seqItems q1 rfl (wpAny_bind (wpAny_newTuple ?_ (by simp [q2]; exact hsz))))
    have e9 : kq.toList.toArray = kq := by simp
    rw [e9]
    have zsz : h9.objs.size = s.heap.objs.size := zp.sz.trans hs₁.1
    show wpAny _ _ (Builtin.SmallTypes.ownedTupleHandOut (.ref (b + src.length + 2)) (.ref h9.objs.size) >>= _) _ _ _
    refine wpAny_bind ?_
    unfold Builtin.SmallTypes.ownedTupleHandOut
    have zlt : (b + src.length + 2 : Nat) < h9.objs.size := Heap.lt_size zp.zip
    have tolt : (b + src.length + 1 : Nat) < h9.objs.size := Heap.lt_size q1
    have hz₆ : IsZip (h9.push { cls := .type "tuple", data := .seq kq }) (b + src.length + 2) (b + src.length) (b + src.length + 1) .ellipsis := Heap.get?_push_of_some _ zp.zip
    refine wpAny_bind (wpAny_setField_rec hz₆ (by simp) fun h₇ hz₇ hs₇ => ?_)
    replace hz₇ : IsZip h₇ (b + src.length + 2) (b + src.length) (b + src.length + 1) (rawInt h9.objs.size) := hz₇
    refine wpAny_setField_rec hz₇ (by simp) fun h₈ hz₈ hs₈ => ?_
    replace hz₈ : IsZip h₈ (b + src.length + 2) (b + src.length) (b + src.length + 1) (rawInt h9.objs.size) := hz₈
    have up : ∀ c o, c ≠ b + src.length + 2 → h9.get? c = some o → h₈.get? c = some o := fun c o c1 e => hs₈.extBut _ _ c1 (hs₇.extBut _ _ c1 (Heap.get?_push_of_some _ e))
    have hT₈ : IsTupN h₈ h9.objs.size kq := hs₈.extBut _ _ (Nat.ne_of_gt zlt) (hs₇.extBut _ _ (Nat.ne_of_gt zlt) (Heap.get?_push_size _ rfl))
    have hz8 : h₈.objs.size = h9.objs.size + 1 := by rw [hs₈.1, hs₇.1, Heap.size_push]
    rw [zsz] at hz₈ hT₈ hz8
    refine wpAny_pure ?_
    show Q (.done (.ret (.ref h9.objs.size))) _
    rw [zsz]
    refine hQ kq h₈ q2 q3 hall ⟨hz₈, ?_, ⟨kq, up _ _ (nat_ne (by omega)) q1, q2⟩, fun i t a e => ?_⟩ hT₈ hz8 fun c o nc e => up c o (fun z => nc (.inl z)) (zp.keep c o nc (k1' c o nc e))
    · have no : ¬ Own b src.length (b + src.length) := by unfold Own; omega
      exact up _ _ (nat_ne (by omega)) (zp.keep _ _ no (k1' _ _ no z2))
    · have il' := il e
      have h7 := zp.it i t a e
      rw [if_pos il'] at h7
      exact h7.at fun o q => up _ o (nat_ne (by omega)) q
theorem py_zipN {b p : Nat} {src : List (Bool × Addr)} {items : Nat → Array Value} {Q : Option Value → Shared → Prop} (hh : A.handled = none) (hne : src ≠ []) (hsz : src.length ≤ sizeLine) (hz : ZN b src .none (fun _ => p) s.heap) (hs : ∀ (i : Nat) (t : Bool) (a : Addr), src[i]? = some (t, a) → SrcAt t s.heap a (items i)) (hb : ∀ (i : Nat) (t : Bool) (a : Addr), src[i]? = some (t, a) → a < b)
    (hQ : ∀ (vs : Array Value) h', vs.size = src.length → (∀ i, i < src.length → vs[i]? = (items i)[p]?) → (∀ i, i < src.length → ∃ v, (items i)[p]? = some v) → ZN b src (rawInt s.heap.objs.size) (fun _ => p + 1) h' → IsTupN h' s.heap.objs.size vs → h'.objs.size = s.heap.objs.size + 1 → (∀ c o, ¬ Own b src.length c → s.heap.get? c = some o → h'.get? c = some o) → Q (some (.ref s.heap.objs.size)) { s with heap := h' })
    (hE : (∃ i, i < src.length ∧ (items i)[p]? = none) → ∀ h', (∀ c o, ¬ Own b src.length c → s.heap.get? c = some o → h'.get? c = some o) → Q none { s with heap := h' }) :
    wpAny (model prog w) A (pyNext (.ref (b + src.length + 2))) Q E s := by
  have hT : s.TypeIs (.ref (b + src.length + 2)) "zip" := ⟨_, hz.zip, rfl⟩
  unfold pyNext
  refine wpAny_bind (wpAny_attempt (wpAny_callSpecial?_slot (name := Str.ofString "__next__") hT F.slot_zip_next (wpAny_call_entry F.slot_zip_next hT F.entry_zip_next
    (zip_nextN hh hne hsz hz hs hb (fun vs h' a1 a2 a3 a4 a5 a6 a7 => ⟨_, rfl, wpAny_pure (hQ vs h' a1 a2 a3 a4 a5 a6 a7)⟩) fun hx h' e hk he => ?_) (F.args_zip_next_1 _))))
  obtain ⟨o, ho, hc⟩ := he
  exact wpAny_bind (wpAny_isInstance (T := "StopIteration") (b := true) ⟨o, ho, hc⟩ isSubtype_stop (wpAny_pure (hE hx h' hk)))
end
def SqK (t : Bool) (K : PySem.W.Frag) (H : Hp) (a : Addr) (xs : List V) : Prop := match t with
  | true => SqT K H a xs
  | false => SqL K H a xs
theorem SqK.src {X : Cx} {pins : List (Addr × Obj)} {σ : L2.St} {H : Hp} {s : Shared} {t : Bool} {a : Addr} {xs : List V} (I : Inv X pins σ H s) (q : SqK t X.K H a xs) : ∃ its : List Value, Vals xs its ∧ SrcAt t s.heap a its.toArray := by
  cases t with
  | true => obtain ⟨its, rv, p, _⟩ := I.tuple q; exact ⟨its, rv, p⟩
  | false => obtain ⟨its, rv, p, _⟩ := I.list q; exact ⟨its, rv, p.isList⟩
theorem SqK.inj {X : Cx} {pins : List (Addr × Obj)} {σ : L2.St} {H : Hp} {s : Shared} {t : Bool} {a : Addr} {xs ys : List V} (I : Inv X pins σ H s) (q : SqK t X.K H a xs) (r : SqK t X.K H a ys) : xs = ys := by
  cases t with
  | true => exact I.tuple_inj q r
  | false => exact I.list_inj q r
/-- the sources as they stand at each turn, the items in new tuples -/
def Itn (K : PySem.W.Frag) (src : List (Bool × Addr)) : It :=
  ⟨fun i H => ∀ (j : Nat) (t : Bool) (a : Addr), src[j]? = some (t, a) → ∃ xs x, SqK t K H a xs ∧ xs[i]? = some x,
    fun i H v H' => ∃ T ws, v = .ref T ∧ H T = none ∧ H' = upd H T (.tup ws) ∧ ws.length = src.length ∧ ∀ (j : Nat) (t : Bool) (a : Addr), src[j]? = some (t, a) → ∀ xs, SqK t K H a xs → xs[i]? = ws[j]?,
    fun i H => (∀ (j : Nat) (t : Bool) (a : Addr), src[j]? = some (t, a) → ∃ xs, SqK t K H a xs) ∧ ∃ (j : Nat) (t : Bool) (a : Addr) (xs : List V), src[j]? = some (t, a) ∧ SqK t K H a xs ∧ xs.length ≤ i⟩
/-- the items of all sources at once -/
theorem srcs_at {X : Cx} {pins : List (Addr × Obj)} {σ : L2.St} {H : Hp} {s : Shared} (I : Inv X pins σ H s) {src : List (Bool × Addr)} (h : ∀ (j : Nat) (t : Bool) (a : Addr), src[j]? = some (t, a) → ∃ xs, SqK t X.K H a xs) :
    ∃ items : Nat → Array Value, ∀ (j : Nat) (t : Bool) (a : Addr), src[j]? = some (t, a) → SrcAt t s.heap a (items j) ∧ ∃ xs, SqK t X.K H a xs ∧ Vals xs (items j).toList := by
  have key : ∀ j : Nat, ∃ it : Array Value, ∀ (t : Bool) (a : Addr), src[j]? = some (t, a) → SrcAt t s.heap a it ∧ ∃ xs, SqK t X.K H a xs ∧ Vals xs it.toList := fun j => by
    cases e : src[j]? with
    | none => exact ⟨#[], fun t a z => nomatch z⟩
    | some q =>
      obtain ⟨t, a⟩ := q
      obtain ⟨xs, hx⟩ := h j t a e
      obtain ⟨its, rv, p⟩ := hx.src I
      exact ⟨its.toArray, fun t' a' z => by cases z; exact ⟨p, xs, hx, rv⟩⟩
  exact ⟨fun j => (key j).choose, fun j => (key j).choose_spec⟩
abbrev zpFp (b m : Nat) : List Addr := (b + m + 2) :: (b + m) :: (b + m + 1) :: (List.range m).map (b + ·)
theorem zpFp_mem {b m : Nat} {c : Addr} : c ∈ zpFp b m ↔ (c = b + m + 2 ∨ c = b + m ∨ c = b + m + 1 ∨ ∃ i, i < m ∧ b + i = c) := by simp [zpFp]
theorem own_fp {b m c : Nat} (h : Own b m c) : c ∈ zpFp b m := by
  rw [zpFp_mem]
  rcases h with h | h | h
  · exact .inl h
  · exact .inr (.inr (.inl h))
  · exact .inr (.inr (.inr ⟨c - b, by omega, by omega⟩))
theorem src_get {src : List (Bool × Addr)} {j : Nat} (hj : j < src.length) : ∃ t a, src[j]? = some (t, a) := by
  rw [List.getElem?_eq_getElem hj]
  exact ⟨src[j].1, src[j].2, rfl⟩
theorem turn_zipN {P : Program} {w : World} {K : PySem.W.Frag} {elts : List Expr} {kk : Nat} {tpos : Pos} {b : Nat} {src : List (Bool × Addr)} (hne : src ≠ []) (hsz : src.length ≤ sizeLine) (hb : ∀ (i : Nat) (t : Bool) (a : Addr), src[i]? = some (t, a) → a < b) :
    Turn P w K (.Tuple elts kk tpos) (Itn K src) (zpFp b src.length) (b + src.length + 2) (fun i h => ZN b src .none (fun _ => i) h) where
  mem := by simp [zpFp]
  obj := fun i h st c hc => by
    rw [zpFp_mem] at hc
    obtain ⟨z1, z2, ⟨kp, z3, z3s⟩, z4⟩ := st
    rcases hc with rfl | rfl | rfl | ⟨j, hj, rfl⟩
    · exact ⟨_, z1, fun v q => nomatch q⟩
    · exact ⟨_, z2, fun v q => nomatch q⟩
    · exact ⟨_, z3, fun v q => nomatch q⟩
    · exact (z4 j _ _ (List.getElem?_eq_getElem hj)).obj
  keep := fun i h h' st k => by
    obtain ⟨z1, z2, ⟨kp, z3, z3s⟩, z4⟩ := st
    refine ⟨k _ (by simp [zpFp]) _ z1, k _ (by simp [zpFp]) _ z2, ⟨kp, k _ (by simp [zpFp]) _ z3, z3s⟩, fun j t a e => (z4 j t a e).at fun o q => k _ (zpFp_mem.mpr (.inr (.inr (.inr ⟨j, (List.getElem?_eq_some_iff.mp e).1, rfl⟩)))) o q⟩
  item := by
    intro X hP hw hK hc i pins s σ H E I hf st hg
    subst hP hw hK
    obtain ⟨items, hit⟩ := srcs_at I (src := src) fun j t a e => let ⟨xs, x, q, _⟩ := hg j t a e; ⟨xs, q⟩
    have size_lt : ∀ c, c ∈ zpFp b src.length → c < s.heap.objs.size := fun c hcm => by
      rw [zpFp_mem] at hcm
      rcases hcm with rfl | rfl | rfl | ⟨j, hj, rfl⟩
      · exact Heap.lt_size st.zip
      · exact Heap.lt_size st.ti
      · obtain ⟨kp, z3, _⟩ := st.to; exact Heap.lt_size z3
      · obtain ⟨o, e, _⟩ := (st.it j _ _ (List.getElem?_eq_getElem hj)).obj; exact Heap.lt_size e
    refine py_zipN (I.ok.hd hc) hne hsz st (fun j t a e => (hit j t a e).1) hb (fun vs h' a1 a2 a3 a4 a5 a6 a7 => ?_) fun hx => ?_
    · obtain ⟨kp', z3', z3s'⟩ := a4.to
      refine ⟨_, rfl, wpAny_letOwnedTupleGo_zip (s := { s with heap := h' }) a4.zip fun h'' z'' sb => ?_⟩
      have sbe : ∀ c o, c ≠ b + src.length + 2 → h'.get? c = some o → h''.get? c = some o := fun c o nc e => (sb.2 c nc).trans e
      -- the values of the new tuple
      have vals : ∃ ws : List V, ws.length = src.length ∧ Vals ws vs.toList ∧ ∀ (j : Nat) (t : Bool) (a : Addr), src[j]? = some (t, a) → ∀ xs, SqK t X.K H a xs → xs[i]? = ws[j]? := by
        have one : ∀ j, j < src.length → ∃ w : V, ∀ (t : Bool) (a : Addr), src[j]? = some (t, a) → (∀ xs, SqK t X.K H a xs → xs[i]? = some w) ∧ ∃ v, vs[j]? = some v ∧ RelV w v := fun j hj => by
          obtain ⟨t0, a0, e⟩ := src_get hj
          obtain ⟨h1, xs, h2, h3⟩ := hit j _ _ e
          obtain ⟨v, hv⟩ := a3 j hj
          obtain ⟨ys, y, h4, h5⟩ := hg j _ _ e
          obtain rfl := h2.inj I h4
          obtain ⟨u, hu, ru⟩ := h3.get h5
          rw [Array.getElem?_toList, hv] at hu
          cases hu
          exact ⟨y, fun t a e' => by
            rw [e] at e'
            cases e'
            exact ⟨fun zs hz => by rw [hz.inj I h2]; exact h5, v, (a2 j hj).trans hv, ru⟩⟩
        have rng : ∀ {j : Nat}, j < src.length → (List.range src.length)[j]? = some j := fun {j} hj => by
          rw [List.getElem?_eq_getElem (by simpa using hj)]
          simp
        refine ⟨(List.range src.length).map fun j => if hj : j < src.length then (one j hj).choose else .non, by simp, ?_, fun j t a e xs hx => ?_⟩
        · refine vals_of_at (by simp [a1]) fun j x u hx hu => ?_
          rw [List.getElem?_map] at hx
          by_cases hj : j < src.length
          · rw [List.getElem?_eq_getElem (by simpa using hj)] at hx
            simp only [List.getElem_range, Option.map_some, hj, dif_pos, Option.some.injEq] at hx
            subst hx
            obtain ⟨_, v, hv, rv⟩ := (one j hj).choose_spec _ _ (List.getElem?_eq_getElem hj)
            rw [Array.getElem?_toList, hv] at hu
            cases hu
            exact rv
          · rw [List.getElem?_eq_none (by simpa using hj)] at hx
            cases hx
        · have hj := (List.getElem?_eq_some_iff.mp e).1
          rw [List.getElem?_map, rng hj]
          simp only [Option.map_some, hj, dif_pos]
          exact ((one j hj).choose_spec t a e).1 xs hx
      obtain ⟨ws, w1, w2, w3⟩ := vals
      have hT2 : h''.get? s.heap.objs.size = some { cls := .type "tuple", data := .seq vs } := sbe _ _ (Nat.ne_of_gt (Heap.lt_size st.zip)) a5
      have new : ObjOk X.prog X.w (upd H s.heap.objs.size (.tup ws)) h'' s.heap.objs.size (.tup ws) := ⟨by rw [w1]; exact hsz, vs.toList, w2, ⟨_, hT2, rfl, _, rfl⟩⟩
      have I1 : Inv X pins σ (upd H s.heap.objs.size (.tup ws)) { s with heap := h'' } :=
        I.turnedNew (t' := s.toks) (ch := zpFp b src.length) (fun c o hcn q => sbe c o (fun z => hcn (own_fp (.inl z))) (a7 c o (fun z => hcn (own_fp z)) q)) hf (Nat.le_refl _) new
      refine ⟨.ref s.heap.objs.size, _, I1, rfl, ⟨_, ws, rfl, I.hok.fresh (Nat.le_refl _), rfl, w1, w3⟩, ⟨z'', sbe _ _ (nat_ne (by omega)) a4.ti, ⟨kp', sbe _ _ (nat_ne (by omega)) z3', z3s'⟩, fun j t a e => (a4.it j t a e).at fun o q => sbe _ o (nat_ne (by have := (List.getElem?_eq_some_iff.mp e).1; omega)) q⟩, fun c hcm => ?_⟩
      rw [upd_ne (Nat.ne_of_lt (size_lt c hcm))]
      exact (hf c hcm).1
    · obtain ⟨j, hj, hx⟩ := hx
      obtain ⟨t0, a0, e⟩ := src_get hj
      obtain ⟨ys, y, h4, h5⟩ := hg j _ _ e
      obtain ⟨h1, xs, h2, h3⟩ := hit j _ _ e
      obtain rfl := h2.inj I h4
      obtain ⟨u, hu, _⟩ := h3.get h5
      rw [Array.getElem?_toList, hx] at hu
      cases hu
  done := by
    intro X hP hw hK hc i pins s σ H E I hf st hg
    subst hP hw hK
    obtain ⟨hall, j0, t0, a0, xs0, e0, q0, l0⟩ := hg
    obtain ⟨items, hit⟩ := srcs_at I (src := src) hall
    have endd : (items j0)[i]? = none := by
      obtain ⟨h1, xs, h2, h3⟩ := hit j0 t0 a0 e0
      obtain rfl := h2.inj I q0
      have h4 := h3.length
      have z : (items j0).toList.length = (items j0).size := by simp
      exact Array.getElem?_eq_none (by rw [← z, ← h4]; exact l0)
    refine py_zipN (I.ok.hd hc) hne hsz st (fun j t a e => (hit j t a e).1) hb (fun vs h' a1 a2 a3 a4 a5 a6 a7 => ?_) fun hx h' hk => ⟨rfl, I.turnedL (t' := s.toks) (ch := zpFp b src.length) (fun c o hcn q => hk c o (fun z => hcn (own_fp z)) q) hf⟩
    obtain ⟨v, hv⟩ := a3 j0 (List.getElem?_eq_some_iff.mp e0).1
    rw [endd] at hv
    cases hv
  self := fun A i s Q E st h => wpAny_pyIter_zip st.zip h
/-! ### zip(a, b), each a list or a tuple -/
def itObj (t : Bool) (l : Addr) : Obj := { cls := .type (if t then "tuple_iterator" else "list_iterator"), data := .fields #[.ref l, .int 0 0] }
theorem itObj_at {t : Bool} {h : Heap} {i l : Addr} (e : h.get? i = some (itObj t l)) : ItAt t h i l 0 := by
  cases t with
  | true => exact ⟨_, e, rfl, rfl⟩
  | false => exact ⟨_, e, rfl, rfl⟩
theorem iter_src {prog : Program} {w : World} {A : Around} {E : Value → Shared → Prop} {s : Shared} {t : Bool} {l : Addr} {items : Array Value} {Q : Value → Shared → Prop} (hl : SrcAt t s.heap l items) (hQ : Q (.ref s.heap.objs.size) { s with heap := s.heap.push (itObj t l) }) : wpAny (model prog w) A (pyIter (.ref l)) Q E s := by
  cases t with
  | true => exact wpAny_pyIter_tuple (items := items) hl hQ
  | false => exact wpAny_pyIter_list (items := items) hl hQ
abbrev zmH (h : Heap) (t1 t2 : Bool) (l1 l2 : Addr) : Heap :=
  let h1 := h.push (itObj t1 l1)
  let h2 := h1.push (itObj t2 l2)
  let h3 := h2.push { cls := .type "tuple", data := .seq #[.ref h.objs.size, .ref h1.objs.size] }
  let h4 := h3.push { cls := .type "tuple", data := .seq #[.none, .none] }
  h4.push { cls := .type "zip", data := .fields #[.none, .bool false, .bool false, .ref h2.objs.size, .ref h3.objs.size] }
theorem zm_new (t1 t2 : Bool) (l1 l2 : Addr) (xs ys : Array Value) : Meets (Builtin.«zip.__new__» ⟨[.type "zip", .ref l1, .ref l2], []⟩) (fun _ R s => SrcAt t1 s.heap l1 xs ∧ SrcAt t2 s.heap l2 ys ∧ R (.ok (.ret (.ref (s.heap.objs.size + 4)))) { s with heap := zmH s.heap t1 t2 l1 l2 }) :=
  .of_wp fun prog w A R s h => by
    obtain ⟨hp, g, d, tk, os⟩ := s
    obtain ⟨hl1, hl2, h⟩ := h
    have hsub := sub_zip
    have hL1 : SrcAt t1 (Shared.heap ⟨hp, g, d, tk, os⟩) l1 xs := hl1
    have hL2 : SrcAt t2 (Shared.heap ⟨hp.push (itObj t1 l1), g, d, tk, os⟩) l2 ys := hl2.at fun o e => Heap.get?_push_of_some _ e
    wp_walk using iter_src hL1, iter_src hL2
    refine ⟨_, rfl, ?_⟩
    have z : ((((hp.push (itObj t1 l1)).push (itObj t2 l2)).push { cls := .type "tuple", data := .seq #[.ref hp.objs.size, .ref (hp.push (itObj t1 l1)).objs.size] }).push { cls := .type "tuple", data := .seq #[.none, .none] }).objs.size = hp.objs.size + 4 := by simp only [Heap.size_push]
    have h2 : R (.ok (.ret (.ref (hp.objs.size + 4)))) ⟨zmH hp t1 t2 l1 l2, g, d, tk, os⟩ := h
    rw [← z] at h2
    exact h2
theorem call_zipM {prog : Program} {w : World} {A : Around} {E : Value → Shared → Prop} {s : Shared} {t1 t2 : Bool} {l1 l2 : Addr} {xs ys : Array Value} {Q : Value → Shared → Prop} (hl1 : SrcAt t1 s.heap l1 xs) (hl2 : SrcAt t2 s.heap l2 ys)
    (h : ∀ h', ZN s.heap.objs.size [(t1, l1), (t2, l2)] .none (fun _ => 0) h' → (∀ c o, s.heap.get? c = some o → h'.get? c = some o) → Q (.ref (s.heap.objs.size + 4)) { s with heap := h' }) : wpAny (model prog w) A (call (.type "zip") [.ref l1, .ref l2]) Q E s := by
  refine callType_new F.called_zip (by decide) (F.typeCall_zip_2 _ _) (F.newCall_zip_2 _ _) (fun obj => F.args_object_init_3 obj _ _) F.entry_zip_new (zm_new t1 t2 l1 l2 xs ys) ⟨hl1, hl2, ?_⟩
  have up : ∀ c o, s.heap.get? c = some o → (zmH s.heap t1 t2 l1 l2).get? c = some o := fun c o e => Heap.get?_push_of_some _ (Heap.get?_push_of_some _ (Heap.get?_push_of_some _ (Heap.get?_push_of_some _ (Heap.get?_push_of_some _ e))))
  have g5 : (zmH s.heap t1 t2 l1 l2).get? (s.heap.objs.size + 4) = some { cls := .type "zip", data := .fields #[.none, .bool false, .bool false, .ref (s.heap.objs.size + 2), .ref (s.heap.objs.size + 3)] } := by
    unfold zmH
    have := Heap.get?_push_size (((((s.heap.push (itObj t1 l1)).push (itObj t2 l2)).push { cls := .type "tuple", data := .seq #[.ref s.heap.objs.size, .ref (s.heap.push (itObj t1 l1)).objs.size] }).push { cls := .type "tuple", data := .seq #[.none, .none] })) (o := { cls := .type "zip", data := .fields #[.none, .bool false, .bool false, .ref (s.heap.objs.size + 2), .ref (s.heap.objs.size + 3)] }) rfl
    simpa only [Heap.size_push] using this
  have g4 : (zmH s.heap t1 t2 l1 l2).get? (s.heap.objs.size + 3) = some { cls := .type "tuple", data := .seq #[.none, .none] } := by
    refine Heap.get?_push_of_some _ ?_
    have := Heap.get?_push_size ((((s.heap.push (itObj t1 l1)).push (itObj t2 l2)).push { cls := .type "tuple", data := .seq #[.ref s.heap.objs.size, .ref (s.heap.push (itObj t1 l1)).objs.size] })) (o := { cls := .type "tuple", data := .seq #[.none, .none] }) rfl
    simpa only [Heap.size_push] using this
  have g3 : (zmH s.heap t1 t2 l1 l2).get? (s.heap.objs.size + 2) = some { cls := .type "tuple", data := .seq #[.ref s.heap.objs.size, .ref (s.heap.objs.size + 1)] } := by
    refine Heap.get?_push_of_some _ (Heap.get?_push_of_some _ ?_)
    have := Heap.get?_push_size (((s.heap.push (itObj t1 l1)).push (itObj t2 l2))) (o := { cls := .type "tuple", data := .seq #[.ref s.heap.objs.size, .ref (s.heap.objs.size + 1)] }) rfl
    simpa only [Heap.size_push] using this
  have g2 : (zmH s.heap t1 t2 l1 l2).get? (s.heap.objs.size + 1) = some (itObj t2 l2) := by
    refine Heap.get?_push_of_some _ (Heap.get?_push_of_some _ (Heap.get?_push_of_some _ ?_))
    have := Heap.get?_push_size ((s.heap.push (itObj t1 l1))) (o := itObj t2 l2) rfl
    simpa only [Heap.size_push] using this
  have g1 : (zmH s.heap t1 t2 l1 l2).get? s.heap.objs.size = some (itObj t1 l1) := Heap.get?_push_of_some _ (Heap.get?_push_of_some _ (Heap.get?_push_of_some _ (Heap.get?_push_of_some _ (Heap.get?_push_size _ rfl))))
  show _ ∧ _
  refine ⟨⟨_, g5, rfl⟩, h _ ⟨g5, g3, ⟨_, g4, rfl⟩, fun i t a e => ?_⟩ up⟩
  match i, e with
  | 0, e => cases e; exact itObj_at g1
  | 1, e => cases e; exact itObj_at g2
theorem le_add2 {b k l : Nat} : b ≤ b + k + l := by omega
def iZipM (K : PySem.W.Frag) (ta : TA) : TI := fun σ H R => ta σ H fun vs H1 => ∃ t1 a t2 b xs ys, vs = [.ref a, .ref b] ∧ SqK t1 K H1 a xs ∧ SqK t2 K H1 b ys ∧ R (Itn K [(t1, a), (t2, b)]) H1
theorem pi_zipM {X : Cx} {e e2 : Expr} {ta : TA} {p pos tpos : Pos} {elts : List Expr} {kk : Nat} (hg : Gl X "zip") (hm : X.mg "zip" = none) (ha : PA X [e, e2] ta) (hs : starEach [e, e2] X.env = (false, eval e X.env) :: starEach [e2] X.env := by rfl) (hpl : (backTo pos (starEach [e2] X.env)).any (·.1) = false := by rfl) :
    PI X (.Tuple elts kk tpos) (.Call (.Name "zip" p) [e, e2] [] pos) (iZipM X.K ta) := by
  refine ⟨fun pins s σ H R I h => Call_ (ld_blt I hg hm PyProof.Rows.boot_zip (PyProof.Rows.callWith_type1 (thn (ha.run pos pins s σ H _ I h) fun us s1 hh => ?_) hs hpl))⟩
  obtain ⟨vs, H1, I1, r1, t1, a, t2, b, xs, ys, rfl, qx, qy, q⟩ := hh
  obtain ⟨u, u2, rfl, ra, rb⟩ := vals2 r1
  obtain rfl : u = Value.ref a := ra
  obtain rfl : u2 = Value.ref b := rb
  obtain ⟨its, rv, p1⟩ := qx.src I1
  obtain ⟨its2, rv2, p2⟩ := qy.src I1
  refine call_zipM p1 p2 fun h' zn hk => wpAny_pyIter_zip zn.zip ?_
  have I2 : Inv X pins σ H1 { s1 with heap := h' } := I1.kept (t' := s1.toks) hk
  refine ⟨s1.heap.objs.size + 4, zpFp s1.heap.objs.size 2, _, _, H1, rfl, I2, turn_zipN (b := s1.heap.objs.size) (src := [(t1, a), (t2, b)]) (by simp) (by rw [sizeLine_eq]; show 2 ≤ _; omega) (fun i t c e => ?_), zn, fun c hcm => ?_, q⟩
  · match i, e with
    | 0, e => cases e; exact p1.lt
    | 1, e => cases e; exact p2.lt
  · have hle : s1.heap.objs.size ≤ c := by
      rw [zpFp_mem] at hcm
      rcases hcm with rfl | rfl | rfl | ⟨j, _, rfl⟩
      · exact le_add2
      · exact Nat.le_add_right _ _
      · exact le_add2
      · exact Nat.le_add_right _ _
    exact I1.fpOk hle (I1.hok.fresh hle)
section
variable {G : Gd} {X : Cx} {Γ : DC G X}
theorem seq_at {W0 : Wd} {d : D} {v : V} {it : ItD} {M : Mem} (r : Rep G W0 d v) (h : seqOf d M = some it) : ∃ (t : Bool) (a : Addr), v = .ref a ∧ ∀ W, WOk G W → Ext0 W0 W → Chk it.src W.M → ∃ xs, SqK t G.K W.H a xs ∧ RepL G W it.xs xs := by
  rcases seq_cases h with ⟨ds, h1, rfl⟩ | h1
  · obtain ⟨a, e, f⟩ := tup_at r h1
    exact ⟨true, a, e, fun W _ x _ => f W x⟩
  · obtain ⟨a, e, f⟩ := lst_at r h1
    exact ⟨false, a, e, f⟩
theorem seq_chk {d : D} {it : ItD} {M : Mem} (h : seqOf d M = some it) : Chk it.src M := by
  cases d with
  | loc l =>
    have h1 : (match M[l]? with
      | some (some ds) => some { xs := ds, src := [(l, ds)] }
      | _ => none) = some it := h
    split at h1
    · rename_i ds ed
      cases h1
      intro p hp
      have : p = (l, ds) := by simpa using hp
      rw [this]
      exact ed
    · cases h1
  | tup _ => cases h; exact fun p hp => nomatch hp
  | kt _ => cases h; exact fun p hp => nomatch hp
  | lst _ => cases h; exact fun p hp => nomatch hp
  | scr _ => cases h; exact fun p hp => nomatch hp
  | _ => cases h
theorem itn_ok {W0 : Wd} {t1 t2 : Bool} {a b : Addr} {it jt : ItD} (f : ∀ W, WOk G W → Ext0 W0 W → Chk it.src W.M → ∃ xs, SqK t1 G.K W.H a xs ∧ RepL G W it.xs xs) (g : ∀ W, WOk G W → Ext0 W0 W → Chk jt.src W.M → ∃ xs, SqK t2 G.K W.H b xs ∧ RepL G W jt.xs xs) :
    ItOk G W0 (Itn G.K [(t1, a), (t2, b)]) { xs := zipD it.xs jt.xs, src := it.src ++ jt.src } := fun W k e c => by
  have c1 : Chk it.src W.M := fun p hp => c p (List.mem_append_left _ hp)
  have c2 : Chk jt.src W.M := fun p hp => c p (List.mem_append_right _ hp)
  obtain ⟨xs, h1, h2⟩ := f W k e c1
  obtain ⟨ys, g1, g2⟩ := g W k e c2
  refine ⟨fun i d hd => ?_, fun i hi => ⟨fun j t c e => ?_, ?_⟩⟩
  · obtain ⟨x, y, q1, q2, rfl⟩ := zipD_get hd
    obtain ⟨v, e1, e2⟩ := h2.get q1
    obtain ⟨u, e3, e4⟩ := g2.get q2
    refine ⟨fun j t c e => ?_, fun z H' hy => ?_⟩
    · match j, e with
      | 0, e => cases e; exact ⟨xs, v, h1, e1⟩
      | 1, e => cases e; exact ⟨ys, u, g1, e3⟩
    · obtain ⟨T, ws, rfl, hT, rfl, hl, hw⟩ := hy
      have w0 := hw 0 t1 a rfl xs h1
      have w1 := hw 1 t2 b rfl ys g1
      match ws, hl, w0, w1 with
      | [w0', w1'], _, w0, w1 =>
        rw [e1] at w0
        rw [e3] at w1
        cases w0
        cases w1
        exact ⟨W.new T (.tup [v, u]), rfl, rfl, ok_new k hT, ext_new k hT, T, _, rfl, upd_same, own_new k hT, _, _, rfl, e2.mono (ext_new k hT), _, _, rfl, e4.mono (ext_new k hT), rfl⟩
  · match j, e with
    | 0, e => cases e; exact ⟨xs, h1⟩
    | 1, e => cases e; exact ⟨ys, g1⟩
  · rcases zipD_stop hi with q | q
    · exact ⟨0, t1, a, xs, rfl, h1, by rw [← h2.length]; exact q⟩
    · exact ⟨1, t2, b, ys, rfl, g1, by rw [← g2.length]; exact q⟩
@[simp] def iZipX (m : AM) : IM := fun τ M => (m τ M).bind fun ds M1 => match ds with
  | [x, y] => match seqOf x M1 with
    | some it => match seqOf y M1 with
      | some jt => .ok { xs := zipD it.xs jt.xs, src := it.src ++ jt.src } M1
      | none => .bad
    | none => .bad
  | _ => .bad
theorem di_zipX {e e2 : Expr} {m : AM} {p pos tpos : Pos} {elts : List Expr} {kk : Nat} (hm : X.mg "zip" = none) (ha : DA Γ [e, e2] m) (hg : Gl X "zip" := by rfl) (hs : starEach [e, e2] X.env = (false, eval e X.env) :: starEach [e2] X.env := by rfl) (hpl : (backTo pos (starEach [e2] X.env)).any (·.1) = false := by rfl) :
    DI Γ (.Tuple elts kk tpos) (.Call (.Name "zip" p) [e, e2] [] pos) (iZipX m) := pi_imp (pi_zipM hg hm ha hs hpl) fun σ H Q q => by
  obtain ⟨τ, W, rfl, he, ok, rs, h⟩ := q
  refine step he ok rs h fun ds vs W1 k1 e1 r1 h1 => ?_
  split at h1
  · rename_i x y
    obtain ⟨v, u, rfl, r2, r3⟩ := RepL.two r1
    split at h1
    · rename_i it ei
      split at h1
      · rename_i jt ej
        obtain ⟨t1, a, rfl, f⟩ := seq_at r2 ei
        obtain ⟨t2, b, rfl, g⟩ := seq_at r3 ej
        obtain ⟨xs, f1, _⟩ := f W1 k1 (Ext0.refl W1) (seq_chk ei)
        obtain ⟨ys, g1, _⟩ := g W1 k1 (Ext0.refl W1) (seq_chk ej)
        rw [Γ.hK]
        exact ⟨t1, a, t2, b, xs, ys, rfl, f1, g1, h1 (Itn G.K [(t1, a), (t2, b)]) W1 rfl k1 (Ext.refl W1) (itn_ok f g)⟩
      · exact h1.elim
    · exact h1.elim
  · exact h1.elim
end
end DM

set_option maxHeartbeats 4000000
/-! DM: enumerate of a list or a tuple. -/
namespace DM
open PySem PySem.Spec PyProof.Rows L2
section
variable {prog : Program} {w : World} {A : Around} {E : Value → Shared → Prop} {s : Shared}
theorem en_new (t : Bool) (l : Addr) (xs : Array Value) : Meets (Builtin.«enumerate.__new__» ⟨[.type "enumerate", .ref l], []⟩) (fun _ R s => SrcAt t s.heap l xs ∧ R (.ok (.ret (.ref (s.heap.push (itObj t l)).objs.size))) { s with heap := (s.heap.push (itObj t l)).push { cls := .type "enumerate", data := .fields #[.none, .bool false, .ref s.heap.objs.size, rawInt 0, .none, .none] } }) :=
  .of_wp fun prog w A R s h => by
    obtain ⟨hp, g, d, tk, os⟩ := s
    obtain ⟨hl, h⟩ := h
    have hsub := sub_enumerate
    have hL : SrcAt t (Shared.heap ⟨hp, g, d, tk, os⟩) l xs := hl
    wp_walk using iter_src hL
    refine wpAny_stack_any fun st => wpAny_pure ?_
    split
    · rename_i c _ _ _ _ _
      cases (c == Value.type "enumerate")
      · (wp_walk using iter_src hL); exact ⟨_, rfl, h⟩
      · (wp_walk using iter_src hL); exact ⟨_, rfl, h⟩
    · (wp_walk using iter_src hL); exact ⟨_, rfl, h⟩
theorem call_enumM {t : Bool} {l : Addr} {xs : Array Value} {Q : Value → Shared → Prop} (hl : SrcAt t s.heap l xs)
    (h : ∀ h', IsEnum h' (s.heap.objs.size + 1) s.heap.objs.size 0 .none → ItAt t h' s.heap.objs.size l 0 → (∀ c o, s.heap.get? c = some o → h'.get? c = some o) → Q (.ref (s.heap.objs.size + 1)) { s with heap := h' }) : wpAny (model prog w) A (call (.type "enumerate") [.ref l]) Q E s := by
  refine callType_new F.called_enumerate (by decide) (F.typeCall_enumerate_1 _) (F.newCall_enumerate_1 _) (fun obj => F.args_object_init_2 obj _) F.entry_enumerate_new (en_new t l xs) ⟨hl, ?_⟩
  have z1 : (s.heap.push (itObj t l)).objs.size = s.heap.objs.size + 1 := Heap.size_push ..
  show _ ∧ _
  rw [z1]
  have g2 : ((s.heap.push (itObj t l)).push { cls := .type "enumerate", data := .fields #[.none, .bool false, .ref s.heap.objs.size, rawInt 0, .none, .none] }).get? (s.heap.objs.size + 1) = some { cls := .type "enumerate", data := .fields #[.none, .bool false, .ref s.heap.objs.size, rawInt 0, .none, .none] } := by
    have := Heap.get?_push_size (s.heap.push (itObj t l)) (o := { cls := .type "enumerate", data := .fields #[.none, .bool false, .ref s.heap.objs.size, rawInt 0, .none, .none] }) rfl
    rwa [z1] at this
  exact ⟨⟨_, g2, rfl⟩, h _ g2 (itObj_at (Heap.get?_push_of_some _ (Heap.get?_push_size _ rfl))) fun c o e => Heap.get?_push_of_some _ (Heap.get?_push_of_some _ e)⟩
theorem en_item {t : Bool} {e it l : Addr} {i : Nat} {xs : Array Value} {x old : Value} {Q : Value → Shared → Prop} (he : IsEnum s.heap e it i old) (hit : ItAt t s.heap it l i) (hl : SrcAt t s.heap l xs) (hx : xs[i]? = some x) (hne : e ≠ it)
    (hQ : ∀ h', IsEnumOut h' e it ((i : Int) + 1) x s.heap.objs.size → ItAt t h' it l (i + 1) → h'.get? s.heap.objs.size = some { cls := .type "tuple", data := .seq #[.int i s.toks, x] } →
      (∀ c o, c ≠ e → c ≠ it → s.heap.get? c = some o → h'.get? c = some o) → Q (.ref s.heap.objs.size) { s with heap := h', toks := s.toks + 1 }) :
    wpAny (model prog w) A (Builtin.«enumerate.__next__» ⟨[.ref e], []⟩) (fun fin s' => ∃ v, fin = .done (.ret v) ∧ Q v s') E s := by
  obtain ⟨p0, gg, dd, tt, oo⟩ := s
  show wpAny _ _ (field (.ref e) 2 >>= _) _ _ _
  refine wpAny_bind (wpAny_field he rfl (x := .ref it) rfl (wpAny_bind (nx_item hit hl hx fun p1 i1 (b1 : Heap.SameBut it p0 p1) => ?_)))
  have e1 : IsEnum p1 e it i old := (b1.2 e hne).trans he
  show wpAny _ _ (field (.ref e) 3 >>= _) _ _ ⟨p1, gg, dd, tt, oo⟩
  refine wpAny_bind (wpAny_field e1 rfl (x := rawInt i) rfl ?_)
  show wpAny _ _ (field (.ref e) 4 >>= _) _ _ ⟨p1, gg, dd, tt, oo⟩
  refine wpAny_bind (wpAny_field e1 rfl (x := .none) rfl ?_)
  show wpAny _ _ (mkInt i >>= _) _ _ ⟨p1, gg, dd, tt, oo⟩
  refine wpAny_bind (wpAny_mkInt ?_)
  show wpAny _ _ (setField (.ref e) 3 (rawInt ((i : Int) + 1)) >>= _) _ _ ⟨p1, gg, dd, tt + 1, oo⟩
  refine wpAny_bind (wpAny_setField_rec e1 (by simp) fun p2 (e2 : IsEnum p2 e it ((i : Int) + 1) old) (b2 : Heap.SameBut e p1 p2) => ?_)
  show wpAny _ _ (setField (.ref e) 4 .none >>= _) _ _ ⟨p2, gg, dd, tt + 1, oo⟩
  refine wpAny_bind (wpAny_setField_rec e2 (by simp) fun p3 (e3 : IsEnum p3 e it ((i : Int) + 1) old) (b3 : Heap.SameBut e p2 p3) => ?_)
  show wpAny _ _ (newTuple [.int i tt, x] >>= _) _ _ ⟨p3, gg, dd, tt + 1, oo⟩
  refine wpAny_bind (wpAny_newTuple ?_)
  have e4 : IsEnum (p3.push { cls := .type "tuple", data := .seq #[.int i tt, x] }) e it ((i : Int) + 1) old := Heap.get?_push_of_some _ e3
  generalize q4 : p3.push { cls := .type "tuple", data := .seq #[.int i tt, x] } = p4 at e4
  have z3 : p3.objs.size = p0.objs.size := by rw [b3.1, b2.1, b1.1]
  have le : e < p0.objs.size := Heap.lt_size he
  have t4 : p4.get? p0.objs.size = some { cls := .type "tuple", data := .seq #[.int i tt, x] } := by
    rw [← q4, ← z3]
    exact Heap.get?_push_size _ rfl
  have k4 : ∀ c o, c ≠ e → c ≠ it → p0.get? c = some o → p4.get? c = some o := fun c o n1 n2 hc => by
    rw [← q4]
    exact Heap.get?_push_of_some _ (b3.extBut c o n1 (b2.extBut c o n1 (b1.extBut c o n2 hc)))
  have i4 : ItAt t p4 it l (i + 1) := i1.at fun o q => by
    rw [← q4]
    exact Heap.get?_push_of_some _ (b3.extBut _ _ (Ne.symm hne) (b2.extBut _ _ (Ne.symm hne) q))
  show wpAny _ _ (Builtin.SmallTypes.ownedTupleIsFree (.ref e) >>= _) _ _ ⟨p4, gg, dd, tt + 1, oo⟩
  rw [z3]
  refine wpAny_bind ?_
  unfold Builtin.SmallTypes.ownedTupleIsFree
  refine wpAny_bind (wpAny_field e4 rfl (x := .none) rfl (wpAny_pure ?_))
  simp only [if_true]
  refine wpAny_bind (wpAny_rule (wpAny_bind (wpAny_field e4 rfl (x := old) rfl (wpAny_bind (wpAny_setField_rec e4 (by simp) fun p5 (e5 : IsEnum p5 e it ((i : Int) + 1) x) (b5 : Heap.SameBut e p4 p5) => ?_)))))
  show wpAny _ _ (Builtin.SmallTypes.ownedTupleHandOut (.ref e) (.ref p0.objs.size) >>= _) _ _ ⟨p5, gg, dd, tt + 1, oo⟩
  refine wpAny_bind ?_
  unfold Builtin.SmallTypes.ownedTupleHandOut
  refine wpAny_bind (wpAny_setField_rec e5 (by simp) fun p6 (e6 : IsEnumOut p6 e it ((i : Int) + 1) x p0.objs.size) (b6 : Heap.SameBut e p5 p6) => ?_)
  refine wpAny_setField_rec e6 (by simp) fun p7 (e7 : IsEnumOut p7 e it ((i : Int) + 1) x p0.objs.size) (b7 : Heap.SameBut e p6 p7) => ?_
  refine wpAny_bind (wpAny_letGo (wpAny_pure ⟨_, rfl, hQ p7 e7 (i4.at fun o q => ?_) ?_ fun c o n1 n2 hc => ?_⟩))
  · exact b7.extBut _ _ (Ne.symm hne) (b6.extBut _ _ (Ne.symm hne) (b5.extBut _ _ (Ne.symm hne) q))
  · exact b7.extBut _ _ (Nat.ne_of_gt le) (b6.extBut _ _ (Nat.ne_of_gt le) (b5.extBut _ _ (Nat.ne_of_gt le) t4))
  · exact b7.extBut c o n1 (b6.extBut c o n1 (b5.extBut c o n1 (k4 c o n1 n2 hc)))
theorem py_enM {t : Bool} {e it l : Addr} {i : Nat} {xs : Array Value} {x old : Value} {Q : Option Value → Shared → Prop} (he : IsEnum s.heap e it i old) (hit : ItAt t s.heap it l i) (hl : SrcAt t s.heap l xs) (hx : xs[i]? = some x) (hne : e ≠ it)
    (hQ : ∀ h', IsEnumOut h' e it ((i : Int) + 1) x s.heap.objs.size → ItAt t h' it l (i + 1) → h'.get? s.heap.objs.size = some { cls := .type "tuple", data := .seq #[.int i s.toks, x] } →
      (∀ c o, c ≠ e → c ≠ it → s.heap.get? c = some o → h'.get? c = some o) → Q (some (.ref s.heap.objs.size)) { s with heap := h', toks := s.toks + 1 }) : wpAny (model prog w) A (pyNext (.ref e)) Q E s := by
  have tT : s.TypeIs (.ref e) "enumerate" := ⟨_, he, rfl⟩
  unfold pyNext
  exact wpAny_bind (wpAny_attempt (wpAny_callSpecial?_slot (name := Str.ofString "__next__") tT F.slot_enumerate_next (wpAny_call_entry F.slot_enumerate_next tT F.entry_enumerate_next (en_item he hit hl hx hne fun h' a b c d => wpAny_pure (hQ h' a b c d)) (F.args_enumerate_next_1 _))))
theorem py_enE {t : Bool} {e it l : Addr} {i : Nat} {xs : Array Value} {old : Value} {Q : Option Value → Shared → Prop} (hh : A.handled = none) (he : IsEnum s.heap e it i old) (hit : ItAt t s.heap it l i) (hl : SrcAt t s.heap l xs) (hx : xs[i]? = none)
    (hQ : ∀ h', Heap.ExtBut it s.heap h' → Q none { s with heap := h' }) : wpAny (model prog w) A (pyNext (.ref e)) Q E s := by
  have tT : s.TypeIs (.ref e) "enumerate" := ⟨_, he, rfl⟩
  unfold pyNext
  refine wpAny_bind (wpAny_attempt (wpAny_callSpecial?_slot (name := Str.ofString "__next__") tT F.slot_enumerate_next (wpAny_call_entry F.slot_enumerate_next tT F.entry_enumerate_next ?_ (F.args_enumerate_next_1 _))))
  show wpAny _ _ (field (.ref e) 2 >>= _) _ _ _
  refine wpAny_bind (wpAny_field he rfl (x := .ref it) rfl (wpAny_bind (nx_end hh hit hl hx fun h' y b1 hy => ?_)))
  obtain ⟨o, ho, hc⟩ := hy
  exact wpAny_bind (wpAny_isInstance (T := "StopIteration") (b := true) ⟨o, ho, hc⟩ isSubtype_stop (wpAny_pure (hQ _ b1)))
end
/-- the source as it stands at each turn, each item in a new pair -/
def ItK (t : Bool) (K : PySem.W.Frag) (a : Addr) : It :=
  ⟨fun i H => ∃ (xs : List V) (x : V), SqK t K H a xs ∧ xs[i]? = some x, fun i H v H' => ∃ T x, v = .ref T ∧ H T = none ∧ H' = upd H T (.tup [.int (i : Nat), x]) ∧ ∀ xs, SqK t K H a xs → xs[i]? = some x, fun i H => ∃ xs : List V, SqK t K H a xs ∧ xs.length ≤ i⟩
theorem turn_enumK {P : Program} {w : World} {K : PySem.W.Frag} {elts : List Expr} {kk : Nat} {tpos : Pos} (t : Bool) (a e it : Addr) :
    Turn P w K (.Tuple elts kk tpos) (ItK t K a) [e, it] e (fun i h => (∃ old, IsEnum h e it ((i : Nat) : Int) old) ∧ ItAt t h it a i ∧ e ≠ it) where
  mem := by simp
  obj := fun i h ⟨⟨old, he⟩, hi, _⟩ b hb => by
    have e' : b = e ∨ b = it := by simpa using hb
    rcases e' with z | z
    · rw [z]; exact ⟨_, he, fun v q => nomatch q⟩
    · rw [z]; exact hi.obj
  keep := fun i h h' ⟨⟨old, he⟩, hi, hne⟩ k => ⟨⟨old, k e (by simp) _ he⟩, hi.at fun o q => k it (by simp) o q, hne⟩
  item := by
    intro X hP hw hK hc i pins s σ H E I hf ⟨⟨old, he⟩, hit, hne⟩ hg
    subst hP hw hK
    obtain ⟨xs, x, hq, hx⟩ := hg
    obtain ⟨its, rv, p⟩ := hq.src I
    obtain ⟨u, hu, ru⟩ := rv.get hx
    have hel : e < s.heap.objs.size := Heap.lt_size he
    have hil : it < s.heap.objs.size := by
      obtain ⟨_, q, _⟩ := hit.obj
      exact Heap.lt_size q
    refine py_enM he hit p (x := u) (by simpa using hu) hne fun h1 ho hit1 hT hk => ⟨_, rfl, wpAny_letOwnedTupleGo_enum (s := { s with heap := h1, toks := s.toks + 1 }) ho fun h2 he2 sb => ?_⟩
    have hT2 : h2.get? s.heap.objs.size = some { cls := .type "tuple", data := .seq #[.int i s.toks, u] } := (sb.2 _ (Nat.ne_of_gt hel)).trans hT
    have new : ObjOk X.prog X.w (upd H s.heap.objs.size (.tup [.int (i : Nat), x])) h2 s.heap.objs.size (.tup [.int (i : Nat), x]) :=
      ⟨by show 2 ≤ sizeLine; decide, [.int i s.toks, u], .cons ⟨_, rfl⟩ (.cons ru .nil), ⟨_, hT2, rfl, _, rfl⟩⟩
    have I1 : Inv X pins σ (upd H s.heap.objs.size (.tup [.int (i : Nat), x])) { s with heap := h2, toks := s.toks + 1 } :=
      I.turnedNew (ch := [e, it]) (fun c o hc q => (sb.2 c (fun z => hc (by simp [z]))).trans (hk c o (fun z => hc (by simp [z])) (fun z => hc (by simp [z])) q)) hf (Nat.le_refl _) new
    refine ⟨.ref s.heap.objs.size, _, I1, rfl, ⟨_, x, rfl, I.hok.fresh (Nat.le_refl _), rfl, fun ys hy => by rw [SqK.inj I hy hq]; exact hx⟩, ⟨⟨u, ?_⟩, hit1.at fun o q => (sb.2 it (Ne.symm hne)).trans q, hne⟩, fun b hb => ?_⟩
    · have z1 : ((i + 1 : Nat) : Int) = (i : Int) + 1 := by omega
      rw [z1]
      exact he2
    · have hb' : b < s.heap.objs.size := by
        have e' : b = e ∨ b = it := by simpa using hb
        rcases e' with z | z <;> rw [z] <;> assumption
      rw [upd_ne (Nat.ne_of_lt hb')]
      exact (hf b hb).1
  done := by
    intro X hP hw hK hc i pins s σ H E I hf ⟨⟨old, he⟩, hit, hne⟩ hg
    subst hP hw hK
    obtain ⟨xs, hq, hx⟩ := hg
    obtain ⟨its, rv, p⟩ := hq.src I
    obtain ⟨f0, f1, f2, f3, f4, f5⟩ := hf it (by simp)
    have hl := rv.length
    exact py_enE (I.ok.hd hc) he hit p (by simp; omega) fun h' eb => ⟨rfl, I.turned (t' := s.toks) (fun c o hc q => eb c o hc q) f0 f1 f3 f4 f5⟩
  self := fun A i s Q E ⟨⟨_, he⟩, _⟩ h => wpAny_pyIter_enum he h
def iEnumK (K : PySem.W.Frag) (ta : TA) : TI := fun σ H R => ta σ H fun vs H1 => ∃ t a xs, vs = [.ref a] ∧ SqK t K H1 a xs ∧ R (ItK t K a) H1
theorem pi_enumK {X : Cx} {e : Expr} {ta : TA} {p pos tpos : Pos} {elts : List Expr} {kk : Nat} (hg : Gl X "enumerate") (hm : X.mg "enumerate" = none) (ha : PA X [e] ta) (hs : starEach [e] X.env = [(false, eval e X.env)] := by rfl) :
    PI X (.Tuple elts kk tpos) (.Call (.Name "enumerate" p) [e] [] pos) (iEnumK X.K ta) := by
  refine ⟨fun pins s σ H R I h => Call_ (ld_blt I hg hm boot_enumerate (PyProof.Rows.callWith_type1 (thn (ha.run pos pins s σ H _ I h) fun us s1 ⟨vs, H1, I1, r1, q1⟩ => ?_) hs rfl))⟩
  obtain ⟨t, a, xs, ex, hq, q⟩ := q1
  subst ex
  cases r1 with
  | cons r rr =>
    cases rr
    cases r
    obtain ⟨its, rv, p'⟩ := hq.src I1
    refine call_enumM p' fun h1 he hit hk => wpAny_pyIter_enum he ?_
    refine ⟨s1.heap.objs.size + 1, [s1.heap.objs.size + 1, s1.heap.objs.size], _, _, H1, rfl, I1.kept (t' := s1.toks) hk, turn_enumK t a (s1.heap.objs.size + 1) s1.heap.objs.size, ⟨⟨.none, he⟩, hit, Nat.succ_ne_self _⟩, fun b hb => ?_, q⟩
    have e' : b = s1.heap.objs.size + 1 ∨ b = s1.heap.objs.size := by simpa using hb
    have hle : s1.heap.objs.size ≤ b := by
      rcases e' with z | z <;> rw [z]
      · exact Nat.le_add_right _ _
      · exact Nat.le_refl _
    exact I1.fpOk hle (I1.hok.fresh hle)
section
variable {G : Gd} {X : Cx} {Γ : DC G X}
theorem itk_ok {t : Bool} {K : PySem.W.Frag} {W0 : Wd} {a : Addr} {it : ItD} (hK : K = G.K) (f : ∀ W, WOk G W → Ext0 W0 W → Chk it.src W.M → ∃ xs, SqK t G.K W.H a xs ∧ RepL G W it.xs xs) : ItOk G W0 (ItK t K a) { xs := enumD 0 it.xs, src := it.src } := fun W k e c => by
  subst hK
  obtain ⟨xs, h1, h2⟩ := f W k e c
  refine ⟨fun i d hd => ?_, fun i hi => ⟨xs, h1, ?_⟩⟩
  · obtain ⟨e', g1, rfl⟩ := enumD_get hd
    obtain ⟨v, e1, e2⟩ := h2.get g1
    refine ⟨⟨xs, v, h1, e1⟩, fun x H' y => ?_⟩
    obtain ⟨T, x', rfl, hT, rfl, y⟩ := y
    cases (y xs h1).symm.trans e1
    refine ⟨W.new T (.tup [.int (i : Nat), v]), rfl, rfl, ok_new k hT, ext_new k hT, T, _, rfl, upd_same, own_new k hT, ?_⟩
    rw [Nat.zero_add]
    exact ⟨_, _, rfl, rfl, _, _, rfl, e2.mono (ext_new k hT), rfl⟩
  · rw [← h2.length]
    have hi : (enumD 0 it.xs).length ≤ i := hi
    rwa [enumD_len] at hi
@[simp] def iEnumX (m : AM) : IM := fun τ M => (m τ M).bind fun ds M1 => match ds with
  | [d] => match seqOf d M1 with
    | some it => .ok { xs := enumD 0 it.xs, src := it.src } M1
    | none => .bad
  | _ => .bad
theorem di_enumX {e : Expr} {m : AM} {p pos tpos : Pos} {elts : List Expr} {kk : Nat} (hm : X.mg "enumerate" = none) (ha : DA Γ [e] m) (hg : Gl X "enumerate" := by rfl) (hs : starEach [e] X.env = [(false, eval e X.env)] := by rfl) :
    DI Γ (.Tuple elts kk tpos) (.Call (.Name "enumerate" p) [e] [] pos) (iEnumX m) := pi_imp (pi_enumK hg hm ha hs) fun σ H Q q => by
  obtain ⟨τ, W, rfl, he, ok, rs, h⟩ := q
  refine step he ok rs h fun ds vs W1 k1 e1 r1 h1 => ?_
  split at h1
  · rename_i d
    obtain ⟨v, rfl, r2⟩ := RepL.one r1
    cases el : seqOf d W1.M with
    | none => rw [el] at h1; exact h1.elim
    | some it =>
      rw [el] at h1
      obtain ⟨t, a, rfl, f⟩ := seq_at r2 el
      obtain ⟨xs, f1, _⟩ := f W1 k1 (Ext0.refl W1) (seq_chk el)
      exact ⟨t, a, xs, rfl, by rw [Γ.hK]; exact f1, h1 (ItK t X.K a) W1 rfl k1 (Ext.refl W1) (itk_ok Γ.hK f)⟩
  · exact h1.elim
end
end DM

namespace Sh
open PySem PySem.Spec PyProof.Rows L2 DM
abbrev N_is_whole : List Str := ["value"]
noncomputable def m_is_whole : SM := (sRet (eAnd (eArgs false oIsi (aCons (eVar 0) (aCons (eC (.ty "int")) aNil))) (eNot (eArgs false oIsi (aCons (eVar 0) (aCons (eC (.ty "bool")) aNil))))))
noncomputable def c_is_whole : FM := fun ds M => endK M (m_is_whole (startD N_is_whole ds) M)
abbrev N__law_pool : List Str := ["script", "cell"]
noncomputable def m__law_pool : SM := (sRet (eArgs true oLst (aCons (eLc false (iSeq (eVar 0)) (mName 1) mYes (eIf (asB (eBin false oGe (eVar 1) (eC (.int 0)))) (eBin false oMul (eC (.int 2)) (eVar 1)) (eBin false oSub (eBin false oMul (eUn false oNeg (eC (.int 2))) (eVar 1)) (eC (.int 1)))) [1]) (aCons (eC (.int 0)) (aCons (eC (.int 0)) (aCons (eC (.int 17)) aNil))))))
noncomputable def c__law_pool : FM := fun ds M => endK M (m__law_pool (startD N__law_pool ds) M)
abbrev N__law_take : List Str := ["pool", "many", "digit", "cell", "mixed"]
noncomputable def m__law_take (r : FM) : SM := (sSeq (sIf (asB (eBin false oGt (eBin false oIx (eVar 0) (eC (.int 2))) (eC (.int 0)))) (sSeq (sSet 2 (eBin false oMod (eArgs false oInt (aCons (eBin false oIx (eVar 0) (eC (.int 2))) aNil)) (eVar 1))) (sSeq (sAsg (eBin false oDiv (eBin false oIx (eVar 0) (eC (.int 2))) (eVar 1)) (mSub (eVar 0) (eC (.int 2)))) (sRet (eVar 2)))) sNil) (sSeq (sSet 3 (eC (.int 0))) (sSeq (sIf (asB (eBin false oLt (eBin false oIx (eVar 0) (eC (.int 1))) (eArgs false oLen (aCons (eBin false oIx (eVar 0) (eC (.int 0))) aNil)))) (sSet 3 (eBin false oIx (eBin false oIx (eVar 0) (eC (.int 0))) (eBin false oIx (eVar 0) (eC (.int 1))))) sNil) (sSeq (sAsg (eBin false oAdd (eBin false oIx (eVar 0) (eC (.int 1))) (eC (.int 1))) (mSub (eVar 0) (eC (.int 1)))) (sSeq (sIf (asB (eBin false oGe (eVar 3) (eBin false oPow (eC (.int 10)) (eC (.int 18))))) (sSeq (sAsg (eBin false oDiv (eVar 3) (eC (.int 2))) (mSub (eVar 0) (eC (.int 2)))) (sRet (eCall 2 (r) (aCons (eVar 0) (aCons (eVar 1) aNil))))) sNil) (sSeq (sAsg (eBin false oMod (eArgs false oInt (aCons (eBin false oAdd (eBin false oAdd (eBin false oMul (eBin false oIx (eVar 0) (eC (.int 3))) (eC (.int 48271))) (eBin false oMul (eVar 3) (eC (.int 69621)))) (eBin false oMul (eBin false oIx (eVar 0) (eC (.int 1))) (eC (.int 613)))) aNil)) (eC (.int 2147483647))) (mSub (eVar 0) (eC (.int 3)))) (sSeq (sSet 4 (eBin false oMod (eArgs false oInt (aCons (eBin false oAdd (eBin false oAdd (eBin false oMul (eBin false oIx (eVar 0) (eC (.int 3))) (eBin false oIx (eVar 0) (eC (.int 3)))) (eBin false oMul (eBin false oIx (eVar 0) (eC (.int 3))) (eC (.int 7919)))) (eC (.int 104729))) aNil)) (eC (.int 1000000007)))) (sRet (eBin false oMod (eArgs false oInt (aCons (eBin false oDiv (eVar 4) (eC (.int 3))) aNil)) (eVar 1))))))))))
noncomputable def c__law_take : Nat → FM
  | 0 => fun _ _ => .bad
  | d + 1 => fun ds M => endK M (m__law_take (c__law_take d) (startD N__law_take ds) M)
abbrev N__law_pick : List Str := ["pool", "rows"]
noncomputable def m__law_pick : SM := (sRet (eBin false oIx (eVar 1) (eCall 2 (c__law_take 2) (aCons (eVar 0) (aCons (eArgs false oLen (aCons (eVar 1) aNil)) aNil)))))
noncomputable def c__law_pick : FM := fun ds M => endK M (m__law_pick (startD N__law_pick ds) M)
abbrev N__law_is_integer : List Str := ["actual"]
noncomputable def m__law_is_integer : SM := (sRet (eAnd (eArgs false oIsi (aCons (eVar 0) (aCons (eC (.ty "int")) aNil))) (eNot (eArgs false oIsi (aCons (eVar 0) (aCons (eC (.ty "bool")) aNil))))))
noncomputable def c__law_is_integer : FM := fun ds M => endK M (m__law_is_integer (startD N__law_is_integer ds) M)
abbrev N__law_same : List Str := ["actual", "due", "k"]
noncomputable def m__law_same (r : FM) : SM := (sSeq (sIf (asT (eArgs false oIsi (aCons (eVar 1) (aCons (eC (.ty "tuple")) aNil)))) (sSeq (sIf (mOr (mNot (asT (eArgs false oIsi (aCons (eVar 0) (aCons (eC (.ty "tuple")) aNil))))) (asB (eBin false oNe (eArgs false oLen (aCons (eVar 0) aNil)) (eArgs false oLen (aCons (eVar 1) aNil))))) (sRet (eC (.bl false))) sNil) (sRet (eArgs false oAll (aCons (eLc false (iRange1 (aCons (eArgs false oLen (aCons (eVar 1) aNil)) aNil)) (mName 2) mYes (eCall 2 (r) (aCons (eBin false oIx (eVar 0) (eVar 2)) (aCons (eBin false oIx (eVar 1) (eVar 2)) aNil))) [2]) aNil)))) sNil) (sSeq (sIf (asT (eArgs false oIsi (aCons (eVar 1) (aCons (eC (.ty "list")) aNil)))) (sSeq (sIf (mOr (mNot (asT (eArgs false oIsi (aCons (eVar 0) (aCons (eC (.ty "list")) aNil))))) (asB (eBin false oNe (eArgs false oLen (aCons (eVar 0) aNil)) (eArgs false oLen (aCons (eVar 1) aNil))))) (sRet (eC (.bl false))) sNil) (sRet (eArgs false oAll (aCons (eLc false (iRange1 (aCons (eArgs false oLen (aCons (eVar 1) aNil)) aNil)) (mName 2) mYes (eCall 2 (r) (aCons (eBin false oIx (eVar 0) (eVar 2)) (aCons (eBin false oIx (eVar 1) (eVar 2)) aNil))) [2]) aNil)))) sNil) (sSeq (sIf (asB (eBin false oIs (eVar 1) (eC .non))) (sRet (eBin false oIs (eVar 0) (eC .non))) sNil) (sSeq (sIf (asT (eArgs false oIsi (aCons (eVar 1) (aCons (eC (.ty "bool")) aNil)))) (sRet (eAnd (eArgs false oIsi (aCons (eVar 0) (aCons (eC (.ty "bool")) aNil))) (eBin false oEq (eVar 0) (eVar 1)))) sNil) (sSeq (sIf (asT (eArgs false oIsi (aCons (eVar 1) (aCons (eC (.ty "str")) aNil)))) (sRet (eAnd (eArgs false oIsi (aCons (eVar 0) (aCons (eC (.ty "str")) aNil))) (eBin false oEq (eVar 0) (eVar 1)))) sNil) (sRet (eAnd (eCall 1 (c__law_is_integer) (aCons (eVar 0) aNil)) (eBin false oEq (eVar 0) (eVar 1)))))))))
noncomputable def c__law_same : Nat → FM
  | 0 => fun _ _ => .bad
  | d + 1 => fun ds M => endK M (m__law_same (c__law_same d) (startD N__law_same ds) M)
abbrev N__law_power : List Str := ["base", "many", "found", "turn"]
noncomputable def m__law_power : SM := (sSeq (sSet 2 (eC (.int 1))) (sSeq (sFor (iRange1 (aCons (eVar 1) aNil)) (mName 3) (sSet 2 (eBin false oMul (eVar 2) (eVar 0)))) (sRet (eVar 2))))
noncomputable def c__law_power : FM := fun ds M => endK M (m__law_power (startD N__law_power ds) M)
abbrev N_power : List Str := ["base", "many", "found", "_"]
noncomputable def m_power : SM := (sSeq (sSet 2 (eC (.int 1))) (sSeq (sFor (iRange1 (aCons (eVar 1) aNil)) (mName 3) (sSet 2 (eBin false oMul (eVar 2) (eVar 0)))) (sRet (eVar 2))))
noncomputable def c_power : FM := fun ds M => endK M (m_power (startD N_power ds) M)
end Sh

/-! what the laws' helpers give -/
namespace Sh
open PySem PySem.Spec PyProof.Rows L2 DM
@[simp] theorem tys_int : ("int" ∈ tys) = True := by simp [tys]
@[simp] theorem tys_bool : ("bool" ∈ tys) = True := by simp [tys]
@[simp] theorem tys_str : ("str" ∈ tys) = True := by simp [tys]
@[simp] theorem tys_tuple : ("tuple" ∈ tys) = True := by simp [tys]
@[simp] theorem tys_list : ("list" ∈ tys) = True := by simp [tys]
@[simp] theorem tys_dict : ("dict" ∈ tys) = True := by simp [tys]
theorem isWhole_spec {d : D} {M : Mem} {t : String} (h : tyOfM d M = some t) : c_is_whole [d] M = .ok (.bl (isTy t "int" && !isTy t "bool")) M := by
  unfold c_is_whole m_is_whole
  simp [startD, h]
  cases isTy t "int" <;> simp [h]
theorem isInteger_spec {d : D} {M : Mem} {t : String} (h : tyOfM d M = some t) : c__law_is_integer [d] M = .ok (.bl (isTy t "int" && !isTy t "bool")) M := by
  unfold c__law_is_integer m__law_is_integer
  simp [startD, h]
  cases isTy t "int" <;> simp [h]
@[simp] theorem isWhole_int (i : Int) (M : Mem) : c_is_whole [.int i] M = .ok (.bl true) M := by rw [isWhole_spec (t := "int") rfl]; rfl
@[simp] theorem isWhole_bl (i : Bool) (M : Mem) : c_is_whole [.bl i] M = .ok (.bl false) M := by rw [isWhole_spec (t := "bool") rfl]; rfl
@[simp] theorem isWhole_non (M : Mem) : c_is_whole [.non] M = .ok (.bl false) M := by rw [isWhole_spec (t := "NoneType") rfl]; rfl
@[simp] theorem isWhole_str (x : Str) (M : Mem) : c_is_whole [.str x] M = .ok (.bl false) M := by rw [isWhole_spec (t := "str") rfl]; rfl
@[simp] theorem isWhole_tup (ds : List D) (M : Mem) : c_is_whole [.tup ds] M = .ok (.bl false) M := by rw [isWhole_spec (t := "tuple") rfl]; rfl
@[simp] theorem isWhole_lst (ds : List D) (M : Mem) : c_is_whole [.lst ds] M = .ok (.bl false) M := by rw [isWhole_spec (t := "list") rfl]; rfl
@[simp] theorem isWhole_dic (M : Mem) : c_is_whole [.dic] M = .ok (.bl false) M := by rw [isWhole_spec (t := "dict") rfl]; rfl
@[simp] theorem isInteger_int (i : Int) (M : Mem) : c__law_is_integer [.int i] M = .ok (.bl true) M := by rw [isInteger_spec (t := "int") rfl]; rfl

/-! ### the pool -/
structure PoolV (ds : List D) : Prop where
  ex : ∃ (cells : List Int) (a b c : Int), ds = [.lst (cells.map .int), .int a, .int b, .int c] ∧ (∀ x ∈ cells, 0 ≤ x) ∧ 0 ≤ a ∧ 0 ≤ b ∧ 0 ≤ c ∧ c < 2147483647
def PoolAt (l : Nat) (M : Mem) : Prop := ∃ ds, memAt M l = some ds ∧ PoolV ds
/-- only the pool has moved on -/
def PStep (l : Nat) (M M' : Mem) : Prop := ∃ ds, M' = M.set l (some ds) ∧ PoolV ds
theorem PoolAt.step {l : Nat} {M M' : Mem} (h : PoolAt l M) (s : PStep l M M') : PoolAt l M' := by
  obtain ⟨ds, h1, _⟩ := h
  obtain ⟨es, rfl, h2⟩ := s
  exact ⟨es, memAt_set_self (memAt_lt h1), h2⟩
theorem PStep.trans {l : Nat} {M M1 M2 : Mem} (a : PStep l M M1) (b : PStep l M1 M2) : PStep l M M2 := by
  obtain ⟨ds, rfl, _⟩ := a
  obtain ⟨es, rfl, h⟩ := b
  exact ⟨es, by rw [List.set_set], h⟩
theorem PStep.refl {l : Nat} {M : Mem} (h : PoolAt l M) : PStep l M M := by
  obtain ⟨ds, h1, h2⟩ := h
  refine ⟨ds, ?_, h2⟩
  apply List.ext_getElem?
  intro i
  by_cases e : l = i
  · subst e
    rw [List.getElem?_set_self (memAt_lt h1), mem_eq h1]
  · rw [List.getElem?_set_ne e]
theorem PStep.other {l k : Nat} {M M' : Mem} (s : PStep l M M') (h : k ≠ l) : memAt M' k = memAt M k := by
  obtain ⟨ds, rfl, _⟩ := s
  exact memAt_set_ne (Ne.symm h)
theorem PStep.len {l : Nat} {M M' : Mem} (s : PStep l M M') : M'.length = M.length := by
  obtain ⟨ds, rfl, _⟩ := s
  simp
theorem PStep.app {l : Nat} {M M' : Mem} {o : Mem} (h : PoolAt l M) (s : PStep l (M ++ o) M') : ∃ M1, M' = M1 ++ o ∧ PStep l M M1 := by
  obtain ⟨ds, rfl, h2⟩ := s
  obtain ⟨es, h1, _⟩ := h
  exact ⟨M.set l (some ds), List.set_append_left _ _ (memAt_lt h1), ds, rfl, h2⟩
theorem PoolAt.app {l : Nat} {M : Mem} {o : Mem} (h : PoolAt l M) : PoolAt l (M ++ o) := by
  obtain ⟨es, h1, h2⟩ := h
  exact ⟨es, by simp [memAt, List.getElem?_append_left (memAt_lt h1)]; exact h1, h2⟩
theorem log2_lt {n k : Nat} (h0 : 0 < k) (h : n < 2 ^ k) : n.log2 < k := PySem.Flt.log2_lt_of h0 h
theorem small_log {n : Nat} (h : n < 2 ^ 64) : n.log2 < 9000 := Nat.lt_trans (log2_lt (by decide) h) (by decide)

theorem take_left {r : FM} {l : Nat} {M : Mem} {cells : List Int} {a b c n : Int} (hm : memAt M l = some [.lst (cells.map .int), .int a, .int b, .int c]) (hc : ∀ x ∈ cells, 0 ≤ x) (ha : 0 ≤ a) (hb : 0 < b) (h0 : 0 ≤ c) (h1 : c < 2147483647) (hn : 0 < n) (hn2 : n < 2 ^ 64) :
    ∃ i M', endK M (m__law_take r (startD N__law_take [.loc l, .int n]) M) = .ok (.int i) M' ∧ 0 ≤ i ∧ i < n ∧ PStep l M M' := by
  have hl := memAt_lt hm
  have hlog : n.natAbs.log2 < 9000 := small_log (by omega)
  refine ⟨b.fmod n, M.set l (some [.lst (cells.map .int), .int a, .int (b.fdiv n), .int c]), ?_, ?_, ?_, ⟨_, rfl, ⟨cells, a, _, c, rfl, hc, ha, ?_, h0, h1⟩⟩⟩
  · unfold m__law_take
    have hn0 : ¬ n = 0 := by omega
    simp [startD, seqOf_loc hm, hm, ixN, hb, hn0, CDivG, hlog]
  · rw [Int.fmod_eq_emod_of_nonneg _ (by omega)]; exact Int.emod_nonneg _ (by omega)
  · rw [Int.fmod_eq_emod_of_nonneg _ (by omega)]; exact Int.emod_lt_of_pos _ hn
  · rw [Int.fdiv_eq_ediv_of_nonneg _ (by omega)]; exact Int.ediv_nonneg (by omega) (by omega)
/-- what a draw gives -/
theorem take_spec {l : Nat} {M : Mem} {n : Int} (hp : PoolAt l M) (hn : 0 < n) (hn2 : n < 2 ^ 64) (k : Nat) : ∃ i M', c__law_take (k + 2) [.loc l, .int n] M = .ok (.int i) M' ∧ 0 ≤ i ∧ i < n ∧ PStep l M M' := by
  obtain ⟨ds, hm, ⟨cells, a, b, c, rfl, hc, ha, hb, h0, h1⟩⟩ := hp
  have hl := memAt_lt hm
  have hlog : n.natAbs.log2 < 9000 := small_log (by omega)
  have hn0 : ¬ n = 0 := by omega
  by_cases hb0 : 0 < b
  · exact take_left hm hc ha hb0 h0 h1 hn hn2
  have eb : b = 0 := by omega
  subst eb
  -- the cell
  have cell : ∃ cell : Int, 0 ≤ cell ∧ ((a < (cells.length : Int) ∧ atI (cells.map D.int) a = some (.int cell)) ∨ (¬ a < (cells.length : Int) ∧ cell = 0)) := by
    by_cases hlt : a < (cells.length : Int)
    · have hj : a.toNat < cells.length := by omega
      refine ⟨cells[a.toNat], hc _ (List.getElem_mem hj), .inl ⟨hlt, ?_⟩⟩
      simp [atI, ixN, ha, hlt, hj]
    · exact ⟨0, by omega, .inr ⟨hlt, rfl⟩⟩
  obtain ⟨cell, hcell, hat⟩ := cell
  have hset : ∀ ds, memAt (M.set l (some ds)) l = some ds := fun ds => memAt_set_self hl
  show ∃ i M', endK M (m__law_take (c__law_take (k + 1)) (startD N__law_take [.loc l, .int n]) M) = .ok (.int i) M' ∧ 0 ≤ i ∧ i < n ∧ PStep l M M'
  by_cases hbig : 10 ^ 18 ≤ cell
  · -- the rest is kept for later draws
    have e2 : memAt (M.set l (some [.lst (cells.map .int), .int (a + 1), .int (cell.fdiv 2), .int c])) l = some [.lst (cells.map .int), .int (a + 1), .int (cell.fdiv 2), .int c] := hset _
    have hq : 0 < cell.fdiv 2 := by rw [Int.fdiv_eq_ediv_of_nonneg _ (by omega)]; omega
    obtain ⟨i, M', h2, h3, h4, h5⟩ := take_left (r := c__law_take k) e2 hc (by omega) hq h0 h1 hn hn2
    refine ⟨i, M', ?_, h3, h4, ?_⟩
    · have h2 : c__law_take (k + 1) [.loc l, .int n] (M.set l (some [.lst (cells.map .int), .int (a + 1), .int (cell.fdiv 2), .int c])) = .ok (.int i) M' := h2
      unfold m__law_take
      have hlog2 : Nat.log2 2 < 9000 := by decide
      have hbig' : (1000000000000000000 : Int) ≤ cell := hbig
      rcases hat with ⟨hlt, hat⟩ | ⟨hlt, hat⟩
      · simp [startD, seqOf_loc hm, hm, hset, seqOf_loc (hset _), ixN, hn0, CDivG, hlt, CPow, hat, hbig', hlog2, h2]
      · omega
    · obtain ⟨es, h6, h7⟩ := h5
      exact ⟨es, by rw [h6, List.set_set], h7⟩
  · have hsm : cell < 10 ^ 18 := by omega
    let c' := (c * 48271 + cell * 69621 + (a + 1) * 613).fmod 2147483647
    let mixed := (c' * c' + c' * 7919 + 104729).fmod 1000000007
    have hc0 : 0 ≤ c' := by
      show 0 ≤ Int.fmod _ _
      rw [Int.fmod_eq_emod_of_nonneg _ (by decide)]; exact Int.emod_nonneg _ (by decide)
    have hc1 : c' < 2147483647 := by
      show Int.fmod _ _ < _
      rw [Int.fmod_eq_emod_of_nonneg _ (by decide)]; exact Int.emod_lt_of_pos _ (by decide)
    refine ⟨(mixed.fdiv 3).fmod n, M.set l (some [.lst (cells.map .int), .int (a + 1), .int 0, .int c']), ?_, ?_, ?_, ⟨_, rfl, ⟨cells, _, _, _, rfl, hc, by omega, by omega, hc0, hc1⟩⟩⟩
    · unfold m__law_take
      have q1 : CMulG c 48271 := .inr (.inr (by decide))
      have q2 : CMulG cell 69621 := .inr (.inr (by decide))
      have q3 : CMulG (a + 1) 613 := .inr (.inr (by decide))
      have q4 : CMulG c' c' := .inr (.inl (by omega))
      have q5 : CMulG c' 7919 := .inr (.inr (by decide))
      have q6 : CDivG mixed 3 := ⟨by decide, by decide⟩
      have ec : (c * 48271 + cell * 69621 + (a + 1) * 613).fmod 2147483647 = c' := rfl
      have hbig' : ¬ (1000000000000000000 : Int) ≤ cell := hbig
      have em : (c' * c' + c' * 7919 + 104729).fmod 1000000007 = mixed := rfl
      rcases hat with ⟨hlt, hat⟩ | ⟨hlt, hat⟩
      · simp [startD, seqOf_loc hm, hm, hset, seqOf_loc (hset _), ixN, hn0, hlt, CPow, hat, hbig', q1, q2, q3, ec, q4, q5, em, q6]
      · subst hat
        simp only [Int.zero_mul, Int.add_zero] at *
        simp [startD, seqOf_loc hm, hm, hset, seqOf_loc (hset _), ixN, hn0, hlt, CPow, hbig', q1, q2, q3, ec, q4, q5, em, q6]
    · rw [Int.fmod_eq_emod_of_nonneg _ (by omega)]; exact Int.emod_nonneg _ (by omega)
    · rw [Int.fmod_eq_emod_of_nonneg _ (by omega)]; exact Int.emod_lt_of_pos _ hn
/-- picking from a row -/
theorem pick_spec {l : Nat} {M : Mem} {ds : List D} (hp : PoolAt l M) (h0 : ds ≠ []) (hn : ds.length < 2 ^ 64) : ∃ d M', c__law_pick [.loc l, .lst ds] M = .ok d M' ∧ d ∈ ds ∧ PStep l M M' := by
  have hpos : 0 < ds.length := List.length_pos_iff.mpr h0
  obtain ⟨i, M', h1, h2, h3, h4⟩ := take_spec hp (n := (ds.length : Int)) (by omega) (by omega) 0
  have hj : i.toNat < ds.length := by omega
  refine ⟨ds[i.toNat], M', ?_, List.getElem_mem hj, h4⟩
  have h1 : c__law_take 2 [.loc l, .int ds.length] M = .ok (.int i) M' := h1
  have ha : atI ds i = some ds[i.toNat] := atI_of h2 (List.getElem?_eq_getElem hj)
  unfold c__law_pick m__law_pick
  simp [startD, h1, ha]
/-- the pool at the law's start -/
theorem pool_spec (ns : List Int) (hn : ns.length ≤ 63) : ∃ M, c__law_pool [.scr ns] [] = .ok (.loc 0) M ∧ PoolAt 0 M := by
  let f : Int → Int := fun x => if x ≥ 0 then 2 * x else -2 * x - 1
  have h : ∀ v, lcL [] (mName 1) mYes (eIf (asB (eBin false oGe (eVar 1) (eC (.int 0)))) (eBin false oMul (eC (.int 2)) (eVar 1)) (eBin false oSub (eBin false oMul (eUn false oNeg (eC (.int 2))) (eVar 1)) (eC (.int 1)))) (ns.map .int) [some (.scr ns), v] [] = .ok (ns.map fun x => D.int (f x)) [] := fun v => 
    lcL_all (by simp) ns fun x hx => ⟨[some (.scr ns), some (.int x)], by simp, by
        have q1 : CMulG 2 x := .inr (.inl (by decide))
        have q2 : CMulG (-2) x := .inr (.inl (by decide))
        by_cases hx : 0 ≤ x <;> simp [hx, q1, q2, f]⟩
  refine ⟨[some [.lst ((ns.map f).map .int), .int 0, .int 0, .int 17]], ?_, _, by simp [memAt], ns.map f, 0, 0, 17, rfl, ?_, by decide, by decide, by decide, by decide⟩
  · unfold c__law_pool m__law_pool
    have hz : ns.length ≤ 16777216 := by omega
    simp [startD, hz, wipeD, h]
  · intro x hx
    obtain ⟨y, _, rfl⟩ := List.mem_map.mp hx
    show 0 ≤ if y ≥ 0 then 2 * y else -2 * y - 1
    split <;> omega
/-- trees that are no place -/
def Pl : Nat → D → Prop
  | 0, _ => False
  | k + 1, .tup ds => ds.length ≤ 16777216 ∧ ∀ d ∈ ds, Pl k d
  | k + 1, .lst ds => ds.length ≤ 16777216 ∧ ∀ d ∈ ds, Pl k d
  | _ + 1, .non => True
  | _ + 1, .bl _ => True
  | _ + 1, .int _ => True
  | _ + 1, .str _ => True
  | _ + 1, _ => False
theorem all_true : ∀ n : Nat, (List.replicate n true).all id = true
  | 0 => rfl
  | n + 1 => by simp
theorem same_seq {k : Nat} {ds : List D} {M : Mem} {d : D} (hd : d = .tup ds ∨ d = .lst ds) (hl : ds.length ≤ 16777216) (hs : ∀ x ∈ ds, c__law_same k [x, x] M = .ok (.bl true) M) :
    ∃ ys : List Bool, lcL [] (mName 2) mYes (eCall 2 (c__law_same k) (aCons (eBin false oIx (eVar 0) (eVar 2)) (aCons (eBin false oIx (eVar 1) (eVar 2)) aNil))) (rangeD 0 ds.length) [some d, some d, none] M = .ok (ys.map .bl) M ∧ ys.all id = true := by
  refine ⟨List.replicate ds.length true, ?_, all_true _⟩
  have := lcL_all (src := []) (g := mName 2) (e := eCall 2 (c__law_same k) (aCons (eBin false oIx (eVar 0) (eVar 2)) (aCons (eBin false oIx (eVar 1) (eVar 2)) aNil))) (enc := fun (i : Nat) => D.int (0 + (i : Int))) (v := fun _ => D.bl true) (τ := [some d, some d, none]) (M := M) (by simp) (List.range ds.length) fun i hi => ?_
  · rw [rangeD_eq, this]; simp [List.map_const']
  · have hi : i < ds.length := by simpa using hi
    have ha : atI ds (i : Int) = some ds[i] := atI_nat (List.getElem?_eq_getElem hi)
    have hsi := hs ds[i] (List.getElem_mem hi)
    refine ⟨[some d, some d, some (.int i)], by simp, ?_⟩
    rcases hd with rfl | rfl <;> simp [ha, hsi]
theorem intsOf_bls (ys : List Bool) : blsOf (ys.map .bl) = some ys := by
  induction ys with
  | nil => rfl
  | cons y ys ih => simp [ih]
/-- like is like -/
theorem same_step {M : Mem} {k : Nat} (ih : ∀ d, Pl k d → c__law_same k [d, d] M = .ok (.bl true) M) {d : D} (h : Pl (k + 1) d) : endK M (m__law_same (c__law_same k) (startD N__law_same [d, d]) M) = .ok (.bl true) M := by
    unfold m__law_same
    cases d with
    | tup ds =>
      obtain ⟨ys, e, ha⟩ := same_seq (M := M) (.inl rfl) h.1 fun x hx => ih x (h.2 x hx)
      have hl := h.1
      have hl2 := rngOk_nat (n := ds.length) (by omega)
      simp [startD, wipeD, e, intsOf_bls, ha, hl, hl2, isTy]
    | lst ds => 
      obtain ⟨ys, e, ha⟩ := same_seq (M := M) (.inr rfl) h.1 fun x hx => ih x (h.2 x hx)
      have hl := h.1
      have hl2 := rngOk_nat (n := ds.length) (by omega)
      simp [startD, wipeD, e, intsOf_bls, ha, hl, hl2, isTy]
    | non => simp [startD, isTy]
    | bl b => simp [startD, isTy]
    | int i => simp [startD, isTy]
    | str x => simp [startD, isTy]
    | _ => exact h.elim
theorem same_spec (M : Mem) (k : Nat) : ∀ (d : D), Pl k d → c__law_same k [d, d] M = .ok (.bl true) M := by
  induction k with
  | zero => exact fun _ h => h.elim
  | succ k ih => exact fun d h => same_step ih h
/-- powers -/
theorem power_loop {b : Int} (hb : b.natAbs < 2 ^ 64) (x1 : Option D) (n : Nat) (M : Mem) (t : Option D) : ∃ t', forL [] (mName 3) (sSet 2 (eBin false oMul (eVar 2) (eVar 0))) (rangeD 0 n) [some (.int b), x1, some (.int 1), t] M = .nx [some (.int b), x1, some (.int (b ^ n)), t'] M := by
  obtain ⟨τ', M', e, rfl, t', rfl⟩ := forL_range (g := mName 3) (b := sSet 2 (eBin false oMul (eVar 2) (eVar 0))) (lo := 0) (n := n)
    (R := fun i τ M1 => M1 = M ∧ ∃ t, τ = [some (.int b), x1, some (.int (b ^ i)), t])
    (fun i τ M1 hi hR => by
      obtain ⟨rfl, t, rfl⟩ := hR
      have hq : ∀ x, CMulG x b := fun x => cmul_r hb
      exact ⟨[some (.int b), x1, some (.int (b ^ i)), some (.int i)], M1, [some (.int b), x1, some (.int (b ^ (i + 1))), some (.int i)], M1, by simp, .inl (by simp [hq, Int.pow_succ]), rfl, _, rfl⟩)
    (τ := [some (.int b), x1, some (.int 1), t]) (M := M) ⟨rfl, _, by simp; rfl⟩
  exact ⟨t', e⟩
theorem power_spec {b : Int} {n : Nat} (hb : b.natAbs < 2 ^ 64) (hn : n < 2 ^ 62) (M : Mem) : c_power [.int b, .int n] M = .ok (.int (b ^ n)) M := by
  obtain ⟨t', e⟩ := power_loop hb (some (.int n)) n M none
  have := rngOk_nat hn
  unfold c_power m_power
  simp [startD, this, e]
theorem lawPower_spec {b : Int} {n : Nat} (hb : b.natAbs < 2 ^ 64) (hn : n < 2 ^ 62) (M : Mem) : c__law_power [.int b, .int n] M = .ok (.int (b ^ n)) M := by
  obtain ⟨t', e⟩ := power_loop hb (some (.int n)) n M none
  have := rngOk_nat hn
  unfold c__law_power m__law_power
  simp [startD, this, e]
end Sh

namespace Sh2
open PySem PySem.Spec PyProof.Rows L2 DM
abbrev N_is_row : List Str := ["value"]
noncomputable def m_is_row : SM := (sRet (eArgs false oIsi (aCons (eVar 0) (aCons (eArgs false oTup (aCons (eC (.ty "tuple")) (aCons (eC (.ty "list")) aNil))) aNil))))
noncomputable def c_is_row : FM := fun ds M => endK M (m_is_row (startD N_is_row ds) M)
abbrev N_is_whole_row : List Str := ["value", "many", "part"]
noncomputable def m_is_whole_row : SM := (sRet (eAnd (eCall 1 (Sh2.c_is_row) (aCons (eVar 0) aNil)) (eAnd (eBin false oEq (eArgs false oLen (aCons (eVar 0) aNil)) (eVar 1)) (eArgs false oAll (aCons (eLc false (iSeq (eVar 0)) (mName 2) mYes (eCall 1 (Sh.c_is_whole) (aCons (eVar 2) aNil)) [2]) aNil)))))
noncomputable def c_is_whole_row : FM := fun ds M => endK M (m_is_whole_row (startD N_is_whole_row ds) M)
abbrev N_is_square : List Str := ["value", "many", "row"]
noncomputable def m_is_square : SM := (sRet (eAnd (eCall 1 (Sh2.c_is_row) (aCons (eVar 0) aNil)) (eAnd (eBin false oEq (eArgs false oLen (aCons (eVar 0) aNil)) (eVar 1)) (eArgs false oAll (aCons (eLc false (iSeq (eVar 0)) (mName 2) mYes (eCall 2 (Sh2.c_is_whole_row) (aCons (eVar 2) (aCons (eVar 1) aNil))) [2]) aNil)))))
noncomputable def c_is_square : FM := fun ds M => endK M (m_is_square (startD N_is_square ds) M)
abbrev N_dot : List Str := ["one", "other", "part", "more"]
noncomputable def m_dot : SM := (sRet (eArgs false oSum (aCons (eLc false (iZipX (aCons (eVar 0) (aCons (eVar 1) aNil))) (mTup 2 (mCons (mName 2) (mCons (mName 3) mNil))) mYes (eBin false oMul (eVar 2) (eVar 3)) [2, 3]) aNil)))
noncomputable def c_dot : FM := fun ds M => endK M (m_dot (startD N_dot ds) M)
abbrev N_turned_over : List Str := ["rows", "at", "row"]
noncomputable def m_turned_over : SM := (sRet (eIf (asT (eVar 0)) (eLc false (iRange1 (aCons (eArgs false oLen (aCons (eBin false oIx (eVar 0) (eC (.int 0))) aNil)) aNil)) (mName 1) mYes (eLc false (iSeq (eVar 0)) (mName 2) mYes (eBin false oIx (eVar 2) (eVar 1)) [2]) [1]) (eArgs false oLst aNil)))
noncomputable def c_turned_over : FM := fun ds M => endK M (m_turned_over (startD N_turned_over ds) M)
abbrev N_times : List Str := ["one", "other", "places", "row", "place"]
noncomputable def m_times : SM := (sSeq (sSet 2 (eCall 1 (Sh2.c_turned_over) (aCons (eVar 1) aNil))) (sRet (eLc false (iSeq (eVar 0)) (mName 3) mYes (eLc false (iSeq (eVar 2)) (mName 4) mYes (eCall 2 (Sh2.c_dot) (aCons (eVar 3) (aCons (eVar 4) aNil))) [4]) [3])))
noncomputable def c_times : FM := fun ds M => endK M (m_times (startD N_times ds) M)
abbrev N_moved_by : List Str := ["table", "form"]
noncomputable def m_moved_by : SM := (sRet (eCall 2 (Sh2.c_times) (aCons (eCall 2 (Sh2.c_times) (aCons (eVar 0) (aCons (eVar 1) aNil))) (aCons (eCall 1 (Sh2.c_turned_over) (aCons (eVar 0) aNil)) aNil))))
noncomputable def c_moved_by : FM := fun ds M => endK M (m_moved_by (startD N_moved_by ds) M)
abbrev N_as_tuples : List Str := ["rows", "row"]
noncomputable def m_as_tuples : SM := (sRet (eArgs false oTuple (aCons (eLc false (iSeq (eVar 0)) (mName 1) mYes (eArgs false oTuple (aCons (eVar 1) aNil)) [1]) aNil)))
noncomputable def c_as_tuples : FM := fun ds M => endK M (m_as_tuples (startD N_as_tuples ds) M)
abbrev N_determinant_of : List Str := ["rows", "sign", "before", "at", "chosen", "lead", "number", "by", "row", "part", "more"]
noncomputable def m_determinant_of : SM := (sSeq (sSet 0 (eLc true (iSeq (eVar 0)) (mName 8) mYes (eArgs false oList (aCons (eVar 8) aNil)) [8])) (sSeq (sSet 1 (eC (.int 1))) (sSeq (sSet 2 (eC (.int 1))) (sSeq (sFor (iRange1 (aCons (eArgs false oLen (aCons (eVar 0) aNil)) aNil)) (mName 3) (sSeq (sSet 4 (eLc false (iRange2 (aCons (eVar 3) (aCons (eArgs false oLen (aCons (eVar 0) aNil)) aNil))) (mName 6) (asB (eBin false oNe (eBin false oIx (eBin false oIx (eVar 0) (eVar 6)) (eVar 3)) (eC (.int 0)))) (eVar 6) [6])) (sSeq (sIf (mNot (asT (eVar 4))) (sRet (eC (.int 0))) sNil) (sSeq (sIf (asB (eBin false oNe (eBin false oIx (eVar 4) (eC (.int 0))) (eVar 3))) (sSeq (sAsg (eArgs false oTup (aCons (eBin false oIx (eVar 0) (eBin false oIx (eVar 4) (eC (.int 0)))) (aCons (eBin false oIx (eVar 0) (eVar 3)) aNil))) (mTup 2 (mCons (mSub (eVar 0) (eVar 3)) (mCons (mSub (eVar 0) (eBin false oIx (eVar 4) (eC (.int 0)))) mNil)))) (sSet 1 (eUn false oNeg (eVar 1)))) sNil) (sSeq (sSet 5 (eBin false oIx (eVar 0) (eVar 3))) (sSeq (sFor (iRange2 (aCons (eBin false oAdd (eVar 3) (eC (.int 1))) (aCons (eArgs false oLen (aCons (eVar 0) aNil)) aNil))) (mName 6) (sSeq (sSet 7 (eBin false oIx (eBin false oIx (eVar 0) (eVar 6)) (eVar 3))) (sAsg (eLc false (iZipX (aCons (eBin false oIx (eVar 0) (eVar 6)) (aCons (eVar 5) aNil))) (mTup 2 (mCons (mName 9) (mCons (mName 10) mNil))) mYes (eBin false oDiv (eBin false oSub (eBin false oMul (eBin false oIx (eVar 5) (eVar 3)) (eVar 9)) (eBin false oMul (eVar 7) (eVar 10))) (eVar 2)) [9, 10]) (mSub (eVar 0) (eVar 6))))) (sSet 2 (eBin false oIx (eVar 5) (eVar 3))))))))) (sRet (eBin false oMul (eVar 1) (eVar 2)))))))
noncomputable def c_determinant_of : FM := fun ds M => endT M (m_determinant_of (startD N_determinant_of ds) M)
abbrev N_cofactors : List Str := ["rows", "found", "row", "line", "place", "rest", "number", "other", "at", "part"]
noncomputable def m_cofactors : SM := (sSeq (sSet 1 (eArgs true oLst aNil)) (sSeq (sFor (iRange1 (aCons (eArgs false oLen (aCons (eVar 0) aNil)) aNil)) (mName 2) (sSeq (sSet 3 (eArgs true oLst aNil)) (sSeq (sFor (iRange1 (aCons (eArgs false oLen (aCons (eVar 0) aNil)) aNil)) (mName 4) (sSeq (sSet 5 (eArgs true oLst aNil)) (sSeq (sFor (iEnumX (aCons (eVar 0) aNil)) (mTup 2 (mCons (mName 6) (mCons (mName 7) mNil))) (sIf (asB (eBin false oNe (eVar 6) (eVar 2))) (sExpr (eMt oAppend (eVar 5) (aCons (eLc false (iEnumX (aCons (eVar 7) aNil)) (mTup 2 (mCons (mName 8) (mCons (mName 9) mNil))) (asB (eBin false oNe (eVar 8) (eVar 4))) (eVar 9) [8, 9]) aNil))) sNil)) (sExpr (eMt oAppend (eVar 3) (aCons (eBin false oMul (eBin false oSub (eC (.int 1)) (eBin false oMul (eC (.int 2)) (eBin false oMod (eBin false oAdd (eVar 2) (eVar 4)) (eC (.int 2))))) (eCall 1 (Sh2.c_determinant_of) (aCons (eVar 5) aNil))) aNil)))))) (sExpr (eMt oAppend (eVar 1) (aCons (eVar 3) aNil)))))) (sRet (eVar 1))))
noncomputable def c_cofactors : FM := fun ds M => endT M (m_cofactors (startD N_cofactors ds) M)
abbrev N_beside : List Str := ["blocks", "many", "found", "block", "ahead", "row"]
noncomputable def m_beside : SM := (sSeq (sSet 1 (eArgs false oSum (aCons (eLc false (iSeq (eVar 0)) (mName 3) mYes (eArgs false oLen (aCons (eVar 3) aNil)) [3]) aNil))) (sSeq (sSet 2 (eArgs true oLst aNil)) (sSeq (sFor (iSeq (eVar 0)) (mName 3) (sSeq (sSet 4 (eArgs false oLen (aCons (eVar 2) aNil))) (sFor (iSeq (eVar 3)) (mName 5) (sExpr (eMt oAppend (eVar 2) (aCons (eBin false oAdd (eBin false oAdd (eBin false oMul (eArgs false oLst (aCons (eC (.int 0)) aNil)) (eVar 4)) (eArgs false oList (aCons (eVar 5) aNil))) (eBin false oMul (eArgs false oLst (aCons (eC (.int 0)) aNil)) (eBin false oSub (eBin false oSub (eVar 1) (eVar 4)) (eArgs false oLen (aCons (eVar 5) aNil))))) aNil)))))) (sRet (eVar 2)))))
noncomputable def c_beside : FM := fun ds M => endT M (m_beside (startD N_beside ds) M)
abbrev N_fault_of : List Str := ["form", "most", "row", "part", "place"]
noncomputable def m_fault_of : SM := (sSeq (sIf (mOr (mNot (asT (eCall 1 (Sh2.c_is_row) (aCons (eVar 0) aNil)))) (mOr (mNot (asB (eChain oLe oLe (eC (.int 1)) (eArgs false oLen (aCons (eVar 0) aNil)) (eC (.int (8)))))) (mNot (asT (eCall 2 (Sh2.c_is_square) (aCons (eVar 0) (aCons (eArgs false oLen (aCons (eVar 0) aNil)) aNil))))))) (sRet (eC (.str "table"))) sNil) (sSeq (sIf (mAnd (asB (eBin false oIsNot (eVar 1) (eC .non))) (asT (eArgs false oAny (aCons (eLc false (iSeq (eVar 0)) (mName 2) mYes (eBin false oGt (eUn false oMaxA (eVar 2)) (eVar 1)) [2]) aNil)))) (sRet (eC (.str "table"))) sNil) (sSeq (sIf (asT (eArgs false oAny (aCons (eLc2 false (iRange1 (aCons (eArgs false oLen (aCons (eVar 0) aNil)) aNil)) (mName 2) mYes (iRange1 (aCons (eVar 2) aNil)) (mName 4) mYes (eBin false oNe (eBin false oIx (eBin false oIx (eVar 0) (eVar 2)) (eVar 4)) (eBin false oIx (eBin false oIx (eVar 0) (eVar 4)) (eVar 2))) [2, 4] [4]) aNil))) (sRet (eC (.str "sides"))) sNil) (sRet (eIf (asB (eBin false oEq (eCall 1 (Sh2.c_determinant_of) (aCons (eVar 0) aNil)) (eC (.int 0)))) (eC (.str "determinant")) (eC .non))))))
noncomputable def c_fault_of : FM := fun ds M => endK M (m_fault_of (startD N_fault_of ds) M)
abbrev N_told_form : List Str := ["form", "fault"]
noncomputable def m_told_form : SM := (sSeq (sSet 1 (eCall 2 (Sh2.c_fault_of) (aCons (eVar 0) (aCons (eC (.int (1000000000000000000000000000000))) aNil)))) (sSeq (sIf (asB (eBin false oIsNot (eVar 1) (eC .non))) (sRaiseF "BadForm" "reason" (aCons (eVar 1) aNil)) sNil) (sRet (eCall 1 (Sh2.c_as_tuples) (aCons (eVar 0) aNil)))))
noncomputable def c_told_form : FM := fun ds M => endK M (m_told_form (startD N_told_form ds) M)
abbrev N_told_table : List Str := ["table", "many"]
noncomputable def m_told_table : SM := (sSeq (sIf (mNot (asT (eCall 2 (Sh2.c_is_square) (aCons (eVar 0) (aCons (eVar 1) aNil))))) (sRaise "BadTable") sNil) (sRet (eCall 1 (Sh2.c_as_tuples) (aCons (eVar 0) aNil))))
noncomputable def c_told_table : FM := fun ds M => endK M (m_told_table (startD N_told_table ds) M)
abbrev N_moved : List Str := ["form", "table", "told"]
noncomputable def m_moved : SM := (sSeq (sSet 2 (eCall 1 (Sh2.c_told_form) (aCons (eVar 0) aNil))) (sRet (eCall 1 (Sh2.c_as_tuples) (aCons (eCall 2 (Sh2.c_moved_by) (aCons (eCall 2 (Sh2.c_told_table) (aCons (eVar 1) (aCons (eArgs false oLen (aCons (eVar 2) aNil)) aNil))) (aCons (eVar 2) aNil))) aNil))))
noncomputable def c_moved : FM := fun ds M => endK M (m_moved (startD N_moved ds) M)
abbrev N_sum_of_forms : List Str := ["one", "other", "first", "second"]
noncomputable def m_sum_of_forms : SM := (sSeq (sSet 2 (eCall 1 (Sh2.c_told_form) (aCons (eVar 0) aNil))) (sSeq (sSet 3 (eCall 1 (Sh2.c_told_form) (aCons (eVar 1) aNil))) (sSeq (sIf (asB (eBin false oGt (eBin false oAdd (eArgs false oLen (aCons (eVar 2) aNil)) (eArgs false oLen (aCons (eVar 3) aNil))) (eC (.int (8))))) (sRaise "TooGreat") sNil) (sRet (eCall 1 (Sh2.c_as_tuples) (aCons (eCall 1 (Sh2.c_beside) (aCons (eArgs false oLst (aCons (eVar 2) (aCons (eVar 3) aNil))) aNil)) aNil))))))
noncomputable def c_sum_of_forms : FM := fun ds M => endK M (m_sum_of_forms (startD N_sum_of_forms ds) M)
abbrev N_multiple : List Str := ["form", "m", "row", "part"]
noncomputable def m_multiple : SM := (sRet (eArgs false oTuple (aCons (eLc false (iSeq (eCall 1 (Sh2.c_told_form) (aCons (eVar 0) aNil))) (mName 2) mYes (eArgs false oTuple (aCons (eLc false (iSeq (eVar 2)) (mName 3) mYes (eBin false oMul (eVar 1) (eVar 3)) [3]) aNil)) [2]) aNil)))
noncomputable def c_multiple : FM := fun ds M => endK M (m_multiple (startD N_multiple ds) M)
abbrev N_adjoint : List Str := ["form", "told", "rows", "shared", "row", "part"]
noncomputable def m_adjoint : SM := (sSeq (sSet 1 (eCall 1 (Sh2.c_told_form) (aCons (eVar 0) aNil))) (sSeq (sIf (asB (eBin false oEq (eArgs false oLen (aCons (eVar 1) aNil)) (eC (.int 1)))) (sRet (eC .non)) sNil) (sSeq (sSet 2 (eCall 1 (Sh2.c_cofactors) (aCons (eVar 1) aNil))) (sSeq (sSet 3 (eC (.int 0))) (sSeq (sFor (iSeq (eVar 2)) (mName 4) (sFor (iSeq (eVar 4)) (mName 5) (sSet 3 (eArgs false oGcd (aCons (eVar 3) (aCons (eVar 5) aNil)))))) (sRet (eArgs false oTuple (aCons (eLc false (iSeq (eVar 2)) (mName 4) mYes (eArgs false oTuple (aCons (eLc false (iSeq (eVar 4)) (mName 5) mYes (eBin false oDiv (eVar 5) (eVar 3)) [5]) aNil)) [4]) aNil))))))))
noncomputable def c_adjoint : FM := fun ds M => endK M (m_adjoint (startD N_adjoint ds) M)
abbrev N__law_order : List Str := ["pool", "many", "left", "found", "k"]
noncomputable def m__law_order : SM := (sSeq (sSet 2 (eArgs true oRangeL (aCons (eVar 1) aNil))) (sSeq (sSet 3 (eArgs false oTup aNil)) (sSeq (sFor (iRange1 (aCons (eVar 1) aNil)) (mName 4) (sSet 3 (eBin false oAdd (eVar 3) (eArgs false oTup (aCons (eMt oPopAt (eVar 2) (aCons (eCall 2 (Sh.c__law_take 2) (aCons (eVar 0) (aCons (eArgs false oLen (aCons (eVar 2) aNil)) aNil))) aNil)) aNil))))) (sRet (eVar 3)))))
noncomputable def c__law_order : FM := fun ds M => endT M (m__law_order (startD N__law_order ds) M)
abbrev N__law_common : List Str := ["one", "other", "turn"]
noncomputable def m__law_common : SM := (sSeq (sPar 0 1 (aCons (eArgs false oAbs (aCons (eVar 0) aNil)) (aCons (eArgs false oAbs (aCons (eVar 1) aNil)) aNil))) (sSeq (sFor (iRange1 (aCons (eC (.int 20000)) aNil)) (mName 2) (sSeq (sIf (asB (eBin false oEq (eVar 1) (eC (.int 0)))) sBreak sNil) (sPar 0 1 (aCons (eVar 1) (aCons (eBin false oSub (eVar 0) (eBin false oMul (eVar 1) (eArgs false oInt (aCons (eBin false oDiv (eVar 0) (eVar 1)) aNil)))) aNil))))) (sRet (eVar 0))))
noncomputable def c__law_common : FM := fun ds M => endK M (m__law_common (startD N__law_common ds) M)
abbrev N__law_determinant : List Str := ["rows", "sign", "before", "at", "chosen", "lead", "k", "row", "j"]
noncomputable def m__law_determinant : SM := (sSeq (sSet 0 (eLc true (iSeq (eVar 0)) (mName 7) mYes (eArgs false oList (aCons (eVar 7) aNil)) [7])) (sSeq (sAsg (eArgs false oTup (aCons (eC (.int 1)) (aCons (eC (.int 1)) aNil))) (mTup 2 (mCons (mName 1) (mCons (mName 2) mNil)))) (sSeq (sFor (iRange1 (aCons (eArgs false oLen (aCons (eVar 0) aNil)) aNil)) (mName 3) (sSeq (sSet 4 (eLc false (iRange2 (aCons (eVar 3) (aCons (eArgs false oLen (aCons (eVar 0) aNil)) aNil))) (mName 6) (asB (eBin false oNe (eBin false oIx (eBin false oIx (eVar 0) (eVar 6)) (eVar 3)) (eC (.int 0)))) (eVar 6) [6])) (sSeq (sIf (mNot (asT (eVar 4))) (sRet (eC (.int 0))) sNil) (sSeq (sIf (asB (eBin false oNe (eBin false oIx (eVar 4) (eC (.int 0))) (eVar 3))) (sSeq (sAsg (eArgs false oTup (aCons (eBin false oIx (eVar 0) (eBin false oIx (eVar 4) (eC (.int 0)))) (aCons (eBin false oIx (eVar 0) (eVar 3)) aNil))) (mTup 2 (mCons (mSub (eVar 0) (eVar 3)) (mCons (mSub (eVar 0) (eBin false oIx (eVar 4) (eC (.int 0)))) mNil)))) (sSet 1 (eUn false oNeg (eVar 1)))) sNil) (sSeq (sSet 5 (eBin false oIx (eVar 0) (eVar 3))) (sSeq (sFor (iRange2 (aCons (eBin false oAdd (eVar 3) (eC (.int 1))) (aCons (eArgs false oLen (aCons (eVar 0) aNil)) aNil))) (mName 6) (sAsg (eLc false (iRange1 (aCons (eArgs false oLen (aCons (eVar 0) aNil)) aNil)) (mName 8) mYes (eArgs false oInt (aCons (eBin false oDiv (eBin false oSub (eBin false oMul (eBin false oIx (eVar 5) (eVar 3)) (eBin false oIx (eBin false oIx (eVar 0) (eVar 6)) (eVar 8))) (eBin false oMul (eBin false oIx (eBin false oIx (eVar 0) (eVar 6)) (eVar 3)) (eBin false oIx (eVar 5) (eVar 8)))) (eVar 2)) aNil)) [8]) (mSub (eVar 0) (eVar 6)))) (sSet 2 (eBin false oIx (eVar 5) (eVar 3))))))))) (sRet (eBin false oMul (eVar 1) (eVar 2))))))
noncomputable def c__law_determinant : FM := fun ds M => endT M (m__law_determinant (startD N__law_determinant ds) M)
abbrev N__law_tuples : List Str := ["rows", "row"]
noncomputable def m__law_tuples : SM := (sRet (eArgs false oTuple (aCons (eLc false (iSeq (eVar 0)) (mName 1) mYes (eArgs false oTuple (aCons (eVar 1) aNil)) [1]) aNil)))
noncomputable def c__law_tuples : FM := fun ds M => endK M (m__law_tuples (startD N__law_tuples ds) M)
abbrev N__law_handed : List Str := ["pool", "rows", "row"]
noncomputable def m__law_handed : SM := (sRet (eCall 2 (Sh.c__law_pick) (aCons (eVar 0) (aCons (eArgs false oLst (aCons (eVar 1) (aCons (eCall 1 (Sh2.c__law_tuples) (aCons (eVar 1) aNil)) (aCons (eLc false (iSeq (eVar 1)) (mName 2) mYes (eArgs false oList (aCons (eVar 2) aNil)) [2]) (aCons (eLc false (iSeq (eVar 1)) (mName 2) mYes (eArgs false oTuple (aCons (eVar 2) aNil)) [2]) (aCons (eArgs false oTuple (aCons (eLc false (iSeq (eVar 1)) (mName 2) mYes (eArgs false oList (aCons (eVar 2) aNil)) [2]) aNil)) aNil)))))) aNil))))
noncomputable def c__law_handed : FM := fun ds M => endK M (m__law_handed (startD N__law_handed ds) M)
abbrev N__law_dot : List Str := ["one", "other", "k"]
noncomputable def m__law_dot : SM := (sRet (eArgs false oSum (aCons (eLc false (iRange1 (aCons (eArgs false oLen (aCons (eVar 0) aNil)) aNil)) (mName 2) mYes (eBin false oMul (eBin false oIx (eVar 0) (eVar 2)) (eBin false oIx (eVar 1) (eVar 2))) [2]) aNil)))
noncomputable def c__law_dot : FM := fun ds M => endK M (m__law_dot (startD N__law_dot ds) M)
abbrev N__law_moved : List Str := ["table", "form", "images", "row", "line", "image"]
noncomputable def m__law_moved : SM := (sSeq (sSet 2 (eLc false (iSeq (eVar 0)) (mName 3) mYes (eLc false (iSeq (eVar 1)) (mName 4) mYes (eCall 2 (Sh2.c__law_dot) (aCons (eVar 4) (aCons (eVar 3) aNil))) [4]) [3])) (sRet (eArgs false oTuple (aCons (eLc false (iSeq (eVar 2)) (mName 5) mYes (eArgs false oTuple (aCons (eLc false (iSeq (eVar 0)) (mName 3) mYes (eCall 2 (Sh2.c__law_dot) (aCons (eVar 5) (aCons (eVar 3) aNil))) [3]) aNil)) [5]) aNil))))
noncomputable def c__law_moved : FM := fun ds M => endK M (m__law_moved (startD N__law_moved ds) M)
abbrev N__law_unit : List Str := ["n", "i", "j"]
noncomputable def m__law_unit : SM := (sRet (eArgs false oTuple (aCons (eLc false (iRange1 (aCons (eVar 0) aNil)) (mName 1) mYes (eArgs false oTuple (aCons (eLc false (iRange1 (aCons (eVar 0) aNil)) (mName 2) mYes (eArgs false oInt (aCons (eBin false oEq (eVar 1) (eVar 2)) aNil)) [2]) aNil)) [1]) aNil)))
noncomputable def c__law_unit : FM := fun ds M => endK M (m__law_unit (startD N__law_unit ds) M)
abbrev N__law_turn : List Str := ["pool", "n", "steps", "rows", "k", "step", "one", "far", "other", "times_v", "part", "j"]
noncomputable def m__law_turn : SM := (sSeq (sSet 3 (eLc true (iSeq (eCall 2 (Sh2.c__law_order) (aCons (eVar 0) (aCons (eVar 1) aNil)))) (mName 4) mYes (eArgs false oList (aCons (eBin false oIx (eCall 1 (Sh2.c__law_unit) (aCons (eVar 1) aNil)) (eVar 4)) aNil)) [4])) (sSeq (sFor (iRange1 (aCons (eVar 1) aNil)) (mName 4) (sIf (asB (eBin false oEq (eCall 2 (Sh.c__law_take 2) (aCons (eVar 0) (aCons (eC (.int 2)) aNil))) (eC (.int 0)))) (sAsg (eLc false (iSeq (eBin false oIx (eVar 3) (eVar 4))) (mName 10) mYes (eUn false oNeg (eVar 10)) [10]) (mSub (eVar 3) (eVar 4))) sNil)) (sSeq (sFor (iRange1 (aCons (eIf (asB (eBin false oGt (eVar 1) (eC (.int 1)))) (eVar 2) (eC (.int 0))) aNil)) (mName 5) (sSeq (sAsg (eArgs false oTup (aCons (eCall 2 (Sh.c__law_take 2) (aCons (eVar 0) (aCons (eVar 1) aNil))) (aCons (eBin false oAdd (eC (.int 1)) (eCall 2 (Sh.c__law_take 2) (aCons (eVar 0) (aCons (eBin false oSub (eVar 1) (eC (.int 1))) aNil)))) aNil))) (mTup 2 (mCons (mName 6) (mCons (mName 7) mNil)))) (sSeq (sAsg (eArgs false oTup (aCons (eBin false oMod (eArgs false oInt (aCons (eBin false oAdd (eVar 6) (eVar 7)) aNil)) (eVar 1)) (aCons (eCall 2 (Sh.c__law_pick) (aCons (eVar 0) (aCons (eArgs false oLst (aCons (eC (.int 1)) (aCons (eUn false oNeg (eC (.int 1))) (aCons (eC (.int 2)) (aCons (eUn false oNeg (eC (.int 2))) aNil))))) aNil))) aNil))) (mTup 2 (mCons (mName 8) (mCons (mName 9) mNil)))) (sAsg (eLc false (iRange1 (aCons (eVar 1) aNil)) (mName 11) mYes (eBin false oAdd (eBin false oIx (eBin false oIx (eVar 3) (eVar 6)) (eVar 11)) (eBin false oMul (eVar 9) (eBin false oIx (eBin false oIx (eVar 3) (eVar 8)) (eVar 11)))) [11]) (mSub (eVar 3) (eVar 6)))))) (sRet (eCall 1 (Sh2.c__law_tuples) (aCons (eVar 3) aNil))))))
noncomputable def c__law_turn : FM := fun ds M => endT M (m__law_turn (startD N__law_turn ds) M)
abbrev N__law_skewed : List Str := ["pool", "form", "steps", "bound", "table", "turn", "later", "row", "part"]
noncomputable def m__law_skewed : SM := (sSeq (sSet 4 (eCall 3 (Sh2.c__law_turn) (aCons (eVar 0) (aCons (eArgs false oLen (aCons (eVar 1) aNil)) (aCons (eVar 2) aNil))))) (sSeq (sFor (iRange1 (aCons (eBin false oAdd (eVar 2) (eC (.int 1))) aNil)) (mName 5) (sSeq (sSet 6 (eCall 2 (Sh2.c__law_moved) (aCons (eVar 4) (aCons (eVar 1) aNil)))) (sSeq (sIf (asB (eBin false oLe (eArgs false oMaxL (aCons (eLc false (iSeq (eVar 6)) (mName 7) mYes (eArgs false oMaxL (aCons (eLc false (iSeq (eVar 7)) (mName 8) mYes (eArgs false oAbs (aCons (eVar 8) aNil)) [8]) aNil)) [7]) aNil)) (eVar 3))) (sRet (eArgs false oTup (aCons (eVar 6) (aCons (eVar 4) aNil)))) sNil) (sSet 4 (eCall 3 (Sh2.c__law_turn) (aCons (eVar 0) (aCons (eArgs false oLen (aCons (eVar 1) aNil)) (aCons (eArgs false oMax2 (aCons (eC (.int 0)) (aCons (eBin false oSub (eBin false oSub (eVar 2) (eVar 5)) (eC (.int 1))) aNil))) aNil)))))))) (sRet (eArgs false oTup (aCons (eCall 2 (Sh2.c__law_moved) (aCons (eVar 4) (aCons (eVar 1) aNil))) (aCons (eVar 4) aNil))))))
noncomputable def c__law_skewed : FM := fun ds M => endK M (m__law_skewed (startD N__law_skewed ds) M)
abbrev N__law_beside : List Str := ["one", "other", "n", "m", "i"]
noncomputable def m__law_beside : SM := (sSeq (sAsg (eArgs false oTup (aCons (eArgs false oLen (aCons (eVar 0) aNil)) (aCons (eArgs false oLen (aCons (eVar 1) aNil)) aNil))) (mTup 2 (mCons (mName 2) (mCons (mName 3) mNil)))) (sRet (eArgs false oTuple (aCons (eBin false oAdd (eLc false (iRange1 (aCons (eVar 2) aNil)) (mName 4) mYes (eBin false oAdd (eArgs false oTuple (aCons (eBin false oIx (eVar 0) (eVar 4)) aNil)) (eBin false oMulT (eArgs false oTup (aCons (eC (.int 0)) aNil)) (eVar 3))) [4]) (eLc false (iRange1 (aCons (eVar 3) aNil)) (mName 4) mYes (eBin false oAdd (eBin false oMulT (eArgs false oTup (aCons (eC (.int 0)) aNil)) (eVar 2)) (eArgs false oTuple (aCons (eBin false oIx (eVar 1) (eVar 4)) aNil))) [4])) aNil))))
noncomputable def c__law_beside : FM := fun ds M => endK M (m__law_beside (startD N__law_beside ds) M)
abbrev N__law_no_form : List Str := ["pool", "form", "n", "rows", "kind", "some", "at", "spot", "i", "row"]
noncomputable def m__law_no_form : SM := (sSeq (sSet 2 (eArgs false oLen (aCons (eVar 1) aNil))) (sSeq (sSet 3 (eLc true (iSeq (eVar 1)) (mName 9) mYes (eArgs true oList (aCons (eVar 9) aNil)) [9])) (sSeq (sSet 4 (eCall 2 (Sh.c__law_take 2) (aCons (eVar 0) (aCons (eC (.int 3)) aNil)))) (sSeq (sIf (mOr (asB (eBin false oEq (eVar 4) (eC (.int 0)))) (asB (eBin false oLt (eVar 2) (eC (.int 2))))) (sSeq (sSet 5 (eArgs false oLst (aCons (eC .non) (aCons (eC (.int 3)) (aCons (eC (.str "1")) (aCons (eC .dic) (aCons (eArgs false oLst aNil) (aCons (eArgs false oTup aNil) (aCons (eArgs false oLst (aCons (eC (.int 1)) aNil)) (aCons (eArgs false oLst (aCons (eArgs false oLst (aCons (eC (.int 1)) (aCons (eC (.int 0)) aNil))) aNil)) (aCons (eArgs false oLst (aCons (eArgs false oLst (aCons (eC (.int 1)) aNil)) (aCons (eArgs false oLst (aCons (eC (.int 0)) aNil)) aNil))) (aCons (eCall 1 (Sh2.c__law_unit) (aCons (eC (.int 9)) aNil)) (aCons (eBin false oMulT (eArgs false oTup (aCons (eC .non) aNil)) (eVar 2)) (aCons (eArgs false oLst (aCons (eArgs false oLst (aCons (eC (.bl true)) aNil)) aNil)) (aCons (eArgs false oLst (aCons (eArgs false oLst (aCons (eC .non) aNil)) aNil)) (aCons (eBin false oAdd (eSl false (eVar 3) pNo (pSome (eBin false oSub (eVar 2) (eC (.int 1))))) (eArgs false oLst (aCons (eBin false oAdd (eBin false oIx (eVar 3) (eBin false oSub (eVar 2) (eC (.int 1)))) (eArgs false oLst (aCons (eC (.int 0)) aNil))) aNil))) aNil)))))))))))))))) (sSeq (sPar 6 7 (aCons (eCall 2 (Sh.c__law_take 2) (aCons (eVar 0) (aCons (eVar 2) aNil))) (aCons (eCall 2 (Sh.c__law_take 2) (aCons (eVar 0) (aCons (eVar 2) aNil))) aNil))) (sSeq (sAsg (eCall 2 (Sh.c__law_pick) (aCons (eVar 0) (aCons (eArgs false oLst (aCons (eC .non) (aCons (eC (.str "1")) (aCons (eC (.bl true)) (aCons (eBin false oAdd (eBin false oPow (eC (.int 10)) (eC (.int 30))) (eC (.int 1))) (aCons (eBin false oSub (eUn false oNeg (eBin false oPow (eC (.int 10)) (eC (.int 30)))) (eC (.int 1))) (aCons (eArgs false oTup (aCons (eC (.int 1)) aNil)) (aCons (eArgs false oLst (aCons (eC (.int 1)) aNil)) aNil)))))))) aNil))) (mSub (eBin false oIx (eVar 3) (eVar 6)) (eVar 7))) (sRet (eArgs false oTup (aCons (eCall 2 (Sh.c__law_pick) (aCons (eVar 0) (aCons (eBin false oAdd (eVar 5) (eArgs false oLst (aCons (eVar 3) (aCons (eCall 1 (Sh2.c__law_tuples) (aCons (eVar 3) aNil)) (aCons (eVar 3) (aCons (eVar 3) aNil)))))) aNil))) (aCons (eC (.str "table")) aNil))))))) sNil) (sSeq (sSet 6 (eCall 2 (Sh.c__law_take 2) (aCons (eVar 0) (aCons (eVar 2) aNil)))) (sSeq (sSet 7 (eBin false oMod (eArgs false oInt (aCons (eBin false oAdd (eBin false oAdd (eVar 6) (eC (.int 1))) (eCall 2 (Sh.c__law_take 2) (aCons (eVar 0) (aCons (eBin false oSub (eVar 2) (eC (.int 1))) aNil)))) aNil)) (eVar 2))) (sSeq (sIf (asB (eBin false oEq (eVar 4) (eC (.int 1)))) (sSeq (sAsg (eBin false oAdd (eBin false oIx (eBin false oIx (eVar 3) (eVar 6)) (eVar 7)) (eCall 2 (Sh.c__law_pick) (aCons (eVar 0) (aCons (eArgs false oLst (aCons (eC (.int 1)) (aCons (eUn false oNeg (eC (.int 1))) (aCons (eC (.int 5)) aNil)))) aNil)))) (mSub (eBin false oIx (eVar 3) (eVar 6)) (eVar 7))) (sRet (eArgs false oTup (aCons (eCall 2 (Sh2.c__law_handed) (aCons (eVar 0) (aCons (eVar 3) aNil))) (aCons (eC (.str "sides")) aNil))))) sNil) (sSeq (sAsg (eArgs true oList (aCons (eBin false oIx (eVar 3) (eVar 6)) aNil)) (mSub (eVar 3) (eVar 7))) (sSeq (sFor (iRange1 (aCons (eVar 2) aNil)) (mName 8) (sAsg (eBin false oIx (eBin false oIx (eVar 3) (eVar 8)) (eVar 6)) (mSub (eBin false oIx (eVar 3) (eVar 8)) (eVar 7)))) (sRet (eArgs false oTup (aCons (eCall 2 (Sh2.c__law_handed) (aCons (eVar 0) (aCons (eVar 3) aNil))) (aCons (eC (.str "determinant")) aNil)))))))))))))
noncomputable def c__law_no_form : FM := fun ds M => endT M (m__law_no_form (startD N__law_no_form ds) M)
abbrev N__law_any_form : List Str := ["pool", "n", "bound", "blocks", "have", "p", "turn", "scale", "a", "c", "block", "i", "j"]
noncomputable def m__law_any_form : SM := (sSeq (sSet 3 (eC .non)) (sSeq (sSet 4 (eC (.int 0))) (sSeq (sSet 5 (eCall 2 (Sh.c__law_pick) (aCons (eVar 0) (aCons (eArgs false oLst (aCons (eC (.int 2)) (aCons (eC (.int 2)) (aCons (eC (.int 2)) (aCons (eC (.int 3)) (aCons (eC (.int 5)) (aCons (eC (.int 7)) (aCons (eC (.int 11)) aNil)))))))) aNil)))) (sSeq (sFor (iRange1 (aCons (eVar 1) aNil)) (mName 6) (sSeq (sIf (asB (eBin false oEq (eVar 4) (eVar 1))) sBreak sNil) (sSeq (sSet 7 (eCall 2 (Sh.c__law_power) (aCons (eVar 5) (aCons (eCall 2 (Sh.c__law_pick) (aCons (eVar 0) (aCons (eArgs false oLst (aCons (eC (.int 0)) (aCons (eC (.int 0)) (aCons (eC (.int 1)) (aCons (eC (.int 1)) (aCons (eC (.int 2)) (aCons (eC (.int 3)) aNil))))))) aNil))) aNil)))) (sSeq (sIf (mAnd (asB (eBin false oGt (eBin false oSub (eVar 1) (eVar 4)) (eC (.int 1)))) (asB (eBin false oEq (eCall 2 (Sh.c__law_take 2) (aCons (eVar 0) (aCons (eC (.int 3)) aNil))) (eC (.int 0))))) (sSeq (sPar 8 9 (aCons (eCall 2 (Sh.c__law_pick) (aCons (eVar 0) (aCons (eArgs false oLst (aCons (eC (.int 0)) (aCons (eC (.int 1)) (aCons (eUn false oNeg (eC (.int 1))) (aCons (eC (.int 2)) aNil))))) aNil))) (aCons (eCall 2 (Sh.c__law_pick) (aCons (eVar 0) (aCons (eArgs false oLst (aCons (eC (.int 0)) (aCons (eC (.int 1)) (aCons (eC (.int 1)) (aCons (eUn false oNeg (eC (.int 2))) aNil))))) aNil))) aNil))) (sSet 10 (eArgs false oTup (aCons (eArgs false oTup (aCons (eBin false oMul (eBin false oMul (eC (.int 2)) (eVar 8)) (eVar 7)) (aCons (eVar 7) aNil))) (aCons (eArgs false oTup (aCons (eVar 7) (aCons (eBin false oMul (eBin false oMul (eC (.int 2)) (eVar 9)) (eVar 7)) aNil))) aNil))))) (sSet 10 (eArgs false oTup (aCons (eArgs false oTup (aCons (eBin false oMul (eCall 2 (Sh.c__law_pick) (aCons (eVar 0) (aCons (eArgs false oLst (aCons (eC (.int 1)) (aCons (eUn false oNeg (eC (.int 1))) (aCons (eC (.int 1)) (aCons (eUn false oNeg (eC (.int 1))) (aCons (eC (.int 3)) (aCons (eC (.int 5)) (aCons (eUn false oNeg (eC (.int 3))) (aCons (eC (.int 7)) (aCons (eC (.int 2)) (aCons (eC (.int 6)) (aCons (eC (.int 11)) aNil)))))))))))) aNil))) (eVar 7)) aNil)) aNil)))) (sSeq (sSet 3 (eIf (asB (eBin false oIs (eVar 3) (eC .non))) (eVar 10) (eCall 2 (Sh2.c__law_beside) (aCons (eVar 3) (aCons (eVar 10) aNil))))) (sSet 4 (eBin false oAdd (eVar 4) (eArgs false oLen (aCons (eVar 10) aNil))))))))) (sSeq (sIf (asB (eBin false oEq (eCall 1 (Sh2.c__law_determinant) (aCons (eVar 3) aNil)) (eC (.int 0)))) (sSet 3 (eArgs false oTuple (aCons (eLc false (iRange1 (aCons (eVar 1) aNil)) (mName 11) mYes (eArgs false oTuple (aCons (eLc false (iRange1 (aCons (eVar 1) aNil)) (mName 12) mYes (eArgs false oInt (aCons (eBin false oEq (eVar 11) (eVar 12)) aNil)) [12]) aNil)) [11]) aNil))) sNil) (sRet (eBin false oIx (eCall 4 (Sh2.c__law_skewed) (aCons (eVar 0) (aCons (eVar 3) (aCons (eCall 2 (Sh.c__law_take 2) (aCons (eVar 0) (aCons (eC (.int 9)) aNil))) (aCons (eVar 2) aNil))))) (eC (.int 0)))))))))
noncomputable def c__law_any_form : FM := fun ds M => endK M (m__law_any_form (startD N__law_any_form ds) M)
end Sh2

namespace LA

/-! sums over i < n, and determinants by the last row -/
def sm : Nat → (Nat → Int) → Int
  | 0, _ => 0
  | n + 1, f => sm n f + f n

theorem sm_congr {n : Nat} {f g : Nat → Int} (h : ∀ i, i < n → f i = g i) : sm n f = sm n g := by
  induction n with
  | zero => rfl
  | succ n ih =>
    show sm n f + f n = sm n g + g n
    rw [ih (fun i hi => h i (by omega)), h n (by omega)]
theorem sm_0 {n : Nat} {f : Nat → Int} (h : ∀ i, i < n → f i = 0) : sm n f = 0 := by
  induction n with
  | zero => rfl
  | succ n ih =>
    show sm n f + f n = 0
    rw [ih (fun i hi => h i (by omega)), h n (by omega)]; rfl
theorem sm_add (n : Nat) (f g : Nat → Int) : sm n (fun i => f i + g i) = sm n f + sm n g := by
  induction n with
  | zero => rfl
  | succ n ih => simp only [sm, ih]; omega
theorem sm_sub (n : Nat) (f g : Nat → Int) : sm n (fun i => f i - g i) = sm n f - sm n g := by
  induction n with
  | zero => rfl
  | succ n ih => simp only [sm, ih]; omega
theorem sm_neg (n : Nat) (f : Nat → Int) : sm n (fun i => - f i) = - sm n f := by
  induction n with
  | zero => rfl
  | succ n ih => simp only [sm, ih]; omega
theorem sm_mul (n : Nat) (c : Int) (f : Nat → Int) : sm n (fun i => c * f i) = c * sm n f := by
  induction n with
  | zero => simp [sm]
  | succ n ih => simp only [sm, ih, Int.mul_add]
theorem sm_mul' (n : Nat) (c : Int) (f : Nat → Int) : sm n (fun i => f i * c) = sm n f * c := by
  induction n with
  | zero => simp [sm]
  | succ n ih => simp only [sm, ih, Int.add_mul]
theorem sm_comm (n m : Nat) (f : Nat → Nat → Int) : sm n (fun i => sm m (fun j => f i j)) = sm m (fun j => sm n (fun i => f i j)) := by
  induction n with
  | zero => exact (sm_0 fun _ _ => rfl).symm
  | succ n ih => simp only [sm, ih]; rw [← sm_add]
theorem sm_one {n : Nat} {f : Nat → Int} (k : Nat) (hk : k < n) (h : ∀ i, i < n → i ≠ k → f i = 0) : sm n f = f k := by
  induction n with
  | zero => omega
  | succ n ih =>
    show sm n f + f n = f k
    rcases Nat.lt_or_ge k n with h1 | h1
    · rw [ih h1 (fun i hi => h i (by omega)), h n (by omega) (by omega)]; omega
    · have : k = n := by omega
      subst this
      rw [sm_0 (fun i hi => h i (by omega) (by omega))]; omega

def skip (j k : Nat) : Nat := if k < j then k else k + 1
theorem skip_ne (j k : Nat) : skip j k ≠ j := by unfold skip; split <;> omega
theorem skip_lt {j k n : Nat} (h : k < n) : skip j k < n + 1 := by unfold skip; split <;> omega
theorem skip_of_lt {j k : Nat} (h : k < j) : skip j k = k := if_pos h
theorem skip_of_ge {j k : Nat} (h : j ≤ k) : skip j k = k + 1 := if_neg (by omega)
theorem sm_skip (n j : Nat) (f : Nat → Int) (hj : j ≤ n) : sm n (fun k => f (skip j k)) + f j = sm (n + 1) f := by
  induction n with
  | zero => have : j = 0 := by omega
            subst this; simp [sm]
  | succ n ih =>
    rcases Nat.lt_or_ge n j with h | h
    · have : j = n + 1 := by omega
      subst this
      show sm (n+1) (fun k => f (skip (n + 1) k)) + f (n + 1) = sm (n + 1) f + f (n + 1)
      rw [sm_congr (fun k hk => by rw [skip_of_lt (by omega)])]
    · show sm n (fun k => f (skip j k)) + f (skip j n) + f j = sm (n + 1) f + f (n + 1)
      rw [← ih (by omega), skip_of_ge h]; omega

def sg (k : Nat) : Int := if k % 2 = 0 then 1 else -1
theorem sg_succ (k : Nat) : sg (k + 1) = - sg k := by unfold sg; split <;> split <;> omega
theorem sg_add (a b : Nat) : sg (a + b) = sg a * sg b := by
  unfold sg; split <;> split <;> split <;> omega
theorem sg_sq (k : Nat) : sg k * sg k = 1 := by unfold sg; split <;> rfl
theorem sg_two (k : Nat) : sg (k + k) = 1 := by rw [sg_add, sg_sq]
theorem sg_congr {a b : Nat} (h : a % 2 = b % 2) : sg a = sg b := by unfold sg; rw [h]
theorem sg_ne {a b : Nat} (h : a % 2 ≠ b % 2) : sg a = - sg b := by unfold sg; split <;> split <;> omega

abbrev Mat := Nat → Nat → Int

noncomputable def det : Nat → Mat → Int
  | 0, _ => 1
  | n + 1, A => sm (n + 1) fun j => sg (n + j) * A n j * det n (fun i k => A i (skip j k))

theorem det_succ (n : Nat) (A : Mat) : det (n + 1) A = sm (n + 1) fun j => sg (n + j) * A n j * det n (fun i k => A i (skip j k)) := rfl

theorem det_congr {n : Nat} : ∀ {A B : Mat}, (∀ i, i < n → ∀ j, j < n → A i j = B i j) → det n A = det n B := by
  induction n with
  | zero => intros; rfl
  | succ n ih =>
    intro A B h
    simp only [det_succ]
    refine sm_congr fun j hj => ?_
    rw [h n (by omega) j hj, ih (fun i hi k hk => h i (by omega) _ (skip_lt hk))]

def ur (A : Mat) (r : Nat) (v : Nat → Int) : Mat := fun i j => if i = r then v j else A i j
theorem ur_same (A : Mat) (r : Nat) (v : Nat → Int) (j : Nat) : ur A r v r j = v j := if_pos rfl
theorem ur_ne {A : Mat} {r i : Nat} {v : Nat → Int} (h : i ≠ r) (j : Nat) : ur A r v i j = A i j := if_neg h
theorem ur_self (A : Mat) (r : Nat) : ur A r (A r) = A := by
  funext i j; unfold ur; split
  · next h => rw [h]
  · rfl

theorem det_add {n : Nat} : ∀ (A : Mat) (r : Nat) (u v : Nat → Int), r < n →
    det n (ur A r (fun j => u j + v j)) = det n (ur A r u) + det n (ur A r v) := by
  induction n with
  | zero => intros; omega
  | succ n ih =>
    intro A r u v hr
    simp only [det_succ]
    rw [← sm_add]
    refine sm_congr fun j hj => ?_
    by_cases e : r = n
    · subst e
      have m : ∀ w : Nat → Int, det r (fun i k => ur A r w i (skip j k)) = det r (fun i k => A i (skip j k)) := fun w =>
        det_congr fun i hi k hk => ur_ne (by omega) _
      rw [m, m, m, ur_same, ur_same, ur_same]; grind
    · have m : ∀ w : Nat → Int, (fun i k => ur A r w i (skip j k)) = ur (fun i k => A i (skip j k)) r (fun k => w (skip j k)) := fun w => rfl
      rw [m, m, m, ih _ r _ _ (by omega), ur_ne (by omega), ur_ne (by omega), ur_ne (by omega)]; grind
theorem det_smul {n : Nat} : ∀ (A : Mat) (r : Nat) (c : Int) (u : Nat → Int), r < n →
    det n (ur A r (fun j => c * u j)) = c * det n (ur A r u) := by
  induction n with
  | zero => intros; omega
  | succ n ih =>
    intro A r c u hr
    simp only [det_succ]
    rw [← sm_mul]
    refine sm_congr fun j hj => ?_
    by_cases e : r = n
    · subst e
      have m : ∀ w : Nat → Int, det r (fun i k => ur A r w i (skip j k)) = det r (fun i k => A i (skip j k)) := fun w =>
        det_congr fun i hi k hk => ur_ne (by omega) _
      rw [m, m, ur_same, ur_same]; grind
    · have m : ∀ w : Nat → Int, (fun i k => ur A r w i (skip j k)) = ur (fun i k => A i (skip j k)) r (fun k => w (skip j k)) := fun w => rfl
      rw [m, m, ih _ r _ _ (by omega), ur_ne (by omega), ur_ne (by omega)]; grind

def kof (a b : Nat) : Nat := if b < a then b else b - 1
theorem skip_kof {a b : Nat} (h : b ≠ a) : skip a (kof a b) = b := by
  unfold skip kof; (repeat' split) <;> omega
theorem kof_skip (a k : Nat) : kof a (skip a k) = k := by
  unfold skip kof; (repeat' split) <;> omega
theorem skip_skip {a b : Nat} (h : a ≠ b) (l : Nat) : skip a (skip (kof a b) l) = skip b (skip (kof b a) l) := by
  unfold skip kof
  (repeat' split) <;> omega

theorem det_last2 (m : Nat) (A : Mat) (h : ∀ j, j < m + 2 → A m j = A (m + 1) j) : det (m + 2) A = 0 := by
  let T : Nat → Nat → Int := fun a b => if b = a then 0 else sg (m + 1 + a) * sg (m + kof a b) * A (m + 1) a * A (m + 1) b * det m (fun i l => A i (skip a (skip (kof a b) l)))
  have e : det (m + 2) A = sm (m + 2) (fun a => sm (m + 2) (T a)) := by
    show sm (m + 2) _ = _
    refine sm_congr fun j hj => ?_
    show sg (m + 1 + j) * A (m + 1) j * sm (m + 1) _ = _
    rw [← sm_mul, ← sm_skip (m + 1) j (T j) (by omega)]
    have : T j j = 0 := if_pos rfl
    rw [this, Int.add_zero]
    refine sm_congr fun k hk => ?_
    show _ = (if skip j k = j then 0 else _)
    rw [if_neg (skip_ne j k), kof_skip]
    show _ * (_ * A m (skip j k) * _) = _
    rw [h _ (skip_lt hk)]
    generalize det m _ = d
    grind
  have s : ∀ a b, T a b = - T b a := by
    intro a b
    by_cases ab : b = a
    · subst ab; show (if b = b then (0 : Int) else _) = -(if b = b then (0 : Int) else _); rw [if_pos rfl]; rfl
    · show (if b = a then (0 : Int) else _) = -(if a = b then (0 : Int) else _)
      rw [if_neg ab, if_neg (Ne.symm ab)]
      have q : (fun i l => A i (skip a (skip (kof a b) l))) = (fun i l => A i (skip b (skip (kof b a) l))) := by
        funext i l; rw [skip_skip (Ne.symm ab)]
      rw [q]
      have q2 : sg (m + 1 + a) * sg (m + kof a b) = - (sg (m + 1 + b) * sg (m + kof b a)) := by
        rw [← sg_add, ← sg_add]
        refine sg_ne ?_
        unfold kof; split <;> split <;> omega
      rw [q2]; generalize det m _ = d; grind
  have z : sm (m + 2) (fun a => sm (m + 2) (T a)) = - sm (m + 2) (fun a => sm (m + 2) (T a)) := by
    have : sm (m + 2) (fun a => sm (m + 2) (T a)) = sm (m + 2) (fun b => sm (m + 2) (fun a => T a b)) := sm_comm _ _ T
    conv => lhs; rw [this]
    rw [← sm_neg]
    refine sm_congr fun b _ => ?_
    rw [← sm_neg]
    exact sm_congr fun a _ => s a b
  rw [e]; omega

theorem det_adj {n : Nat} : ∀ (A : Mat) (r : Nat), r + 1 < n → (∀ j, j < n → A r j = A (r + 1) j) → det n A = 0 := by
  induction n with
  | zero => intros; omega
  | succ n ih =>
    intro A r hr h
    by_cases e : r + 1 = n
    · subst e; exact det_last2 r A h
    · simp only [det_succ]
      refine sm_0 fun j hj => ?_
      rw [ih (fun i k => A i (skip j k)) r (by omega) (fun k hk => h _ (skip_lt hk))]; simp

/-- additive, homogeneous and alternating in the rows -/
structure Alt (n : Nat) (f : Mat → Int) : Prop where
  congr : ∀ {A B : Mat}, (∀ i, i < n → ∀ j, j < n → A i j = B i j) → f A = f B
  add : ∀ (A : Mat) (r : Nat) (u v : Nat → Int), r < n → f (ur A r (fun j => u j + v j)) = f (ur A r u) + f (ur A r v)
  smul : ∀ (A : Mat) (r : Nat) (c : Int) (u : Nat → Int), r < n → f (ur A r (fun j => c * u j)) = c * f (ur A r u)
  adj : ∀ (A : Mat) (r : Nat), r + 1 < n → (∀ j, j < n → A r j = A (r + 1) j) → f A = 0

theorem det_Alt (n : Nat) : Alt n (det n) := ⟨det_congr, det_add, det_smul, det_adj⟩

def swp (A : Mat) (r s : Nat) : Mat := fun i j => A (if i = r then s else if i = s then r else i) j

namespace Alt
variable {n : Nat} {f : Mat → Int} (F : Alt n f)
include F
theorem row0 (A : Mat) (r : Nat) (hr : r < n) (h : ∀ j, j < n → A r j = 0) : f A = 0 := by
  have := F.smul A r 0 (A r) hr
  rw [Int.zero_mul] at this
  rw [← this]
  refine F.congr fun i hi j hj => ?_
  by_cases e : i = r
  · subst e; rw [ur_same, h j hj, Int.zero_mul]
  · rw [ur_ne e]
theorem swap1 (A : Mat) (r : Nat) (hr : r + 1 < n) : f (swp A r (r + 1)) = - f A := by
  have two : ∀ x y : Nat → Int, f (ur (ur A r (fun j => x j + y j)) (r + 1) (fun j => x j + y j)) = 0 := fun x y =>
    F.adj _ r hr fun j _ => by rw [ur_ne (by omega), ur_same, ur_same]
  have same : ∀ x : Nat → Int, f (ur (ur A r x) (r + 1) x) = 0 := fun x =>
    F.adj _ r hr fun j _ => by rw [ur_ne (by omega), ur_same, ur_same]
  have cm : ∀ x y : Nat → Int, ur (ur A r x) (r + 1) y = ur (ur A (r + 1) y) r x := by
    intro x y; funext i j; unfold ur
    by_cases h1 : i = r
    · subst h1; simp
    · simp [h1]
  have t := two (A r) (A (r + 1))
  rw [F.add _ _ _ _ (by omega), cm, cm, F.add _ _ _ _ (by omega), F.add _ _ _ _ (by omega), ← cm, ← cm, ← cm, ← cm, same, same] at t
  have e1 : ur (ur A r (A r)) (r + 1) (A (r + 1)) = A := by rw [ur_self, ur_self]
  have e2 : f (ur (ur A r (A (r + 1))) (r + 1) (A r)) = f (swp A r (r + 1)) := by
    refine F.congr fun i hi j hj => ?_
    unfold swp
    by_cases h1 : i = r
    · subst h1; rw [ur_ne (by omega), ur_same]; simp
    · by_cases h2 : i = r + 1
      · subst h2; rw [ur_same]; simp
      · rw [ur_ne h2, ur_ne h1]; simp [h1, h2]
  rw [e1, e2] at t
  omega
theorem eq0 : ∀ (d : Nat) (A : Mat) (r : Nat), r + d + 1 < n → (∀ j, j < n → A r j = A (r + d + 1) j) → f A = 0
  | 0, A, r, hr, h => F.adj A r hr h
  | d + 1, A, r, hr, h => by
    have s := F.swap1 A (r + d + 1) (by omega)
    have z := eq0 d (swp A (r + d + 1) (r + d + 1 + 1)) r (by omega) (fun j hj => by
      unfold swp
      rw [if_neg (by omega), if_neg (by omega), if_pos rfl]
      exact h j hj)
    omega
theorem eqr (A : Mat) (r s : Nat) (hr : r < n) (hs : s < n) (ne : r ≠ s) (h : ∀ j, j < n → A r j = A s j) : f A = 0 := by
  rcases Nat.lt_or_gt_of_ne ne with q | q
  · obtain ⟨d, rfl⟩ : ∃ d, s = r + d + 1 := ⟨s - r - 1, by omega⟩
    exact F.eq0 d A r hs h
  · obtain ⟨d, rfl⟩ : ∃ d, r = s + d + 1 := ⟨r - s - 1, by omega⟩
    exact F.eq0 d A s hr fun j hj => (h j hj).symm
theorem addrow (A : Mat) (r s : Nat) (c : Int) (hr : r < n) (hs : s < n) (ne : r ≠ s) :
    f (ur A r (fun j => A r j + c * A s j)) = f A := by
  rw [F.add _ _ _ _ hr, F.smul _ _ _ _ hr, ur_self, F.eqr (ur A r (A s)) r s hr hs ne (fun j _ => by rw [ur_same, ur_ne (Ne.symm ne)])]
  omega
theorem swap (A : Mat) (r s : Nat) (hr : r < n) (hs : s < n) (ne : r ≠ s) : f (swp A r s) = - f A := by
  have two : ∀ x : Nat → Int, f (ur (ur A r x) s x) = 0 := fun x =>
    F.eqr _ r s hr hs ne fun j _ => by rw [ur_ne ne, ur_same, ur_same]
  have cm : ∀ x y : Nat → Int, ur (ur A r x) s y = ur (ur A s y) r x := by
    intro x y; funext i j; unfold ur
    by_cases h1 : i = r
    · subst h1; simp [ne]
    · simp [h1]
  have t := two (fun j => A r j + A s j)
  rw [F.add _ _ _ _ hs, cm, cm, F.add _ _ _ _ hr, F.add _ _ _ _ hr, ← cm, ← cm, ← cm, ← cm, two, two] at t
  have e1 : ur (ur A r (A r)) s (A s) = A := by rw [ur_self, ur_self]
  have e2 : f (ur (ur A r (A s)) s (A r)) = f (swp A r s) := by
    refine F.congr fun i hi j hj => ?_
    unfold swp
    by_cases h1 : i = r
    · subst h1; rw [ur_ne ne, ur_same]; simp
    · by_cases h2 : i = s
      · subst h2; rw [ur_same]; simp [h1]
      · rw [ur_ne h2, ur_ne h1]; simp [h1, h2]
  rw [e1, e2] at t
  omega
theorem comb (A : Mat) (r : Nat) (hr : r < n) (c : Nat → Int) (B : Mat) : ∀ m : Nat,
    f (ur A r (fun j => sm m (fun k => c k * B k j))) = sm m (fun k => c k * f (ur A r (B k)))
  | 0 => F.row0 _ r hr fun j _ => by rw [ur_same]; rfl
  | m + 1 => by
    show f (ur A r (fun j => sm m (fun k => c k * B k j) + c m * B m j)) = sm m _ + c m * _
    rw [F.add _ _ _ _ hr, F.smul _ _ _ _ hr, comb A r hr c B m]
/-- row i moved to the end -/
theorem move (hn : 0 < n) : ∀ (d i : Nat) (A : Mat), i + d + 1 = n →
    f (fun a j => if a = n - 1 then A i j else A (skip i a) j) = sg d * f A
  | 0, i, A, h => by
    show _ = 1 * f A
    rw [Int.one_mul]
    refine F.congr fun a ha j hj => ?_
    by_cases e : a = n - 1
    · simp only [e, if_true]; congr 1; omega
    · simp only [e, if_false]; rw [skip_of_lt (by omega)]
  | d + 1, i, A, h => by
    have s := F.swap1 A i (by omega)
    have t := move hn d (i + 1) (swp A i (i + 1)) (by omega)
    rw [s] at t
    rw [sg_succ]
    have q : (fun a j => if a = n - 1 then swp A i (i + 1) (i + 1) j else swp A i (i + 1) (skip (i + 1) a) j) = (fun a j => if a = n - 1 then A i j else A (skip i a) j) := by
      funext a j
      unfold swp
      split
      · simp
      · unfold skip
        by_cases h1 : a < i
        · rw [if_pos (show a < i + 1 by omega), if_pos h1, if_neg (by omega), if_neg (by omega)]
        · rw [if_neg h1]
          by_cases h2 : a = i
          · subst h2; simp
          · rw [if_neg (show ¬ a < i + 1 by omega), if_neg (show ¬ a + 1 = i by omega), if_neg (show ¬ a + 1 = i + 1 by omega)]
    rw [q] at t
    rw [t]; grind
/-- multiples of row s taken off the rows below m -/
theorem clear (s : Nat) (hs : s < n) (c : Nat → Int) (A : Mat) : ∀ m : Nat, m ≤ n →
    f (fun i j => if i < m ∧ i ≠ s then A i j + c i * A s j else A i j) = f A
  | 0, _ => F.congr fun i _ j _ => if_neg (by omega)
  | m + 1, hm => by
    rw [← clear s hs c A m (by omega)]
    by_cases e : m = s
    · refine F.congr fun i _ j _ => ?_
      have : (i < m + 1 ∧ i ≠ s) ↔ (i < m ∧ i ≠ s) := by omega
      simp only [this]
    · rw [← F.addrow (fun i j => if i < m ∧ i ≠ s then A i j + c i * A s j else A i j) m s (c m) (by omega) hs e]
      refine F.congr fun i _ j _ => ?_
      by_cases h : i = m
      · subst h; rw [ur_same]; simp [e]
      · rw [ur_ne h]
        have : (i < m + 1 ∧ i ≠ s) ↔ (i < m ∧ i ≠ s) := by omega
        simp only [this]
end Alt

def one : Mat := fun i j => if i = j then 1 else 0

theorem sm_one_row (n k : Nat) (hk : k < n) (v : Nat → Int) : sm n (fun i => v i * one i k) = v k := by
  rw [sm_one k hk (fun i _ ne => by unfold one; rw [if_neg ne, Int.mul_zero])]
  unfold one; rw [if_pos rfl, Int.mul_one]

theorem uniq {n : Nat} : ∀ {f : Mat → Int}, Alt n f → ∀ A, f A = det n A * f one := by
  induction n with
  | zero => intro f F A; show f A = 1 * f one; rw [Int.one_mul]; exact F.congr fun i h => absurd h (by omega)
  | succ n ih =>
    intro f F A
    have e1 : f A = sm (n + 1) (fun k => A n k * f (ur A n (one k))) := by
      rw [← F.comb A n (by omega) (A n) one (n + 1)]
      refine F.congr fun i hi j hj => ?_
      by_cases e : i = n
      · subst e; rw [ur_same, sm_one_row _ j hj]
      · rw [ur_ne e]
    have e2 : ∀ k, k < n + 1 → f (ur A n (one k)) = sg (n + k) * det n (fun i l => A i (skip k l)) * f one := by
      intro k hk
      let emb : Mat → Mat := fun B i j => if i = n then one k j else if j = k then 0 else B i (kof k j)
      have G : Alt n (fun B => f (emb B)) := by
        have eu : ∀ (A : Mat) (r : Nat) (w : Nat → Int), r < n → emb (ur A r w) = ur (emb A) r (fun j => if j = k then 0 else w (kof k j)) := by
          intro A r w hr; funext i j
          show (if i = n then _ else _) = _
          by_cases h1 : i = n
          · rw [if_pos h1, ur_ne (by omega)]; show _ = if i = n then _ else _; rw [if_pos h1]
          · rw [if_neg h1]
            by_cases h2 : i = r
            · subst h2; rw [ur_same, ur_same]
            · rw [ur_ne h2, ur_ne h2]; show _ = if i = n then _ else _; rw [if_neg h1]
        have kl : ∀ {j}, j < n + 1 → j ≠ k → kof k j < n := by intro j h1 h2; unfold kof; split <;> omega
        refine ⟨fun {A B} h => F.congr fun i hi j hj => ?_, fun A r u v hr => ?_, fun A r c u hr => ?_, fun A r hr h => F.adj _ r (by omega) fun j hj => ?_⟩
        · show (if i = n then _ else _) = (if i = n then _ else _)
          by_cases h1 : i = n
          · rw [if_pos h1, if_pos h1]
          · rw [if_neg h1, if_neg h1]
            by_cases h2 : j = k
            · rw [if_pos h2, if_pos h2]
            · rw [if_neg h2, if_neg h2]; exact h i (by omega) _ (kl hj h2)
        · show f (emb _) = f (emb _) + f (emb _)
          rw [eu _ _ _ hr, eu _ _ _ hr, eu _ _ _ hr, ← F.add _ _ _ _ (by omega)]
          congr 2; funext j; split <;> simp
        · show f (emb _) = c * f (emb _)
          rw [eu _ _ _ hr, eu _ _ _ hr, ← F.smul _ _ _ _ (by omega)]
          congr 2; funext j; split <;> simp
        · show (if r = n then _ else if j = k then _ else _) = (if r + 1 = n then _ else if j = k then _ else _)
          rw [if_neg (show ¬ r = n by omega), if_neg (show ¬ r + 1 = n by omega)]
          by_cases h2 : j = k
          · rw [if_pos h2, if_pos h2]
          · rw [if_neg h2, if_neg h2]; exact h _ (kl hj h2)
      have g1 : f (ur A n (one k)) = f (emb (fun i l => A i (skip k l))) := by
        rw [← F.clear n (by omega) (fun i => - A i k) (ur A n (one k)) (n + 1) (by omega)]
        refine F.congr fun i hi j hj => ?_
        show _ = (if i = n then _ else _)
        by_cases h1 : i = n
        · subst h1; simp [ur_same]
        · rw [if_pos ⟨hi, h1⟩, if_neg h1, ur_ne h1, ur_same]
          by_cases h2 : j = k
          · subst h2; rw [if_pos rfl]; unfold one; rw [if_pos rfl]; omega
          · rw [if_neg h2]; show _ = A i (skip k (kof k j)); rw [skip_kof h2]; unfold one; rw [if_neg (Ne.symm h2)]; omega
      have g2 : f (emb one) = sg (n - k) * f one := by
        rw [← F.move (by omega) (n - k) k one (by omega)]
        refine F.congr fun i hi j hj => ?_
        show (if i = n then _ else if j = k then _ else _) = (if i = n + 1 - 1 then _ else _)
        by_cases h1 : i = n
        · rw [if_pos h1, if_pos (by omega)]
        · rw [if_neg h1, if_neg (show ¬ i = n + 1 - 1 by omega)]
          by_cases h2 : j = k
          · rw [if_pos h2]; unfold one; rw [if_neg (by subst h2; exact skip_ne _ _)]
          · rw [if_neg h2]; unfold one skip kof
            (repeat' split) <;> omega
      have g3 := ih G (fun i l => A i (skip k l))
      rw [g1, g3, g2, show sg (n - k) = sg (n + k) from sg_congr (by omega)]
      grind
    rw [e1]
    simp only [det_succ]
    rw [← sm_mul']
    refine sm_congr fun k hk => ?_
    rw [e2 k hk]; grind

theorem det_one (n : Nat) : det n one = 1 := by
  induction n with
  | zero => rfl
  | succ n ih =>
    simp only [det_succ]
    rw [sm_one n (by omega) (fun j hj ne => by unfold one; rw [if_neg (Ne.symm ne)]; simp)]
    have : det n (fun i k => one i (skip n k)) = det n one := det_congr fun i hi k hk => by rw [skip_of_lt (by omega)]
    rw [this, ih, sg_two]; unfold one; simp

def mul (n : Nat) (A B : Mat) : Mat := fun i j => sm n (fun k => A i k * B k j)
def tr (A : Mat) : Mat := fun i j => A j i

theorem det_mul (n : Nat) (A B : Mat) : det n (mul n A B) = det n A * det n B := by
  have eu : ∀ (A : Mat) (r : Nat) (w : Nat → Int), mul n (ur A r w) B = ur (mul n A B) r (fun j => sm n (fun k => w k * B k j)) := by
    intro A r w; funext i j
    by_cases e : i = r
    · subst e; rw [ur_same]; unfold mul; exact sm_congr fun k _ => by rw [ur_same]
    · rw [ur_ne e]; unfold mul; exact sm_congr fun k _ => by rw [ur_ne e]
  have F : Alt n (fun A => det n (mul n A B)) := by
    refine ⟨fun {A B'} h => det_congr fun i hi j hj => sm_congr fun k hk => by rw [h i hi k hk], fun A r u v hr => ?_, fun A r c u hr => ?_, fun A r hr h => det_adj _ r hr fun j _ => sm_congr fun k hk => by rw [h k hk]⟩
    · show det n (mul n _ B) = det n (mul n _ B) + det n (mul n _ B)
      rw [eu, eu, eu, ← det_add _ _ _ _ hr]
      congr 2; funext j; rw [← sm_add]; exact sm_congr fun k _ => by rw [Int.add_mul]
    · show det n (mul n _ B) = c * det n (mul n _ B)
      rw [eu, eu, ← det_smul _ _ _ _ hr]
      congr 2; funext j; rw [← sm_mul]; exact sm_congr fun k _ => by rw [Int.mul_assoc]
  have := uniq F A
  have q : mul n one B = B ∨ True := Or.inr trivial
  rw [this]
  congr 1
  refine det_congr fun i hi j hj => ?_
  show sm n (fun k => one i k * B k j) = _
  rw [sm_one i hi (fun k _ ne => by unfold one; rw [if_neg (Ne.symm ne), Int.zero_mul])]
  unfold one; simp

def mi (r c : Nat) (A : Mat) : Mat := fun i j => A (skip r i) (skip c j)

theorem det_col (n : Nat) (A : Mat) : det (n + 1) A = sm (n + 1) (fun i => sg (n + i) * A i n * det n (fun a b => A (skip i a) b)) := by
  let f : Mat → Int := fun A => sm (n + 1) (fun i => sg (n + i) * A i n * det n (fun a b => A (skip i a) b))
  have mu : ∀ (A : Mat) (r : Nat) (w : Nat → Int) (i : Nat), i ≠ r → (fun a b => ur A r w (skip i a) b) = ur (fun a b => A (skip i a) b) (kof i r) w := by
    intro A r w i ne; funext a b
    have : skip i a = r ↔ a = kof i r := ⟨fun h => by rw [← h, kof_skip], fun h => by rw [h, skip_kof (Ne.symm ne)]⟩
    unfold ur; simp only [this]
  have me : ∀ (A : Mat) (r : Nat) (w : Nat → Int), (fun a b => ur A r w (skip r a) b) = (fun a b => A (skip r a) b) := by
    intro A r w; funext a b; rw [ur_ne (skip_ne _ _)]
  have F : Alt (n + 1) f := by
    refine ⟨fun {A B} h => sm_congr fun i hi => ?_, fun A r u v hr => ?_, fun A r c u hr => ?_, fun A r hr h => ?_⟩
    · rw [h i hi n (by omega), det_congr fun a ha b hb => h _ (skip_lt ha) b (by omega)]
    · show sm _ _ = sm _ _ + sm _ _
      rw [← sm_add]; refine sm_congr fun i hi => ?_
      by_cases e : i = r
      · subst e; rw [me, me, me, ur_same, ur_same, ur_same]; generalize det n _ = d; grind
      · rw [mu _ _ _ _ e, mu _ _ _ _ e, mu _ _ _ _ e, det_add _ _ _ _ (by unfold kof; split <;> omega), ur_ne e, ur_ne e, ur_ne e, Int.mul_add]
    · show sm _ _ = c * sm _ _
      rw [← sm_mul]; refine sm_congr fun i hi => ?_
      by_cases e : i = r
      · subst e; rw [me, me, ur_same, ur_same]; generalize det n _ = d; grind
      · rw [mu _ _ _ _ e, mu _ _ _ _ e, det_smul _ _ _ _ (by unfold kof; split <;> omega), ur_ne e, ur_ne e]
        generalize det n _ = d; grind
    · show sm _ _ = 0
      have z : ∀ i, i < n + 1 → i ≠ r → i ≠ r + 1 → sg (n + i) * A i n * det n (fun a b => A (skip i a) b) = 0 := by
        intro i hi h1 h2
        have : det n (fun a b => A (skip i a) b) = 0 := by
          by_cases q : i < r
          · refine det_adj _ (r - 1) (by omega) fun j hj => ?_
            show A (skip i (r - 1)) j = A (skip i (r - 1 + 1)) j
            rw [skip_of_ge (by omega), skip_of_ge (by omega), show r - 1 + 1 = r by omega]; exact h j (by omega)
          · refine det_adj _ r (by omega) fun j hj => ?_
            show A (skip i r) j = A (skip i (r + 1)) j
            rw [skip_of_lt (by omega), skip_of_lt (by omega)]; exact h j (by omega)
        rw [this]; simp
      rw [← sm_skip n r _ (by omega)]
      rw [sm_one r (by omega) (fun i hi ne => ?_)]
      · rw [skip_of_ge (Nat.le_refl r), h n (by omega)]
        have : det n (fun a b => A (skip (r + 1) a) b) = det n (fun a b => A (skip r a) b) := by
          refine det_congr fun a ha b hb => ?_
          by_cases q : a = r
          · subst q; rw [skip_of_lt (by omega), skip_of_ge (by omega)]; exact h b (by omega)
          · congr 1; unfold skip; split <;> split <;> omega
        rw [this, show n + (r + 1) = n + r + 1 by omega, sg_succ]; generalize det n _ = d; grind
      · exact z _ (skip_lt hi) (skip_ne _ _) (by unfold skip; split <;> omega)
  have := uniq F A
  have o : f one = 1 := by
    show sm _ _ = 1
    rw [sm_one n (by omega) (fun j hj ne => by unfold one; rw [if_neg ne]; simp)]
    have : det n (fun a b => one (skip n a) b) = det n one := det_congr fun i hi k hk => by rw [skip_of_lt (by omega)]
    rw [this, det_one, sg_two]; unfold one; simp
  rw [o, Int.mul_one] at this
  exact this.symm

theorem det_tr {n : Nat} : ∀ A, det n (tr A) = det n A := by
  induction n with
  | zero => intro A; rfl
  | succ n ih =>
    intro A
    rw [det_col n A]
    simp only [det_succ]
    refine sm_congr fun i hi => ?_
    have : (fun i_1 k => tr A i_1 (skip i k)) = tr (fun a b => A (skip i a) b) := rfl
    rw [this, ih]; show _ * A i n * _ = _; rfl

/-- expansion along row i -/
theorem det_row (n i : Nat) (hi : i < n + 1) (A : Mat) : det (n + 1) A = sm (n + 1) (fun j => sg (i + j) * A i j * det n (mi i j A)) := by
  have m := (det_Alt (n + 1)).move (by omega) (n - i) i A (by omega)
  have e : det (n + 1) (fun a j => if a = n + 1 - 1 then A i j else A (skip i a) j) = sm (n + 1) (fun j => sg (n + j) * A i j * det n (mi i j A)) := by
    simp only [det_succ]
    refine sm_congr fun j hj => ?_
    rw [show (if n = n + 1 - 1 then A i j else A (skip i n) j) = A i j from if_pos (by omega)]
    congr 1
    refine det_congr fun a ha b hb => ?_
    rw [if_neg (by omega)]; rfl
  rw [e] at m
  have q : det (n + 1) A = sg (n - i) * (sg (n - i) * det (n + 1) A) := by rw [← Int.mul_assoc, sg_sq, Int.one_mul]
  rw [q, ← m, ← sm_mul]
  refine sm_congr fun j hj => ?_
  rw [show sg (n + j) = sg (n - i) * sg (i + j) by rw [← sg_add]; exact sg_congr (by omega)]
  have := sg_sq (n - i)
  grind

noncomputable def cof (n : Nat) (A : Mat) (i j : Nat) : Int := sg (i + j) * det n (mi i j A)
theorem cof_row (n i k : Nat) (hi : i < n + 1) (hk : k < n + 1) (A : Mat) :
    sm (n + 1) (fun j => A k j * cof n A i j) = if k = i then det (n + 1) A else 0 := by
  split
  · next e => subst e; rw [det_row n k hk A]; exact sm_congr fun j _ => by unfold cof; grind
  · next e =>
    rw [← (det_Alt (n + 1)).eqr (ur A i (A k)) i k hi hk (Ne.symm e) (fun j _ => by rw [ur_same, ur_ne e]), det_row n i hi]
    refine sm_congr fun j _ => ?_
    have : mi i j (ur A i (A k)) = mi i j A := by funext a b; unfold mi; rw [ur_ne (skip_ne _ _)]
    rw [this, ur_same]; unfold cof; grind
theorem cof_tr (n : Nat) (A : Mat) (i j : Nat) : cof n (tr A) i j = cof n A j i := by
  unfold cof
  have : mi i j (tr A) = tr (mi j i A) := rfl
  rw [this, det_tr, Nat.add_comm]
theorem cof_col (n j k : Nat) (hj : j < n + 1) (hk : k < n + 1) (A : Mat) :
    sm (n + 1) (fun i => A i k * cof n A i j) = if k = j then det (n + 1) A else 0 := by
  rw [← det_tr A, ← cof_row n j k hj hk (tr A)]
  exact sm_congr fun i _ => by rw [cof_tr]; rfl
end LA

namespace LA

theorem Alt.addcomb {n : Nat} {f : Mat → Int} (F : Alt n f) (A : Mat) (r : Nat) (hr : r < n) (c : Int) (d : Nat → Int) (m : Nat) (hm : m ≤ n) (hne : ∀ a, a < m → a ≠ r) :
    f (ur A r (fun j => c * A r j + sm m (fun a => d a * A a j))) = c * f A := by
  rw [F.add _ _ _ _ hr, F.smul _ _ _ _ hr, ur_self, F.comb _ _ hr, sm_0 (fun a ha => ?_), Int.add_zero]
  rw [F.eqr (ur A r (A a)) r a hr (by omega) (Ne.symm (hne a ha)) (fun j _ => by rw [ur_same, ur_ne (hne a ha)]), Int.mul_zero]

def bord (k : Nat) (P : Mat) (i j : Nat) : Mat := fun a b => P (if a = k then i else a) (if b = k then j else b)
noncomputable def dl (k : Nat) (P : Mat) (i j : Nat) : Int := det (k + 1) (bord k P i j)
noncomputable def cc (k : Nat) (P : Mat) (i a : Nat) : Int := sg (k + a) * det k (fun x b => P (if skip a x = k then i else skip a x) b)

theorem dl_expand (k : Nat) (P : Mat) (i j : Nat) : dl k P i j = det k P * P i j + sm k (fun a => cc k P i a * P a j) := by
  unfold dl
  rw [det_col]
  show sm k _ + sg (k + k) * bord k P i j k k * det k (fun a b => bord k P i j (skip k a) b) = _
  have m : ∀ a, a < k + 1 → det k (fun x b => bord k P i j (skip a x) b) = det k (fun x b => P (if skip a x = k then i else skip a x) b) := fun a _ =>
    det_congr fun x hx b hb => by unfold bord; rw [if_neg (show ¬ b = k by omega)]
  have e1 : det k (fun x b => bord k P i j (skip k x) b) = det k P := by
    rw [m k (by omega)]; refine det_congr fun x hx b hb => ?_
    rw [skip_of_lt hx, if_neg (by omega)]
  have e2 : bord k P i j k k = P i j := by unfold bord; simp
  rw [e1, e2, sg_two]
  have e3 : sm k (fun i_1 => sg (k + i_1) * bord k P i j i_1 k * det k (fun a b => bord k P i j (skip i_1 a) b)) = sm k (fun a => cc k P i a * P a j) := by
    refine sm_congr fun a ha => ?_
    rw [m a (by omega)]; unfold cc bord
    rw [if_neg (show ¬ a = k by omega), if_pos rfl]; generalize det k _ = d; grind
  rw [e3]; grind
theorem dl_col0 {k : Nat} {P : Mat} {i j : Nat} (h : j < k) : dl k P i j = 0 := by
  unfold dl
  rw [← det_tr]
  refine (det_Alt (k + 1)).eqr _ j k (by omega) (by omega) (by omega) fun a ha => ?_
  unfold tr bord
  rw [if_neg (show ¬ j = k by omega), if_pos rfl]
theorem dl_kk (k : Nat) (P : Mat) : dl k P k k = det (k + 1) P := by
  unfold dl
  refine det_congr fun a _ b _ => ?_
  unfold bord
  congr 1 <;> split <;> omega
theorem dl_0 (P : Mat) (i j : Nat) : dl 0 P i j = P i j := by
  rw [dl_expand]; show 1 * P i j + 0 = _; omega

theorem sylv (k : Nat) (P : Mat) (i j : Nat) (hq : det (k + 1) P ≠ 0) :
    det (k + 1) P * dl k P i j - dl k P i k * dl k P k j = det k P * dl (k + 1) P i j := by
  let q := det (k + 1) P
  let p := det k P
  let X := bord (k + 1) P i j
  let col : Nat → Nat := fun b => if b = k + 1 then j else b
  let N : Nat → Int := fun b => q * dl k P i (col b) - dl k P i k * dl k P k (col b)
  let d : Nat → Int := fun a => if a = k then - dl k P i k * p else q * cc k P i a - dl k P i k * cc k P k a
  have eN : ∀ b, N b = (q * p) * X (k + 1) b + sm (k + 1) (fun a => d a * X a b) := by
    intro b
    have x1 : X (k + 1) b = P i (col b) := by show bord _ _ _ _ _ _ = _; unfold bord; rw [if_pos rfl]
    have x2 : ∀ a, a < k + 1 → X a b = P a (col b) := by intro a ha; show bord _ _ _ _ _ _ = _; unfold bord; rw [if_neg (by omega)]
    have x3 : sm k (fun a => d a * X a b) = q * sm k (fun a => cc k P i a * P a (col b)) - dl k P i k * sm k (fun a => cc k P k a * P a (col b)) := by
      rw [← sm_mul, ← sm_mul, ← sm_sub]
      refine sm_congr fun a ha => ?_
      rw [x2 a (by omega)]; show (if a = k then _ else _) * _ = _; rw [if_neg (by omega)]
      grind
    show q * dl k P i (col b) - dl k P i k * dl k P k (col b) = _ + (sm k _ + d k * X k b)
    rw [x3, x1, x2 k (by omega), dl_expand k P i (col b), dl_expand k P k (col b)]
    have dk : d k = - dl k P i k * p := if_pos rfl
    rw [dk]
    generalize sm k (fun a => cc k P i a * P a (col b)) = s1
    generalize sm k (fun a => cc k P k a * P a (col b)) = s2
    show _ = _
    have : det k P = p := rfl
    rw [this]; grind
  have F := det_Alt (k + 2)
  have e1 : det (k + 2) (ur X (k + 1) N) = q * p * det (k + 2) X := by
    rw [← F.addcomb X (k + 1) (by omega) (q * p) d (k + 1) (by omega) (fun a ha => by omega)]
    congr 2; funext b; exact eN b
  have e2 : det (k + 2) (ur X (k + 1) N) = N (k + 1) * q := by
    rw [det_succ, sm_one (k + 1) (by omega) (fun b hb ne => ?_)]
    · rw [sg_two, ur_same, Int.one_mul]
      congr 1
      refine det_congr fun a ha b hb => ?_
      rw [ur_ne (by omega), skip_of_lt (by omega)]
      show bord _ _ _ _ _ _ = _
      unfold bord; rw [if_neg (by omega), if_neg (by omega)]
    · have z : N b = 0 := by
        have cb : col b = b := if_neg ne
        show q * dl k P i (col b) - dl k P i k * dl k P k (col b) = 0
        rw [cb]
        rcases Nat.lt_or_ge b k with h | h
        · rw [dl_col0 h, dl_col0 h]; simp
        · have : b = k := by omega
          subst this; rw [dl_kk]; show det (b + 1) P * _ - _ = 0; grind
      rw [ur_same, z]; simp
  have e3 : N (k + 1) = q * dl k P i j - dl k P i k * dl k P k j := by
    have : col (k + 1) = j := if_pos rfl
    show q * dl k P i (col (k + 1)) - _ = _; rw [this]
  have e4 : q * (q * dl k P i j - dl k P i k * dl k P k j) = q * (p * dl (k + 1) P i j) := by
    rw [← e3]
    have : dl (k + 1) P i j = det (k + 2) X := rfl
    rw [this]
    have := e1.symm.trans e2
    grind
  exact Int.eq_of_mul_eq_mul_left hq e4

theorem zeroblock (k : Nat) : ∀ (n : Nat) (B : Mat), k < n → (∀ i, k ≤ i → i < n → ∀ j, j ≤ k → B i j = 0) → det n B = 0
  | 0, _, h, _ => absurd h (by omega)
  | n + 1, B, h, z => by
    rw [det_succ]
    refine sm_0 fun j hj => ?_
    rcases Nat.lt_or_ge k j with h1 | h1
    · rw [zeroblock k n _ (by omega) (fun i h2 h3 c hc => ?_)]
      · simp
      · show B i (skip j c) = 0
        rw [skip_of_lt (by omega)]; exact z i h2 (by omega) c hc
    · rw [z n (by omega) (by omega) j h1]; simp

theorem nochoice {n k : Nat} {P : Mat} (hk : k < n) (hp : det k P ≠ 0) (h : ∀ i, k ≤ i → i < n → dl k P i k = 0) : det n P = 0 := by
  let B : Nat → Mat := fun m i j => if k ≤ i ∧ i < m then dl k P i j else P i j
  have s : ∀ m, k + m ≤ n → det n (B (k + m)) = det k P ^ m * det n P := by
    intro m
    induction m with
    | zero =>
      intro _
      rw [Int.pow_zero, Int.one_mul]
      exact det_congr fun i _ j _ => if_neg (by omega)
    | succ m ih =>
      intro hm
      have e : det n (B (k + (m + 1))) = det n (ur (B (k + m)) (k + m) (fun j => det k P * B (k + m) (k + m) j + sm k (fun a => cc k P (k + m) a * B (k + m) a j))) := by
        refine det_congr fun i hi j hj => ?_
        by_cases e : i = k + m
        · subst e
          rw [ur_same]
          show (if _ then _ else _) = det k P * (if _ then _ else _) + _
          rw [if_pos (by omega), if_neg (by omega), dl_expand]
          congr 1
          refine sm_congr fun a ha => ?_
          show _ = _ * (if _ then _ else _); rw [if_neg (by omega)]
        · rw [ur_ne e]
          show (if _ then _ else _) = (if _ then _ else _)
          have : (k ≤ i ∧ i < k + (m + 1)) ↔ (k ≤ i ∧ i < k + m) := by omega
          simp only [this]
      rw [e, (det_Alt n).addcomb _ _ (by omega) _ _ _ (by omega) (fun a ha => by omega), ih (by omega), Int.pow_succ]
      grind
  have t := s (n - k) (by omega)
  rw [show k + (n - k) = n by omega] at t
  have z : det n (B n) = 0 := zeroblock k n _ hk fun i h1 h2 j h3 => by
    show (if _ then _ else _) = (0 : Int)
    rw [if_pos ⟨h1, h2⟩]
    rcases Nat.lt_or_ge j k with h4 | h4
    · exact dl_col0 h4
    · rw [show j = k by omega]; exact h i h1 h2
  rw [z] at t
  rcases Int.mul_eq_zero.mp t.symm with h1 | h1
  · exact absurd h1 (Int.pow_ne_zero hp)
  · exact h1

/-- the state of the elimination at step k -/
def BInv (n : Nat) (A : Mat) (B : Nat) (k : Nat) (M : Mat) (p s : Int) : Prop :=
  ∃ P : Mat, (∀ i, i < n → ∀ j, j < n → (P i j).natAbs ≤ B) ∧ (s = 1 ∨ s = -1) ∧ det n P = s * det n A ∧ p = det k P ∧ p ≠ 0 ∧ ∀ i, k ≤ i → i < n → ∀ j, j < n → M i j = dl k P i j

theorem bInit (n : Nat) (A : Mat) (B : Nat) (hB : ∀ i, i < n → ∀ j, j < n → (A i j).natAbs ≤ B) : BInv n A B 0 A 1 1 :=
  ⟨A, hB, .inl rfl, (Int.one_mul _).symm, rfl, by decide, fun i _ _ j _ => (dl_0 A i j).symm⟩
theorem bFail {n : Nat} {A : Mat} {k : Nat} {M : Mat} {p s : Int} {B : Nat} (H : BInv n A B k M p s) (hk : k < n) (h : ∀ i, k ≤ i → i < n → M i k = 0) : det n A = 0 := by
  obtain ⟨P, hB, hs, hd, hp, hp0, hM⟩ := H
  have : det n P = 0 := nochoice hk (hp ▸ hp0) fun i h1 h2 => by rw [← hM i h1 h2 k hk]; exact h i h1 h2
  rw [this] at hd
  rcases hs with e | e <;> subst e <;> omega
theorem bEnd {n : Nat} {A : Mat} {M : Mat} {p s : Int} {B : Nat} (H : BInv n A B n M p s) : s * p = det n A := by
  obtain ⟨P, hB, hs, hd, hp, hp0, hM⟩ := H
  rw [hp, hd]
  rcases hs with e | e <;> subst e <;> omega
theorem bSwap {n : Nat} {A : Mat} {k : Nat} {M : Mat} {p s : Int} {B : Nat} (H : BInv n A B k M p s) (c : Nat) (h1 : k < c) (h2 : c < n) : BInv n A B k (swp M k c) p (-s) := by
  obtain ⟨P, hB, hs, hd, hp, hp0, hM⟩ := H
  have lo : ∀ a, a < k → (if a = k then c else if a = c then k else a) = a := fun a h => by rw [if_neg (by omega), if_neg (by omega)]
  refine ⟨swp P k c, fun i hi j hj => hB _ (by split <;> (try split) <;> omega) j hj, by omega, by rw [(det_Alt n).swap P k c (by omega) h2 (by omega), hd, Int.neg_mul], ?_, hp0, fun i hi hi2 j hj => ?_⟩
  · rw [hp]; exact det_congr fun a ha b _ => by unfold swp; rw [lo a ha]
  · have : dl k (swp P k c) i j = dl k P (if i = k then c else if i = c then k else i) j := by
      unfold dl
      refine det_congr fun a ha b hb => ?_
      unfold bord swp
      by_cases e : a = k
      · simp [e]
      · simp only [e, if_false]; rw [if_neg (by omega)]
    rw [this]
    show M _ _ = _
    by_cases e1 : i = k
    · simp only [e1, if_true]; exact hM _ (by omega) h2 _ hj
    · simp only [e1, if_false]
      by_cases e2 : i = c
      · simp only [e2, if_true]; exact hM _ (by omega) (by omega) _ hj
      · simp only [e2, if_false]; exact hM _ hi hi2 _ hj
theorem bStep {n : Nat} {A : Mat} {k : Nat} {M M2 : Mat} {p s : Int} {B : Nat} (H : BInv n A B k M p s) (hk : k < n) (hq : M k k ≠ 0)
    (h : ∀ i, k < i → i < n → ∀ j, j < n → p * M2 i j = M k k * M i j - M i k * M k j ∨ M2 i j = Int.fdiv (M k k * M i j - M i k * M k j) p) : BInv n A B (k + 1) M2 (M k k) s := by
  obtain ⟨P, hB, hs, hd, hp, hp0, hM⟩ := H
  have q : M k k = det (k + 1) P := by rw [hM k (by omega) hk k hk, dl_kk]
  refine ⟨P, hB, hs, hd, q, hq, fun i hi hi2 j hj => ?_⟩
  have e : M k k * M i j - M i k * M k j = p * dl (k + 1) P i j := by
    rw [hM i (by omega) hi2 j hj, hM i (by omega) hi2 k hk, hM k (by omega) hk j hj, q, hp]
    exact sylv k P i j (q ▸ hq)
  rcases h i (by omega) hi2 j hj with h1 | h1
  · rw [e] at h1; exact Int.eq_of_mul_eq_mul_left hp0 h1
  · rw [h1, e, Int.mul_fdiv_cancel_left _ hp0]

theorem sm_le {n B : Nat} {f : Nat → Int} (h : ∀ i, i < n → (f i).natAbs ≤ B) : (sm n f).natAbs ≤ n * B := by
  induction n with
  | zero => simp [sm]
  | succ n ih =>
    have h1 := ih fun i hi => h i (by omega)
    have h2 := h n (by omega)
    show (sm n f + f n).natAbs ≤ _
    have := Int.natAbs_add_le (sm n f) (f n)
    rw [Nat.add_mul, Nat.one_mul]
    omega
theorem sg_abs (k : Nat) : (sg k).natAbs = 1 := by unfold sg; split <;> rfl
theorem det_le {N B : Nat} : ∀ {n : Nat} (A : Mat), n ≤ N → (∀ i, i < n → ∀ j, j < n → (A i j).natAbs ≤ B) → (det n A).natAbs ≤ (N * B) ^ n
  | 0, A, _, _ => by simp [det]
  | n + 1, A, hn, h => by
    rw [det_succ]
    have : (sm (n + 1) fun j => sg (n + j) * A n j * det n (fun i k => A i (skip j k))).natAbs ≤ (n + 1) * (B * (N * B) ^ n) := sm_le fun j hj => by
      rw [Int.natAbs_mul, Int.natAbs_mul, sg_abs, Nat.one_mul]
      exact Nat.mul_le_mul (h n (by omega) j hj) (det_le _ (by omega) fun i hi k hk => h i (by omega) _ (skip_lt hk))
    refine Nat.le_trans this ?_
    rw [Nat.pow_succ, Nat.mul_comm ((N * B) ^ n), Nat.mul_assoc]
    exact Nat.mul_le_mul_right _ hn
theorem pow2 (x k : Nat) : (2 ^ x) ^ k = 2 ^ (x * k) := (Nat.pow_mul 2 x k).symm
/-- numbers of at most b bits make determinants of so many -/
theorem det_lt {n b N : Nat} (A : Mat) (hn : n ≤ N) (hN : N ≤ 64) (h : ∀ i, i < n → ∀ j, j < n → (A i j).natAbs ≤ 2 ^ b) : (det n A).natAbs < 2 ^ ((6 + b) * N + 1) := by
  have := det_le (N := 64) A (by omega) h
  rw [show (64 : Nat) = 2 ^ 6 from rfl, ← Nat.pow_add, pow2] at this
  refine Nat.lt_of_le_of_lt this (Nat.pow_lt_pow_right (by decide) ?_)
  have := Nat.mul_le_mul_left (6 + b) hn
  omega
theorem bSize {n b : Nat} {A : Mat} {k : Nat} {M : Mat} {p s : Int} (H : BInv n A (2 ^ b) k M p s) (hk : k < n) (hn : n ≤ 64) :
    p.natAbs < 2 ^ ((6 + b) * n + 1) ∧ p ≠ 0 ∧ ∀ i, k ≤ i → i < n → ∀ j, j < n → (M i j).natAbs < 2 ^ ((6 + b) * n + 1) := by
  obtain ⟨P, hB, hs, hd, hp, hp0, hM⟩ := H
  refine ⟨?_, hp0, fun i h1 h2 j hj => ?_⟩
  · rw [hp]; exact det_lt P (by omega) hn fun i hi j hj => hB i (by omega) j (by omega)
  · rw [hM i h1 h2 j hj]
    unfold dl
    exact det_lt _ (by omega) hn fun a ha c hc => by unfold bord; exact hB _ (by split <;> omega) _ (by split <;> omega)
theorem bSizeEnd {n b : Nat} {A : Mat} {M : Mat} {p s : Int} (H : BInv n A (2 ^ b) n M p s) (hn : n ≤ 64) : p.natAbs < 2 ^ ((6 + b) * n + 1) := by
  obtain ⟨P, hB, hs, hd, hp, hp0, hM⟩ := H
  rw [hp]; exact det_lt P (by omega) hn hB
theorem BInv.sgn {n B : Nat} {A : Mat} {k : Nat} {M : Mat} {p s : Int} (H : BInv n A B k M p s) : s = 1 ∨ s = -1 := H.choose_spec.2.1
end LA

/-! tables with the determinant 1 or -1; moved tables -/
namespace LA
/-- σ takes the numbers below n to one another -/
structure Pm (n : Nat) (σ : Nat → Nat) : Prop where
  lt : ∀ i, i < n → σ i < n
  inj : ∀ i, i < n → ∀ j, j < n → σ i = σ j → i = j
/-- rows exchanged and turned -/
def SP (n : Nat) (A : Mat) : Prop := ∃ (σ : Nat → Nat) (ε : Nat → Int), Pm n σ ∧ (∀ i, i < n → ε i = 1 ∨ ε i = -1) ∧ ∀ i, i < n → ∀ j, j < n → A i j = if j = σ i then ε i else 0
theorem SP.dot {n : Nat} {A : Mat} (h : SP n A) : ∀ i, i < n → ∀ k, k < n → mul n A (tr A) i k = one i k := by
  obtain ⟨σ, ε, hσ, hε, hA⟩ := h
  intro i hi k hk
  show sm n (fun j => A i j * A k j) = _
  have : sm n (fun j => A i j * A k j) = A i (σ i) * A k (σ i) := sm_one (σ i) (hσ.lt i hi) fun j hj ne => by
    rw [hA i hi j hj, if_neg ne, Int.zero_mul]
  rw [this, hA i hi _ (hσ.lt i hi), hA k hk _ (hσ.lt i hi), if_pos rfl]
  unfold one
  by_cases e : i = k
  · subst e
    rw [if_pos rfl, if_pos rfl]
    rcases hε i hi with q | q <;> rw [q] <;> rfl
  · rw [if_neg e, if_neg fun q => e (hσ.inj i hi k hk q), Int.mul_zero]
theorem SP.det {n : Nat} {A : Mat} (h : SP n A) : LA.det n A * LA.det n A = 1 := by
  have e1 := det_mul n A (tr A)
  rw [det_tr] at e1
  rw [← e1, det_congr (B := one) h.dot, det_one]
theorem SP.perm {n : Nat} {σ : Nat → Nat} (h : Pm n σ) {A : Mat} (hA : ∀ i, i < n → ∀ j, j < n → A i j = one (σ i) j) : SP n A :=
  ⟨σ, fun _ => 1, h, fun _ _ => .inl rfl, fun i hi j hj => by
    rw [hA i hi j hj]
    unfold one
    by_cases e : j = σ i
    · rw [if_pos e, if_pos e.symm]
    · rw [if_neg e, if_neg (Ne.symm e)]⟩
theorem SP.neg {n : Nat} {A : Mat} (h : SP n A) (r : Nat) : SP n (ur A r (fun j => - A r j)) := by
  obtain ⟨σ, ε, hσ, hε, hA⟩ := h
  refine ⟨σ, fun i => if i = r then - ε i else ε i, hσ, fun i hi => ?_, fun i hi j hj => ?_⟩
  · have := hε i hi
    by_cases e : i = r
    · simp only [e, if_true]; rw [e] at this; omega
    · simp only [e, if_false]; exact this
  · by_cases e : i = r
    · subst e
      rw [ur_same, hA i hi j hj]
      simp only [if_true]
      split <;> simp
    · rw [ur_ne e, hA i hi j hj]
      simp only [e, if_false]
theorem SP.le {n : Nat} {A : Mat} (h : SP n A) : ∀ i, i < n → ∀ j, j < n → (A i j).natAbs ≤ 1 := by
  obtain ⟨σ, ε, hσ, hε, hA⟩ := h
  intro i hi j hj
  rw [hA i hi j hj]
  have := hε i hi
  split <;> omega
/-- what rows lead to -/
def mv (n : Nat) (T F : Mat) : Mat := mul n (mul n T (tr F)) (tr T)
theorem SP.mv {n : Nat} {A : Mat} (h : SP n A) (F : Mat) {B : Nat} (hF : ∀ i, i < n → ∀ j, j < n → (F i j).natAbs ≤ B) : ∀ i, i < n → ∀ j, j < n → (LA.mv n A F i j).natAbs ≤ B := by
  obtain ⟨σ, ε, hσ, hε, hA⟩ := h
  have h1 : ∀ i, i < n → ∀ k, mul n A (tr F) i k = ε i * F k (σ i) := fun i hi k => by
    have : mul n A (tr F) i k = A i (σ i) * tr F (σ i) k := sm_one (σ i) (hσ.lt i hi) fun j hj ne => by
      rw [hA i hi j hj, if_neg ne, Int.zero_mul]
    rw [this, hA i hi _ (hσ.lt i hi), if_pos rfl]; rfl
  intro i hi j hj
  have : LA.mv n A F i j = mul n A (tr F) i (σ j) * tr A (σ j) j := sm_one (σ j) (hσ.lt j hj) fun k hk ne => by
    show _ * A j k = 0
    rw [hA j hj k hk, if_neg ne, Int.mul_zero]
  rw [this, h1 i hi]
  show (ε i * F (σ j) (σ i) * A j (σ j)).natAbs ≤ B
  rw [hA j hj _ (hσ.lt j hj), if_pos rfl, Int.natAbs_mul, Int.natAbs_mul]
  have q1 : (ε i).natAbs = 1 := by rcases hε i hi with q | q <;> rw [q] <;> rfl
  have q2 : (ε j).natAbs = 1 := by rcases hε j hj with q | q <;> rw [q] <;> rfl
  rw [q1, q2, Nat.one_mul, Nat.mul_one]
  exact hF _ (hσ.lt j hj) _ (hσ.lt i hi)
theorem mul_le {n a b : Nat} {A B : Mat} (hA : ∀ i, i < n → ∀ j, j < n → (A i j).natAbs ≤ a) (hB : ∀ i, i < n → ∀ j, j < n → (B i j).natAbs ≤ b) : ∀ i, i < n → ∀ j, j < n → (mul n A B i j).natAbs ≤ n * (a * b) := fun i hi j hj =>
  sm_le fun k hk => by rw [Int.natAbs_mul]; exact Nat.mul_le_mul (hA i hi k hk) (hB k hk j hj)
theorem mv_det (n : Nat) (T F : Mat) : det n (mv n T F) = det n F * (det n T * det n T) := by
  unfold mv
  rw [det_mul, det_mul, det_tr, det_tr, Int.mul_comm (det n T) (det n F), Int.mul_assoc]
theorem mv_sym {n : Nat} {T F : Mat} (hF : ∀ i, i < n → ∀ j, j < n → F i j = F j i) : ∀ i j, mv n T F i j = mv n T F j i := fun i j => by
  show sm n (fun k => sm n (fun l => T i l * F k l) * T j k) = sm n (fun k => sm n (fun l => T j l * F k l) * T i k)
  have e1 : ∀ i j, sm n (fun k => sm n (fun l => T i l * F k l) * T j k) = sm n (fun k => sm n (fun l => T i l * F k l * T j k)) := fun i j => sm_congr fun k _ => (sm_mul' n (T j k) _).symm
  rw [e1, e1, sm_comm]
  refine sm_congr fun k hk => sm_congr fun l hl => ?_
  rw [hF l hl k hk, Int.mul_comm (T i k), Int.mul_assoc, Int.mul_comm (T i k), ← Int.mul_assoc, Int.mul_comm (F k l)]
/-- with the form even on both sides the two ways of writing agree -/
theorem mv_eq {n : Nat} {T F : Mat} (hF : ∀ i, i < n → ∀ j, j < n → F i j = F j i) : ∀ i j, mul n (mul n T F) (tr T) i j = mv n T F i j := fun i j => by
  refine sm_congr fun k hk => ?_
  have : mul n T F i k = mul n T (tr F) i k := sm_congr fun l hl => by show _ * F l k = _ * F k l; rw [hF l hl k hk]
  show mul n T F i k * _ = mul n T (tr F) i k * _
  rw [this]
/-- what a law's table is -/
structure UT (n s : Nat) (T : Mat) : Prop where
  det : LA.det n T * LA.det n T = 1
  le : ∀ i, i < n → ∀ j, j < n → (T i j).natAbs ≤ 3 ^ s
  sp : s = 0 → SP n T
theorem SP.ut {n : Nat} {T : Mat} (h : SP n T) : UT n 0 T := ⟨h.det, h.le, fun _ => h⟩
theorem UT.step {n s : Nat} {T : Mat} (h : UT n s T) {r q : Nat} (hr : r < n) (hq : q < n) (ne : r ≠ q) {t : Int} (ht : t.natAbs ≤ 2) : UT n (s + 1) (ur T r (fun j => T r j + t * T q j)) := by
  refine ⟨?_, fun i hi j hj => ?_, fun e => by omega⟩
  · rw [(det_Alt n).addrow T r q t hr hq ne]; exact h.det
  · have p : 3 ^ (s + 1) = 3 ^ s * 3 := Nat.pow_succ 3 s
    by_cases e : i = r
    · subst e
      rw [ur_same]
      have h1 := h.le i hi j hj
      have h2 := h.le q hq j hj
      have h3 : (t * T q j).natAbs ≤ 2 * 3 ^ s := by rw [Int.natAbs_mul]; exact Nat.mul_le_mul ht h2
      have := Int.natAbs_add_le (T i j) (t * T q j)
      omega
    · rw [ur_ne e]
      have := h.le i hi j hj
      omega
theorem UT.mono {n s s' : Nat} {T : Mat} (h : UT n s T) (hs : s ≤ s') (h0 : s' = 0 → s = 0) : UT n s' T := ⟨h.det, fun i hi j hj => Nat.le_trans (h.le i hi j hj) (Nat.pow_le_pow_right (by decide) hs), fun e => h.sp (h0 e)⟩
end LA

/-! adjoints -/
namespace LA
theorem det_scale {n : Nat} (k : Int) : ∀ A : Mat, det n (fun i j => k * A i j) = k ^ n * det n A := by
  induction n with
  | zero => intro A; simp [det]
  | succ n ih =>
    intro A
    rw [det_succ, det_succ, ← sm_mul]
    refine sm_congr fun j _ => ?_
    rw [ih (fun i k => A i (skip j k)), Int.pow_succ]
    generalize sg (n + j) = a
    generalize A n j = b
    generalize det n (fun i k => A i (skip j k)) = c
    generalize k ^ n = d
    rw [Int.mul_assoc, Int.mul_assoc, Int.mul_assoc, Int.mul_assoc, Int.mul_left_comm a k, Int.mul_left_comm d k, Int.mul_left_comm b d, Int.mul_left_comm a d]
theorem cof_scale (n : Nat) (k : Int) (A : Mat) (i j : Nat) : cof n (fun i j => k * A i j) i j = k ^ n * cof n A i j := by
  unfold cof
  have : det n (mi i j (fun i j => k * A i j)) = k ^ n * det n (mi i j A) := det_scale k (mi i j A)
  rw [this, Int.mul_left_comm]
theorem cof_congr {n : Nat} {A B : Mat} (h : ∀ i, i < n + 1 → ∀ j, j < n + 1 → A i j = B i j) (i j : Nat) : cof n A i j = cof n B i j := by
  unfold cof
  have : det n (mi i j A) = det n (mi i j B) := det_congr fun a ha b hb => h _ (skip_lt ha) _ (skip_lt hb)
  rw [this]
theorem cof_sym {n : Nat} {A : Mat} (h : ∀ i, i < n + 1 → ∀ j, j < n + 1 → A i j = A j i) (i j : Nat) : cof n A i j = cof n A j i := by
  rw [← cof_tr]
  exact cof_congr (fun a ha b hb => (h b hb a ha).symm) _ _ ▸ rfl
theorem det_diag (n : Nat) (d : Int) : det n (fun i j => if i = j then d else 0) = d ^ n := by
  have : det n (fun i j => if i = j then d else 0) = det n (fun i j => d * one i j) := det_congr fun i _ j _ => by
    unfold one; split <;> simp
  rw [this, det_scale, det_one, Int.mul_one]
/-- the determinant of the cofactors -/
theorem det_cof {n : Nat} {A : Mat} (hd : det (n + 1) A ≠ 0) : det (n + 1) (fun i j => cof n A i j) = det (n + 1) A ^ n := by
  have h1 := det_mul (n + 1) A (tr (fun i j => cof n A i j))
  rw [det_tr] at h1
  have h2 : det (n + 1) (mul (n + 1) A (tr (fun i j => cof n A i j))) = det (n + 1) A ^ (n + 1) := by
    rw [← det_diag]
    refine det_congr fun i hi j hj => ?_
    show sm (n + 1) (fun k => A i k * cof n A j k) = _
    rw [cof_row n j i hj hi A]
  rw [h2, Int.pow_succ, Int.mul_comm] at h1
  exact (Int.eq_of_mul_eq_mul_left hd h1).symm
/-- the cofactors of the cofactors -/
theorem cof_cof {n : Nat} {A : Mat} (hn : 1 ≤ n) (hd : det (n + 1) A ≠ 0) : ∀ i, i < n + 1 → ∀ j, j < n + 1 → cof n (fun i j => cof n A i j) i j = det (n + 1) A ^ (n - 1) * A i j := by
  intro i hi j hj
  -- det * D i j = sum over k, l of A k ... 
  have h1 : sm (n + 1) (fun k => sm (n + 1) (fun l => A l j * cof n A l k) * cof n (fun i j => cof n A i j) i k) = det (n + 1) A * cof n (fun i j => cof n A i j) i j := by
    have e : ∀ k, k < n + 1 → sm (n + 1) (fun l => A l j * cof n A l k) * cof n (fun i j => cof n A i j) i k = (if j = k then det (n + 1) A * cof n (fun i j => cof n A i j) i j else 0) := fun k hk => by
      rw [cof_col n k j hk hj A]
      by_cases e : j = k
      · subst e; simp
      · rw [if_neg e, if_neg e, Int.zero_mul]
    rw [sm_congr e, sm_one j hj (fun k _ ne => if_neg (Ne.symm ne)), if_pos rfl]
  have h2 : sm (n + 1) (fun k => sm (n + 1) (fun l => A l j * cof n A l k) * cof n (fun i j => cof n A i j) i k) = det (n + 1) A ^ n * A i j := by
    have e1 : ∀ k, k < n + 1 → sm (n + 1) (fun l => A l j * cof n A l k) * cof n (fun i j => cof n A i j) i k = sm (n + 1) (fun l => A l j * (cof n A l k * cof n (fun i j => cof n A i j) i k)) := fun k _ => by
      rw [← sm_mul']
      exact sm_congr fun l _ => Int.mul_assoc _ _ _
    rw [sm_congr e1, sm_comm]
    have e2 : ∀ l, l < n + 1 → sm (n + 1) (fun k => A l j * (cof n A l k * cof n (fun i j => cof n A i j) i k)) = (if i = l then det (n + 1) A ^ n * A i j else 0) := fun l hl => by
      rw [sm_mul, cof_row n i l hi hl (fun i j => cof n A i j), det_cof hd]
      by_cases e : i = l
      · subst e; simp [Int.mul_comm]
      · rw [if_neg (Ne.symm e), if_neg e, Int.mul_zero]
    rw [sm_congr e2, sm_one i hi (fun k _ ne => if_neg (Ne.symm ne)), if_pos rfl]
  rw [h1] at h2
  obtain ⟨k, rfl⟩ : ∃ k, n = k + 1 := ⟨n - 1, by omega⟩
  rw [Int.pow_succ, Int.mul_comm (det (k + 1 + 1) A ^ k), Int.mul_assoc] at h2
  exact Int.eq_of_mul_eq_mul_left hd h2
/-! common divisors of tables -/
def gl (v : Nat → Int) (g : Nat) : Nat → Nat
  | 0 => g
  | n + 1 => Nat.gcd (gl v g n) (v n).natAbs
def gt (m : Nat) (A : Mat) : Nat → Nat
  | 0 => 0
  | n + 1 => gl (A n) (gt m A n) m
theorem gl_dvd (v : Nat → Int) (g : Nat) : ∀ n, gl v g n ∣ g ∧ ∀ j, j < n → gl v g n ∣ (v j).natAbs
  | 0 => ⟨Nat.dvd_refl _, fun j h => by omega⟩
  | n + 1 => by
    obtain ⟨h1, h2⟩ := gl_dvd v g n
    refine ⟨Nat.dvd_trans (Nat.gcd_dvd_left _ _) h1, fun j hj => ?_⟩
    by_cases e : j = n
    · subst e; exact Nat.gcd_dvd_right _ _
    · exact Nat.dvd_trans (Nat.gcd_dvd_left _ _) (h2 j (by omega))
theorem gt_dvd (m : Nat) (A : Mat) : ∀ n i, i < n → ∀ j, j < m → gt m A n ∣ (A i j).natAbs
  | 0, i, h, _, _ => by omega
  | n + 1, i, h, j, hj => by
    obtain ⟨h1, h2⟩ := gl_dvd (A n) (gt m A n) m
    by_cases e : i = n
    · subst e; exact h2 j hj
    · exact Nat.dvd_trans h1 (gt_dvd m A n i (by omega) j hj)
theorem gl_scale (k : Int) (v : Nat → Int) (g : Nat) : ∀ n, gl (fun j => k * v j) (k.natAbs * g) n = k.natAbs * gl v g n
  | 0 => rfl
  | n + 1 => by
    show Nat.gcd (gl (fun j => k * v j) (k.natAbs * g) n) (k * v n).natAbs = _
    rw [gl_scale k v g n, Int.natAbs_mul, Nat.gcd_mul_left]
    rfl
theorem gt_scale (k : Int) (m : Nat) (A : Mat) : ∀ n, gt m (fun i j => k * A i j) n = k.natAbs * gt m A n
  | 0 => (Nat.mul_zero _).symm
  | n + 1 => by
    show gl (fun j => k * A n j) (gt m (fun i j => k * A i j) n) m = _
    rw [gt_scale k m A n, gl_scale]
    rfl
theorem gl_congr {u v : Nat → Int} {g : Nat} : ∀ {n}, (∀ j, j < n → u j = v j) → gl u g n = gl v g n
  | 0, _ => rfl
  | n + 1, h => by
    show Nat.gcd (gl u g n) (u n).natAbs = Nat.gcd (gl v g n) (v n).natAbs
    rw [gl_congr fun j hj => h j (by omega), h n (by omega)]
theorem gt_congr {m : Nat} {A B : Mat} : ∀ {n}, (∀ i, i < n → ∀ j, j < m → A i j = B i j) → gt m A n = gt m B n
  | 0, _ => rfl
  | n + 1, h => by
    show gl (A n) (gt m A n) m = gl (B n) (gt m B n) m
    rw [gt_congr fun i hi => h i (by omega), gl_congr (h n (by omega))]
theorem det_zero_mat {n : Nat} {A : Mat} (h : ∀ i, i < n + 1 → ∀ j, j < n + 1 → A i j = 0) : det (n + 1) A = 0 := (det_Alt (n + 1)).row0 A 0 (by omega) (h 0 (by omega))
theorem gt_pos {n : Nat} {A : Mat} (hd : det (n + 1) A ≠ 0) : 0 < gt (n + 1) A (n + 1) := by
  apply Classical.byContradiction
  intro h
  have h0 : gt (n + 1) A (n + 1) = 0 := by omega
  refine hd (det_zero_mat fun i hi j hj => ?_)
  have := gt_dvd (n + 1) A (n + 1) i hi j hj
  rw [h0] at this
  have := Nat.eq_zero_of_zero_dvd this
  omega
/-- a table without its common divisor -/
def red (n : Nat) (A : Mat) : Mat := fun i j => Int.fdiv (A i j) (gt n A n)
theorem red_mul {n : Nat} {A : Mat} : ∀ i, i < n → ∀ j, j < n → (gt n A n : Int) * red n A i j = A i j := fun i hi j hj => by
  have h := gt_dvd n A n i hi j hj
  unfold red
  rw [Int.fdiv_eq_ediv_of_nonneg _ (Int.natCast_nonneg _)]
  exact Int.mul_ediv_cancel' (Int.ofNat_dvd_left.mpr h)
theorem red_sym {n : Nat} {A : Mat} (h : ∀ i, i < n → ∀ j, j < n → A i j = A j i) : ∀ i, i < n → ∀ j, j < n → red n A i j = red n A j i := fun i hi j hj => by
  unfold red; rw [h i hi j hj]
theorem red_det {n : Nat} {A : Mat} (h : det (n + 1) A ≠ 0) : det (n + 1) (red (n + 1) A) ≠ 0 := fun h0 => by
  have e : det (n + 1) A = det (n + 1) (fun i j => (gt (n + 1) A (n + 1) : Int) * red (n + 1) A i j) := det_congr fun i hi j hj => (red_mul i hi j hj).symm
  rw [det_scale, h0, Int.mul_zero] at e
  exact h e
theorem pow_ne {a : Int} (h : a ≠ 0) : ∀ n : Nat, a ^ n ≠ 0
  | 0 => by simp
  | n + 1 => by rw [Int.pow_succ]; exact Int.mul_ne_zero (pow_ne h n) h
/-- the sign that stays -/
def sgp (n : Nat) (d : Int) : Int := if d < 0 ∧ n % 2 = 1 then -1 else 1
theorem pow_sign {d : Int} (h : d ≠ 0) : ∀ n : Nat, d ^ n = sgp n d * ((d ^ n).natAbs : Int)
  | 0 => by simp [sgp]
  | n + 1 => by
    have ih := pow_sign h n
    rw [Int.pow_succ, Int.natAbs_mul]
    conv => lhs; rw [ih]
    generalize (d ^ n).natAbs = p
    unfold sgp
    by_cases hd : d < 0
    · have e : d = -(d.natAbs : Int) := by omega
      generalize d.natAbs = q at e
      by_cases hn : n % 2 = 1
      · have hn2 : ¬ (n + 1) % 2 = 1 := by omega
        simp only [hd, hn, hn2, true_and, if_true, if_false]
        rw [e]; simp [Int.neg_mul, Int.mul_neg]
      · have hn2 : (n + 1) % 2 = 1 := by omega
        simp only [hd, hn, hn2, true_and, if_true, if_false]
        rw [e]; simp [Int.neg_mul, Int.mul_neg]
    · have e : d = (d.natAbs : Int) := by omega
      generalize d.natAbs = q at e
      simp only [hd, false_and, if_false]
      rw [e]; simp
/-- the adjoint of the adjoint is the form without its common divisor, but for a sign -/
theorem red_red {n : Nat} {F : Mat} (hn : 1 ≤ n) (hd : det (n + 1) F ≠ 0) : ∀ i, i < n + 1 → ∀ j, j < n + 1 →
    red (n + 1) (fun i j => cof n (red (n + 1) (fun i j => cof n F i j)) i j) i j = Int.fdiv (sgp (n + 1) (det (n + 1) F) * F i j) (gt (n + 1) F (n + 1)) := by
  intro i hi j hj
  have hC : det (n + 1) (fun i j => cof n F i j) ≠ 0 := by rw [det_cof hd]; exact pow_ne hd n
  let R := red (n + 1) (fun i j => cof n F i j)
  let Y : Mat := fun i j => cof n R i j
  let g := gt (n + 1) (fun i j => cof n F i j) (n + 1)
  have hg : 0 < g := gt_pos hC
  -- g ^ n * Y = det ^ (n - 1) * F
  have h1 : ∀ i, i < n + 1 → ∀ j, j < n + 1 → (g : Int) ^ n * Y i j = det (n + 1) F ^ (n - 1) * F i j := fun i hi j hj => by
    rw [← cof_cof hn hd i hi j hj]
    show (g : Int) ^ n * cof n R i j = _
    rw [← cof_scale]
    exact cof_congr (fun a ha b hb => red_mul a ha b hb) i j
  have hRd : det (n + 1) R ≠ 0 := red_det hC
  have hYd : det (n + 1) Y ≠ 0 := by
    show det (n + 1) (fun i j => cof n R i j) ≠ 0
    rw [det_cof hRd]; exact pow_ne hRd n
  have h2 : g ^ n * gt (n + 1) Y (n + 1) = (det (n + 1) F ^ (n - 1)).natAbs * gt (n + 1) F (n + 1) := by
    rw [← gt_scale, ← gt_congr h1, gt_scale, Int.natAbs_pow, Int.natAbs_natCast]
  have hyp := gt_pos hYd
  have hfp := gt_pos hd
  have e1 := red_mul (A := Y) i hi j hj
  have e2 := red_mul (A := F) i hi j hj
  have h1 := h1 i hi j hj
  -- k gF y = k' gF f
  have hk := pow_ne hd (n - 1)
  have ks := pow_sign hd (n - 1)
  have hs : sgp (n - 1) (det (n + 1) F) = sgp (n + 1) (det (n + 1) F) := by
    unfold sgp
    have : (n - 1) % 2 = (n + 1) % 2 := by omega
    rw [this]
  rw [hs] at ks
  have hkp : 0 < (det (n + 1) F ^ (n - 1)).natAbs := Int.natAbs_pos.mpr hk
  generalize det (n + 1) F ^ (n - 1) = k at *
  generalize sgp (n + 1) (det (n + 1) F) = s at *
  show red (n + 1) Y i j = _
  generalize red (n + 1) Y i j = y at *
  generalize hf : red (n + 1) F i j = f at *
  generalize gt (n + 1) Y (n + 1) = gy at *
  generalize gt (n + 1) F (n + 1) = gf at *
  have key : y = s * f := by
    rw [← e1, ← e2, ← Int.mul_assoc] at h1
    have h2' : (g : Int) ^ n * (gy : Int) = (k.natAbs : Int) * (gf : Int) := by
      have := congrArg (fun x : Nat => (x : Int)) h2
      simpa using this
    rw [h2'] at h1
    have h3 : ((k.natAbs : Int) * (gf : Int)) * y = ((k.natAbs : Int) * (gf : Int)) * (s * f) := by
      rw [h1]
      conv => lhs; rw [ks]
      simp only [Int.mul_assoc, Int.mul_comm, Int.mul_left_comm]
    exact Int.eq_of_mul_eq_mul_left (by
      have : 0 < (k.natAbs : Int) * (gf : Int) := Int.mul_pos (by omega) (by omega)
      omega) h3
  rw [key, ← e2, Int.mul_left_comm, Int.fdiv_eq_ediv_of_nonneg _ (Int.natCast_nonneg _), Int.mul_ediv_cancel_left _ (by omega)]
end LA

/-! tables as data, and what the helpers of forms give -/
namespace Sh2
open PySem PySem.Spec PyProof.Rows L2 DM LA Sh
def sqD (b : Bool) (ds : List D) : D := if b then .tup ds else .lst ds
def vec (n : Nat) (v : Nat → Int) : List D := (List.range n).map fun j => .int (v j)
def rws (c : Bool) (n m : Nat) (A : Mat) : List D := (List.range n).map fun i => sqD c (vec m (A i))
def tab (b c : Bool) (n m : Nat) (A : Mat) : D := sqD b (rws c n m A)
@[simp] theorem vec_len (n : Nat) (v : Nat → Int) : (vec n v).length = n := by simp [vec]
@[simp] theorem rws_len (c : Bool) (n m : Nat) (A : Mat) : (rws c n m A).length = n := by simp [rws]
@[simp] theorem seqOf_sq (b : Bool) (ds : List D) (M : Mem) : seqOf (sqD b ds) M = some { xs := ds } := by cases b <;> rfl
@[simp] theorem tyM_sq (b : Bool) (ds : List D) (M : Mem) : tyOfM (sqD b ds) M = some (if b then "tuple" else "list") := by cases b <;> rfl
@[simp] theorem dTru_sq (b : Bool) (ds : List D) (M : Mem) : dTru (sqD b ds) M = some (!ds.isEmpty) := by cases b <;> rfl
@[simp] theorem oTuple_sq (b : Bool) (ds : List D) (M : Mem) : oTuple [sqD b ds] M = some (.v (.tup ds)) := by cases b <;> rfl
@[simp] theorem isNon_sq (b : Bool) (ds : List D) : isNon (sqD b ds) = false := by cases b <;> rfl
@[simp] theorem sq_t (ds : List D) : sqD true ds = .tup ds := rfl
@[simp] theorem sq_f (ds : List D) : sqD false ds = .lst ds := rfl
theorem seqOf_loc' {l : Nat} {M : Mem} {ds : List D} (h : memAt M l = some ds) : seqOf (.loc l) M = some { xs := ds, src := [(l, ds)] } := seqOf_loc h
theorem range_map_get {α : Type} (f : Nat → α) {n i : Nat} (h : i < n) : ((List.range n).map f)[i]? = some (f i) := by
  rw [List.getElem?_map, List.getElem?_range h]; rfl
theorem atI_range {α : Type} (f : Nat → α) {n i : Nat} (h : i < n) : atI ((List.range n).map f) (i : Int) = some (f i) := atI_nat (range_map_get f h)
theorem vec_get {n : Nat} (v : Nat → Int) {i : Nat} (h : i < n) : (vec n v)[i]? = some (.int (v i)) := range_map_get _ h
theorem rws_get {c : Bool} {n m : Nat} (A : Mat) {i : Nat} (h : i < n) : (rws c n m A)[i]? = some (sqD c (vec m (A i))) := range_map_get _ h
theorem atI_vec {n : Nat} (v : Nat → Int) {i : Nat} (h : i < n) : atI (vec n v) (i : Int) = some (.int (v i)) := atI_nat (vec_get v h)
theorem atI_rws {c : Bool} {n m : Nat} (A : Mat) {i : Nat} (h : i < n) : atI (rws c n m A) (i : Int) = some (sqD c (vec m (A i))) := atI_nat (rws_get A h)
theorem vec_congr {n : Nat} {u v : Nat → Int} (h : ∀ i, i < n → u i = v i) : vec n u = vec n v :=
  List.map_congr_left fun i hi => by rw [h i (by simpa using hi)]
theorem rws_congr {c : Bool} {n m : Nat} {A B : Mat} (h : ∀ i, i < n → ∀ j, j < m → A i j = B i j) : rws c n m A = rws c n m B :=
  List.map_congr_left fun i hi => by rw [vec_congr (h i (by simpa using hi))]
theorem tab_congr {b c : Bool} {n m : Nat} {A B : Mat} (h : ∀ i, i < n → ∀ j, j < m → A i j = B i j) : tab b c n m A = tab b c n m B := by
  unfold tab; rw [rws_congr h]
theorem vec_ints (n : Nat) (v : Nat → Int) : vec n v = ((List.range n).map v).map D.int := by simp [vec]
@[simp] theorem intsOf_vec (n : Nat) (v : Nat → Int) : intsOf (vec n v) = some ((List.range n).map v) := by rw [vec_ints, intsOf_map]
theorem sum_range (n : Nat) (f : Nat → Int) : ((List.range n).map f).sum = sm n f := by
  induction n with
  | zero => rfl
  | succ n ih => rw [List.range_succ, List.map_append, List.sum_append, ih]; simp [sm]
theorem rangeD_0 (n : Nat) : rangeD 0 n = (List.range n).map fun (i : Nat) => D.int (i : Int) := by rw [rangeD_eq]; simp
theorem lcR {n : Nat} {src : List (Nat × List D)} {g : GM} {e : EM} {enc v : Nat → D} {τ : DSt} {M : Mem} (hc : Chk src M)
    (h : ∀ i, i < n → ∃ τ1, g (enc i) τ M = .ok τ1 M ∧ e τ1 M = .ok (v i) M) : lcL src g mYes e ((List.range n).map enc) τ M = .ok ((List.range n).map v) M :=
  lcL_all hc _ fun i hi => h i (by simpa using hi)
theorem lcRg {n : Nat} {g : GM} {e : EM} {v : Nat → D} {τ : DSt} {M : Mem}
    (h : ∀ i, i < n → ∃ τ1, g (.int (i : Int)) τ M = .ok τ1 M ∧ e τ1 M = .ok (v i) M) : lcL [] g mYes e (rangeD 0 n) τ M = .ok ((List.range n).map v) M := by
  rw [rangeD_0]; exact lcR (by simp) h
theorem lcRw {c : Bool} {n m : Nat} {A : Mat} {src : List (Nat × List D)} {g : GM} {e : EM} {v : Nat → D} {τ : DSt} {M : Mem} (hc : Chk src M)
    (h : ∀ i, i < n → ∃ τ1, g (sqD c (vec m (A i))) τ M = .ok τ1 M ∧ e τ1 M = .ok (v i) M) : lcL src g mYes e (rws c n m A) τ M = .ok ((List.range n).map v) M := lcR hc h
theorem lcV {n : Nat} {u : Nat → Int} {src : List (Nat × List D)} {g : GM} {e : EM} {v : Nat → D} {τ : DSt} {M : Mem} (hc : Chk src M)
    (h : ∀ i, i < n → ∃ τ1, g (.int (u i)) τ M = .ok τ1 M ∧ e τ1 M = .ok (v i) M) : lcL src g mYes e (vec n u) τ M = .ok ((List.range n).map v) M := lcR hc h
theorem zipD_range (n : Nat) (f g : Nat → D) : zipD ((List.range n).map f) ((List.range n).map g) = (List.range n).map fun i => .tup [f i, g i] := by
  unfold zipD
  apply List.ext_getElem?
  intro i
  rw [List.getElem?_zipWith]
  by_cases h : i < n
  · rw [range_map_get _ h, range_map_get _ h, range_map_get _ h]
  · rw [List.getElem?_eq_none (by simpa using h), List.getElem?_eq_none (by simpa using h), List.getElem?_eq_none (by simpa using h)]
/-! sizes -/
/-- a number that any of these computations may have -/
def Sm (x : Int) : Prop := x.natAbs.log2 < 8000
theorem Sm.of {x : Int} {k : Nat} (h : x.natAbs < 2 ^ k) (h0 : 0 < k) (hk : k ≤ 8000) : Sm x := Nat.lt_of_lt_of_le (PySem.Flt.log2_lt_of h0 h) hk
theorem Sm.log {x : Int} (h : Sm x) : x.natAbs.log2 < 8000 := h
theorem cmul_sm {x y : Int} (hx : Sm x) (hy : Sm y) : CMulG x y := .inl (by have := hx.log; have := hy.log; omega)
theorem cdiv_sm {x y : Int} (h0 : y ≠ 0) (hy : Sm y) : CDivG x y := ⟨h0, by have := hy.log; omega⟩
theorem le_line' {n : Nat} (h : n ≤ 64) : (n ≤ sizeLine) = True := eq_true (Nat.le_trans h (by decide))

/-! ### rows -/
theorem dot_spec {b c : Bool} {n : Nat} {u v : Nat → Int} (hn : n ≤ 64) (hu : ∀ i, i < n → Sm (u i)) (hv : ∀ i, i < n → Sm (v i)) (M : Mem) :
    c_dot [sqD b (vec n u), sqD c (vec n v)] M = .ok (.int (sm n fun k => u k * v k)) M := by
  have h : ∀ τ : DSt, lcL [] (mTup 2 (mCons (mName 2) (mCons (mName 3) mNil))) mYes (eBin false oMul (eVar 2) (eVar 3)) (zipD (vec n u) (vec n v)) [some (sqD b (vec n u)), some (sqD c (vec n v)), none, none] M = .ok (vec n fun k => u k * v k) M := fun τ => by
    have e : zipD (vec n u) (vec n v) = (List.range n).map fun i => D.tup [D.int (u i), D.int (v i)] := zipD_range n _ _
    rw [e]
    exact lcR (by simp) fun i hi => ⟨[some (sqD b (vec n u)), some (sqD c (vec n v)), some (.int (u i)), some (.int (v i))], by simp, by simp [cmul_sm (hu i hi) (hv i hi)]⟩
  have hz : (zipD (vec n u) (vec n v)).length = n := by
    have e : zipD (vec n u) (vec n v) = (List.range n).map fun i => D.tup [D.int (u i), D.int (v i)] := zipD_range n _ _
    rw [e]; simp
  unfold c_dot m_dot
  simp [startD, hz, le_line' hn, h [], wipeD, sum_range]
theorem lawDot_spec {b c : Bool} {n : Nat} {u v : Nat → Int} (hn : n ≤ 64) (hu : ∀ i, i < n → Sm (u i)) (hv : ∀ i, i < n → Sm (v i)) (M : Mem) :
    c__law_dot [sqD b (vec n u), sqD c (vec n v)] M = .ok (.int (sm n fun k => u k * v k)) M := by
  have h : lcL [] (mName 2) mYes (eBin false oMul (eBin false oIx (eVar 0) (eVar 2)) (eBin false oIx (eVar 1) (eVar 2))) (rangeD 0 n) [some (sqD b (vec n u)), some (sqD c (vec n v)), none] M = .ok (vec n fun k => u k * v k) M :=
    lcRg fun i hi => ⟨[some (sqD b (vec n u)), some (sqD c (vec n v)), some (.int i)], by simp, by simp [atI_vec _ hi, cmul_sm (hu i hi) (hv i hi)]⟩
  have hl : n < 4611686018427387904 := by omega
  unfold c__law_dot m__law_dot
  simp [startD, hl, le_line' hn, h, wipeD, sum_range]
theorem turned_spec {b c : Bool} {n m : Nat} {A : Mat} (h0 : 0 < n) (hn : n ≤ 64) (hm : m ≤ 64) (M : Mem) : c_turned_over [tab b c n m A] M = .ok (tab false false m n (tr A)) M := by
  have h : lcL [] (mName 1) mYes (eLc false (iSeq (eVar 0)) (mName 2) mYes (eBin false oIx (eVar 2) (eVar 1)) [2]) (rangeD 0 m) [some (tab b c n m A), none, none] M = .ok (rws false m n (tr A)) M :=
    lcRg fun i hi => ⟨[some (tab b c n m A), some (.int i), none], by simp, by
      have : lcL [] (mName 2) mYes (eBin false oIx (eVar 2) (eVar 1)) (rws c n m A) [some (tab b c n m A), some (.int i), none] M = .ok (vec n (tr A i)) M :=
        lcRw (by simp) fun k hk => ⟨[some (tab b c n m A), some (.int i), some (sqD c (vec m (A k)))], by simp, by simp [atI_vec _ hi, tr]⟩
      simp [tab, le_line' hn, wipeD] at *
      simp [this]⟩
  have hl : m < 4611686018427387904 := by omega
  have e0 : (rws c n m A).isEmpty = false := by
    cases e : rws c n m A with
    | nil => have := congrArg List.length e; simp at this; omega
    | cons => rfl
  have e1 := atI_rws (c := c) (m := m) A h0
  unfold c_turned_over m_turned_over
  simp [startD, tab] at *
  simp [e0, e1, hl, le_line' hm, wipeD, h]
theorem asTuples_spec {b c : Bool} {n m : Nat} {A : Mat} (hn : n ≤ 64) (M : Mem) : c_as_tuples [tab b c n m A] M = .ok (tab true true n m A) M := by
  have h : lcL [] (mName 1) mYes (eArgs false oTuple (aCons (eVar 1) aNil)) (rws c n m A) [some (tab b c n m A), none] M = .ok (rws true n m A) M :=
    lcRw (by simp) fun k hk => ⟨[some (tab b c n m A), some (sqD c (vec m (A k)))], by simp, by simp⟩
  unfold c_as_tuples m_as_tuples
  simp [startD, tab] at *
  simp [le_line' hn, wipeD, h]
theorem lawTuples_spec {b c : Bool} {n m : Nat} {A : Mat} (hn : n ≤ 64) (M : Mem) : c__law_tuples [tab b c n m A] M = .ok (tab true true n m A) M := asTuples_spec hn M
theorem times_spec {b c b' c' : Bool} {n m k : Nat} {A B : Mat} (h0 : 0 < m) (hn : n ≤ 64) (hm : m ≤ 64) (hk : k ≤ 64) (hA : ∀ i, i < n → ∀ j, j < m → Sm (A i j)) (hB : ∀ i, i < m → ∀ j, j < k → Sm (B i j)) (M : Mem) :
    c_times [tab b c n m A, tab b' c' m k B] M = .ok (tab false false n k (mul m A B)) M := by
  have h : lcL [] (mName 3) mYes (eLc false (iSeq (eVar 2)) (mName 4) mYes (eCall 2 (c_dot) (aCons (eVar 3) (aCons (eVar 4) aNil))) [4]) (rws c n m A) [some (tab b c n m A), some (tab b' c' m k B), some (tab false false k m (tr B)), none, none] M = .ok (rws false n k (mul m A B)) M :=
    lcRw (by simp) fun i hi => ⟨[some (tab b c n m A), some (tab b' c' m k B), some (tab false false k m (tr B)), some (sqD c (vec m (A i))), none], by simp, by
      have : lcL [] (mName 4) mYes (eCall 2 (c_dot) (aCons (eVar 3) (aCons (eVar 4) aNil))) (rws false k m (tr B)) [some (tab b c n m A), some (tab b' c' m k B), some (tab false false k m (tr B)), some (sqD c (vec m (A i))), none] M = .ok (vec k (mul m A B i)) M :=
        lcRw (by simp) fun j hj => ⟨[some (tab b c n m A), some (tab b' c' m k B), some (tab false false k m (tr B)), some (sqD c (vec m (A i))), some (sqD false (vec m (tr B j)))], by simp, by
          have := dot_spec (b := c) (c := false) hm (hA i hi) (v := tr B j) (fun l hl => hB l hl j hj) M
          simp only [sq_f] at this
          simp [this, mul, tr]⟩
      simp [tab, le_line' hk, wipeD] at *
      simp [this]⟩
  have ht := turned_spec (b := b') (c := c') (A := B) h0 hm hk M
  unfold c_times m_times
  simp [startD, ht]
  simp [tab] at *
  simp [le_line' hn, wipeD, h]
theorem movedBy_spec {b c b' c' : Bool} {n : Nat} {A F : Mat} (h0 : 0 < n) (hn : n ≤ 64) (hA : ∀ i, i < n → ∀ j, j < n → Sm (A i j)) (hF : ∀ i, i < n → ∀ j, j < n → Sm (F i j))
    (hAF : ∀ i, i < n → ∀ j, j < n → Sm (mul n A F i j)) (M : Mem) : c_moved_by [tab b c n n A, tab b' c' n n F] M = .ok (tab false false n n (mul n (mul n A F) (tr A))) M := by
  have h1 := times_spec (b := b) (c := c) (b' := b') (c' := c') h0 hn hn hn hA hF M
  have h2 := turned_spec (b := b) (c := c) (A := A) h0 hn hn M
  have h3 := times_spec (b := false) (c := false) (b' := false) (c' := false) h0 hn hn hn hAF (B := tr A) (fun i hi j hj => hA j hj i hi) M
  unfold c_moved_by m_moved_by
  simp [startD, h1, h2, h3]
theorem lawMoved_spec {b c b' c' : Bool} {n : Nat} {A F : Mat} (hn : n ≤ 64) (hA : ∀ i, i < n → ∀ j, j < n → Sm (A i j)) (hF : ∀ i, i < n → ∀ j, j < n → Sm (F i j))
    (hAF : ∀ i, i < n → ∀ j, j < n → Sm (mul n A (tr F) i j)) (M : Mem) : c__law_moved [tab b c n n A, tab b' c' n n F] M = .ok (tab true true n n (mul n (mul n A (tr F)) (tr A))) M := by
  have h : lcL [] (mName 3) mYes (eLc false (iSeq (eVar 1)) (mName 4) mYes (eCall 2 (c__law_dot) (aCons (eVar 4) (aCons (eVar 3) aNil))) [4]) (rws c n n A) [some (tab b c n n A), some (tab b' c' n n F), none, none, none, none] M = .ok (rws false n n (mul n A (tr F))) M :=
    lcRw (by simp) fun i hi => ⟨[some (tab b c n n A), some (tab b' c' n n F), none, some (sqD c (vec n (A i))), none, none], by simp, by
      have : lcL [] (mName 4) mYes (eCall 2 (c__law_dot) (aCons (eVar 4) (aCons (eVar 3) aNil))) (rws c' n n F) [some (tab b c n n A), some (tab b' c' n n F), none, some (sqD c (vec n (A i))), none, none] M = .ok (vec n (mul n A (tr F) i)) M :=
        lcRw (by simp) fun j hj => ⟨[some (tab b c n n A), some (tab b' c' n n F), none, some (sqD c (vec n (A i))), some (sqD c' (vec n (F j))), none], by simp, by
          have := lawDot_spec (b := c') (c := c) hn (hF j hj) (hA i hi) M
          simp [this]
          exact sm_congr fun l hl => Int.mul_comm _ _⟩
      simp [tab, le_line' hn, wipeD] at *
      simp [this]⟩
  have h2 : lcL [] (mName 5) mYes (eArgs false oTuple (aCons (eLc false (iSeq (eVar 0)) (mName 3) mYes (eCall 2 (c__law_dot) (aCons (eVar 5) (aCons (eVar 3) aNil))) [3]) aNil)) (rws false n n (mul n A (tr F))) [some (tab b c n n A), some (tab b' c' n n F), some (tab false false n n (mul n A (tr F))), none, none, none] M = .ok (rws true n n (mul n (mul n A (tr F)) (tr A))) M :=
    lcRw (by simp) fun i hi => ⟨[some (tab b c n n A), some (tab b' c' n n F), some (tab false false n n (mul n A (tr F))), none, none, some (sqD false (vec n (mul n A (tr F) i)))], by simp, by
      have : lcL [] (mName 3) mYes (eCall 2 (c__law_dot) (aCons (eVar 5) (aCons (eVar 3) aNil))) (rws c n n A) [some (tab b c n n A), some (tab b' c' n n F), some (tab false false n n (mul n A (tr F))), none, none, some (sqD false (vec n (mul n A (tr F) i)))] M = .ok (vec n (mul n (mul n A (tr F)) (tr A) i)) M :=
        lcRw (by simp) fun j hj => ⟨[some (tab b c n n A), some (tab b' c' n n F), some (tab false false n n (mul n A (tr F))), some (sqD c (vec n (A j))), none, some (sqD false (vec n (mul n A (tr F) i)))], by simp, by
          have := lawDot_spec (b := false) (c := c) hn (hAF i hi) (hA j hj) M
          simp only [sq_f] at this
          simp [this, mul, tr]⟩
      simp [tab, le_line' hn, wipeD] at *
      simp [this]⟩
  unfold c__law_moved m__law_moved
  simp [startD]
  simp [tab] at *
  simp [le_line' hn, wipeD, h, h2]
end Sh2

/-! determinants -/
namespace Sh2
open PySem PySem.Spec PyProof.Rows L2 DM LA Sh
@[simp] theorem set_app (M : Mem) (o o' : Option (List D)) : (M ++ [o]).set M.length o' = M ++ [o'] := by
  rw [List.set_append_right _ _ (Nat.le_refl _)]; simp
theorem rws_set {c : Bool} {n m : Nat} {A : Mat} {i : Nat} (hi : i < n) (v : Nat → Int) : (rws c n m A).set i (sqD c (vec m v)) = rws c n m (ur A i v) := by
  apply List.ext_getElem?
  intro k
  by_cases hk : k < n
  · rw [rws_get _ hk]
    by_cases e : i = k
    · subst e
      rw [List.getElem?_set_self (by simpa using hi)]
      congr 3
      funext j
      exact (ur_same A i v j).symm
    · rw [List.getElem?_set_ne e, rws_get _ hk]
      congr 3
      funext j
      exact (ur_ne (Ne.symm e) j).symm
  · rw [List.getElem?_eq_none (by simpa using hk), List.getElem?_eq_none (by simpa using hk)]
/-- a loop that may give an answer -/
theorem forL_ret {g : GM} {b : SM} {enc : Nat → D} {n : Nat} {src : List (Nat × List D)} {R : Nat → DSt → Mem → Prop} {Q : D → Mem → Prop}
    (h : ∀ i τ M, i < n → R i τ M → Chk src M ∧ ∃ τ1 M1, g (enc i) τ M = .ok τ1 M1 ∧ ((∃ τ' M', (b τ1 M1 = .nx τ' M' ∨ b τ1 M1 = .ct τ' M') ∧ R (i + 1) τ' M') ∨ ∃ d M', b τ1 M1 = .rt d M' ∧ Q d M')) (h0 : ∀ τ M, R n τ M → Chk src M)
    {τ : DSt} {M : Mem} (hr : R 0 τ M) : (∃ τ' M', forL src g b ((List.range n).map enc) τ M = .nx τ' M' ∧ R n τ' M') ∨ ∃ d M', forL src g b ((List.range n).map enc) τ M = .rt d M' ∧ Q d M' := by
  have go : ∀ k i, i + k = n → ∀ τ M, R i τ M → (∃ τ' M', forL src g b ((List.range' i k).map enc) τ M = .nx τ' M' ∧ R n τ' M') ∨ ∃ d M', forL src g b ((List.range' i k).map enc) τ M = .rt d M' ∧ Q d M' := by
    intro k
    induction k with
    | zero => intro i e τ M hr; have e : i = n := by omega
              subst e; exact .inl ⟨τ, M, by simp [forL, h0 τ M hr], hr⟩
    | succ k ih =>
      intro i e τ M hr
      obtain ⟨hc, τ1, M1, e1, e2⟩ := h i τ M (by omega) hr
      rw [List.range'_succ, List.map_cons]
      unfold forL
      rw [if_pos hc]
      simp only [e1]
      rcases e2 with ⟨τ', M', e2, hr'⟩ | ⟨d, M', e2, hq⟩
      · have := ih (i + 1) (by omega) τ' M' hr'
        rcases e2 with e2 | e2 <;> (simp only [e2]; exact this)
      · simp only [e2]
        exact .inr ⟨d, M', rfl, hq⟩
  rw [List.range_eq_range']
  exact go n 0 (by omega) τ M hr
theorem forL_retR {g : GM} {b : SM} {n : Nat} {R : Nat → DSt → Mem → Prop} {Q : D → Mem → Prop}
    (h : ∀ i τ M, i < n → R i τ M → ∃ τ1 M1, g (.int (i : Int)) τ M = .ok τ1 M1 ∧ ((∃ τ' M', (b τ1 M1 = .nx τ' M' ∨ b τ1 M1 = .ct τ' M') ∧ R (i + 1) τ' M') ∨ ∃ d M', b τ1 M1 = .rt d M' ∧ Q d M'))
    {τ : DSt} {M : Mem} (hr : R 0 τ M) : (∃ τ' M', forL [] g b (rangeD 0 n) τ M = .nx τ' M' ∧ R n τ' M') ∨ ∃ d M', forL [] g b (rangeD 0 n) τ M = .rt d M' ∧ Q d M' := by
  rw [rangeD_0]
  exact forL_ret (fun i τ M hi hr => ⟨by simp, h i τ M hi hr⟩) (fun _ _ _ => by simp) hr

/-- one step of the elimination -/
def stp (k : Nat) (p : Int) (A : Mat) : Mat := fun i j => if k < i then Int.fdiv (A k k * A i j - A i k * A k j) p else A i j
def stpJ (k j : Nat) (p : Int) (A : Mat) : Mat := fun i jj => if k < i ∧ i < k + 1 + j then Int.fdiv (A k k * A i jj - A i k * A k jj) p else A i jj
theorem stpJ_0 (k : Nat) (p : Int) (A : Mat) : stpJ k 0 p A = A := by funext i j; unfold stpJ; rw [if_neg (by omega)]
theorem stpJ_row {k j : Nat} {p : Int} {A : Mat} : stpJ k j p A (k + 1 + j) = A (k + 1 + j) := by funext jj; unfold stpJ; rw [if_neg (by omega)]
theorem stpJ_succ (k j : Nat) (p : Int) (A : Mat) : ur (stpJ k j p A) (k + 1 + j) (fun jj => Int.fdiv (A k k * A (k + 1 + j) jj - A (k + 1 + j) k * A k jj) p) = stpJ k (j + 1) p A := by
  funext i jj
  unfold ur stpJ
  by_cases e : i = k + 1 + j
  · subst e; rw [if_pos rfl, if_pos (by omega)]
  · simp only [e, if_false]
    by_cases h : k < i ∧ i < k + 1 + j
    · rw [if_pos h, if_pos (by omega)]
    · rw [if_neg h, if_neg (by omega)]
theorem stpJ_n {n k : Nat} (hk : k < n) (p : Int) (A : Mat) (c : Bool) : rws c n n (stpJ k (n - (k + 1)) p A) = rws c n n (stp k p A) := rws_congr fun i hi j hj => by
  unfold stpJ stp
  by_cases h : k < i
  · rw [if_pos h, if_pos (by omega)]
  · rw [if_neg h, if_neg (by omega)]
noncomputable abbrev inn1 : SM := (sSeq (sSet 7 (eBin false oIx (eBin false oIx (eVar 0) (eVar 6)) (eVar 3))) (sAsg (eLc false (iZipX (aCons (eBin false oIx (eVar 0) (eVar 6)) (aCons (eVar 5) aNil))) (mTup 2 (mCons (mName 9) (mCons (mName 10) mNil))) mYes (eBin false oDiv (eBin false oSub (eBin false oMul (eBin false oIx (eVar 5) (eVar 3)) (eVar 9)) (eBin false oMul (eVar 7) (eVar 10))) (eVar 2)) [9, 10]) (mSub (eVar 0) (eVar 6))))
noncomputable abbrev inn2 : SM := (sAsg (eLc false (iRange1 (aCons (eArgs false oLen (aCons (eVar 0) aNil)) aNil)) (mName 8) mYes (eArgs false oInt (aCons (eBin false oDiv (eBin false oSub (eBin false oMul (eBin false oIx (eVar 5) (eVar 3)) (eBin false oIx (eBin false oIx (eVar 0) (eVar 6)) (eVar 8))) (eBin false oMul (eBin false oIx (eBin false oIx (eVar 0) (eVar 6)) (eVar 3)) (eBin false oIx (eVar 5) (eVar 8)))) (eVar 2)) aNil)) [8]) (mSub (eVar 0) (eVar 6)))
theorem zip_vec_len (n : Nat) (u v : Nat → Int) : (zipD (vec n u) (vec n v)).length = n := by
  have e : zipD (vec n u) (vec n v) = (List.range n).map fun i => D.tup [D.int (u i), D.int (v i)] := zipD_range n _ _
  rw [e]; simp
theorem seqOf_app (M : Mem) (ds : List D) : seqOf (.loc M.length) (M ++ [some ds]) = some { xs := ds, src := [(M.length, ds)] } := seqOf_loc (by simp)
@[simp] theorem ixN_nat {n k : Nat} (h : k < n) : ixN n (k : Int) = some k := by rw [ixN_of (by omega) (by omega)]; simp
@[simp] theorem ixN_nat1 {n k : Nat} (h : k + 1 < n) : ixN n ((k : Int) + 1) = some (k + 1) := by rw [ixN_of (by omega) (by omega)]; congr 1
section
variable {n k : Nat} (M0 : Mem) (A : Mat) (s p : Int) (hk : k < n) (hn : n ≤ 64) (hS : ∀ i, k ≤ i → i < n → ∀ j, j < n → Sm (A i j)) (h0 : p ≠ 0) (hp : Sm p)
include hk hn hS h0 hp
theorem det_inner1 (x4 x6 x7 x8 x9 x10 : Option D) : ∃ y6 y7 y8 y9 y10, forL [] (mName 6) inn1 (rangeD ((k : Int) + 1) (n - (k + 1)))
      [some (.loc M0.length), some (.int s), some (.int p), some (.int k), x4, some (.lst (vec n (A k))), x6, x7, x8, x9, x10] (M0 ++ [some (rws false n n A)]) =
    .nx [some (.loc M0.length), some (.int s), some (.int p), some (.int k), x4, some (.lst (vec n (A k))), y6, y7, y8, y9, y10] (M0 ++ [some (rws false n n (stp k p A))]) := by
  obtain ⟨τ', M', e, ⟨y6, y7, y8, y9, y10, rfl⟩, rfl⟩ := forL_range (g := mName 6) (b := inn1) (lo := (k : Int) + 1) (n := n - (k + 1))
    (R := fun j τ M => (∃ y6 y7 y8 y9 y10, τ = [some (.loc M0.length), some (.int s), some (.int p), some (.int k), x4, some (.lst (vec n (A k))), y6, y7, y8, y9, y10]) ∧ M = M0 ++ [some (rws false n n (stpJ k j p A))])
    (fun j τ M hj hR => by
      obtain ⟨⟨y6, y7, y8, y9, y10, rfl⟩, rfl⟩ := hR
      have hi : k + 1 + j < n := by omega
      have hh : lcL [] (mTup 2 (mCons (mName 9) (mCons (mName 10) mNil))) mYes (eBin false oDiv (eBin false oSub (eBin false oMul (eBin false oIx (eVar 5) (eVar 3)) (eVar 9)) (eBin false oMul (eVar 7) (eVar 10))) (eVar 2)) (zipD (vec n (A (k + 1 + j))) (vec n (A k)))
          [some (.loc M0.length), some (.int s), some (.int p), some (.int k), x4, some (.lst (vec n (A k))), some (.int ((k + 1 + j : Nat) : Int)), some (.int (A (k + 1 + j) k)), y8, none, none] (M0 ++ [some (rws false n n (stpJ k j p A))]) =
          .ok (vec n fun jj => Int.fdiv (A k k * A (k + 1 + j) jj - A (k + 1 + j) k * A k jj) p) (M0 ++ [some (rws false n n (stpJ k j p A))]) := by
        have e : zipD (vec n (A (k + 1 + j))) (vec n (A k)) = (List.range n).map fun i => D.tup [D.int (A (k + 1 + j) i), D.int (A k i)] := zipD_range n _ _
        rw [e]
        exact lcR (by simp) fun i hi2 => ⟨[some (.loc M0.length), some (.int s), some (.int p), some (.int k), x4, some (.lst (vec n (A k))), some (.int ((k + 1 + j : Nat) : Int)), some (.int (A (k + 1 + j) k)), y8, some (.int (A (k + 1 + j) i)), some (.int (A k i))], by simp, by
          simp [atI_vec _ hk, cmul_sm (hS k (by omega) hk k hk) (hS (k + 1 + j) (by omega) hi i hi2), cmul_sm (hS (k + 1 + j) (by omega) hi k hk) (hS k (by omega) hk i hi2), cdiv_sm h0 hp]⟩
      have ei : (k : Int) + 1 + (j : Int) = ((k + 1 + j : Nat) : Int) := by simp
      have er := atI_rws (c := false) (m := n) (stpJ k j p A) hi
      have es := rws_set (c := false) (m := n) (A := stpJ k j p A) hi (fun jj => Int.fdiv (A k k * A (k + 1 + j) jj - A (k + 1 + j) k * A k jj) p)
      rw [stpJ_succ] at es
      simp only [sq_f] at es
      rw [ei]
      refine ⟨[some (.loc M0.length), some (.int s), some (.int p), some (.int k), x4, some (.lst (vec n (A k))), some (.int ((k + 1 + j : Nat) : Int)), y7, y8, y9, y10], M0 ++ [some (rws false n n (stpJ k j p A))], _, _, by simp, .inl ?_, ⟨some (.int ((k + 1 + j : Nat) : Int)), some (.int (A (k + 1 + j) k)), y8, y9, y10, rfl⟩, rfl⟩
      unfold inn1
      simp only [sSeq, sSet, sAsg, eBin, eVar, oIx, eLc, iZipX, aCons, aNil, mSub, setAt, placeOf_loc, intOf_int, R.bind_ok, andS_ok, List.getElem?_cons_zero, List.getElem?_cons_succ, seqOf_app, Option.bind_some, Option.map_some, er, stpJ_row, fin_v, seqOf_sq, sq_f, seqOf_lst, atI_vec _ hk, List.set_cons_succ, List.set_cons_zero, List.append_nil, zip_vec_len, le_line' hn, if_true, wipeD, hh, vec_len, fin_lf, memAt_app, rws_len, ixN_nat hi, set_app, es])
    (τ := [some (.loc M0.length), some (.int s), some (.int p), some (.int k), x4, some (.lst (vec n (A k))), x6, x7, x8, x9, x10]) (M := M0 ++ [some (rws false n n A)]) ⟨⟨_, _, _, _, _, rfl⟩, by rw [stpJ_0]⟩
  rw [stpJ_n hk] at e
  exact ⟨y6, y7, y8, y9, y10, e⟩
theorem det_inner2 (x4 x6 x7 x8 : Option D) : ∃ y6 y7 y8, forL [] (mName 6) inn2 (rangeD ((k : Int) + 1) (n - (k + 1)))
      [some (.loc M0.length), some (.int s), some (.int p), some (.int k), x4, some (.lst (vec n (A k))), x6, x7, x8] (M0 ++ [some (rws false n n A)]) =
    .nx [some (.loc M0.length), some (.int s), some (.int p), some (.int k), x4, some (.lst (vec n (A k))), y6, y7, y8] (M0 ++ [some (rws false n n (stp k p A))]) := by
  obtain ⟨τ', M', e, ⟨y6, y7, y8, rfl⟩, rfl⟩ := forL_range (g := mName 6) (b := inn2) (lo := (k : Int) + 1) (n := n - (k + 1))
    (R := fun j τ M => (∃ y6 y7 y8, τ = [some (.loc M0.length), some (.int s), some (.int p), some (.int k), x4, some (.lst (vec n (A k))), y6, y7, y8]) ∧ M = M0 ++ [some (rws false n n (stpJ k j p A))])
    (fun j τ M hj hR => by
      obtain ⟨⟨y6, y7, y8, rfl⟩, rfl⟩ := hR
      have hi : k + 1 + j < n := by omega
      have er := atI_rws (c := false) (m := n) (stpJ k j p A) hi
      have hh : lcL [] (mName 8) mYes (eArgs false oInt (aCons (eBin false oDiv (eBin false oSub (eBin false oMul (eBin false oIx (eVar 5) (eVar 3)) (eBin false oIx (eBin false oIx (eVar 0) (eVar 6)) (eVar 8))) (eBin false oMul (eBin false oIx (eBin false oIx (eVar 0) (eVar 6)) (eVar 3)) (eBin false oIx (eVar 5) (eVar 8)))) (eVar 2)) aNil)) (rangeD 0 n)
          [some (.loc M0.length), some (.int s), some (.int p), some (.int k), x4, some (.lst (vec n (A k))), some (.int ((k + 1 + j : Nat) : Int)), y7, none] (M0 ++ [some (rws false n n (stpJ k j p A))]) =
          .ok (vec n fun jj => Int.fdiv (A k k * A (k + 1 + j) jj - A (k + 1 + j) k * A k jj) p) (M0 ++ [some (rws false n n (stpJ k j p A))]) :=
        lcRg fun i hi2 => ⟨[some (.loc M0.length), some (.int s), some (.int p), some (.int k), x4, some (.lst (vec n (A k))), some (.int ((k + 1 + j : Nat) : Int)), y7, some (.int i)], by simp, by
          simp only [eArgs, aCons, aNil, eBin, eVar, oIx, R.bind_ok, List.getElem?_cons_zero, List.getElem?_cons_succ, seqOf_app, seqOf_lst, Option.bind_some, Option.map_some, er, stpJ_row, fin_v, seqOf_sq, sq_f, intOf_int, atI_vec _ hk, atI_vec _ hi2, oMul_ii, cmul_sm (hS k (by omega) hk k hk) (hS (k + 1 + j) (by omega) hi i hi2), cmul_sm (hS (k + 1 + j) (by omega) hi k hk) (hS k (by omega) hk i hi2), if_true, oSub_ii, oDiv_ii, cdiv_sm h0 hp, oInt_i]⟩
      have ei : (k : Int) + 1 + (j : Int) = ((k + 1 + j : Nat) : Int) := by simp
      have es := rws_set (c := false) (m := n) (A := stpJ k j p A) hi (fun jj => Int.fdiv (A k k * A (k + 1 + j) jj - A (k + 1 + j) k * A k jj) p)
      rw [stpJ_succ] at es
      simp only [sq_f] at es
      have hl : n < 4611686018427387904 := by omega
      rw [ei]
      refine ⟨[some (.loc M0.length), some (.int s), some (.int p), some (.int k), x4, some (.lst (vec n (A k))), some (.int ((k + 1 + j : Nat) : Int)), y7, y8], M0 ++ [some (rws false n n (stpJ k j p A))], _, _, by simp, .inl ?_, ⟨some (.int ((k + 1 + j : Nat) : Int)), y7, y8, rfl⟩, rfl⟩
      unfold inn2
      simp only [sSeq, sSet, sAsg, eBin, eVar, oIx, eLc, iRange1_eq, eArgs, oLen_1, aCons, aNil, mSub, setAt, placeOf_loc, intOf_int, R.bind_ok, andS_ok, List.getElem?_cons_zero, List.getElem?_cons_succ, seqOf_app, Option.bind_some, Option.map_some, fin_v, rngOk_n hl, if_true, rangeD_len, Int.toNat_natCast, le_line' hn, wipeD, hh, vec_len, fin_lf, memAt_app, rws_len, ixN_nat hi, set_app, es, List.set_cons_succ, List.set_cons_zero])
    (τ := [some (.loc M0.length), some (.int s), some (.int p), some (.int k), x4, some (.lst (vec n (A k))), x6, x7, x8]) (M := M0 ++ [some (rws false n n A)]) ⟨⟨_, _, _, rfl⟩, by rw [stpJ_0]⟩
  rw [stpJ_n hk] at e
  exact ⟨y6, y7, y8, e⟩
end
theorem swp_self (A : Mat) (k : Nat) : swp A k k = A := by
  funext i j; unfold swp
  by_cases e : i = k
  · simp [e]
  · simp [e]
theorem rws_swap {n k c : Nat} (A : Mat) (hk : k < n) (hc : c < n) (ne : c ≠ k) : ((rws false n n A).set k (.lst (vec n (A c)))).set c (.lst (vec n (A k))) = rws false n n (swp A k c) := by
  have h1 := rws_set (c := false) (m := n) (A := A) hk (A c)
  have h2 := rws_set (c := false) (m := n) (A := ur A k (A c)) hc (A k)
  simp only [sq_f] at h1 h2
  rw [h1, h2]
  refine rws_congr fun i hi j hj => ?_
  unfold ur swp
  by_cases e1 : i = c
  · subst e1; rw [if_pos rfl, if_neg ne, if_pos rfl]
  · rw [if_neg e1]
    by_cases e2 : i = k
    · rw [if_pos e2, if_pos e2]
    · rw [if_neg e2, if_neg e2, if_neg e1]
/-- the rows with a number other than 0 in a column -/
def ch (n k : Nat) (A : Mat) : List Nat := (List.range (n - k)).filter fun i => !decide (A (k + i) k = 0)
theorem ch_nil {n k : Nat} {A : Mat} (h : ch n k A = []) : ∀ i, k ≤ i → i < n → A i k = 0 := fun i h1 h2 => by
  have := List.filter_eq_nil_iff.mp h (i - k) (by simp; omega)
  rw [show k + (i - k) = i by omega] at this
  simpa using this
theorem ch_cons {n k c : Nat} {A : Mat} {cs : List Nat} (h : ch n k A = c :: cs) : k + c < n ∧ A (k + c) k ≠ 0 := by
  have hm : c ∈ ch n k A := by rw [h]; exact List.mem_cons_self
  have := List.mem_filter.mp hm
  exact ⟨by have := this.1; simp at this; omega, by simpa using this.2⟩
theorem ch_len (n k : Nat) (A : Mat) : (ch n k A).length ≤ n := Nat.le_trans (List.length_filter_le _ _) (by simp)
theorem mkRows {c : Bool} {n : Nat} {A : Mat} (i : Nat) {src : List (Nat × List D)} {τ : DSt} {M : Mem} (hc : Chk src M) (hi : ∀ v, eVar i (τ.set i (some v)) M = .ok v M) :
    lcL src (mName i) mYes (eArgs false oList (aCons (eVar i) aNil)) (rws c n n A) τ M = .ok (rws false n n A) M :=
  lcRw hc fun k hk => ⟨τ.set i (some (sqD c (vec n (A k)))), by simp, by
    simp only [eArgs, aCons, aNil, hi, R.bind_ok, oList_1, seqOf_sq, Option.map_some, fin_lf, sq_f]⟩
theorem trunc_int (M : Mem) (o : List (Option (List D))) (i : Int) : trunc M (M ++ o) (.int i) = .ok (.int i) M := trunc_app (fz_clo (by simp))
theorem seq_nx {a b : SM} {τ τ' : DSt} {M M' : Mem} (h : a τ M = .nx τ' M') : sSeq a b τ M = b τ' M' := by simp only [sSeq, h]
theorem seq_rt {a b : SM} {τ : DSt} {M M' : Mem} {d : D} (h : a τ M = .rt d M') : sSeq a b τ M = .rt d M' := by simp only [sSeq, h]
theorem seq_exc {a b : SM} {τ τ' : DSt} {M M' : Mem} {d : D} (h : a τ M = .exc d τ' M') : sSeq a b τ M = .exc d τ' M' := by simp only [sSeq, h]
noncomputable abbrev outB (inn : SM) : SM := (sSeq (sSet 4 (eLc false (iRange2 (aCons (eVar 3) (aCons (eArgs false oLen (aCons (eVar 0) aNil)) aNil))) (mName 6) (asB (eBin false oNe (eBin false oIx (eBin false oIx (eVar 0) (eVar 6)) (eVar 3)) (eC (.int 0)))) (eVar 6) [6])) (sSeq (sIf (mNot (asT (eVar 4))) (sRet (eC (.int 0))) sNil) (sSeq (sIf (asB (eBin false oNe (eBin false oIx (eVar 4) (eC (.int 0))) (eVar 3))) (sSeq (sAsg (eArgs false oTup (aCons (eBin false oIx (eVar 0) (eBin false oIx (eVar 4) (eC (.int 0)))) (aCons (eBin false oIx (eVar 0) (eVar 3)) aNil))) (mTup 2 (mCons (mSub (eVar 0) (eVar 3)) (mCons (mSub (eVar 0) (eBin false oIx (eVar 4) (eC (.int 0)))) mNil)))) (sSet 1 (eUn false oNeg (eVar 1)))) sNil) (sSeq (sSet 5 (eBin false oIx (eVar 0) (eVar 3))) (sSeq (sFor (iRange2 (aCons (eBin false oAdd (eVar 3) (eC (.int 1))) (aCons (eArgs false oLen (aCons (eVar 0) aNil)) aNil))) (mName 6) inn) (sSet 2 (eBin false oIx (eVar 5) (eVar 3))))))))
section
variable {n bb : Nat} {A : Mat} (hn : n ≤ 64) (hb : (6 + bb) * n + 1 ≤ 8000) {inn : SM} {T : DSt → Prop} (M0 : Mem)
  (hinn : ∀ (k : Nat) (Am : Mat) (s p : Int) (x4 x6 : Option D) (t : DSt), k < n → (∀ i, k ≤ i → i < n → ∀ j, j < n → Sm (Am i j)) → p ≠ 0 → Sm p → T t → ∃ y6 t', T t' ∧ forL [] (mName 6) inn (rangeD ((k : Int) + 1) (n - (k + 1)))
      (some (.loc M0.length) :: some (.int s) :: some (.int p) :: some (.int k) :: x4 :: some (.lst (vec n (Am k))) :: x6 :: t) (M0 ++ [some (rws false n n Am)]) =
    .nx (some (.loc M0.length) :: some (.int s) :: some (.int p) :: some (.int k) :: x4 :: some (.lst (vec n (Am k))) :: y6 :: t') (M0 ++ [some (rws false n n (stp k p Am))]))
include hn hb hinn
theorem det_step {k : Nat} {Am : Mat} {p s : Int} (hk : k < n) (H : BInv n A (2 ^ bb) k Am p s) (x4 x5 x6 : Option D) (t : DSt) (ht : T t) :
    (∃ Am' p' s' y4 y5 y6 t', BInv n A (2 ^ bb) (k + 1) Am' p' s' ∧ T t' ∧ outB inn (some (.loc M0.length) :: some (.int s) :: some (.int p) :: some (.int k) :: x4 :: x5 :: x6 :: t) (M0 ++ [some (rws false n n Am)]) =
      .nx (some (.loc M0.length) :: some (.int s') :: some (.int p') :: some (.int k) :: y4 :: y5 :: y6 :: t') (M0 ++ [some (rws false n n Am')])) ∨
    (det n A = 0 ∧ outB inn (some (.loc M0.length) :: some (.int s) :: some (.int p) :: some (.int k) :: x4 :: x5 :: x6 :: t) (M0 ++ [some (rws false n n Am)]) = .rt (.int 0) (M0 ++ [some (rws false n n Am)])) := by
  have hl : n < 4611686018427387904 := by omega
  obtain ⟨q1, q2, q3⟩ := bSize H hk hn
  have hk62 : k < 4611686018427387904 := by omega
  have hch : lcL [] (mName 6) (asB (eBin false oNe (eBin false oIx (eBin false oIx (eVar 0) (eVar 6)) (eVar 3)) (eC (.int 0)))) (eVar 6) (rangeD (k : Int) (n - k))
      (some (.loc M0.length) :: some (.int s) :: some (.int p) :: some (.int k) :: x4 :: x5 :: none :: t) (M0 ++ [some (rws false n n Am)]) = .ok ((ch n k Am).map fun (i : Nat) => .int ((k : Int) + (i : Int))) (M0 ++ [some (rws false n n Am)]) := by
    rw [rangeD_eq]
    exact lcL_map (by simp) _ fun (i : Nat) hi => ⟨some (.loc M0.length) :: some (.int s) :: some (.int p) :: some (.int k) :: x4 :: x5 :: some (.int ((k : Int) + (i : Int))) :: t, by simp, by
      have hi : k + i < n := by simp at hi; omega
      have er := atI_rws (c := false) (m := n) Am hi
      simp only [Int.natCast_add] at er
      simp [seqOf_app, er, atI_vec _ hk], fun _ => by simp⟩
  have e62 : ((n : Int) - (k : Int)).toNat = n - k := by omega
  have e63 : ((n : Int) - ((k : Int) + 1)).toNat = n - (k + 1) := by omega
  have hchl := ch_len n k Am
  have hchs : (ch n k Am).length ≤ 16777216 := by omega
  have hnk : n - k ≤ 64 := by omega
  have hr1 : rngOk ((k : Int) + 1) := ⟨by omega, by omega⟩
  have c1 : (sSet 4 (eLc false (iRange2 (aCons (eVar 3) (aCons (eArgs false oLen (aCons (eVar 0) aNil)) aNil))) (mName 6) (asB (eBin false oNe (eBin false oIx (eBin false oIx (eVar 0) (eVar 6)) (eVar 3)) (eC (.int 0)))) (eVar 6) [6]))
      (some (.loc M0.length) :: some (.int s) :: some (.int p) :: some (.int k) :: x4 :: x5 :: x6 :: t) (M0 ++ [some (rws false n n Am)]) =
      .nx (some (.loc M0.length) :: some (.int s) :: some (.int p) :: some (.int k) :: some (.lst ((ch n k Am).map fun (i : Nat) => .int ((k : Int) + (i : Int)))) :: x5 :: x6 :: t) (M0 ++ [some (rws false n n Am)]) := by
    simp [seqOf_app, hk62, hl, e62, le_line' hnk, wipeD]
    simp [hch, hchs]
  cases ec : ch n k Am with
  | nil =>
    refine .inr ⟨bFail H hk (ch_nil ec), ?_⟩
    unfold outB
    rw [seq_nx c1, ec]
    simp
  | cons i0 cs =>
    obtain ⟨hc, hne⟩ := ch_cons ec
    refine .inl ?_
    rw [ec] at c1
    have ek : atI (rws false n n Am) (k : Int) = some (.lst (vec n (Am k))) := atI_rws (c := false) Am hk
    have ec2 : atI (rws false n n Am) ((k : Int) + (i0 : Int)) = some (.lst (vec n (Am (k + i0)))) := by
      have := atI_rws (c := false) (m := n) Am hc
      simpa using this
    have ix2 : ixN n ((k : Int) + (i0 : Int)) = some (k + i0) := by
      have := ixN_nat hc
      simpa using this
    have c3 : ∃ Am' s', BInv n A (2 ^ bb) k Am' p s' ∧ Am' k k ≠ 0 ∧ (sIf (asB (eBin false oNe (eBin false oIx (eVar 4) (eC (.int 0))) (eVar 3))) (sSeq (sAsg (eArgs false oTup (aCons (eBin false oIx (eVar 0) (eBin false oIx (eVar 4) (eC (.int 0)))) (aCons (eBin false oIx (eVar 0) (eVar 3)) aNil))) (mTup 2 (mCons (mSub (eVar 0) (eVar 3)) (mCons (mSub (eVar 0) (eBin false oIx (eVar 4) (eC (.int 0)))) mNil)))) (sSet 1 (eUn false oNeg (eVar 1)))) sNil)
        (some (.loc M0.length) :: some (.int s) :: some (.int p) :: some (.int k) :: some (.lst ((i0 :: cs).map fun (i : Nat) => .int ((k : Int) + (i : Int)))) :: x5 :: x6 :: t) (M0 ++ [some (rws false n n Am)]) =
        .nx (some (.loc M0.length) :: some (.int s') :: some (.int p) :: some (.int k) :: some (.lst ((i0 :: cs).map fun (i : Nat) => .int ((k : Int) + (i : Int)))) :: x5 :: x6 :: t) (M0 ++ [some (rws false n n Am')]) := by
      by_cases e : i0 = 0
      · subst e
        exact ⟨Am, s, H, by simpa using hne, by simp⟩
      · refine ⟨swp Am k (k + i0), -s, bSwap H (k + i0) (by omega) hc, by simpa [swp] using hne, ?_⟩
        have e' : ¬ ((k : Int) + (i0 : Int) = (k : Int)) := by omega
        have es := rws_swap Am hk hc (by omega)
        simp [e', seqOf_app, ek, ec2, ix2, hk, es]
    obtain ⟨Am', s', H', hne', c3⟩ := c3
    obtain ⟨p1, p2, p3⟩ := bSize H' hk hn
    have z : 0 < (6 + bb) * n + 1 := by omega
    obtain ⟨y6, t', ht', c5⟩ := hinn k Am' s' p (some (.lst ((i0 :: cs).map fun (i : Nat) => .int ((k : Int) + (i : Int))))) x6 t hk (fun i h1 h2 j h3 => Sm.of (p3 i h1 h2 j h3) z hb) p2 (Sm.of p1 z hb) ht
    refine ⟨stp k p Am', Am' k k, s', some (.lst ((i0 :: cs).map fun (i : Nat) => .int ((k : Int) + (i : Int)))), some (.lst (vec n (Am' k))), y6, t', ?_, ht', ?_⟩
    · exact bStep H' hk hne' fun i h1 h2 j h3 => .inr (by unfold stp; rw [if_pos h1])
    · have ek' : atI (rws false n n Am') (k : Int) = some (.lst (vec n (Am' k))) := atI_rws (c := false) Am' hk
      have hn63 : n - (k + 1) ≤ 64 := by omega
      unfold outB
      rw [seq_nx c1]
      refine (seq_nx (τ' := some (.loc M0.length) :: some (.int s) :: some (.int p) :: some (.int k) :: some (.lst ((i0 :: cs).map fun (i : Nat) => .int ((k : Int) + (i : Int)))) :: x5 :: x6 :: t) (M' := M0 ++ [some (rws false n n Am)]) (by simp)).trans ?_
      rw [seq_nx c3]
      refine (seq_nx (τ' := some (.loc M0.length) :: some (.int s') :: some (.int p) :: some (.int k) :: some (.lst ((i0 :: cs).map fun (i : Nat) => .int ((k : Int) + (i : Int)))) :: some (.lst (vec n (Am' k))) :: x6 :: t) (M' := M0 ++ [some (rws false n n Am')]) (by simp [seqOf_app, ek'])).trans ?_
      refine (seq_nx (τ' := some (.loc M0.length) :: some (.int s') :: some (.int p) :: some (.int k) :: some (.lst ((i0 :: cs).map fun (i : Nat) => .int ((k : Int) + (i : Int)))) :: some (.lst (vec n (Am' k))) :: y6 :: t') (M' := M0 ++ [some (rws false n n (stp k p Am'))]) ?_).trans ?_
      · simp [seqOf_app, hl, hr1, e63]
        simp at c5
        exact c5
      · simp [atI_vec _ hk]
/-- the whole of it -/
theorem det_loop (hA : ∀ i, i < n → ∀ j, j < n → (A i j).natAbs ≤ 2 ^ bb) (x3 x4 x5 x6 : Option D) (t : DSt) (ht : T t) :
    endT M0 (sSeq (sFor (iRange1 (aCons (eArgs false oLen (aCons (eVar 0) aNil)) aNil)) (mName 3) (outB inn)) (sRet (eBin false oMul (eVar 1) (eVar 2)))
      (some (.loc M0.length) :: some (.int 1) :: some (.int 1) :: x3 :: x4 :: x5 :: x6 :: t) (M0 ++ [some (rws false n n A)])) = .ok (.int (det n A)) M0 := by
  have hl : n < 4611686018427387904 := by omega
  have e0 : sFor (iRange1 (aCons (eArgs false oLen (aCons (eVar 0) aNil)) aNil)) (mName 3) (outB inn) (some (.loc M0.length) :: some (.int 1) :: some (.int 1) :: x3 :: x4 :: x5 :: x6 :: t) (M0 ++ [some (rws false n n A)]) =
      forL [] (mName 3) (outB inn) (rangeD 0 n) (some (.loc M0.length) :: some (.int 1) :: some (.int 1) :: x3 :: x4 :: x5 :: x6 :: t) (M0 ++ [some (rws false n n A)]) := by
    simp only [sFor, iRange1_eq, eArgs, oLen_1, aCons, aNil, eVar, R.bind_ok, andS_ok, List.getElem?_cons_zero, seqOf_app, Option.map_some, fin_v, rngOk_n hl, if_true, rws_len, Int.toNat_natCast]
  have main := forL_retR (g := mName 3) (n := n) (b := outB inn) (R := fun k τ M' => ∃ Am p s x3 x4 x5 x6 t, BInv n A (2 ^ bb) k Am p s ∧ T t ∧
        τ = some (.loc M0.length) :: some (.int s) :: some (.int p) :: x3 :: x4 :: x5 :: x6 :: t ∧ M' = M0 ++ [some (rws false n n Am)]) (Q := fun d M' => d = .int (det n A) ∧ ∃ o, M' = M0 ++ o)
    (fun k τ M' hk hR => by
      obtain ⟨Am, p, s, x3, x4, x5, x6, t, H, ht, rfl, rfl⟩ := hR
      refine ⟨some (.loc M0.length) :: some (.int s) :: some (.int p) :: some (.int k) :: x4 :: x5 :: x6 :: t, M0 ++ [some (rws false n n Am)], by simp, ?_⟩
      rcases det_step hn hb M0 hinn hk H x4 x5 x6 t ht with ⟨Am', p', s', y4, y5, y6, t', H', ht', e⟩ | ⟨e1, e2⟩
      · exact .inl ⟨_, _, .inl e, Am', p', s', _, y4, y5, y6, t', H', ht', rfl, rfl⟩
      · exact .inr ⟨_, _, e2, by rw [e1], _, rfl⟩)
    (τ := some (.loc M0.length) :: some (.int 1) :: some (.int 1) :: x3 :: x4 :: x5 :: x6 :: t) (M := M0 ++ [some (rws false n n A)]) ⟨A, 1, 1, x3, x4, x5, x6, t, bInit n A _ hA, ht, rfl, rfl⟩
  rcases main with ⟨τ', M', e, Am, p, s, y3, y4, y5, y6, t', H, ht', rfl, rfl⟩ | ⟨d, M', e, rfl, o, rfl⟩
  · have z : 0 < (6 + bb) * n + 1 := by omega
    have hp := Sm.of (bSizeEnd H hn) z hb
    have hs : Sm s := by rcases H.sgn with e | e <;> subst e <;> exact Sm.of (k := 1) (by decide) (by decide) (by decide)
    rw [seq_nx (e0.trans e)]
    simp only [sRet, eBin, eVar, List.getElem?_cons_zero, List.getElem?_cons_succ, R.bind_ok, oMul_ii, cmul_sm hs hp, if_true, fin_v, andS_ok, bEnd H]
    exact trunc_int _ _ _
  · rw [seq_rt (e0.trans e)]
    exact trunc_int _ _ _
end
section
variable {b c : Bool} {n bb : Nat} {A : Mat} (hn : n ≤ 64) (hb : (6 + bb) * n + 1 ≤ 8000) (hA : ∀ i, i < n → ∀ j, j < n → (A i j).natAbs ≤ 2 ^ bb)
include hn hb hA
theorem det_specG {d : D} {src : List (Nat × List D)} {M : Mem} (hs : seqOf d M = some { xs := rws c n n A, src := src }) (hc : Chk src M) : c_determinant_of [d] M = .ok (.int (det n A)) M := by
  have h1 := mkRows (c := c) (n := n) (A := A) 8 (τ := [some d, none, none, none, none, none, none, none, none, none, none]) hc (fun v => by simp)
  have main := det_loop (A := A) (bb := bb) hn hb (inn := inn1) (T := fun t => ∃ x7 x8 x9 x10, t = [x7, x8, x9, x10]) M (fun k Am s p x4 x6 t hk hS h0 hp ht => by
    obtain ⟨x7, x8, x9, x10, rfl⟩ := ht
    obtain ⟨y6, y7, y8, y9, y10, e⟩ := det_inner1 M Am s p hk hn hS h0 hp x4 x6 x7 x8 x9 x10
    exact ⟨y6, _, ⟨y7, y8, y9, y10, rfl⟩, e⟩) hA none none none none [none, none, none, none] ⟨_, _, _, _, rfl⟩
  have e0 : (sSet 0 (eLc true (iSeq (eVar 0)) (mName 8) mYes (eArgs false oList (aCons (eVar 8) aNil)) [8])) (startD N_determinant_of [d]) M = .nx [some (.loc M.length), none, none, none, none, none, none, none, none, none, none] (M ++ [some (rws false n n A)]) := by
    simp [startD, hs, le_line' hn, wipeD]
    simp [h1, le_line' hn]
  unfold c_determinant_of m_determinant_of
  rw [seq_nx e0]
  exact main
theorem lawDet_specG {d : D} {src : List (Nat × List D)} {M : Mem} (hs : seqOf d M = some { xs := rws c n n A, src := src }) (hc : Chk src M) : c__law_determinant [d] M = .ok (.int (det n A)) M := by
  have h1 := mkRows (c := c) (n := n) (A := A) 7 (τ := [some d, none, none, none, none, none, none, none, none]) hc (fun v => by simp)
  have main := det_loop (A := A) (bb := bb) hn hb (inn := inn2) (T := fun t => ∃ x7 x8, t = [x7, x8]) M (fun k Am s p x4 x6 t hk hS h0 hp ht => by
    obtain ⟨x7, x8, rfl⟩ := ht
    obtain ⟨y6, y7, y8, e⟩ := det_inner2 M Am s p hk hn hS h0 hp x4 x6 x7 x8
    exact ⟨y6, _, ⟨y7, y8, rfl⟩, e⟩) hA none none none none [none, none] ⟨_, _, rfl⟩
  have e0 : (sSet 0 (eLc true (iSeq (eVar 0)) (mName 7) mYes (eArgs false oList (aCons (eVar 7) aNil)) [7])) (startD N__law_determinant [d]) M = .nx [some (.loc M.length), none, none, none, none, none, none, none, none] (M ++ [some (rws false n n A)]) := by
    simp [startD, hs, le_line' hn, wipeD]
    simp [h1, le_line' hn]
  unfold c__law_determinant m__law_determinant
  rw [seq_nx e0]
  exact main
theorem det_spec (M : Mem) : c_determinant_of [tab b c n n A] M = .ok (.int (det n A)) M := det_specG hn hb hA (seqOf_sq _ _ _) (by simp)
theorem lawDet_spec (M : Mem) : c__law_determinant [tab b c n n A] M = .ok (.int (det n A)) M := lawDet_specG hn hb hA (seqOf_sq _ _ _) (by simp)
end
end Sh2

/-! what is a form -/
namespace Sh2
open PySem PySem.Spec PyProof.Rows L2 DM LA Sh
def kids : D → Option (List D)
  | .tup ds => some ds
  | .lst ds => some ds
  | _ => none
def isI : D → Bool
  | .int _ => true
  | _ => false
def wrB (d : D) (m : Int) : Bool := match kids d with
  | some ds => decide ((ds.length : Int) = m) && ds.all isI
  | none => false
def sqB (d : D) (m : Int) : Bool := match kids d with
  | some ds => decide ((ds.length : Int) = m) && ds.all fun x => wrB x m
  | none => false
def stB (d : D) : Bool := match kids d with
  | some ds => decide (1 ≤ ds.length) && decide (ds.length ≤ 8) && sqB d ds.length
  | none => false
@[simp] theorem kids_sq (b : Bool) (ds : List D) : kids (sqD b ds) = some ds := by cases b <;> rfl
theorem pl_up : ∀ {k : Nat} {d : D}, Pl k d → Pl (k + 1) d
  | 0, _, h => h.elim
  | k + 1, .tup ds, h => ⟨h.1, fun x hx => pl_up (h.2 x hx)⟩
  | k + 1, .lst ds, h => ⟨h.1, fun x hx => pl_up (h.2 x hx)⟩
  | k + 1, .non, _ => trivial
  | k + 1, .bl _, _ => trivial
  | k + 1, .int _, _ => trivial
  | k + 1, .str _, _ => trivial
theorem whole_pl {k : Nat} {d : D} (h : Pl k d) (M : Mem) : c_is_whole [d] M = .ok (.bl (isI d)) M := by
  cases k with
  | zero => exact h.elim
  | succ k => cases d <;> first | (simp [isI]; done) | exact h.elim
theorem pl_kid {k : Nat} {d : D} (h : Pl (k + 1) d) {ds : List D} (e : kids d = some ds) : ds.length ≤ 16777216 ∧ ∀ x ∈ ds, Pl k x := by
  cases d <;> first | (cases e; exact h) | cases e
theorem kids_cases {k : Nat} {d : D} (h : Pl k d) : (∃ b ds, d = sqD b ds) ∨ (kids d = none ∧ ∀ M, ∃ t, tyOfM d M = some t ∧ isTy t "tuple" = false ∧ isTy t "list" = false) := by
  cases k with
  | zero => exact h.elim
  | succ k =>
    cases d <;> first
      | exact .inl ⟨true, _, rfl⟩
      | exact .inl ⟨false, _, rfl⟩
      | exact h.elim
      | exact .inr ⟨rfl, fun M => ⟨_, rfl, by decide, by decide⟩⟩
theorem isRow_sq (b : Bool) (ds : List D) (M : Mem) : c_is_row [sqD b ds] M = .ok (.bl true) M := by
  unfold c_is_row m_is_row
  cases b <;> simp [startD, isTy]
theorem isRow_no {d : D} {M : Mem} {t : String} (h : tyOfM d M = some t) (h1 : isTy t "tuple" = false) (h2 : isTy t "list" = false) : c_is_row [d] M = .ok (.bl false) M := by
  unfold c_is_row m_is_row
  simp [startD, h, h1, h2]
theorem lcAll {g : GM} {e : EM} {v : D → D} {τ : DSt} {M : Mem} (ds : List D) (h : ∀ d ∈ ds, ∃ τ1, g d τ M = .ok τ1 M ∧ e τ1 M = .ok (v d) M) : lcL [] g mYes e ds τ M = .ok (ds.map v) M := by
  have := lcL_all (src := []) (enc := id) (v := v) (g := g) (e := e) (τ := τ) (M := M) (by simp) ds h
  rwa [List.map_id] at this
theorem bls_all (ds : List D) (f : D → Bool) : blsOf (ds.map fun x => .bl (f x)) = some (ds.map f) := by
  have := blsOf_map (ds.map f)
  rwa [List.map_map] at this
theorem wholeRow_spec {k : Nat} {d : D} (h : Pl (k + 1) d) (m : Int) (M : Mem) : c_is_whole_row [d, .int m] M = .ok (.bl (wrB d m)) M := by
  rcases kids_cases h with ⟨b, ds, rfl⟩ | ⟨h1, h2⟩
  · have hr := isRow_sq b ds M
    obtain ⟨h3, h4⟩ := pl_kid h (kids_sq b ds)
    have hh : lcL [] (mName 2) mYes (eCall 1 (c_is_whole) (aCons (eVar 2) aNil)) ds [some (sqD b ds), some (.int m), none] M = .ok (ds.map fun x => .bl (isI x)) M :=
      lcAll ds fun x hx => ⟨[some (sqD b ds), some (.int m), some x], by simp, by simp [whole_pl (h4 x hx)]⟩
    unfold c_is_whole_row m_is_whole_row
    by_cases e : (ds.length : Int) = m
    · simp [startD, hr, e, h3, wipeD, hh, bls_all, wrB, List.all_map]
    · simp [startD, hr, e, wrB]
  · obtain ⟨t, q1, q2, q3⟩ := h2 M
    unfold c_is_whole_row m_is_whole_row
    simp [startD, isRow_no q1 q2 q3, wrB, h1]
theorem square_spec {k : Nat} {d : D} (h : Pl (k + 2) d) (m : Int) (M : Mem) : c_is_square [d, .int m] M = .ok (.bl (sqB d m)) M := by
  rcases kids_cases h with ⟨b, ds, rfl⟩ | ⟨h1, h2⟩
  · have hr := isRow_sq b ds M
    obtain ⟨h3, h4⟩ := pl_kid h (kids_sq b ds)
    have hh : lcL [] (mName 2) mYes (eCall 2 (c_is_whole_row) (aCons (eVar 2) (aCons (eVar 1) aNil))) ds [some (sqD b ds), some (.int m), none] M = .ok (ds.map fun x => .bl (wrB x m)) M :=
      lcAll ds fun x hx => ⟨[some (sqD b ds), some (.int m), some x], by simp, by simp [wholeRow_spec (h4 x hx)]⟩
    unfold c_is_square m_is_square
    by_cases e : (ds.length : Int) = m
    · simp [startD, hr, e, h3, wipeD, hh, bls_all, sqB, List.all_map]
    · simp [startD, hr, e, sqB]
  · obtain ⟨t, q1, q2, q3⟩ := h2 M
    unfold c_is_square m_is_square
    simp [startD, isRow_no q1 q2 q3, sqB, h1]
theorem pl_vec (n : Nat) (v : Nat → Int) (hn : n ≤ 64) (c : Bool) (k : Nat) : Pl (k + 2) (sqD c (vec n v)) := by
  have h : ∀ x ∈ vec n v, Pl (k + 1) x := fun x hx => by
    obtain ⟨i, _, rfl⟩ := List.mem_map.mp hx
    trivial
  cases c <;> exact ⟨by rw [vec_len]; omega, h⟩
theorem pl_tab (b c : Bool) {n m : Nat} (A : Mat) (hn : n ≤ 64) (hm : m ≤ 64) (k : Nat) : Pl (k + 3) (tab b c n m A) := by
  have h : ∀ x ∈ rws c n m A, Pl (k + 2) x := fun x hx => by
    obtain ⟨i, _, rfl⟩ := List.mem_map.mp hx
    exact pl_vec m _ hm c k
  cases b <;> exact ⟨by rw [rws_len]; omega, h⟩
theorem wrB_vec (c : Bool) (n : Nat) (v : Nat → Int) : wrB (sqD c (vec n v)) n = true := by
  simp [wrB, vec, isI]
theorem sqB_tab (b c : Bool) (n : Nat) (A : Mat) : sqB (tab b c n n A) n = true := by
  have : (rws c n n A).all (fun x => wrB x n) = true := List.all_eq_true.mpr fun x hx => by
    obtain ⟨i, _, rfl⟩ := List.mem_map.mp hx
    exact wrB_vec c n _
  simp [sqB, tab, this]
theorem stB_tab (b c : Bool) {n : Nat} (A : Mat) (h1 : 1 ≤ n) (h8 : n ≤ 8) : stB (tab b c n n A) = true := by
  have := sqB_tab b c n A
  unfold stB
  simp only [tab, kids_sq, rws_len] at *
  simp [this, h1, h8]
/-! ### faults -/
theorem fault_st {k : Nat} {d : D} (h : Pl (k + 2) d) (hf : stB d = false) (most : D) (M : Mem) : c_fault_of [d, most] M = .ok (.str "table") M := by
  rcases kids_cases h with ⟨b, ds, rfl⟩ | ⟨h1, h2⟩
  · have hr := isRow_sq b ds M
    have hs := square_spec h (ds.length : Int) M
    unfold stB at hf
    rw [kids_sq] at hf
    unfold c_fault_of m_fault_of
    by_cases e1 : 1 ≤ ds.length
    · by_cases e2 : ds.length ≤ 8
      · have hq : sqB (sqD b ds) ds.length = false := by simpa [e1, e2] using hf
        have e1' : (1 : Int) ≤ (ds.length : Int) := by omega
        have e2' : (ds.length : Int) ≤ 8 := by omega
        simp [startD, hr, hs, hq, e1', e2']
      · have e1' : (1 : Int) ≤ (ds.length : Int) := by omega
        have e2' : ¬ (ds.length : Int) ≤ 8 := by omega
        simp [startD, hr, e1', e2']
    · have e1' : ¬ (1 : Int) ≤ (ds.length : Int) := by omega
      simp [startD, hr, e1']
  · obtain ⟨t, q1, q2, q3⟩ := h2 M
    unfold c_fault_of m_fault_of
    simp [startD, isRow_no q1 q2 q3]
theorem absI_nat (x : Int) : absI x = (x.natAbs : Int) := by unfold absI; split <;> omega
/-- the greatest number of a row -/
def mx (n : Nat) (v : Nat → Int) : Int := match (List.range n).map v with
  | x :: xs => mxL (absI x) (xs.map absI)
  | [] => 0
theorem mx_le {n : Nat} {v : Nat → Int} (h : 0 < n) (B : Int) : mx n v ≤ B ↔ ∀ j, j < n → ((v j).natAbs : Int) ≤ B := by
  obtain ⟨m, rfl⟩ : ∃ m, n = m + 1 := ⟨n - 1, by omega⟩
  unfold mx
  rw [List.range_succ_eq_map, List.map_cons]
  simp only
  constructor
  · intro hB j hj
    obtain ⟨q1, q2⟩ := mxL_ge ((((List.range m).map Nat.succ).map v).map absI) (absI (v 0))
    rw [← absI_nat]
    cases j with
    | zero => omega
    | succ j =>
      have := q2 (absI (v (j + 1))) (by simp; exact ⟨j, by omega, rfl⟩)
      omega
  · intro hB
    rcases mxL_mem ((((List.range m).map Nat.succ).map v).map absI) (absI (v 0)) with h | h
    · rw [h, absI_nat]; exact hB 0 (by omega)
    · obtain ⟨x, hx, e⟩ := List.mem_map.mp h
      rw [← e, absI_nat]
      obtain ⟨y, hy, rfl⟩ := List.mem_map.mp hx
      obtain ⟨j, hj, rfl⟩ := List.mem_map.mp hy
      exact hB _ (by simp at hj; omega)
theorem oMaxA_vec {c : Bool} {n : Nat} {v : Nat → Int} (h : 0 < n) (M : Mem) : oMaxA (sqD c (vec n v)) M = some (.v (.int (mx n v))) := by
  obtain ⟨m, rfl⟩ : ∃ m, n = m + 1 := ⟨n - 1, by omega⟩
  unfold oMaxA mx
  simp only [seqOf_sq, intsOf_vec, Option.bind_some]
  rw [List.range_succ_eq_map, List.map_cons]
theorem lc2R {src : List (Nat × List D)} {g : GM} {i1 : IM} {g1 : GM} {e : EM} {vs1 : List Nat} {τ : DSt} {M : Mem} {enc : Nat → D} {W : Nat → List D} (hc : Chk src M) : ∀ (ys : List Nat),
    (∀ y ∈ ys, ∃ τ1 it, g (enc y) τ M = .ok τ1 M ∧ i1 τ1 M = .ok it M ∧ lcL it.src g1 mYes e it.xs (wipeD τ1 vs1) M = .ok (W y) M) → lc2L src g mYes i1 g1 mYes e vs1 (ys.map enc) τ M = .ok (ys.map W).flatten M
  | [], _ => by simp [lc2L, hc]
  | y :: ys, h => by
    obtain ⟨τ1, it, e1, e2, e3⟩ := h y List.mem_cons_self
    have ih := lc2R hc ys fun z hz => h z (List.mem_cons_of_mem _ hz)
    rw [List.map_cons]
    unfold lc2L
    rw [if_pos hc]
    simp [e1, e2, e3, ih]
section
variable {b c : Bool} {n : Nat} {A : Mat} {most : Int} (h1 : 1 ≤ n) (h8 : n ≤ 8)
include h1 h8
theorem fault_bigs (M : Mem) : lcL [] (mName 2) mYes (eBin false oGt (eUn false oMaxA (eVar 2)) (eVar 1)) (rws c n n A) [some (tab b c n n A), some (.int most), none, none, none] M = .ok ((List.range n).map fun i => .bl (decide (most < mx n (A i)))) M :=
  lcRw (by simp) fun i hi => ⟨[some (tab b c n n A), some (.int most), some (sqD c (vec n (A i))), none, none], by simp, by simp [oMaxA_vec (show 0 < n by omega)]⟩
theorem fault_pre (M : Mem) : ∀ (rest : SM), (sSeq (sIf (mOr (mNot (asT (eCall 1 (Sh2.c_is_row) (aCons (eVar 0) aNil)))) (mOr (mNot (asB (eChain oLe oLe (eC (.int 1)) (eArgs false oLen (aCons (eVar 0) aNil)) (eC (.int (8)))))) (mNot (asT (eCall 2 (Sh2.c_is_square) (aCons (eVar 0) (aCons (eArgs false oLen (aCons (eVar 0) aNil)) aNil))))))) (sRet (eC (.str "table"))) sNil) rest)
    [some (tab b c n n A), some (.int most), none, none, none] M = rest [some (tab b c n n A), some (.int most), none, none, none] M := fun rest => by
  have hr := isRow_sq b (rws c n n A) M
  have hs := square_spec (pl_tab b c A (n := n) (m := n) (by omega) (by omega) 0) (n : Int) M
  rw [sqB_tab] at hs
  have e1' : (1 : Int) ≤ (n : Int) := by omega
  have e2' : (n : Int) ≤ 8 := by omega
  refine seq_nx ?_
  simp only [tab] at *
  simp [hr, hs, e1', e2']
theorem fault_big (hb : ∃ i, i < n ∧ ∃ j, j < n ∧ most < ((A i j).natAbs : Int)) (M : Mem) : c_fault_of [tab b c n n A, .int most] M = .ok (.str "table") M := by
  have hh := fault_bigs (b := b) (c := c) (A := A) (most := most) h1 h8 M
  have ha : ∃ a, a < n ∧ most < mx n (A a) := by
    obtain ⟨i, hi, j, hj, hb⟩ := hb
    refine ⟨i, hi, ?_⟩
    have := (mx_le (v := A i) (show 0 < n by omega) most).mp
    apply Classical.byContradiction
    intro hn
    have := this (by omega) j hj
    omega
  unfold c_fault_of m_fault_of
  simp only [startD, List.map_cons, List.map_nil, List.length_cons, List.length_nil, List.cons_append, List.nil_append, List.replicate]
  rw [fault_pre h1 h8]
  have hb2 : blsOf ((List.range n).map fun i => D.bl (decide (most < mx n (A i)))) = some ((List.range n).map fun i => decide (most < mx n (A i))) := by
    have := blsOf_map ((List.range n).map fun i => decide (most < mx n (A i)))
    rwa [List.map_map] at this
  simp only [tab] at *
  simp [h8, le_line' (show n ≤ 64 by omega), wipeD, hh, hb2]
  rw [if_pos ha]
section
variable (hs : ∀ i, i < n → ∀ j, j < n → ((A i j).natAbs : Int) ≤ most)
include hs
theorem fault_pre2 (M : Mem) (rest : SM) : (sSeq (sIf (mAnd (asB (eBin false oIsNot (eVar 1) (eC .non))) (asT (eArgs false oAny (aCons (eLc false (iSeq (eVar 0)) (mName 2) mYes (eBin false oGt (eUn false oMaxA (eVar 2)) (eVar 1)) [2]) aNil)))) (sRet (eC (.str "table"))) sNil) rest)
    [some (tab b c n n A), some (.int most), none, none, none] M = rest [some (tab b c n n A), some (.int most), none, none, none] M := by
  have hh := fault_bigs (b := b) (c := c) (A := A) (most := most) h1 h8 M
  have ha : ¬ ∃ a, a < n ∧ most < mx n (A a) := fun ⟨a, ha, hb⟩ => by
    have := (mx_le (v := A a) (show 0 < n by omega) most).mpr (hs a ha)
    omega
  have hb2 : blsOf ((List.range n).map fun i => D.bl (decide (most < mx n (A i)))) = some ((List.range n).map fun i => decide (most < mx n (A i))) := by
    have := blsOf_map ((List.range n).map fun i => decide (most < mx n (A i)))
    rwa [List.map_map] at this
  refine seq_nx ?_
  simp only [tab] at *
  simp [h8, le_line' (show n ≤ 64 by omega), wipeD, hh, hb2]
  intro x hx
  have := (mx_le (v := A x) (show 0 < n by omega) most).mpr (hs x hx)
  omega
def asy (n : Nat) (A : Mat) : List Bool := ((List.range n).map fun i => (List.range i).map fun j => !decide (A i j = A j i)).flatten
theorem fault_rest (M : Mem) (rest : SM) : (sSeq (sIf (asT (eArgs false oAny (aCons (eLc2 false (iRange1 (aCons (eArgs false oLen (aCons (eVar 0) aNil)) aNil)) (mName 2) mYes (iRange1 (aCons (eVar 2) aNil)) (mName 4) mYes (eBin false oNe (eBin false oIx (eBin false oIx (eVar 0) (eVar 2)) (eVar 4)) (eBin false oIx (eBin false oIx (eVar 0) (eVar 4)) (eVar 2))) [2, 4] [4]) aNil))) (sRet (eC (.str "sides"))) sNil) rest)
    [some (tab b c n n A), some (.int most), none, none, none] M = if (asy n A).any id = true then .rt (.str "sides") M else rest [some (tab b c n n A), some (.int most), none, none, none] M := by
  have h0 : lc2L [] (mName 2) mYes (iRange1 (aCons (eVar 2) aNil)) (mName 4) mYes (eBin false oNe (eBin false oIx (eBin false oIx (eVar 0) (eVar 2)) (eVar 4)) (eBin false oIx (eBin false oIx (eVar 0) (eVar 4)) (eVar 2))) [4] (rangeD 0 n) [some (tab b c n n A), some (.int most), none, none, none] M = .ok ((asy n A).map .bl) M := by
    rw [rangeD_0]
    have := lc2R (src := []) (g := mName 2) (i1 := iRange1 (aCons (eVar 2) aNil)) (g1 := mName 4) (e := eBin false oNe (eBin false oIx (eBin false oIx (eVar 0) (eVar 2)) (eVar 4)) (eBin false oIx (eBin false oIx (eVar 0) (eVar 4)) (eVar 2))) (vs1 := [4]) (enc := fun (i : Nat) => D.int (i : Int)) (τ := [some (tab b c n n A), some (.int most), none, none, none]) (M := M) (by simp) (List.range n)
      (W := fun i => (List.range i).map fun j => D.bl (!decide (A i j = A j i))) fun i hi => by
        have hi : i < n := by simpa using hi
        have hl : i < 4611686018427387904 := by omega
        refine ⟨[some (tab b c n n A), some (.int most), some (.int i), none, none], { xs := rangeD 0 i }, by simp, by simp [hl], ?_⟩
        refine lcRg fun j hj => ⟨[some (tab b c n n A), some (.int most), some (.int i), none, some (.int j)], by simp [wipeD], ?_⟩
        have e1 := atI_rws (c := c) (m := n) A hi
        have e2 := atI_rws (c := c) (m := n) A (show j < n by omega)
        simp [tab, e1, e2, atI_vec _ hi, atI_vec _ (show j < n by omega)]
    rw [this]
    simp only [asy, List.map_flatten, List.map_map]
    congr 2
    apply List.map_congr_left
    intro i _
    simp [Function.comp]
  have hlen : (asy n A).length ≤ 64 := by
    have : (asy n A).length = ((List.range n).map fun i => i).sum := by
      simp only [asy, List.length_flatten, List.map_map]
      congr 1
      apply List.map_congr_left
      intro i _
      simp [Function.comp]
    rw [this]
    have : ∀ n, n ≤ 8 → ((List.range n).map fun i => i).sum ≤ 64 := by decide
    exact this n h8
  have hl : n < 4611686018427387904 := by omega
  have hd : ∀ ds, dTru (.bl ((asy n A).any id)) ds = some ((asy n A).any id) := fun _ => rfl
  have e0 : (sIf (asT (eArgs false oAny (aCons (eLc2 false (iRange1 (aCons (eArgs false oLen (aCons (eVar 0) aNil)) aNil)) (mName 2) mYes (iRange1 (aCons (eVar 2) aNil)) (mName 4) mYes (eBin false oNe (eBin false oIx (eBin false oIx (eVar 0) (eVar 2)) (eVar 4)) (eBin false oIx (eBin false oIx (eVar 0) (eVar 4)) (eVar 2))) [2, 4] [4]) aNil))) (sRet (eC (.str "sides"))) sNil)
      [some (tab b c n n A), some (.int most), none, none, none] M = if (asy n A).any id = true then .rt (.str "sides") M else .nx [some (tab b c n n A), some (.int most), none, none, none] M := by
    have hseq : seqOf (tab b c n n A) M = some { xs := rws c n n A } := seqOf_sq _ _ _
    simp only [sIf, asT, eArgs, aCons, aNil, eLc2, iRange1_eq, eVar, eC, sRet, sNil, List.getElem?_cons_zero, List.getElem?_cons_succ, R.bind_ok, oLen_1, hseq, Option.map_some, fin_v, rws_len, rngOk_n hl, if_true, Int.toNat_natCast, wipeD, List.set_cons_succ, List.set_cons_zero, h0, List.length_map, le_line' hlen, fin_lf, oAny_1, lstOf_lst, Option.bind_some, blsOf_map, hd, andS_ok]
  cases e : (asy n A).any id with
  | true => rw [e] at e0; rw [seq_rt (e0.trans rfl)]; rfl
  | false => rw [e] at e0; rw [seq_nx (e0.trans rfl)]; rfl
theorem asy_iff : (asy n A).any id = true ↔ ∃ i, i < n ∧ ∃ j, j < n ∧ A i j ≠ A j i := by
  simp only [asy, List.any_eq_true, List.mem_flatten, List.mem_map, List.mem_range, id]
  constructor
  · rintro ⟨x, ⟨l, ⟨i, hi, rfl⟩, hx⟩, rfl⟩
    obtain ⟨j, hj, e⟩ := List.mem_map.mp hx
    exact ⟨i, hi, j, by simp at hj; omega, by simpa using e⟩
  · rintro ⟨i, hi, j, hj, e⟩
    by_cases z : j < i
    · exact ⟨true, ⟨_, ⟨i, hi, rfl⟩, List.mem_map.mpr ⟨j, by simpa using z, by simpa using e⟩⟩, rfl⟩
    · have : i ≠ j := fun q => e (by rw [q])
      exact ⟨true, ⟨_, ⟨j, hj, rfl⟩, List.mem_map.mpr ⟨i, by simp; omega, by simpa using fun q => e q.symm⟩⟩, rfl⟩
theorem fault_sides (hb : ∃ i, i < n ∧ ∃ j, j < n ∧ A i j ≠ A j i) (M : Mem) : c_fault_of [tab b c n n A, .int most] M = .ok (.str "sides") M := by
  unfold c_fault_of m_fault_of
  simp only [startD, List.map_cons, List.map_nil, List.length_cons, List.length_nil, List.cons_append, List.nil_append, List.replicate]
  rw [fault_pre h1 h8, fault_pre2 h1 h8 hs, fault_rest h1 h8 hs, if_pos ((asy_iff h1 h8 hs).mpr hb)]
  rfl
theorem fault_sym (hm : most ≤ 2 ^ 100) (hb : ∀ i, i < n → ∀ j, j < n → A i j = A j i) (M : Mem) : c_fault_of [tab b c n n A, .int most] M = .ok (if det n A = 0 then .str "determinant" else .non) M := by
  have hd := det_spec (b := b) (c := c) (A := A) (n := n) (bb := 100) (by omega) (by omega) (fun i hi j hj => by
    have := hs i hi j hj
    omega) M
  unfold c_fault_of m_fault_of
  simp only [startD, List.map_cons, List.map_nil, List.length_cons, List.length_nil, List.cons_append, List.nil_append, List.replicate]
  rw [fault_pre h1 h8, fault_pre2 h1 h8 hs, fault_rest h1 h8 hs, if_neg (fun h => by
    obtain ⟨i, hi, j, hj, q⟩ := (asy_iff h1 h8 hs).mp h
    exact q (hb i hi j hj))]
  by_cases e : det n A = 0
  · simp [hd, e]
  · simp [hd, e]
end
end
/-- a form as the program lets it -/
structure Frm (n : Nat) (A : Mat) : Prop where
  n1 : 1 ≤ n
  n8 : n ≤ 8
  le : ∀ i, i < n → ∀ j, j < n → ((A i j).natAbs : Int) ≤ 1000000000000000000000000000000
  sym : ∀ i, i < n → ∀ j, j < n → A i j = A j i
  det : det n A ≠ 0
/-- what has a fault -/
def BadF (d : D) (r : Str) : Prop := ∀ M, c_fault_of [d, .int 1000000000000000000000000000000] M = .ok (.str r) M
theorem told_ok {b c : Bool} {n : Nat} {A : Mat} (F : Frm n A) (M : Mem) : c_told_form [tab b c n n A] M = .ok (tab true true n n A) M := by
  have h := fault_sym (b := b) (c := c) F.n1 F.n8 F.le (by decide) F.sym M
  rw [if_neg F.det] at h
  have h2 := asTuples_spec (b := b) (c := c) (n := n) (m := n) (A := A) (by have := F.n8; omega) M
  unfold c_told_form m_told_form
  simp [startD, h, h2]
theorem told_bad {d : D} {r : Str} (F : BadF d r) (M : Mem) : c_told_form [d] M = .exc (.exn "BadForm" true "reason" (.str r)) M := by
  have h := F M
  unfold c_told_form m_told_form
  simp [startD, h]
theorem table_ok {b c : Bool} {n : Nat} {A : Mat} (hn : n ≤ 64) (M : Mem) : c_told_table [tab b c n n A, .int n] M = .ok (tab true true n n A) M := by
  have h := square_spec (pl_tab b c A hn hn 0) (n : Int) M
  rw [sqB_tab] at h
  have h2 := asTuples_spec (b := b) (c := c) (n := n) (m := n) (A := A) hn M
  unfold c_told_table m_told_table
  simp [startD, h, h2]
theorem table_bad {k : Nat} {d : D} {m : Int} (h : Pl (k + 2) d) (hb : sqB d m = false) (M : Mem) : c_told_table [d, .int m] M = .exc (.exn "BadTable" false "" .non) M := by
  have h := square_spec h m M
  rw [hb] at h
  unfold c_told_table m_told_table
  simp [startD, h]
end Sh2

/-! sums, multiples, units, divisors -/
namespace Sh2
open PySem PySem.Spec PyProof.Rows L2 DM LA Sh
theorem moved_ok {b c b' c' : Bool} {n : Nat} {F T : Mat} (H : Frm n F) (hT : ∀ i, i < n → ∀ j, j < n → Sm (T i j)) (hTF : ∀ i, i < n → ∀ j, j < n → Sm (mul n T F i j)) (M : Mem) :
    c_moved [tab b c n n F, tab b' c' n n T] M = .ok (tab true true n n (mul n (mul n T F) (tr T))) M := by
  have h8 := H.n8
  have h1 := H.n1
  have hF : ∀ i, i < n → ∀ j, j < n → Sm (F i j) := fun i hi j hj => Sm.of (k := 100) (by have := H.le i hi j hj; omega) (by decide) (by decide)
  have e1 := told_ok (b := b) (c := c) H M
  have e2 := table_ok (b := b') (c := c') (n := n) (A := T) (by omega) M
  have e3 := movedBy_spec (b := true) (c := true) (b' := true) (c' := true) (A := T) (F := F) (n := n) (by omega) (by omega) hT hF hTF M
  have e4 := asTuples_spec (b := false) (c := false) (n := n) (m := n) (A := mul n (mul n T F) (tr T)) (by omega) M
  have e5 : seqOf (tab true true n n F) M = some { xs := rws true n n F } := seqOf_sq _ _ _
  unfold c_moved m_moved
  simp [startD, e1, e5, e2, e3, e4]
theorem moved_badT {b c : Bool} {n k : Nat} {F : Mat} {d : D} (H : Frm n F) (h : Pl (k + 2) d) (hb : sqB d n = false) (M : Mem) :
    c_moved [tab b c n n F, d] M = .exc (.exn "BadTable" false "" .non) M := by
  have e1 := told_ok (b := b) (c := c) H M
  have e2 := table_bad h hb M
  have e5 : seqOf (tab true true n n F) M = some { xs := rws true n n F } := seqOf_sq _ _ _
  unfold c_moved m_moved
  simp [startD, e1, e5, e2]
theorem moved_badF {d d' : D} {r : Str} (H : BadF d r) (M : Mem) : c_moved [d, d'] M = .exc (.exn "BadForm" true "reason" (.str r)) M := by
  have e1 := told_bad H M
  unfold c_moved m_moved
  simp [startD, e1]
theorem multiple_ok {b c : Bool} {n : Nat} {F : Mat} {m : Int} (H : Frm n F) (hm : Sm m) (M : Mem) : c_multiple [tab b c n n F, .int m] M = .ok (tab true true n n fun i j => m * F i j) M := by
  have h8 := H.n8
  have hF : ∀ i, i < n → ∀ j, j < n → Sm (F i j) := fun i hi j hj => Sm.of (k := 100) (by have := H.le i hi j hj; omega) (by decide) (by decide)
  have e1 := told_ok (b := b) (c := c) H M
  have e5 : seqOf (tab true true n n F) M = some { xs := rws true n n F } := seqOf_sq _ _ _
  have h : lcL [] (mName 2) mYes (eArgs false oTuple (aCons (eLc false (iSeq (eVar 2)) (mName 3) mYes (eBin false oMul (eVar 1) (eVar 3)) [3]) aNil)) (rws true n n F) [some (tab b c n n F), some (.int m), none, none] M = .ok (rws true n n fun i j => m * F i j) M :=
    lcRw (by simp) fun i hi => ⟨[some (tab b c n n F), some (.int m), some (sqD true (vec n (F i))), none], by simp, by
      have : lcL [] (mName 3) mYes (eBin false oMul (eVar 1) (eVar 3)) (vec n (F i)) [some (tab b c n n F), some (.int m), some (sqD true (vec n (F i))), none] M = .ok (vec n fun j => m * F i j) M :=
        lcV (by simp) fun j hj => ⟨[some (tab b c n n F), some (.int m), some (sqD true (vec n (F i))), some (.int (F i j))], by simp, by simp [cmul_sm hm (hF i hi j hj)]⟩
      simp only [sq_t] at this
      simp [le_line' (show n ≤ 64 by omega), wipeD, this]⟩
  unfold c_multiple m_multiple
  simp [startD, e1, e5, le_line' (show n ≤ 64 by omega), wipeD, h]
  rfl
theorem multiple_badF {d d' : D} {r : Str} (H : BadF d r) (M : Mem) : c_multiple [d, d'] M = .exc (.exn "BadForm" true "reason" (.str r)) M := by
  have e1 := told_bad H M
  unfold c_multiple m_multiple
  simp [startD, e1]
/-! blocks -/
def bd (n : Nat) (A B : Mat) : Mat := fun i j => if i < n then (if j < n then A i j else 0) else (if j < n then 0 else B (i - n) (j - n))
theorem vec_add (a b : Nat) (v : Nat → Int) : vec (a + b) v = vec a v ++ vec b (fun j => v (a + j)) := by
  unfold vec
  rw [List.range_add, List.map_append, List.map_map]
  rfl
theorem vec_rep (a : Nat) (v : Nat → Int) (h : ∀ i, i < a → v i = 0) : vec a v = List.replicate a (.int 0) := by
  rw [vec_congr h]
  simp [vec, List.map_const']
theorem rws_add (c : Bool) (n m k : Nat) (A : Mat) : rws c (n + m) k A = rws c n k A ++ rws c m k (fun i j => A (n + i) j) := by
  unfold rws
  rw [List.range_add, List.map_append, List.map_map]
  rfl
theorem bd_top {n m : Nat} (A B : Mat) {i : Nat} (hi : i < n) : vec (n + m) (bd n A B i) = vec n (A i) ++ List.replicate m (.int 0) := by
  rw [vec_add, vec_rep m]
  · congr 1
    exact vec_congr fun j hj => by unfold bd; rw [if_pos hi, if_pos hj]
  · intro j _
    show bd n A B i (n + j) = 0
    unfold bd; rw [if_pos hi, if_neg (by omega)]
theorem bd_low {n m : Nat} (A B : Mat) (i : Nat) : vec (n + m) (bd n A B (n + i)) = List.replicate n (.int 0) ++ vec m (B i) := by
  rw [vec_add, vec_rep n]
  · congr 1
    exact vec_congr fun j _ => by
      show bd n A B (n + i) (n + j) = _
      unfold bd; rw [if_neg (by omega), if_neg (by omega), Nat.add_sub_cancel_left, Nat.add_sub_cancel_left]
  · intro j hj
    unfold bd; rw [if_neg (by omega), if_pos hj]
theorem list_app_set (M : Mem) (o : Option (List D)) : memAt (M ++ [o]) M.length = o := by simp [memAt]
theorem clo_vec (k n : Nat) (v : Nat → Int) : CloL k (vec n v) := by rw [vec_ints]; exact (cloL_ints k ((List.range n).map v)).mpr trivial
theorem fzD_vec {M : Mem} {k j n : Nat} (v : Nat → Int) : (vec n v).mapM (fzD M k (j + 1)) = some (vec n v) := mapM_some fun d hd => by
  obtain ⟨i, _, rfl⟩ := List.mem_map.mp hd
  rfl
theorem clo_rws (k : Nat) (c : Bool) (n m : Nat) (A : Mat) : CloL k (rws c n m A) := by
  rw [CloL_iff]
  intro d hd
  obtain ⟨i, _, rfl⟩ := List.mem_map.mp hd
  cases c <;> exact clo_vec k m _
theorem clo_tab (k : Nat) (b c : Bool) (n m : Nat) (A : Mat) : Clo k (tab b c n m A) := by
  cases b <;> exact clo_rws k c n m A
theorem fz_rows {M : Mem} {k l n m : Nat} {c : Bool} {A : Mat} (hl : k ≤ l) (h : memAt M l = some (rws c n m A)) : fz M k (.loc l) = some (tab false c n m A) := by
  unfold fz
  rw [if_neg (by simp; omega)]
  show (if l < k then some (D.loc l) else (memAt M l).bind fun ds => (ds.mapM (fzD M k 5)).map D.lst) = _
  rw [if_neg (by omega), h]
  have : (rws c n m A).mapM (fzD M k 5) = some (rws c n m A) := mapM_some fun d hd => by
    obtain ⟨i, _, rfl⟩ := List.mem_map.mp hd
    cases c
    · show ((vec m (A i)).mapM (fzD M k 4)).map D.lst = _
      rw [fzD_vec]; rfl
    · show ((vec m (A i)).mapM (fzD M k 4)).map D.tup = _
      rw [fzD_vec]; rfl
  show ((rws c n m A).mapM (fzD M k 5)).map D.lst = _
  rw [this]; rfl
theorem bes_inner {cc : Bool} {m N : Nat} {B : Mat} {blocks : D} {a : Nat} (ha : a + m ≤ N) (hN : N ≤ 64) (M0 : Mem) (x3 : Option D) (F0 : List D) (hF : F0.length ≤ 64) (x5 : Option D) : ∃ y5,
    forL [] (mName 5) (sExpr (eMt oAppend (eVar 2) (aCons (eBin false oAdd (eBin false oAdd (eBin false oMul (eArgs false oLst (aCons (eC (.int 0)) aNil)) (eVar 4)) (eArgs false oList (aCons (eVar 5) aNil))) (eBin false oMul (eArgs false oLst (aCons (eC (.int 0)) aNil)) (eBin false oSub (eBin false oSub (eVar 1) (eVar 4)) (eArgs false oLen (aCons (eVar 5) aNil))))) aNil)))
      (rws cc m m B) [some blocks, some (.int N), some (.loc M0.length), x3, some (.int a), x5] (M0 ++ [some F0]) =
    .nx [some blocks, some (.int N), some (.loc M0.length), x3, some (.int a), y5] (M0 ++ [some (F0 ++ (List.range m).map fun i => .lst (List.replicate a (.int 0) ++ (vec m (B i) ++ List.replicate (N - a - m) (.int 0))))]) := by
  obtain ⟨τ', M', e, ⟨y5, rfl⟩, rfl⟩ := forL_idx (g := mName 5) (src := []) (n := m) (enc := fun i => sqD cc (vec m (B i))) (b := (sExpr (eMt oAppend (eVar 2) (aCons (eBin false oAdd (eBin false oAdd (eBin false oMul (eArgs false oLst (aCons (eC (.int 0)) aNil)) (eVar 4)) (eArgs false oList (aCons (eVar 5) aNil))) (eBin false oMul (eArgs false oLst (aCons (eC (.int 0)) aNil)) (eBin false oSub (eBin false oSub (eVar 1) (eVar 4)) (eArgs false oLen (aCons (eVar 5) aNil))))) aNil))))
    (R := fun i τ M => (∃ y5, τ = [some blocks, some (.int N), some (.loc M0.length), x3, some (.int a), y5]) ∧ M = M0 ++ [some (F0 ++ (List.range i).map fun i => .lst (List.replicate a (.int 0) ++ (vec m (B i) ++ List.replicate (N - a - m) (.int 0))))])
    (fun i τ M hi hR => by
      obtain ⟨⟨y5, rfl⟩, rfl⟩ := hR
      refine ⟨by simp, [some blocks, some (.int N), some (.loc M0.length), x3, some (.int a), some (sqD cc (vec m (B i)))], _, _, _, rfl, .inl ?_, ⟨some (sqD cc (vec m (B i))), rfl⟩, rfl⟩
      have q1 : repOk 1 (a : Int) := ⟨by omega, by omega, by simp only [sizeLine_eq]; omega⟩
      have q2 : ((N : Int) - (a : Int) - (m : Int)) = ((N - a - m : Nat) : Int) := by omega
      have q3 : repOk 1 ((N - a - m : Nat) : Int) := ⟨by omega, by omega, by simp only [sizeLine_eq]; omega⟩
      have q4 : a + m ≤ 16777216 := by omega
      have q5 : a + m + (N - a - m) ≤ 16777216 := by omega
      have q6 : F0.length + i < sizeLine := by simp only [sizeLine_eq]; omega
      simp [q1, q2, q3, q4, q5, q6, List.range_succ])
    (fun _ _ _ => by simp) (τ := [some blocks, some (.int N), some (.loc M0.length), x3, some (.int a), x5]) (M := M0 ++ [some F0]) ⟨⟨_, rfl⟩, by simp⟩
  exact ⟨y5, e⟩
theorem forL_nx {src : List (Nat × List D)} {g : GM} {b : SM} {d : D} {ds : List D} {τ τ1 τ' : DSt} {M M1 M' : Mem} (hc : Chk src M) (hg : g d τ M = .ok τ1 M1) (hb : b τ1 M1 = .nx τ' M') : forL src g b (d :: ds) τ M = forL src g b ds τ' M' := by
  conv => lhs; unfold forL
  rw [if_pos hc]
  simp only [hg, hb]
theorem beside_spec {b c b' c' : Bool} {n m : Nat} {A B : Mat} (hn : n + m ≤ 64) (M : Mem) : c_beside [.lst [tab b c n n A, tab b' c' m m B]] M = .ok (tab false false (n + m) (n + m) (bd n A B)) M := by
  have h1 : ∀ M, seqOf (tab b c n n A) M = some { xs := rws c n n A } := fun M => seqOf_sq _ _ _
  have h2 : ∀ M, seqOf (tab b' c' m m B) M = some { xs := rws c' m m B } := fun M => seqOf_sq _ _ _
  obtain ⟨y, e1⟩ := bes_inner (cc := c) (m := n) (N := n + m) (B := A) (blocks := .lst [tab b c n n A, tab b' c' m m B]) (a := 0) (by omega) hn M (some (tab b c n n A)) [] (by simp) none
  obtain ⟨y', e2⟩ := bes_inner (cc := c') (m := m) (N := n + m) (B := B) (blocks := .lst [tab b c n n A, tab b' c' m m B]) (a := n) (by omega) hn M (some (tab b' c' m m B)) ((List.range n).map fun i => .lst (List.replicate 0 (.int 0) ++ (vec n (A i) ++ List.replicate (n + m - 0 - n) (.int 0)))) (by simp; omega) y
  have hz : n + m - 0 - n = m := by omega
  have hz2 : n + m - n - m = 0 := by omega
  have hrow : ((List.range n).map fun i => D.lst (List.replicate 0 (.int 0) ++ (vec n (A i) ++ List.replicate (n + m - 0 - n) (.int 0)))) ++ ((List.range m).map fun i => D.lst (List.replicate n (.int 0) ++ (vec m (B i) ++ List.replicate (n + m - n - m) (.int 0)))) = rws false (n + m) (n + m) (bd n A B) := by
    rw [rws_add, hz, hz2]
    congr 1
    · exact List.map_congr_left fun i hi => by rw [bd_top A B (by simpa using hi)]; rfl
    · refine List.map_congr_left fun i hi => ?_
      have := bd_low (n := n) (m := m) A B i
      show _ = sqD false (vec (n + m) (bd n A B (n + i)))
      rw [this]; simp
  rw [hrow] at e2
  simp only [List.nil_append] at e1
  have e1 := e1
  have s1 : sSet 1 (eArgs false oSum (aCons (eLc false (iSeq (eVar 0)) (mName 3) mYes (eArgs false oLen (aCons (eVar 3) aNil)) [3]) aNil)) (startD N_beside [.lst [tab b c n n A, tab b' c' m m B]]) M = .nx [some (.lst [tab b c n n A, tab b' c' m m B]), some (.int ((n + m : Nat) : Int)), none, none, none, none] M := by
    have : lcL [] (mName 3) mYes (eArgs false oLen (aCons (eVar 3) aNil)) [tab b c n n A, tab b' c' m m B] [some (.lst [tab b c n n A, tab b' c' m m B]), none, none, none, none, none] M = .ok [.int n, .int m] M := by
      simp [lcL, h1, h2]
    simp [startD, wipeD, this]
  have s2 : sSet 2 (eArgs true oLst aNil) [some (.lst [tab b c n n A, tab b' c' m m B]), some (.int ((n + m : Nat) : Int)), none, none, none, none] M = .nx [some (.lst [tab b c n n A, tab b' c' m m B]), some (.int ((n + m : Nat) : Int)), some (.loc M.length), none, none, none] (M ++ [some []]) := by simp
  have q1 : ∀ x, sSet 4 (eArgs false oLen (aCons (eVar 2) aNil)) [some (.lst [tab b c n n A, tab b' c' m m B]), some (.int ((n + m : Nat) : Int)), some (.loc M.length), some (tab b c n n A), x, none] (M ++ [some []]) = .nx [some (.lst [tab b c n n A, tab b' c' m m B]), some (.int ((n + m : Nat) : Int)), some (.loc M.length), some (tab b c n n A), some (.int ((0 : Nat) : Int)), none] (M ++ [some []]) := fun x => by simp [seqOf_app]
  have q2 : sSet 4 (eArgs false oLen (aCons (eVar 2) aNil)) [some (.lst [tab b c n n A, tab b' c' m m B]), some (.int ((n + m : Nat) : Int)), some (.loc M.length), some (tab b' c' m m B), some (.int ((0 : Nat) : Int)), y] (M ++ [some ((List.range n).map fun i => D.lst (List.replicate 0 (.int 0) ++ (vec n (A i) ++ List.replicate (n + m - 0 - n) (.int 0))))]) =
      .nx [some (.lst [tab b c n n A, tab b' c' m m B]), some (.int ((n + m : Nat) : Int)), some (.loc M.length), some (tab b' c' m m B), some (.int (n : Int)), y] (M ++ [some ((List.range n).map fun i => D.lst (List.replicate 0 (.int 0) ++ (vec n (A i) ++ List.replicate (n + m - 0 - n) (.int 0))))]) := by simp [seqOf_app]
  have f1 : ∀ (body : SM), sFor (iSeq (eVar 3)) (mName 5) body [some (.lst [tab b c n n A, tab b' c' m m B]), some (.int ((n + m : Nat) : Int)), some (.loc M.length), some (tab b c n n A), some (.int ((0 : Nat) : Int)), none] (M ++ [some []]) =
      forL [] (mName 5) body (rws c n n A) [some (.lst [tab b c n n A, tab b' c' m m B]), some (.int ((n + m : Nat) : Int)), some (.loc M.length), some (tab b c n n A), some (.int ((0 : Nat) : Int)), none] (M ++ [some []]) := fun body => by simp [h1]
  have f2 : ∀ (body : SM) (ds : List D), sFor (iSeq (eVar 3)) (mName 5) body [some (.lst [tab b c n n A, tab b' c' m m B]), some (.int ((n + m : Nat) : Int)), some (.loc M.length), some (tab b' c' m m B), some (.int (n : Int)), y] (M ++ [some ds]) =
      forL [] (mName 5) body (rws c' m m B) [some (.lst [tab b c n n A, tab b' c' m m B]), some (.int ((n + m : Nat) : Int)), some (.loc M.length), some (tab b' c' m m B), some (.int (n : Int)), y] (M ++ [some ds]) := fun body ds => by simp [h2]
  unfold c_beside m_beside
  rw [seq_nx s1, seq_nx s2]
  refine (congrArg (endT M) (seq_nx (τ' := [some (.lst [tab b c n n A, tab b' c' m m B]), some (.int ((n + m : Nat) : Int)), some (.loc M.length), some (tab b' c' m m B), some (.int (n : Int)), y']) (M' := M ++ [some (rws false (n + m) (n + m) (bd n A B))]) ?_)).trans ?_
  · show forL [] (mName 3) _ [tab b c n n A, tab b' c' m m B] [some (.lst [tab b c n n A, tab b' c' m m B]), some (.int ((n + m : Nat) : Int)), some (.loc M.length), none, none, none] (M ++ [some []]) = _
    refine (forL_nx (by simp) rfl ((seq_nx (q1 none)).trans ((f1 _).trans e1))).trans ?_
    refine (forL_nx (by simp) rfl ((seq_nx q2).trans ((f2 _ _).trans e2))).trans ?_
    simp [forL]
  · show trunc M _ (.loc M.length) = _
    exact trunc_app (fz_rows (Nat.le_refl _) (by simp))
theorem sum_ok {b c b' c' : Bool} {n m : Nat} {A B : Mat} (HA : Frm n A) (HB : Frm m B) (hnm : n + m ≤ 8) (M : Mem) : c_sum_of_forms [tab b c n n A, tab b' c' m m B] M = .ok (tab true true (n + m) (n + m) (bd n A B)) M := by
  have e1 := told_ok (b := b) (c := c) HA M
  have e2 := told_ok (b := b') (c := c') HB M
  have e3 := beside_spec (b := true) (c := true) (b' := true) (c' := true) (A := A) (B := B) (n := n) (m := m) (by omega) M
  have e4 := asTuples_spec (b := false) (c := false) (n := n + m) (m := n + m) (A := bd n A B) (by omega) M
  have h1 : seqOf (tab true true n n A) M = some { xs := rws true n n A } := seqOf_sq _ _ _
  have h2 : seqOf (tab true true m m B) M = some { xs := rws true m m B } := seqOf_sq _ _ _
  have hh : ¬ (8 : Int) < (n : Int) + (m : Int) := by omega
  unfold c_sum_of_forms m_sum_of_forms
  simp [startD, e1, e2, h1, h2, hh, e3, e4]
theorem sum_great {b c b' c' : Bool} {n m : Nat} {A B : Mat} (HA : Frm n A) (HB : Frm m B) (hnm : 8 < n + m) (M : Mem) : c_sum_of_forms [tab b c n n A, tab b' c' m m B] M = .exc (.exn "TooGreat" false "" .non) M := by
  have e1 := told_ok (b := b) (c := c) HA M
  have e2 := told_ok (b := b') (c := c') HB M
  have h1 : seqOf (tab true true n n A) M = some { xs := rws true n n A } := seqOf_sq _ _ _
  have h2 : seqOf (tab true true m m B) M = some { xs := rws true m m B } := seqOf_sq _ _ _
  have hh : (8 : Int) < (n : Int) + (m : Int) := by omega
  unfold c_sum_of_forms m_sum_of_forms
  simp [startD, e1, e2, h1, h2, hh]
theorem sum_bad1 {d d' : D} {r : Str} (H : BadF d r) (M : Mem) : c_sum_of_forms [d, d'] M = .exc (.exn "BadForm" true "reason" (.str r)) M := by
  have e1 := told_bad H M
  unfold c_sum_of_forms m_sum_of_forms
  simp [startD, e1]
theorem sum_bad2 {b c : Bool} {n : Nat} {A : Mat} {d' : D} {r : Str} (HA : Frm n A) (H : BadF d' r) (M : Mem) : c_sum_of_forms [tab b c n n A, d'] M = .exc (.exn "BadForm" true "reason" (.str r)) M := by
  have e1 := told_ok (b := b) (c := c) HA M
  have e2 := told_bad H M
  unfold c_sum_of_forms m_sum_of_forms
  simp [startD, e1, e2]
/-! ### the law's own -/
theorem lawBeside_spec {n m : Nat} {A B : Mat} (h1 : 1 ≤ n) (h2 : 1 ≤ m) (hn : n + m ≤ 64) (M : Mem) : c__law_beside [tab true true n n A, tab true true m m B] M = .ok (tab true true (n + m) (n + m) (bd n A B)) M := by
  have s1 : ∀ M, seqOf (tab true true n n A) M = some { xs := rws true n n A } := fun M => seqOf_sq _ _ _
  have s2 : ∀ M, seqOf (tab true true m m B) M = some { xs := rws true m m B } := fun M => seqOf_sq _ _ _
  have mt : ∀ k : Nat, 1 ≤ k → k ≤ 64 → oMulT (.tup [.int 0]) (.int (k : Int)) M = some (.v (.tup (List.replicate k (.int 0)))) := fun k hk hk2 => by
    unfold oMulT
    by_cases e : k = 1
    · subst e; simp
    · have e1 : ¬ (k : Int) = 1 := by omega
      have e2 : ¬ (k : Int) ≤ 0 := by omega
      have e3 : (2 : Int) ≤ k ∧ (k : Int) ≤ 1000 := by omega
      simp [e1, e2, e3]
      omega
  have l1 : lcL [] (mName 4) mYes (eBin false oAdd (eArgs false oTuple (aCons (eBin false oIx (eVar 0) (eVar 4)) aNil)) (eBin false oMulT (eArgs false oTup (aCons (eC (.int 0)) aNil)) (eVar 3))) (rangeD 0 n) [some (tab true true n n A), some (tab true true m m B), some (.int n), some (.int m), none] M =
      .ok (rws true n (n + m) (bd n A B)) M := lcRg fun i hi => ⟨[some (tab true true n n A), some (tab true true m m B), some (.int n), some (.int m), some (.int i)], by simp, by
        have e1 := atI_rws (c := true) (m := n) A hi
        have q : n + m ≤ 16777216 := by omega
        simp [s1, e1, mt m h2 (by omega), q, bd_top A B hi]⟩
  have l2 : lcL [] (mName 4) mYes (eBin false oAdd (eBin false oMulT (eArgs false oTup (aCons (eC (.int 0)) aNil)) (eVar 2)) (eArgs false oTuple (aCons (eBin false oIx (eVar 1) (eVar 4)) aNil))) (rangeD 0 m) [some (tab true true n n A), some (tab true true m m B), some (.int n), some (.int m), none] M =
      .ok (rws true m (n + m) (fun i j => bd n A B (n + i) j)) M := lcRg fun i hi => ⟨[some (tab true true n n A), some (tab true true m m B), some (.int n), some (.int m), some (.int i)], by simp, by
        have e1 := atI_rws (c := true) (m := m) B hi
        have q : n + m ≤ 16777216 := by omega
        have e2 := bd_low (n := n) (m := m) A B i
        simp [s2, e1, mt n h1 (by omega), q]
        exact e2.symm⟩
  have q1 : n < 4611686018427387904 := by omega
  have q2 : m < 4611686018427387904 := by omega
  have q3 : n + m ≤ 16777216 := by omega
  have er := rws_add true n m (n + m) (bd n A B)
  unfold c__law_beside m__law_beside
  simp [startD, s1, s2, q1, q2, wipeD, l1, l2, le_line' (show n ≤ 64 by omega), le_line' (show m ≤ 64 by omega), q3]
  rw [← er]; rfl
theorem lawUnit_spec {n : Nat} (hn : n ≤ 64) (M : Mem) : c__law_unit [.int n] M = .ok (tab true true n n one) M := by
  have q1 : n < 4611686018427387904 := by omega
  have h : lcL [] (mName 1) mYes (eArgs false oTuple (aCons (eLc false (iRange1 (aCons (eVar 0) aNil)) (mName 2) mYes (eArgs false oInt (aCons (eBin false oEq (eVar 1) (eVar 2)) aNil)) [2]) aNil)) (rangeD 0 n) [some (.int n), none, none] M = .ok (rws true n n one) M :=
    lcRg fun i hi => ⟨[some (.int n), some (.int i), none], by simp, by
      have : lcL [] (mName 2) mYes (eArgs false oInt (aCons (eBin false oEq (eVar 1) (eVar 2)) aNil)) (rangeD 0 n) [some (.int n), some (.int i), none] M = .ok (vec n (one i)) M :=
        lcRg fun j hj => ⟨[some (.int n), some (.int i), some (.int j)], by simp, by
          simp [one]
          by_cases e : i = j
          · subst e; simp
          · rw [if_neg (by omega), if_neg e]⟩
      simp [q1, le_line' hn, wipeD, this]⟩
  unfold c__law_unit m__law_unit
  simp [startD, q1, le_line' hn, wipeD, h]
  rfl
end Sh2

namespace Sh2
open PySem PySem.Spec PyProof.Rows L2 DM LA Sh

/-! ### the greatest common divisor -/
def gcdMu (x : Nat × Nat) : Nat := if x.2 = 0 then 0 else Nat.log2 (x.1 * x.2) + 1 + (if x.1 < x.2 then 1 else 0)
theorem log2_double {n : Nat} (h : n ≠ 0) : (2 * n).log2 = n.log2 + 1 := by
  rw [Nat.log2_eq_iff (by omega)]
  have := Nat.log2_self_le h
  have := Nat.lt_log2_self (n := n)
  rw [Nat.pow_succ, Nat.pow_succ]
  omega
theorem log2_mono {a b : Nat} (h : a ≤ b) : a.log2 ≤ b.log2 := by
  by_cases ha : a = 0
  · subst ha; simp
  · rw [Nat.le_log2 (by omega)]
    exact Nat.le_trans (Nat.log2_self_le ha) h
theorem log2_mul (a b : Nat) : (a * b).log2 ≤ a.log2 + b.log2 + 1 := by
  by_cases h : a * b = 0
  · rw [h]; simp
  · have := (Nat.log2_lt h (k := a.log2 + b.log2 + 2)).mpr (by
      have h1 := Nat.lt_log2_self (n := a)
      have h2 := Nat.lt_log2_self (n := b)
      calc a * b < 2 ^ (a.log2 + 1) * 2 ^ (b.log2 + 1) := Nat.mul_lt_mul'' h1 h2
        _ = 2 ^ (a.log2 + b.log2 + 2) := by rw [← Nat.pow_add]; congr 1; omega)
    omega
theorem log2_add (a b : Nat) : (a + b).log2 ≤ max a.log2 b.log2 + 1 := by
  by_cases h : a + b = 0
  · rw [h]; simp
  · have h1 := Nat.lt_log2_self (n := a)
    have h2 := Nat.lt_log2_self (n := b)
    have p1 : 2 ^ (a.log2 + 1) ≤ 2 ^ (max a.log2 b.log2 + 1) := Nat.pow_le_pow_right (by decide) (by omega)
    have p2 : 2 ^ (b.log2 + 1) ≤ 2 ^ (max a.log2 b.log2 + 1) := Nat.pow_le_pow_right (by decide) (by omega)
    have := (Nat.log2_lt h (k := max a.log2 b.log2 + 2)).mpr (by
      rw [Nat.pow_succ (n := 2) (m := max a.log2 b.log2 + 1)]
      omega)
    omega
theorem gcdMu_lt {x y : Nat} (h : y ≠ 0) : gcdMu (y, x % y) < gcdMu (x, y) := by
  unfold gcdMu
  have hr : x % y < y := Nat.mod_lt _ (Nat.pos_of_ne_zero h)
  simp only [h, if_false]
  by_cases hz : x % y = 0
  · simp only [hz, if_true]
    omega
  · simp only [hz, if_false]
    have h1 : ¬ y < x % y := by omega
    simp only [h1, if_false]
    by_cases hxy : x < y
    · simp only [hxy, if_true]
      rw [Nat.mod_eq_of_lt hxy, Nat.mul_comm]
      omega
    · simp only [hxy, if_false]
      have h2 : 2 * (y * (x % y)) ≤ x * y := by
        have e := Nat.div_add_mod x y
        have q : 1 ≤ x / y := (Nat.one_le_div_iff (Nat.pos_of_ne_zero h)).mpr (by omega)
        have : y * 1 ≤ y * (x / y) := Nat.mul_le_mul_left y q
        have : 2 * (x % y) ≤ x := by omega
        calc 2 * (y * (x % y)) = (2 * (x % y)) * y := by rw [Nat.mul_comm y, Nat.mul_assoc]
          _ ≤ x * y := Nat.mul_le_mul_right y this
      have h3 : y * (x % y) ≠ 0 := Nat.mul_ne_zero h hz
      have := log2_mono h2
      rw [log2_double h3] at this
      omega
theorem gcdMu_small (x y : Nat) : gcdMu (x, y) ≤ x.log2 + y.log2 + 3 := by
  unfold gcdMu
  have := log2_mul x y
  split
  · omega
  · simp only []
    split <;> omega
theorem common_loop {a b : Int} (ha : a.natAbs.log2 < 9000) (hb : b.natAbs.log2 < 9000) (M : Mem) (ds : List D) (hds : 19000 < ds.length) :
    ∃ t1 t2, forL [] (mName 2) (sSeq (sIf (asB (eBin false oEq (eVar 1) (eC (.int 0)))) sBreak sNil) (sPar 0 1 (aCons (eVar 1) (aCons (eBin false oSub (eVar 0) (eBin false oMul (eVar 1) (eArgs false oInt (aCons (eBin false oDiv (eVar 0) (eVar 1)) aNil)))) aNil)))) ds
      [some (.int a.natAbs), some (.int b.natAbs), none] M = .nx [some (.int (Nat.gcd a.natAbs b.natAbs : Nat)), t1, t2] M := by
  obtain ⟨τ', M', e, rfl, t1, t2, rfl⟩ := forL_mu (g := mName 2)
    (b := sSeq (sIf (asB (eBin false oEq (eVar 1) (eC (.int 0)))) sBreak sNil) (sPar 0 1 (aCons (eVar 1) (aCons (eBin false oSub (eVar 0) (eBin false oMul (eVar 1) (eArgs false oInt (aCons (eBin false oDiv (eVar 0) (eVar 1)) aNil)))) aNil))))
    (R := fun (x : Nat × Nat) τ M1 => ∃ t, τ = [some (.int x.1), some (.int x.2), t] ∧ M1 = M ∧ Nat.gcd x.1 x.2 = Nat.gcd a.natAbs b.natAbs ∧ x.1.log2 < 9000 ∧ x.2.log2 < 9000)
    (F := fun τ M1 => M1 = M ∧ ∃ t1 t2, τ = [some (.int (Nat.gcd a.natAbs b.natAbs : Nat)), t1, t2]) gcdMu
    (fun x d τ M1 hR => by
      obtain ⟨x, y⟩ := x
      obtain ⟨t, rfl, rfl, hg, hx, hy⟩ := hR
      dsimp only at hg hx hy
      refine ⟨[some (.int x), some (.int y), some d], M1, by simp, ?_⟩
      by_cases hy0 : y = 0
      · subst hy0
        refine .inl ⟨[some (.int x), some (.int 0), some d], M1, by simp, rfl, some (.int 0), some d, ?_⟩
        simp at hg
        rw [hg]
      · refine .inr ⟨(y, x % y), [some (.int y), some (.int (x % y : Nat)), some d], M1, ?_, ⟨some d, rfl, rfl, ?_, hy, Nat.lt_of_le_of_lt (log2_mono (Nat.mod_le _ _)) hx⟩, gcdMu_lt hy0⟩
        · have h1 : CDivG (x : Int) (y : Int) := ⟨by omega, by simpa using hy⟩
          have h2 : CMulG (y : Int) ((x : Int) / (y : Int)) := by
            refine .inl ?_
            have : ((x : Int) / (y : Int)).natAbs = x / y := by
              rw [← Int.natCast_ediv, Int.natAbs_natCast]
            rw [this, Int.natAbs_natCast]
            have := log2_mono (Nat.div_le_self x y)
            omega
          have h3 : (y : Int) ≠ 0 := by omega
          simp [h1, h2, hy0, fdiv_pos]
          have := Int.emod_def (x : Int) (y : Int)
          rw [← this]
        · rw [← hg, Nat.gcd_comm x y, Nat.gcd_rec y x]
          exact Nat.gcd_comm _ _)
    ds (a.natAbs, b.natAbs) [some (.int a.natAbs), some (.int b.natAbs), none] M ⟨none, rfl, rfl, rfl, ha, hb⟩ (by
      have := gcdMu_small a.natAbs b.natAbs
      omega)
  exact ⟨t1, t2, e⟩
/-- the law's own common divisor -/
theorem common_spec {a b : Int} (ha : a.natAbs.log2 < 9000) (hb : b.natAbs.log2 < 9000) (M : Mem) : c__law_common [.int a, .int b] M = .ok (.int (Nat.gcd a.natAbs b.natAbs : Nat)) M := by
  obtain ⟨t1, t2, e⟩ := common_loop ha hb M (rangeD 0 20000) (by rw [rangeD_len]; decide)
  have q : ∀ i : Int, (if i < 0 then -i else i) = (i.natAbs : Int) := fun i => by split <;> omega
  unfold c__law_common m__law_common
  simp only [sFor, sSeq]
  simp [startD, q, e]

/-! ### tables handed -/
def RowAt (M : Mem) (x : D) (ds : List D) : Prop := (∃ b, x = sqD b ds) ∨ ∃ l, x = .loc l ∧ memAt M l = some ds
theorem RowAt.sq (M : Mem) (b : Bool) (ds : List D) : RowAt M (sqD b ds) ds := .inl ⟨b, rfl⟩
theorem RowAt.seq {M : Mem} {x : D} {ds : List D} (h : RowAt M x ds) : ∃ src, seqOf x M = some { xs := ds, src := src } ∧ Chk src M := by
  rcases h with ⟨b, rfl⟩ | ⟨l, rfl, h⟩
  · exact ⟨[], seqOf_sq _ _ _, by simp⟩
  · refine ⟨[(l, ds)], seqOf_loc h, fun p hp => ?_⟩
    have : p = (l, ds) := by simpa using hp
    subst this
    exact mem_eq h
theorem RowAt.tuple {M : Mem} {x : D} {ds : List D} (h : RowAt M x ds) : oTuple [x] M = some (.v (.tup ds)) := by
  rcases h with ⟨b, rfl⟩ | ⟨l, rfl, h⟩
  · simp
  · exact oTuple_loc h
theorem RowAt.list {M : Mem} {x : D} {ds : List D} (h : RowAt M x ds) : oList [x] M = some (.l ds) := by
  obtain ⟨src, e, _⟩ := h.seq
  simp [e]
def RowsAt (M : Mem) (d : D) (dss : List (List D)) : Prop := ∃ xs, RowAt M d xs ∧ Paired (RowAt M) xs dss
theorem paired_len {α β : Type} {R : α → β → Prop} : ∀ {xs : List α} {ys : List β}, Paired R xs ys → xs.length = ys.length
  | _, _, .nil => rfl
  | _, _, .cons _ t => by simp [paired_len t]
theorem lcP {src : List (Nat × List D)} {g : GM} {e : EM} {v : List D → D} {τ : DSt} {M : Mem} {R : D → List D → Prop} (hc : Chk src M)
    (h : ∀ x ds, R x ds → ∃ τ1, g x τ M = .ok τ1 M ∧ e τ1 M = .ok (v ds) M) : ∀ {xs : List D} {dss : List (List D)}, Paired R xs dss → lcL src g mYes e xs τ M = .ok (dss.map v) M
  | _, _, .nil => by simp [lcL, hc]
  | _, _, .cons p t => by
    obtain ⟨τ1, e1, e2⟩ := h _ _ p
    have ih := lcP hc h t
    unfold lcL
    rw [if_pos hc]
    simp [e1, e2, ih]
def sqs (b c : Bool) (dss : List (List D)) : D := sqD b (dss.map (sqD c))
def gr (n m : Nat) (A : Mat) : List (List D) := (List.range n).map fun i => vec m (A i)
theorem sqs_gr (b c : Bool) (n m : Nat) (A : Mat) : sqs b c (gr n m A) = tab b c n m A := by
  unfold sqs gr tab rws
  rw [List.map_map]; rfl
theorem paired_sq (M : Mem) (c : Bool) : ∀ dss : List (List D), Paired (RowAt M) (dss.map (sqD c)) dss
  | [] => .nil
  | ds :: dss => .cons (.sq M c ds) (paired_sq M c dss)
theorem rowsAt_sqs (M : Mem) (b c : Bool) (dss : List (List D)) : RowsAt M (sqs b c dss) dss := ⟨_, .sq M b _, paired_sq M c dss⟩
theorem rowsAt_tab (M : Mem) (b c : Bool) (n m : Nat) (A : Mat) : RowsAt M (tab b c n m A) (gr n m A) := by rw [← sqs_gr]; exact rowsAt_sqs M b c _
theorem tuples_rows {M : Mem} {d : D} {dss : List (List D)} (h : RowsAt M d dss) (hl : dss.length ≤ 64) : c__law_tuples [d] M = .ok (sqs true true dss) M := by
  obtain ⟨xs, h1, h2⟩ := h
  obtain ⟨src, e, hc⟩ := h1.seq
  have hx := paired_len h2
  have : lcL src (mName 1) mYes (eArgs false oTuple (aCons (eVar 1) aNil)) xs [some d, none] M = .ok (dss.map .tup) M :=
    lcP hc (fun x ds hx => ⟨[some d, some x], by simp, by simp [hx.tuple]⟩) h2
  unfold c__law_tuples m__law_tuples
  simp [startD, e, hx, le_line' hl, wipeD, this]
  rfl
/-- what is handed is the table, in lists or tuples -/
theorem handed_spec {l : Nat} {M : Mem} {d : D} {dss : List (List D)} (hp : PoolAt l M) (h : RowsAt M d dss) (hl : dss.length ≤ 64) :
    ∃ e M', c__law_handed [.loc l, d] M = .ok e M' ∧ (e = d ∨ ∃ b c, e = sqs b c dss) ∧ PStep l M M' := by
  have ht := tuples_rows h hl
  obtain ⟨xs, h1, h2⟩ := h
  obtain ⟨src, e, hc⟩ := h1.seq
  have hx := paired_len h2
  have l1 : lcL src (mName 2) mYes (eArgs false oList (aCons (eVar 2) aNil)) xs [some (.loc l), some d, none] M = .ok (dss.map .lst) M :=
    lcP hc (fun x ds hx => ⟨[some (.loc l), some d, some x], by simp, by
      have := hx.list
      simp only [eArgs, aCons, aNil, eVar, List.getElem?_cons_zero, List.getElem?_cons_succ, R.bind_ok, this, fin_lf]⟩) h2
  have l2 : lcL src (mName 2) mYes (eArgs false oTuple (aCons (eVar 2) aNil)) xs [some (.loc l), some d, none] M = .ok (dss.map .tup) M :=
    lcP hc (fun x ds hx => ⟨[some (.loc l), some d, some x], by simp, by simp [hx.tuple]⟩) h2
  obtain ⟨v, M', e2, hm, hs⟩ := pick_spec hp (ds := [d, sqs true true dss, .lst (dss.map .lst), .lst (dss.map .tup), .tup (dss.map .lst)]) (by simp) (by simp)
  refine ⟨v, M', ?_, ?_, hs⟩
  · unfold c__law_handed m__law_handed
    simp only [sRet, eCall, eArgs, eLc, iSeq, aCons, aNil, eVar, startD, List.map_cons, List.map_nil, List.length_cons, List.length_nil, List.cons_append, List.nil_append, List.replicate, List.getElem?_cons_zero, List.getElem?_cons_succ, R.bind_ok, if_true, ht, e, hx, le_line' hl, wipeD, List.set_cons_succ, List.set_cons_zero, l1, l2, List.length_map, fin_lf, oTuple_l, fin_v, oLst]
    simp [e2]
  · simp at hm
    rcases hm with rfl | rfl | rfl | rfl | rfl
    · exact .inl rfl
    · exact .inr ⟨true, true, rfl⟩
    · exact .inr ⟨false, false, rfl⟩
    · exact .inr ⟨false, true, rfl⟩
    · exact .inr ⟨true, false, rfl⟩
theorem handed_tab {l : Nat} {M : Mem} {b c : Bool} {n m : Nat} {A : Mat} (hp : PoolAt l M) (hn : n ≤ 64) : ∃ b' c' M', c__law_handed [.loc l, tab b c n m A] M = .ok (tab b' c' n m A) M' ∧ PStep l M M' := by
  obtain ⟨e, M', h1, h2, h3⟩ := handed_spec hp (rowsAt_tab M b c n m A) (by simp [gr]; exact hn)
  rcases h2 with rfl | ⟨b', c', rfl⟩
  · exact ⟨b, c, M', h1, h3⟩
  · rw [sqs_gr] at h1
    exact ⟨b', c', M', h1, h3⟩
end Sh2

/-! tables with the determinant 1 or -1 -/
namespace Sh2
open PySem PySem.Spec PyProof.Rows L2 DM LA Sh
theorem erase_perm {α : Type} : ∀ (l : List α) (i : Nat) (x : α), l[i]? = some x → (x :: l.eraseIdx i).Perm l
  | [], i, x, h => by simp at h
  | a :: l, 0, x, h => by simp at h; subst h; exact List.Perm.refl _
  | a :: l, i + 1, x, h => by
    have := erase_perm l i x (by simpa using h)
    rw [List.eraseIdx_cons_succ]
    exact (List.Perm.swap a x _).trans (this.cons a)
theorem erase_map {α β : Type} (f : α → β) : ∀ (l : List α) (i : Nat), (l.map f).eraseIdx i = (l.eraseIdx i).map f
  | [], _ => by simp
  | a :: l, 0 => by simp
  | a :: l, i + 1 => by simp [erase_map f l i]
theorem PStep.appL {l : Nat} {M M1 : Mem} {o : Mem} (hp : PoolAt l M) (s : PStep l M M1) : PStep l (M ++ o) (M1 ++ o) := by
  obtain ⟨ds, rfl, h⟩ := s
  obtain ⟨es, h1, _⟩ := hp
  exact ⟨ds, (List.set_append_left _ _ (memAt_lt h1)).symm, h⟩
/-- a draw beside one's own places -/
theorem take_app {l : Nat} {M o : Mem} {n : Int} (hp : PoolAt l M) (hn : 0 < n) (hn2 : n < 2 ^ 64) : ∃ i M', c__law_take 2 [.loc l, .int n] (M ++ o) = .ok (.int i) (M' ++ o) ∧ 0 ≤ i ∧ i < n ∧ PStep l M M' := by
  obtain ⟨i, M', h1, h2, h3, h4⟩ := take_spec (hp.app (o := o)) hn hn2 0
  obtain ⟨M1, rfl, h5⟩ := h4.app hp
  exact ⟨i, M1, h1, h2, h3, h5⟩
theorem pick_app {l : Nat} {M o : Mem} {ds : List D} (hp : PoolAt l M) (h0 : ds ≠ []) (hn : ds.length < 2 ^ 64) : ∃ d M', c__law_pick [.loc l, .lst ds] (M ++ o) = .ok d (M' ++ o) ∧ d ∈ ds ∧ PStep l M M' := by
  obtain ⟨i, M', h1, h2, h4⟩ := pick_spec (hp.app (o := o)) h0 hn
  obtain ⟨M1, rfl, h5⟩ := h4.app hp
  exact ⟨i, M1, h1, h2, h5⟩
theorem memAt_len {M : Mem} {o : Option (List D)} {k : Nat} (h : k = M.length) : memAt (M ++ [o]) k = o := by subst h; exact list_app_set M o
/-- the pool has moved, all else is as it was -/
theorem kept_step {l : Nat} {M M1 : Mem} {o : Mem} (hp : PoolAt l M) (s : PStep l M M1) : Kept M (M1 ++ o) := by
  have hlen := s.len
  refine ⟨by simp; omega, fun k hk => ?_⟩
  rw [List.getElem?_append_left (by omega)]
  by_cases e : k = l
  · subst e
    obtain ⟨es, rfl, ⟨cells, a, b, c, rfl, _⟩⟩ := s
    refine .inr ⟨_, List.getElem?_set_self hk, ?_⟩
    simp
  · obtain ⟨es, rfl, _⟩ := s
    exact .inl (List.getElem?_set_ne (Ne.symm e))
theorem trunc_step {l : Nat} {M M1 : Mem} {o : Mem} {d d' : D} (hp : PoolAt l M) (s : PStep l M M1) (h : fz (M1 ++ o) M.length d = some d') : trunc M (M1 ++ o) d = .ok d' M1 := by
  unfold trunc
  rw [if_pos (kept_step hp s), h]
  simp [← s.len]
theorem pm_of {n : Nat} {fs : List Nat} (h : fs.Perm (List.range n)) : Pm n (fun i => fs.getD i 0) ∧ fs = (List.range n).map (fun i => fs.getD i 0) := by
  have hl : fs.length = n := by have := h.length_eq; simpa using this
  have nd : fs.Nodup := h.nodup_iff.mpr List.nodup_range
  refine ⟨⟨fun i hi => ?_, fun i hi j hj e => ?_⟩, ?_⟩
  · have hm : fs.getD i 0 ∈ fs := by
      rw [List.getD_eq_getElem?_getD, List.getElem?_eq_getElem (by omega)]
      exact List.getElem_mem _
    have := h.mem_iff.mp hm
    simpa using this
  · exact (List.getD_inj (by omega) (by omega) nd).mp e
  · apply List.ext_getElem?
    intro i
    by_cases hi : i < n
    · rw [range_map_get _ hi, List.getD_eq_getElem?_getD, List.getElem?_eq_getElem (by omega)]; rfl
    · rw [List.getElem?_eq_none (by omega), List.getElem?_eq_none (by simpa using hi)]
theorem order_spec {l n : Nat} {M : Mem} (hp : PoolAt l M) (hn : n ≤ 64) : ∃ σ M', c__law_order [.loc l, .int n] M = .ok (.tup ((List.range n).map fun i => .int ((σ i : Nat) : Int))) M' ∧ Pm n σ ∧ PStep l M M' := by
  have hl : n < 4611686018427387904 := by omega
  obtain ⟨τ', M', e, M1, fs, ls, x4, s1, hperm, hls, rfl, rfl⟩ := forL_range (g := mName 4) (lo := 0) (n := n)
    (b := sSet 3 (eBin false oAdd (eVar 3) (eArgs false oTup (aCons (eMt oPopAt (eVar 2) (aCons (eCall 2 (Sh.c__law_take 2) (aCons (eVar 0) (aCons (eArgs false oLen (aCons (eVar 2) aNil)) aNil))) aNil)) aNil))))
    (R := fun k τ M' => ∃ M1 fs ls x4, PStep l M M1 ∧ (fs ++ ls).Perm (List.range n) ∧ ls.length = n - k ∧ τ = [some (.loc l), some (.int n), some (.loc M.length), some (.tup (fs.map fun (i : Nat) => .int (i : Int))), x4] ∧ M' = M1 ++ [some (ls.map fun (i : Nat) => .int (i : Int))])
    (fun k τ M' hk hR => by
      obtain ⟨M1, fs, ls, x4, s1, hperm, hls, rfl, rfl⟩ := hR
      have hp1 := hp.step s1
      obtain ⟨i, M2, e1, hi0, hi1, s2⟩ := take_app (n := (ls.length : Int)) (o := [some (ls.map fun (i : Nat) => D.int (i : Int))]) hp1 (by omega) (by omega)
      have hil : i.toNat < ls.length := by omega
      have hfl : fs.length + ls.length = n := by have := hperm.length_eq; simpa using this
      have hM1 : M1.length = M.length := s1.len
      have hM2 : M2.length = M.length := s2.len.trans s1.len
      have m1 : memAt (M1 ++ [some (ls.map fun (i : Nat) => D.int (i : Int))]) M.length = some (ls.map fun (i : Nat) => D.int (i : Int)) := memAt_len hM1.symm
      have m2 : memAt (M2 ++ [some (ls.map fun (i : Nat) => D.int (i : Int))]) M.length = some (ls.map fun (i : Nat) => D.int (i : Int)) := memAt_len hM2.symm
      have hpo : popOk i := ⟨by omega, by omega⟩
      have hsi : seqIndex? i ls.length = some i.toNat := by
        unfold seqIndex?
        have z : ¬ i < 0 := by omega
        simp [z, hi0, hi1]
      have hst : (M2 ++ [some (ls.map fun (i : Nat) => D.int (i : Int))]).set M.length (some ((ls.eraseIdx i.toNat).map fun (i : Nat) => D.int (i : Int))) = M2 ++ [some ((ls.eraseIdx i.toNat).map fun (i : Nat) => D.int (i : Int))] := by
        rw [← hM2]; exact set_app _ _ _
      have her : (ls.map fun (i : Nat) => D.int (i : Int)).eraseIdx i.toNat = (ls.eraseIdx i.toNat).map fun (i : Nat) => D.int (i : Int) := erase_map _ _ _
      refine ⟨[some (.loc l), some (.int n), some (.loc M.length), some (.tup (fs.map fun (i : Nat) => .int (i : Int))), some (.int (0 + (k : Int)))], _, [some (.loc l), some (.int n), some (.loc M.length), some (.tup ((fs ++ [ls[i.toNat]]).map fun (i : Nat) => .int (i : Int))), some (.int (0 + (k : Int)))], M2 ++ [some ((ls.eraseIdx i.toNat).map fun (i : Nat) => D.int (i : Int))], rfl, .inl ?_, M2, fs ++ [ls[i.toNat]], ls.eraseIdx i.toNat, _, s1.trans s2, ?_, ?_, rfl, rfl⟩
      · have hq : fs.length + 1 ≤ 16777216 := by omega
        simp [m1, seqOf_loc m1, e1, m2, hpo, hsi, hil, her, hst, hq]
      · have := erase_perm ls i.toNat _ (List.getElem?_eq_getElem hil)
        rw [List.append_assoc]
        exact ((this.append_left fs)).trans hperm
      · rw [List.length_eraseIdx_of_lt hil]; omega)
    (τ := [some (.loc l), some (.int n), some (.loc M.length), some (.tup []), none]) (M := M ++ [some ((List.range n).map fun (i : Nat) => D.int (i : Int))])
    ⟨M, [], List.range n, none, PStep.refl hp, List.Perm.refl _, by simp, rfl, rfl⟩
  have hz : ls = [] := List.length_eq_zero_iff.mp (by omega)
  subst hz
  rw [List.append_nil] at hperm
  obtain ⟨hσ, hfs⟩ := pm_of hperm
  refine ⟨fun i => fs.getD i 0, M1, ?_, hσ, s1⟩
  have hr : rangeD 0 (n : Int).toNat = (List.range n).map fun (i : Nat) => D.int (i : Int) := by rw [rangeD_0]; simp
  have hrg : RgOk 0 (n : Int) := ⟨by omega, by omega, by omega, by omega, by omega⟩
  unfold c__law_order m__law_order
  have s0 : sSet 2 (eArgs true oRangeL (aCons (eVar 1) aNil)) (startD N__law_order [.loc l, .int n]) M = .nx [some (.loc l), some (.int n), some (.loc M.length), none, none] (M ++ [some ((List.range n).map fun (i : Nat) => D.int (i : Int))]) := by
    simp only [sSet, eArgs, aCons, aNil, eVar, startD, List.map_cons, List.map_nil, List.length_cons, List.length_nil, List.cons_append, List.nil_append, List.replicate, List.getElem?_cons_zero, List.getElem?_cons_succ, R.bind_ok, oRangeL_1, hrg, if_true, fin_lt, andS_ok, hr, List.set_cons_succ, List.set_cons_zero]
  rw [seq_nx s0]
  refine (congrArg (endT M) (seq_nx (τ' := [some (.loc l), some (.int n), some (.loc M.length), some (.tup []), none]) (M' := M ++ [some ((List.range n).map fun (i : Nat) => D.int (i : Int))]) (by simp))).trans ?_
  refine (congrArg (endT M) (seq_nx (τ' := [some (.loc l), some (.int n), some (.loc M.length), some (.tup (fs.map fun (i : Nat) => .int (i : Int))), x4]) (M' := M1 ++ [some ([].map fun (i : Nat) => D.int (i : Int))]) (by simp [hl]; simpa using e))).trans ?_
  refine (trunc_step hp s1 (fz_clo ?_)).trans ?_
  · simp only [clo_tup, CloL_iff]
    intro d hd
    obtain ⟨i, _, rfl⟩ := List.mem_map.mp hd
    trivial
  · congr 2
    conv => lhs; rw [hfs]
    rw [List.map_map]; rfl
end Sh2

/-! the law's tables and what they lead to -/
namespace Sh2
open PySem PySem.Spec PyProof.Rows L2 DM LA Sh
noncomputable abbrev ltB1 : SM := (sIf (asB (eBin false oEq (eCall 2 (Sh.c__law_take 2) (aCons (eVar 0) (aCons (eC (.int 2)) aNil))) (eC (.int 0)))) (sAsg (eLc false (iSeq (eBin false oIx (eVar 3) (eVar 4))) (mName 10) mYes (eUn false oNeg (eVar 10)) [10]) (mSub (eVar 3) (eVar 4))) sNil)
noncomputable abbrev ltB2 : SM := (sSeq (sAsg (eArgs false oTup (aCons (eCall 2 (Sh.c__law_take 2) (aCons (eVar 0) (aCons (eVar 1) aNil))) (aCons (eBin false oAdd (eC (.int 1)) (eCall 2 (Sh.c__law_take 2) (aCons (eVar 0) (aCons (eBin false oSub (eVar 1) (eC (.int 1))) aNil)))) aNil))) (mTup 2 (mCons (mName 6) (mCons (mName 7) mNil)))) (sSeq (sAsg (eArgs false oTup (aCons (eBin false oMod (eArgs false oInt (aCons (eBin false oAdd (eVar 6) (eVar 7)) aNil)) (eVar 1)) (aCons (eCall 2 (Sh.c__law_pick) (aCons (eVar 0) (aCons (eArgs false oLst (aCons (eC (.int 1)) (aCons (eUn false oNeg (eC (.int 1))) (aCons (eC (.int 2)) (aCons (eUn false oNeg (eC (.int 2))) aNil))))) aNil))) aNil))) (mTup 2 (mCons (mName 8) (mCons (mName 9) mNil)))) (sAsg (eLc false (iRange1 (aCons (eVar 1) aNil)) (mName 11) mYes (eBin false oAdd (eBin false oIx (eBin false oIx (eVar 3) (eVar 6)) (eVar 11)) (eBin false oMul (eVar 9) (eBin false oIx (eBin false oIx (eVar 3) (eVar 8)) (eVar 11)))) [11]) (mSub (eVar 3) (eVar 6)))))
theorem seqOf_at {M : Mem} {k : Nat} {ds : List D} {o : Mem} (h : k = M.length) : seqOf (.loc k) (M ++ [some ds]) = some { xs := ds, src := [(k, ds)] } := by subst h; exact seqOf_app M ds
theorem set_at {M : Mem} {k : Nat} {o o' : Option (List D)} (h : k = M.length) : (M ++ [o]).set k o' = M ++ [o'] := by subst h; exact set_app M o o'
section
variable {l n : Nat} {M : Mem} (hp : PoolAt l M) (hn : n ≤ 64) (st : D)
include hp hn
theorem turn_signs {A : Mat} (hA : SP n A) (x4 x5 x6 x7 x8 x9 x10 x11 : Option D) : ∃ M1 A' y4 y5 y6 y7 y8 y9 y10 y11, PStep l M M1 ∧ SP n A' ∧
    forL [] (mName 4) ltB1 (rangeD 0 n) [some (.loc l), some (.int n), some st, some (.loc M.length), x4, x5, x6, x7, x8, x9, x10, x11] (M ++ [some (rws false n n A)]) =
    .nx [some (.loc l), some (.int n), some st, some (.loc M.length), y4, y5, y6, y7, y8, y9, y10, y11] (M1 ++ [some (rws false n n A')]) := by
  obtain ⟨τ', M', e, M1, A', y4, y5, y6, y7, y8, y9, y10, y11, s1, hA', rfl, rfl⟩ := forL_range (g := mName 4) (lo := 0) (n := n) (b := ltB1)
    (R := fun k τ M' => ∃ M1 A' x4 x5 x6 x7 x8 x9 x10 x11, PStep l M M1 ∧ SP n A' ∧ τ = [some (.loc l), some (.int n), some st, some (.loc M.length), x4, x5, x6, x7, x8, x9, x10, x11] ∧ M' = M1 ++ [some (rws false n n A')])
    (fun k τ M' hk hR => by
      obtain ⟨M1, A', y4, y5, y6, y7, y8, y9, y10, y11, s1, hA', rfl, rfl⟩ := hR
      have hp1 := hp.step s1
      obtain ⟨i, M2, e1, hi0, hi1, s2⟩ := take_app (n := 2) (o := [some (rws false n n A')]) hp1 (by decide) (by decide)
      have hM2 : M.length = M2.length := (s2.len.trans s1.len).symm
      have hsq := seqOf_at (M := M2) (ds := rws false n n A') (o := []) hM2
      have hma := memAt_len (M := M2) (o := some (rws false n n A')) hM2
      have hst := fun o' => set_at (M := M2) (o := some (rws false n n A')) (o' := o') hM2
      have er : atI (rws false n n A') (k : Int) = some (.lst (vec n (A' k))) := atI_rws (c := false) A' hk
      refine ⟨[some (.loc l), some (.int n), some st, some (.loc M.length), some (.int (0 + (k : Int))), y5, y6, y7, y8, y9, y10, y11], M1 ++ [some (rws false n n A')], ?_⟩
      by_cases e : i = 0
      · subst e
        refine ⟨[some (.loc l), some (.int n), some st, some (.loc M.length), some (.int (0 + (k : Int))), y5, y6, y7, y8, y9, y10, y11], M2 ++ [some (rws false n n (ur A' k (fun j => - A' k j)))], rfl, .inl ?_, M2, _, _, y5, y6, y7, y8, y9, y10, y11, s1.trans s2, hA'.neg k, rfl, rfl⟩
        have hh : lcL [] (mName 10) mYes (eUn false oNeg (eVar 10)) (vec n (A' k)) [some (.loc l), some (.int n), some st, some (.loc M.length), some (.int (k : Int)), y5, y6, y7, y8, y9, none, y11] (M2 ++ [some (rws false n n A')]) = .ok (vec n fun j => - A' k j) (M2 ++ [some (rws false n n A')]) :=
          lcV (by simp) fun j hj => ⟨[some (.loc l), some (.int n), some st, some (.loc M.length), some (.int (k : Int)), y5, y6, y7, y8, y9, some (.int (A' k j)), y11], by simp, by simp⟩
        have es := rws_set (c := false) (m := n) (A := A') hk (fun j => - A' k j)
        simp only [sq_f] at es
        simp [e1, hsq, er, le_line' hn, wipeD, hh, hma, hk, hst, es]
      · refine ⟨[some (.loc l), some (.int n), some st, some (.loc M.length), some (.int (0 + (k : Int))), y5, y6, y7, y8, y9, y10, y11], M2 ++ [some (rws false n n A')], rfl, .inl ?_, M2, A', _, y5, y6, y7, y8, y9, y10, y11, s1.trans s2, hA', rfl, rfl⟩
        simp [e1, e])
    (τ := [some (.loc l), some (.int n), some st, some (.loc M.length), x4, x5, x6, x7, x8, x9, x10, x11]) (M := M ++ [some (rws false n n A)])
    ⟨M, A, x4, x5, x6, x7, x8, x9, x10, x11, PStep.refl hp, hA, rfl, rfl⟩
  exact ⟨M1, A', y4, y5, y6, y7, y8, y9, y10, y11, s1, hA', e⟩
theorem turn_steps (h2 : 1 < n) {s : Nat} (hs : s ≤ 64) {L : Nat} (hL : L = M.length) {A : Mat} (hA : SP n A) (x4 x5 x6 x7 x8 x9 x10 x11 : Option D) : ∃ M1 A' y4 y5 y6 y7 y8 y9 y10 y11, PStep l M M1 ∧ UT n s A' ∧
    forL [] (mName 5) ltB2 (rangeD 0 s) [some (.loc l), some (.int n), some st, some (.loc L), x4, x5, x6, x7, x8, x9, x10, x11] (M ++ [some (rws false n n A)]) =
    .nx [some (.loc l), some (.int n), some st, some (.loc L), y4, y5, y6, y7, y8, y9, y10, y11] (M1 ++ [some (rws false n n A')]) := by
  subst hL
  obtain ⟨τ', M', e, M1, A', y4, y5, y6, y7, y8, y9, y10, y11, s1, hA', rfl, rfl⟩ := forL_range (g := mName 5) (lo := 0) (n := s) (b := ltB2)
    (R := fun k τ M' => ∃ M1 A' x4 x5 x6 x7 x8 x9 x10 x11, PStep l M M1 ∧ UT n k A' ∧ τ = [some (.loc l), some (.int n), some st, some (.loc M.length), x4, x5, x6, x7, x8, x9, x10, x11] ∧ M' = M1 ++ [some (rws false n n A')])
    (fun k τ M' hk hR => by
      obtain ⟨M1, A', y4, y5, y6, y7, y8, y9, y10, y11, s1, hA', rfl, rfl⟩ := hR
      have hp1 := hp.step s1
      obtain ⟨i, M2, e1, hi0, hi1, s2⟩ := take_app (n := (n : Int)) (o := [some (rws false n n A')]) hp1 (by omega) (by omega)
      have hp2 := hp1.step s2
      obtain ⟨f, M3, e2, hf0, hf1, s3⟩ := take_app (n := (n : Int) - 1) (o := [some (rws false n n A')]) hp2 (by omega) (by omega)
      have hp3 := hp2.step s3
      obtain ⟨d, M4, e3, hd, s4⟩ := pick_app (ds := [.int 1, .int (-1), .int 2, .int (-2)]) (o := [some (rws false n n A')]) hp3 (by simp) (by simp)
      have hM4 : M.length = M4.length := (s4.len.trans (s3.len.trans (s2.len.trans s1.len))).symm
      obtain ⟨t, rfl, ht⟩ : ∃ t : Int, d = .int t ∧ t.natAbs ≤ 2 := by
        simp at hd
        rcases hd with rfl | rfl | rfl | rfl
        · exact ⟨1, rfl, by decide⟩
        · exact ⟨-1, rfl, by decide⟩
        · exact ⟨2, rfl, by decide⟩
        · exact ⟨-2, rfl, by decide⟩
      obtain ⟨r, rfl⟩ : ∃ r : Nat, i = r := ⟨i.toNat, by omega⟩
      have hr : r < n := by omega
      have ho : ∃ o : Nat, ((r : Int) + (1 + f)).fmod (n : Int) = o ∧ o < n ∧ r ≠ o := by
        have hn0 : (0 : Int) < n := by omega
        rw [fmod_pos (by omega)]
        refine ⟨(((r : Int) + (1 + f)) % n).toNat, ?_, ?_, ?_⟩
        · have := Int.emod_nonneg ((r : Int) + (1 + f)) (show (n : Int) ≠ 0 by omega)
          omega
        · have := Int.emod_lt_of_pos ((r : Int) + (1 + f)) hn0
          have := Int.emod_nonneg ((r : Int) + (1 + f)) (show (n : Int) ≠ 0 by omega)
          omega
        · by_cases z : (r : Int) + (1 + f) < n
          · rw [Int.emod_eq_of_lt (by omega) z]; omega
          · have : ((r : Int) + (1 + f)) % n = (r : Int) + (1 + f) - n := by
              rw [← Int.sub_emod_right, Int.emod_eq_of_lt (by omega) (by omega)]
            rw [this]; omega
      obtain ⟨o, ho1, ho2, ho3⟩ := ho
      have hsq := seqOf_at (M := M4) (ds := rws false n n A') (o := []) hM4
      have hma := memAt_len (M := M4) (o := some (rws false n n A')) hM4
      have hst := fun o' => set_at (M := M4) (o := some (rws false n n A')) (o' := o') hM4
      have er : atI (rws false n n A') (r : Int) = some (.lst (vec n (A' r))) := atI_rws (c := false) A' hr
      have eo : atI (rws false n n A') (o : Int) = some (.lst (vec n (A' o))) := atI_rws (c := false) A' ho2
      have hn0 : ¬ n = 0 := by omega
      have hl : n < 4611686018427387904 := by omega
      have hh : lcL [] (mName 11) mYes (eBin false oAdd (eBin false oIx (eBin false oIx (eVar 3) (eVar 6)) (eVar 11)) (eBin false oMul (eVar 9) (eBin false oIx (eBin false oIx (eVar 3) (eVar 8)) (eVar 11)))) (rangeD 0 n)
          [some (.loc l), some (.int n), some st, some (.loc M.length), y4, some (.int (0 + (k : Int))), some (.int (r : Int)), some (.int (1 + f)), some (.int (o : Int)), some (.int t), y10, none] (M4 ++ [some (rws false n n A')]) = .ok (vec n fun j => A' r j + t * A' o j) (M4 ++ [some (rws false n n A')]) :=
        lcRg fun j hj => ⟨[some (.loc l), some (.int n), some st, some (.loc M.length), y4, some (.int (0 + (k : Int))), some (.int (r : Int)), some (.int (1 + f)), some (.int (o : Int)), some (.int t), y10, some (.int (j : Int))], by simp, by
          have hc : CMulG t (A' o j) := cmul_l (by omega)
          simp [hsq, er, eo, atI_vec _ hj, hc]⟩
      have es := rws_set (c := false) (m := n) (A := A') hr (fun j => A' r j + t * A' o j)
      simp only [sq_f] at es
      have t1 : sAsg (eArgs false oTup (aCons (eCall 2 (Sh.c__law_take 2) (aCons (eVar 0) (aCons (eVar 1) aNil))) (aCons (eBin false oAdd (eC (.int 1)) (eCall 2 (Sh.c__law_take 2) (aCons (eVar 0) (aCons (eBin false oSub (eVar 1) (eC (.int 1))) aNil)))) aNil))) (mTup 2 (mCons (mName 6) (mCons (mName 7) mNil)))
          [some (.loc l), some (.int n), some st, some (.loc M.length), y4, some (.int (0 + (k : Int))), y6, y7, y8, y9, y10, y11] (M1 ++ [some (rws false n n A')]) =
          .nx [some (.loc l), some (.int n), some st, some (.loc M.length), y4, some (.int (0 + (k : Int))), some (.int (r : Int)), some (.int (1 + f)), y8, y9, y10, y11] (M3 ++ [some (rws false n n A')]) := by
        simp [e1, e2]
      have t2 : sAsg (eArgs false oTup (aCons (eBin false oMod (eArgs false oInt (aCons (eBin false oAdd (eVar 6) (eVar 7)) aNil)) (eVar 1)) (aCons (eCall 2 (Sh.c__law_pick) (aCons (eVar 0) (aCons (eArgs false oLst (aCons (eC (.int 1)) (aCons (eUn false oNeg (eC (.int 1))) (aCons (eC (.int 2)) (aCons (eUn false oNeg (eC (.int 2))) aNil))))) aNil))) aNil))) (mTup 2 (mCons (mName 8) (mCons (mName 9) mNil)))
          [some (.loc l), some (.int n), some st, some (.loc M.length), y4, some (.int (0 + (k : Int))), some (.int (r : Int)), some (.int (1 + f)), y8, y9, y10, y11] (M3 ++ [some (rws false n n A')]) =
          .nx [some (.loc l), some (.int n), some st, some (.loc M.length), y4, some (.int (0 + (k : Int))), some (.int (r : Int)), some (.int (1 + f)), some (.int (o : Int)), some (.int t), y10, y11] (M4 ++ [some (rws false n n A')]) := by
        simp [hn0, ho1, e3]
      have t3 : sAsg (eLc false (iRange1 (aCons (eVar 1) aNil)) (mName 11) mYes (eBin false oAdd (eBin false oIx (eBin false oIx (eVar 3) (eVar 6)) (eVar 11)) (eBin false oMul (eVar 9) (eBin false oIx (eBin false oIx (eVar 3) (eVar 8)) (eVar 11)))) [11]) (mSub (eVar 3) (eVar 6))
          [some (.loc l), some (.int n), some st, some (.loc M.length), y4, some (.int (0 + (k : Int))), some (.int (r : Int)), some (.int (1 + f)), some (.int (o : Int)), some (.int t), y10, y11] (M4 ++ [some (rws false n n A')]) =
          .nx [some (.loc l), some (.int n), some st, some (.loc M.length), y4, some (.int (0 + (k : Int))), some (.int (r : Int)), some (.int (1 + f)), some (.int (o : Int)), some (.int t), y10, y11] (M4 ++ [some (rws false n n (ur A' r (fun j => A' r j + t * A' o j)))]) := by
        simp [hl, le_line' hn, wipeD]
        simp at hh
        simp [hh, hma, hr, hst, es]
      refine ⟨[some (.loc l), some (.int n), some st, some (.loc M.length), y4, some (.int (0 + (k : Int))), y6, y7, y8, y9, y10, y11], _, [some (.loc l), some (.int n), some st, some (.loc M.length), y4, some (.int (0 + (k : Int))), some (.int (r : Int)), some (.int (1 + f)), some (.int (o : Int)), some (.int t), y10, y11], M4 ++ [some (rws false n n (ur A' r (fun j => A' r j + t * A' o j)))], rfl, .inl ?_, M4, _, _, _, _, _, _, _, _, _, s1.trans (s2.trans (s3.trans s4)), hA'.step hr ho2 ho3 ht, rfl, rfl⟩
      exact (seq_nx t1).trans ((seq_nx t2).trans t3))
    (τ := [some (.loc l), some (.int n), some st, some (.loc M.length), x4, x5, x6, x7, x8, x9, x10, x11]) (M := M ++ [some (rws false n n A)])
    ⟨M, A, x4, x5, x6, x7, x8, x9, x10, x11, PStep.refl hp, hA.ut, rfl, rfl⟩
  exact ⟨M1, A', y4, y5, y6, y7, y8, y9, y10, y11, s1, hA', e⟩
end

theorem rowsAt_loc {M : Mem} {k n m : Nat} {c : Bool} {A : Mat} (h : memAt M k = some (rws c n m A)) : RowsAt M (.loc k) (gr n m A) := by
  refine ⟨_, .inr ⟨k, rfl, h⟩, ?_⟩
  have : rws c n m A = (gr n m A).map (sqD c) := by unfold gr rws; rw [List.map_map]; rfl
  rw [this]
  exact paired_sq M c _
theorem turn_spec {l n s : Nat} {M : Mem} (hp : PoolAt l M) (h1 : 1 ≤ n) (hn : n ≤ 64) (hs : s ≤ 64) : ∃ T M', c__law_turn [.loc l, .int n, .int s] M = .ok (tab true true n n T) M' ∧ UT n s T ∧ PStep l M M' := by
  obtain ⟨σ, M1, e1, hσ, s1⟩ := order_spec hp hn
  have hp1 := hp.step s1
  obtain ⟨M2, A2, x4, x5, x6, x7, x8, x9, x10, x11, s2, hA2, e2⟩ := turn_signs hp1 hn (.int s) (SP.perm hσ (A := fun i j => one (σ i) j) fun _ _ _ _ => rfl) none none none none none none none none
  have hp2 := hp1.step s2
  have hL : M1.length = M2.length := s2.len.symm
  have hl : n < 4611686018427387904 := by omega
  have hsl : s < 4611686018427387904 := by omega
  have hun := lawUnit_spec hn M1
  have hsu : seqOf (tab true true n n one) M1 = some { xs := rws true n n one } := seqOf_sq _ _ _
  have step3 : ∃ M3 A3 y4 y5 y6 y7 y8 y9 y10 y11, PStep l M2 M3 ∧ UT n s A3 ∧ sFor (iRange1 (aCons (eIf (asB (eBin false oGt (eVar 1) (eC (.int 1)))) (eVar 2) (eC (.int 0))) aNil)) (mName 5) ltB2 [some (.loc l), some (.int n), some (.int s), some (.loc M1.length), x4, x5, x6, x7, x8, x9, x10, x11] (M2 ++ [some (rws false n n A2)]) =
      .nx [some (.loc l), some (.int n), some (.int s), some (.loc M1.length), y4, y5, y6, y7, y8, y9, y10, y11] (M3 ++ [some (rws false n n A3)]) := by
    by_cases h2 : 1 < n
    · obtain ⟨M3, A3, y4, y5, y6, y7, y8, y9, y10, y11, s3, hA3, e3⟩ := turn_steps hp2 hn (.int s) h2 hs hL hA2 x4 x5 x6 x7 x8 x9 x10 x11
      refine ⟨M3, A3, y4, y5, y6, y7, y8, y9, y10, y11, s3, hA3, ?_⟩
      have q : (1 : Int) < n := by omega
      refine Eq.trans ?_ e3
      simp only [sFor, iRange1_eq, aCons, aNil, eIf, asB, eBin, eVar, eC, oGt_ii, fin_v, q, decide_true, List.getElem?_cons_zero, List.getElem?_cons_succ, R.bind_ok, if_true, rngOk_n hsl, Int.toNat_natCast, andS_ok]
    · have : n = 1 := by omega
      refine ⟨M2, A2, x4, x5, x6, x7, x8, x9, x10, x11, PStep.refl hp2, hA2.ut.mono (by omega) (fun _ => rfl), ?_⟩
      subst this
      simp [rangeD_0, forL]
  obtain ⟨M3, A3, y4, y5, y6, y7, y8, y9, y10, y11, s3, hA3, e3⟩ := step3
  have sAll := s1.trans (s2.trans s3)
  have hL3 : M1.length = M3.length := (s3.len.trans s2.len).symm
  refine ⟨A3, M3, ?_, hA3, sAll⟩
  have c0 : sSet 3 (eLc true (iSeq (eCall 2 (Sh2.c__law_order) (aCons (eVar 0) (aCons (eVar 1) aNil)))) (mName 4) mYes (eArgs false oList (aCons (eBin false oIx (eCall 1 (Sh2.c__law_unit) (aCons (eVar 1) aNil)) (eVar 4)) aNil)) [4])
      (startD N__law_turn [.loc l, .int n, .int s]) M = .nx [some (.loc l), some (.int n), some (.int s), some (.loc M1.length), none, none, none, none, none, none, none, none] (M1 ++ [some (rws false n n fun i j => one (σ i) j)]) := by
    have hh : lcL [] (mName 4) mYes (eArgs false oList (aCons (eBin false oIx (eCall 1 (Sh2.c__law_unit) (aCons (eVar 1) aNil)) (eVar 4)) aNil)) ((List.range n).map fun i => .int ((σ i : Nat) : Int))
        [some (.loc l), some (.int n), some (.int s), none, none, none, none, none, none, none, none, none] M1 = .ok (rws false n n fun i j => one (σ i) j) M1 :=
      lcR (by simp) fun i hi => ⟨[some (.loc l), some (.int n), some (.int s), none, some (.int ((σ i : Nat) : Int)), none, none, none, none, none, none, none], by simp, by
        have er := atI_rws (c := true) (m := n) one (hσ.lt i hi)
        simp [hun, hsu, er]⟩
    simp [startD, e1, le_line' hn, wipeD, hh]
  have ht := tuples_rows (rowsAt_loc (M := M3 ++ [some (rws false n n A3)]) (k := M1.length) (c := false) (A := A3) (memAt_len hL3)) (by simp [gr]; exact hn)
  rw [sqs_gr] at ht
  have f2 : sFor (iRange1 (aCons (eVar 1) aNil)) (mName 4) ltB1 [some (.loc l), some (.int n), some (.int s), some (.loc M1.length), none, none, none, none, none, none, none, none] (M1 ++ [some (rws false n n fun i j => one (σ i) j)]) =
      .nx [some (.loc l), some (.int n), some (.int s), some (.loc M1.length), x4, x5, x6, x7, x8, x9, x10, x11] (M2 ++ [some (rws false n n A2)]) := by
    refine Eq.trans ?_ e2
    simp only [sFor, iRange1_eq, aCons, aNil, eVar, List.getElem?_cons_zero, List.getElem?_cons_succ, R.bind_ok, if_true, rngOk_n hl, Int.toNat_natCast, andS_ok]
  unfold c__law_turn m__law_turn
  rw [seq_nx c0]
  refine (congrArg (endT M) (seq_nx f2)).trans ?_
  refine (congrArg (endT M) (seq_nx e3)).trans ?_
  have : sRet (eCall 1 (Sh2.c__law_tuples) (aCons (eVar 3) aNil)) [some (.loc l), some (.int n), some (.int s), some (.loc M1.length), y4, y5, y6, y7, y8, y9, y10, y11] (M3 ++ [some (rws false n n A3)]) = .rt (tab true true n n A3) (M3 ++ [some (rws false n n A3)]) := by
    simp [ht]
  rw [this]
  exact trunc_step hp sAll (fz_clo (clo_tab _ _ _ _ _ _))
/-! skewed forms -/
theorem maxL_le {x : Int} {xs : List Int} (B : Int) : ∃ m, maxL (x :: xs) = some m ∧ (m ≤ B ↔ ∀ y ∈ x :: xs, y ≤ B) := by
  obtain ⟨h1, h2, h3⟩ := foldl_max_spec xs x
  refine ⟨_, rfl, fun h y hy => ?_, fun h => ?_⟩
  · rcases List.mem_cons.mp hy with e | e
    · subst e; omega
    · have := h3 y e; omega
  · rcases h1 with e | e
    · rw [e]; exact h x List.mem_cons_self
    · exact h _ (List.mem_cons_of_mem _ e)
theorem maxL_range {n : Nat} (h0 : 0 < n) (f : Nat → Int) : ∃ m, maxL ((List.range n).map f) = some m ∧ ∀ B, m ≤ B ↔ ∀ i, i < n → f i ≤ B := by
  obtain ⟨k, rfl⟩ : ∃ k, n = k + 1 := ⟨n - 1, by omega⟩
  have e : (List.range (k + 1)).map f = f 0 :: ((List.range k).map Nat.succ).map f := by rw [List.range_succ_eq_map, List.map_cons]
  rw [e]
  refine ⟨_, rfl, fun B => ?_⟩
  obtain ⟨m, e1, e2⟩ := maxL_le (x := f 0) (xs := ((List.range k).map Nat.succ).map f) B
  cases e1
  rw [e2]
  constructor
  · intro h i hi
    refine h _ ?_
    rw [← e]
    exact List.mem_map.mpr ⟨i, by simpa using hi, rfl⟩
  · intro h y hy
    rw [← e] at hy
    obtain ⟨i, hi, rfl⟩ := List.mem_map.mp hy
    exact h i (by simpa using hi)
theorem oMaxL_ints {f : Nat → Int} {n : Nat} (M : Mem) : oMaxL [.lst ((List.range n).map fun i => .int (f i))] M = ((maxL ((List.range n).map f)).map .int).map .v := by
  have e : ((List.range n).map fun i => D.int (f i)) = ((List.range n).map f).map D.int := by simp
  show ((lstOf (.lst ((List.range n).map fun i => .int (f i))) M).bind fun it => (intsOf it.xs).bind fun is => ((maxL is).map D.int).map ON.v) = _
  rw [e]
  simp only [lstOf_lst, Option.bind_some, intsOf_map]
/-- the greatest number of a table -/
theorem max_tab {b c : Bool} {n : Nat} {A : Mat} (h0 : 0 < n) (hn : n ≤ 64) {i j : Nat} {τ : DSt} {M : Mem} {ro : EM} (hij : i < τ.length) (hjj : j < τ.length) (hne : i ≠ j) (hr : ro τ M = .ok (tab b c n n A) M) : ∃ m : Int,
    eArgs false oMaxL (aCons (eLc false (iSeq ro) (mName i) mYes (eArgs false oMaxL (aCons (eLc false (iSeq (eVar i)) (mName j) mYes (eArgs false oAbs (aCons (eVar j) aNil)) [j]) aNil)) [i]) aNil) τ M = .ok (.int m) M ∧ ∀ B : Int, m ≤ B ↔ ∀ i, i < n → ∀ j, j < n → ((A i j).natAbs : Int) ≤ B := by
  have hrow : ∀ k, k < n → ∃ mk, maxL ((List.range n).map fun j => ((A k j).natAbs : Int)) = some mk ∧ ∀ B, mk ≤ B ↔ ∀ j, j < n → ((A k j).natAbs : Int) ≤ B := fun k _ => maxL_range h0 _
  have hm : ∃ mk : Nat → Int, ∀ k, k < n → maxL ((List.range n).map fun j => ((A k j).natAbs : Int)) = some (mk k) ∧ ∀ B, mk k ≤ B ↔ ∀ j, j < n → ((A k j).natAbs : Int) ≤ B :=
    ⟨fun k => if h : k < n then (hrow k h).choose else 0, fun k hk => by simp only [dif_pos hk]; exact (hrow k hk).choose_spec⟩
  obtain ⟨mk, hmk⟩ := hm
  obtain ⟨m, e1, e2⟩ := maxL_range h0 mk
  refine ⟨m, ?_, fun B => ?_⟩
  · have hs : seqOf (tab b c n n A) M = some { xs := rws c n n A } := seqOf_sq _ _ _
    have hw : ∀ v : D, (wipeD τ [i])[i]? = some none ∧ True := fun _ => by simp [wipeD, hij]
    have hh : lcL [] (mName i) mYes (eArgs false oMaxL (aCons (eLc false (iSeq (eVar i)) (mName j) mYes (eArgs false oAbs (aCons (eVar j) aNil)) [j]) aNil)) (rws c n n A) (wipeD τ [i]) M = .ok ((List.range n).map fun k => .int (mk k)) M :=
      lcRw (by simp) fun k hk => ⟨(wipeD τ [i]).set i (some (sqD c (vec n (A k)))), rfl, by
        have g1 : ((wipeD τ [i]).set i (some (sqD c (vec n (A k)))))[i]? = some (some (sqD c (vec n (A k)))) := by simp [wipeD, hij]
        have h2 : lcL [] (mName j) mYes (eArgs false oAbs (aCons (eVar j) aNil)) (vec n (A k)) (wipeD ((wipeD τ [i]).set i (some (sqD c (vec n (A k))))) [j]) M = .ok ((List.range n).map fun t => .int ((A k t).natAbs : Int)) M :=
          lcV (by simp) fun t ht => ⟨(wipeD ((wipeD τ [i]).set i (some (sqD c (vec n (A k))))) [j]).set j (some (.int (A k t))), rfl, by
            have g2 : ((wipeD ((wipeD τ [i]).set i (some (sqD c (vec n (A k))))) [j]).set j (some (.int (A k t))))[j]? = some (some (.int (A k t))) := by simp [wipeD, hjj]
            have q : (if A k t < 0 then - A k t else A k t) = ((A k t).natAbs : Int) := by split <;> omega
            simp only [eArgs, aCons, aNil, eVar, g2, R.bind_ok, oAbs_1, fin_v, q]⟩
        simp only [eArgs, aCons, aNil, eLc, iSeq, eVar, g1, R.bind_ok, seqOf_sq, vec_len, le_line' hn, if_true, h2, List.length_map, List.length_range, fin_lf, oMaxL_ints, (hmk k hk).1, Option.map_some, fin_v]⟩
    simp only [eArgs, aCons, aNil, eLc, iSeq, hr, R.bind_ok, hs, rws_len, le_line' hn, if_true, hh, List.length_map, List.length_range, fin_lf, oMaxL_ints, e1, Option.map_some, fin_v]
  · rw [e2]
    exact ⟨fun h k hk => ((hmk k hk).2 B).mp (h k hk), fun h k hk => ((hmk k hk).2 B).mpr (h k hk)⟩
end Sh2

/-! forms of any signs, skewed -/
namespace Sh2
open PySem PySem.Spec PyProof.Rows L2 DM LA Sh
theorem three_le {s : Nat} (h : s ≤ 64) : 3 ^ s ≤ 2 ^ 128 := by
  calc 3 ^ s ≤ 4 ^ s := Nat.pow_le_pow_left (by decide) s
    _ = 2 ^ (2 * s) := by rw [show (4 : Nat) = 2 ^ 2 from rfl, ← Nat.pow_mul]
    _ ≤ 2 ^ 128 := Nat.pow_le_pow_right (by decide) (by omega)
theorem sm_le_pow {x : Int} {k : Nat} (h : x.natAbs ≤ 2 ^ k) (hk : k < 8000) : Sm x := Sm.of (k := k + 1) (Nat.lt_of_le_of_lt h (Nat.pow_lt_pow_right (by decide) (by omega))) (by omega) (by omega)
theorem lawMv {b c b' c' : Bool} {n s : Nat} {T F : Mat} (hn : n ≤ 64) (hs : s ≤ 64) (hT : ∀ i, i < n → ∀ j, j < n → (T i j).natAbs ≤ 3 ^ s) (hF : ∀ i, i < n → ∀ j, j < n → (F i j).natAbs ≤ 2 ^ 100) (M : Mem) : c__law_moved [tab b c n n T, tab b' c' n n F] M = .ok (tab true true n n (mv n T F)) M := by
  have hT' : ∀ i, i < n → ∀ j, j < n → (T i j).natAbs ≤ 2 ^ 128 := fun i hi j hj => Nat.le_trans (hT i hi j hj) (three_le hs)
  refine lawMoved_spec hn (fun i hi j hj => sm_le_pow (hT' i hi j hj) (by decide)) (fun i hi j hj => sm_le_pow (hF i hi j hj) (by decide)) (fun i hi j hj => ?_) M
  have := mul_le hT' (B := tr F) (fun i hi j hj => hF j hj i hi) i hi j hj
  refine sm_le_pow (k := 234) (Nat.le_trans this ?_) (by decide)
  calc n * (2 ^ 128 * 2 ^ 100) ≤ 2 ^ 6 * (2 ^ 128 * 2 ^ 100) := Nat.mul_le_mul_right _ hn
    _ = 2 ^ 234 := by rw [← Nat.pow_add, ← Nat.pow_add]
theorem asB_le {x y : EM} {τ : DSt} {M : Mem} {m b : Int} (hx : x τ M = .ok (.int m) M) (hy : y τ M = .ok (.int b) M) : asB (eBin false oLe x y) τ M = .ok (decide (m ≤ b)) M := by
  simp only [asB, eBin, hx, hy, R.bind_ok, oLe_ii, fin_v]
theorem sIf_t {t : TM} {a b : SM} {τ : DSt} {M M' : Mem} (h : t τ M = .ok true M') : sIf t a b τ M = a τ M' := by simp only [sIf, h, andS_ok, if_true]
theorem sIf_f {t : TM} {a b : SM} {τ : DSt} {M M' : Mem} (h : t τ M = .ok false M') : sIf t a b τ M = b τ M' := by
  simp only [sIf, h, andS_ok]
  rfl
noncomputable abbrev skB : SM := (sSeq (sSet 6 (eCall 2 (Sh2.c__law_moved) (aCons (eVar 4) (aCons (eVar 1) aNil)))) (sSeq (sIf (asB (eBin false oLe (eArgs false oMaxL (aCons (eLc false (iSeq (eVar 6)) (mName 7) mYes (eArgs false oMaxL (aCons (eLc false (iSeq (eVar 7)) (mName 8) mYes (eArgs false oAbs (aCons (eVar 8) aNil)) [8]) aNil)) [7]) aNil)) (eVar 3))) (sRet (eArgs false oTup (aCons (eVar 6) (aCons (eVar 4) aNil)))) sNil) (sSet 4 (eCall 3 (Sh2.c__law_turn) (aCons (eVar 0) (aCons (eArgs false oLen (aCons (eVar 1) aNil)) (aCons (eArgs false oMax2 (aCons (eC (.int 0)) (aCons (eBin false oSub (eBin false oSub (eVar 2) (eVar 5)) (eC (.int 1))) aNil))) aNil)))))))
theorem skewed_spec {l n s : Nat} {bound : Int} {F : Mat} {M : Mem} (hp : PoolAt l M) (h1 : 1 ≤ n) (hn : n ≤ 64) (hs : s ≤ 64) (hF : ∀ i, i < n → ∀ j, j < n → (F i j).natAbs ≤ 2 ^ 100) :
    ∃ T M', c__law_skewed [.loc l, tab true true n n F, .int s, .int bound] M = .ok (.tup [tab true true n n (mv n T F), tab true true n n T]) M' ∧ det n T * det n T = 1 ∧ ((∀ i, i < n → ∀ j, j < n → ((mv n T F i j).natAbs : Int) ≤ bound) ∨ SP n T) ∧ PStep l M M' := by
  have hsF : ∀ M, seqOf (tab true true n n F) M = some { xs := rws true n n F } := fun M => seqOf_sq _ _ _
  obtain ⟨T0, M0, e0, u0, s0⟩ := turn_spec hp h1 hn hs
  have main := forL_retR (g := mName 5) (n := s + 1) (b := skB) (τ := [some (.loc l), some (tab true true n n F), some (.int s), some (.int bound), some (tab true true n n T0), none, none, none, none]) (M := M0)
    (R := fun k τ M' => ∃ T x5 x6 x7 x8, PStep l M M' ∧ UT n (s - k) T ∧ τ = [some (.loc l), some (tab true true n n F), some (.int s), some (.int bound), some (tab true true n n T), x5, x6, x7, x8])
    (Q := fun d M' => ∃ T, d = .tup [tab true true n n (mv n T F), tab true true n n T] ∧ det n T * det n T = 1 ∧ (∀ i, i < n → ∀ j, j < n → ((mv n T F i j).natAbs : Int) ≤ bound) ∧ PStep l M M')
    (fun k τ M' hk hR => by
      obtain ⟨T, x5, x6, x7, x8, s1, hT, rfl⟩ := hR
      have hp1 := hp.step s1
      have em := lawMv (b := true) (c := true) (b' := true) (c' := true) hn (show s - k ≤ 64 by omega) hT.le hF M'
      obtain ⟨m, e1, e2⟩ := max_tab (b := true) (c := true) (A := mv n T F) (i := 7) (j := 8) (ro := eVar 6) (τ := [some (.loc l), some (tab true true n n F), some (.int s), some (.int bound), some (tab true true n n T), some (.int (k : Int)), some (tab true true n n (mv n T F)), x7, x8]) (M := M') h1 hn (by simp) (by simp) (by decide) (by simp)
      refine ⟨[some (.loc l), some (tab true true n n F), some (.int s), some (.int bound), some (tab true true n n T), some (.int (k : Int)), x6, x7, x8], M', rfl, ?_⟩
      have q1 : sSet 6 (eCall 2 (Sh2.c__law_moved) (aCons (eVar 4) (aCons (eVar 1) aNil))) [some (.loc l), some (tab true true n n F), some (.int s), some (.int bound), some (tab true true n n T), some (.int (k : Int)), x6, x7, x8] M' =
          .nx [some (.loc l), some (tab true true n n F), some (.int s), some (.int bound), some (tab true true n n T), some (.int (k : Int)), some (tab true true n n (mv n T F)), x7, x8] M' := by simp [em]
      by_cases hb : m ≤ bound
      · refine .inr ⟨_, M', (seq_nx q1).trans (seq_rt (d := .tup [tab true true n n (mv n T F), tab true true n n T]) (M' := M') ?_), T, rfl, hT.det, (e2 bound).mp hb, s1⟩
        refine (sIf_t ((asB_le (b := bound) e1 (by simp)).trans (by rw [decide_eq_true hb]))).trans ?_
        simp
      · have hm : (if (s : Int) - (k : Int) - 1 > 0 then (s : Int) - (k : Int) - 1 else 0) = ((s - (k + 1) : Nat) : Int) := by split <;> omega
        obtain ⟨T2, M2, e3, u2, s2⟩ := turn_spec hp1 h1 hn (show s - (k + 1) ≤ 64 by omega)
        refine .inl ⟨[some (.loc l), some (tab true true n n F), some (.int s), some (.int bound), some (tab true true n n T2), some (.int (k : Int)), some (tab true true n n (mv n T F)), x7, x8], M2, .inl ((seq_nx q1).trans ((seq_nx (τ' := [some (.loc l), some (tab true true n n F), some (.int s), some (.int bound), some (tab true true n n T), some (.int (k : Int)), some (tab true true n n (mv n T F)), x7, x8]) (M' := M') ?_).trans ?_)), T2, _, _, _, _, s1.trans s2, u2, rfl⟩
        · exact (sIf_f ((asB_le (b := bound) e1 (by simp)).trans (by rw [decide_eq_false hb]))).trans rfl
        · simp only [sSet, eCall, aCons, aNil, eVar, eC, eArgs, eBin, oSub_ii, oMax2_1, oLen_1, hsF, fin_v, R.bind_ok, List.getElem?_cons_zero, List.getElem?_cons_succ, Option.map_some, rws_len, hm, List.length_cons, List.length_nil, if_true, e3, andS_ok, List.set_cons_succ, List.set_cons_zero])
    ⟨T0, none, none, none, none, s0, u0, rfl⟩
  have q0 : sSet 4 (eCall 3 (Sh2.c__law_turn) (aCons (eVar 0) (aCons (eArgs false oLen (aCons (eVar 1) aNil)) (aCons (eVar 2) aNil)))) (startD N__law_skewed [.loc l, tab true true n n F, .int s, .int bound]) M =
      .nx [some (.loc l), some (tab true true n n F), some (.int s), some (.int bound), some (tab true true n n T0), none, none, none, none] M0 := by
    simp [startD, hsF, e0]
  have hl : s + 1 < 4611686018427387904 := by omega
  have hrn : rngOk ((s : Int) + 1) := rngOk_nat (n := s + 1) (by omega)
  have htn : ((s : Int) + 1).toNat = s + 1 := by omega
  have q1 : sFor (iRange1 (aCons (eBin false oAdd (eVar 2) (eC (.int 1))) aNil)) (mName 5) skB [some (.loc l), some (tab true true n n F), some (.int s), some (.int bound), some (tab true true n n T0), none, none, none, none] M0 =
      forL [] (mName 5) skB (rangeD 0 (s + 1)) [some (.loc l), some (tab true true n n F), some (.int s), some (.int bound), some (tab true true n n T0), none, none, none, none] M0 := by
    simp only [sFor, iRange1_eq, aCons, aNil, eBin, eVar, eC, oAdd_ii, fin_v, List.getElem?_cons_zero, List.getElem?_cons_succ, R.bind_ok, hrn, if_true, htn, andS_ok]
  unfold c__law_skewed m__law_skewed
  rcases main with ⟨τ', M', e, T, x5, x6, x7, x8, s1, hT, rfl⟩ | ⟨d, M', e, T, rfl, hT, hb, s1⟩
  · have em := lawMv (b := true) (c := true) (b' := true) (c' := true) hn (show s - (s + 1) ≤ 64 by omega) hT.le hF M'
    refine ⟨T, M', ?_, hT.det, .inr (hT.sp (by omega)), s1⟩
    rw [seq_nx q0, seq_nx (q1.trans e)]
    simp [em]
  · refine ⟨T, M', ?_, hT, .inl hb, s1⟩
    rw [seq_nx q0, seq_rt (q1.trans e)]
    rfl
end Sh2

/-! forms of any signs -/
namespace Sh2
open PySem PySem.Spec PyProof.Rows L2 DM LA Sh
/-- a loop that may be left by break -/
theorem forL_bk {g : GM} {b : SM} {n : Nat} {R : Nat → DSt → Mem → Prop} {F : DSt → Mem → Prop}
    (h : ∀ i τ M, i < n → R i τ M → ∃ τ1 M1, g (.int (i : Int)) τ M = .ok τ1 M1 ∧ ((∃ τ' M', b τ1 M1 = .nx τ' M' ∧ R (i + 1) τ' M') ∨ ∃ τ' M', b τ1 M1 = .bk τ' M' ∧ F τ' M'))
    {τ : DSt} {M : Mem} (hr : R 0 τ M) : ∃ τ' M', forL [] g b (rangeD 0 n) τ M = .nx τ' M' ∧ (R n τ' M' ∨ F τ' M') := by
  have go : ∀ k i, i + k = n → ∀ τ M, R i τ M → ∃ τ' M', forL [] g b ((List.range' i k).map fun (i : Nat) => D.int (i : Int)) τ M = .nx τ' M' ∧ (R n τ' M' ∨ F τ' M') := by
    intro k
    induction k with
    | zero => intro i e τ M hr; have e : i = n := by omega
              subst e; exact ⟨τ, M, by simp [forL], .inl hr⟩
    | succ k ih =>
      intro i e τ M hr
      obtain ⟨τ1, M1, e1, e2⟩ := h i τ M (by omega) hr
      rw [List.range'_succ, List.map_cons]
      unfold forL
      rw [if_pos (by simp)]
      simp only [e1]
      rcases e2 with ⟨τ', M', e2, hr'⟩ | ⟨τ', M', e2, hq⟩
      · simp only [e2]
        exact ih (i + 1) (by omega) τ' M' hr'
      · simp only [e2]
        exact ⟨τ', M', rfl, .inr hq⟩
  rw [rangeD_0, List.range_eq_range']
  exact go n 0 (by omega) τ M hr
structure Blk (h : Nat) (B : Mat) : Prop where
  sym : ∀ i, i < h → ∀ j, j < h → B i j = B j i
  le : ∀ i, i < h → ∀ j, j < h → (B i j).natAbs ≤ 14641
theorem Blk.bd {n m : Nat} {A B : Mat} (hA : Blk n A) (hB : Blk m B) : Blk (n + m) (bd n A B) := by
  refine ⟨fun i hi j hj => ?_, fun i hi j hj => ?_⟩
  · unfold Sh2.bd
    by_cases h1 : i < n
    · by_cases h2 : j < n
      · simp only [h1, h2, if_true]; exact hA.sym i h1 j h2
      · simp only [h1, h2, if_true, if_false]
    · by_cases h2 : j < n
      · simp only [h1, h2, if_true, if_false]
      · simp only [h1, h2, if_false]; exact hB.sym _ (by omega) _ (by omega)
  · unfold Sh2.bd
    by_cases h1 : i < n
    · by_cases h2 : j < n
      · simp only [h1, h2, if_true]; exact hA.le i h1 j h2
      · simp only [h1, h2, if_true, if_false]; decide
    · by_cases h2 : j < n
      · simp only [h1, h2, if_true, if_false]; decide
      · simp only [h1, h2, if_false]; exact hB.le _ (by omega) _ (by omega)
theorem Blk.one (n : Nat) : Blk n one := ⟨fun i _ j _ => by
  unfold LA.one
  by_cases e : i = j
  · subst e; rfl
  · rw [if_neg e, if_neg (Ne.symm e)], fun i _ j _ => by unfold LA.one; split <;> decide⟩
def blk1 (x : Int) : Mat := fun _ _ => x
def blk2 (x y z : Int) : Mat := fun i j => if i = 0 then (if j = 0 then x else y) else (if j = 0 then y else z)
theorem blk1_tab (x : Int) : D.tup [.tup [.int x]] = tab true true 1 1 (blk1 x) := rfl
theorem blk2_tab (x y z : Int) : D.tup [.tup [.int x, .int y], .tup [.int y, .int z]] = tab true true 2 2 (blk2 x y z) := rfl
theorem blk1_ok {x : Int} (h : x.natAbs ≤ 14641) : Blk 1 (blk1 x) := ⟨fun _ _ _ _ => rfl, fun _ _ _ _ => h⟩
theorem blk2_ok {x y z : Int} (h1 : x.natAbs ≤ 14641) (h2 : y.natAbs ≤ 14641) (h3 : z.natAbs ≤ 14641) : Blk 2 (blk2 x y z) := by
  refine ⟨fun i _ j _ => ?_, fun i _ j _ => ?_⟩
  · unfold blk2
    by_cases a : i = 0 <;> by_cases b : j = 0 <;> simp [a, b]
  · unfold blk2
    split <;> split <;> assumption
/-- numbers picked from a row -/
theorem pick_ints {l : Nat} {M : Mem} {is : List Int} (hp : PoolAt l M) (h0 : is ≠ []) (hn : is.length < 2 ^ 64) : ∃ i M', c__law_pick [.loc l, .lst (is.map .int)] M = .ok (.int i) M' ∧ i ∈ is ∧ PStep l M M' := by
  obtain ⟨d, M', e, hd, s⟩ := pick_spec hp (ds := is.map .int) (by simpa using h0) (by simpa using hn)
  obtain ⟨i, hi, rfl⟩ := List.mem_map.mp hd
  exact ⟨i, M', e, hi, s⟩
noncomputable abbrev afA : SM := (sSeq (sPar 8 9 (aCons (eCall 2 (Sh.c__law_pick) (aCons (eVar 0) (aCons (eArgs false oLst (aCons (eC (.int 0)) (aCons (eC (.int 1)) (aCons (eUn false oNeg (eC (.int 1))) (aCons (eC (.int 2)) aNil))))) aNil))) (aCons (eCall 2 (Sh.c__law_pick) (aCons (eVar 0) (aCons (eArgs false oLst (aCons (eC (.int 0)) (aCons (eC (.int 1)) (aCons (eC (.int 1)) (aCons (eUn false oNeg (eC (.int 2))) aNil))))) aNil))) aNil))) (sSet 10 (eArgs false oTup (aCons (eArgs false oTup (aCons (eBin false oMul (eBin false oMul (eC (.int 2)) (eVar 8)) (eVar 7)) (aCons (eVar 7) aNil))) (aCons (eArgs false oTup (aCons (eVar 7) (aCons (eBin false oMul (eBin false oMul (eC (.int 2)) (eVar 9)) (eVar 7)) aNil))) aNil)))))
noncomputable abbrev afB : SM := (sSet 10 (eArgs false oTup (aCons (eArgs false oTup (aCons (eBin false oMul (eCall 2 (Sh.c__law_pick) (aCons (eVar 0) (aCons (eArgs false oLst (aCons (eC (.int 1)) (aCons (eUn false oNeg (eC (.int 1))) (aCons (eC (.int 1)) (aCons (eUn false oNeg (eC (.int 1))) (aCons (eC (.int 3)) (aCons (eC (.int 5)) (aCons (eUn false oNeg (eC (.int 3))) (aCons (eC (.int 7)) (aCons (eC (.int 2)) (aCons (eC (.int 6)) (aCons (eC (.int 11)) aNil)))))))))))) aNil))) (eVar 7)) aNil)) aNil)))
noncomputable abbrev afBody : SM := (sSeq (sIf (asB (eBin false oEq (eVar 4) (eVar 1))) sBreak sNil) (sSeq (sSet 7 (eCall 2 (Sh.c__law_power) (aCons (eVar 5) (aCons (eCall 2 (Sh.c__law_pick) (aCons (eVar 0) (aCons (eArgs false oLst (aCons (eC (.int 0)) (aCons (eC (.int 0)) (aCons (eC (.int 1)) (aCons (eC (.int 1)) (aCons (eC (.int 2)) (aCons (eC (.int 3)) aNil))))))) aNil))) aNil)))) (sSeq (sIf (mAnd (asB (eBin false oGt (eBin false oSub (eVar 1) (eVar 4)) (eC (.int 1)))) (asB (eBin false oEq (eCall 2 (Sh.c__law_take 2) (aCons (eVar 0) (aCons (eC (.int 3)) aNil))) (eC (.int 0))))) afA afB) (sSeq (sSet 3 (eIf (asB (eBin false oIs (eVar 3) (eC .non))) (eVar 10) (eCall 2 (Sh2.c__law_beside) (aCons (eVar 3) (aCons (eVar 10) aNil))))) (sSet 4 (eBin false oAdd (eVar 4) (eArgs false oLen (aCons (eVar 10) aNil))))))))
theorem seq_bk {a b : SM} {τ τ' : DSt} {M M' : Mem} (h : a τ M = .bk τ' M') : sSeq a b τ M = .bk τ' M' := by simp only [sSeq, h]
/-- the blocks so far -/
def Bks (h : Nat) (d : D) : Prop := (h = 0 ∧ d = .non) ∨ (1 ≤ h ∧ ∃ B, Blk h B ∧ d = tab true true h h B)
section
variable {l n : Nat} {M : Mem} (hp : PoolAt l M) (hn : n ≤ 64) (bd0 : D)
include hp
theorem af_A {n : Nat} {h : Nat} {sc : Int} (hsc : sc.natAbs ≤ 1331) (x2 x3 x5 x6 x8 x9 x10 x11 x12 : Option D) : ∃ M' B y8 y9, Blk 2 B ∧ PStep l M M' ∧
    afA [some (.loc l), some (.int n), x2, x3, some (.int h), x5, x6, some (.int sc), x8, x9, x10, x11, x12] M = .nx [some (.loc l), some (.int n), x2, x3, some (.int h), x5, x6, some (.int sc), y8, y9, some (tab true true 2 2 B), x11, x12] M' := by
  obtain ⟨a, M1, e1, ha, s1⟩ := pick_ints (is := [0, 1, -1, 2]) hp (by simp) (by simp)
  obtain ⟨c, M2, e2, hc, s2⟩ := pick_ints (is := [0, 1, 1, -2]) (hp.step s1) (by simp) (by simp)
  simp only [List.map_cons, List.map_nil] at e1 e2
  have ha' : a.natAbs ≤ 2 := by simp at ha; omega
  have hc' : c.natAbs ≤ 2 := by simp at hc; omega
  have q : ∀ a : Int, a.natAbs ≤ 2 → (2 * a * sc).natAbs ≤ 14641 := fun a ha => by
    rw [Int.natAbs_mul, Int.natAbs_mul]
    calc (2 : Int).natAbs * a.natAbs * sc.natAbs ≤ 2 * 2 * 1331 := Nat.mul_le_mul (Nat.mul_le_mul_left _ ha) hsc
      _ ≤ 14641 := by decide
  refine ⟨M2, blk2 (2 * a * sc) sc (2 * c * sc), some (.int a), some (.int c), blk2_ok (q a ha') (by omega) (q c hc'), s1.trans s2, ?_⟩
  have m1 : CMulG 2 a := cmul_r (by omega)
  have m2 : CMulG (2 * a) sc := cmul_r (by omega)
  have m3 : CMulG 2 c := cmul_r (by omega)
  have m4 : CMulG (2 * c) sc := cmul_r (by omega)
  simp [e1, e2, m1, m2, m3, m4]
  rfl
theorem af_B {n : Nat} {h : Nat} {sc : Int} (hsc : sc.natAbs ≤ 1331) (x2 x3 x5 x6 x8 x9 x10 x11 x12 : Option D) : ∃ M' B, Blk 1 B ∧ PStep l M M' ∧
    afB [some (.loc l), some (.int n), x2, x3, some (.int h), x5, x6, some (.int sc), x8, x9, x10, x11, x12] M = .nx [some (.loc l), some (.int n), x2, x3, some (.int h), x5, x6, some (.int sc), x8, x9, some (tab true true 1 1 B), x11, x12] M' := by
  obtain ⟨a, M1, e1, ha, s1⟩ := pick_ints (is := [1, -1, 1, -1, 3, 5, -3, 7, 2, 6, 11]) hp (by simp) (by simp)
  simp only [List.map_cons, List.map_nil] at e1
  have ha' : a.natAbs ≤ 11 := by simp at ha; omega
  have q : (a * sc).natAbs ≤ 14641 := by
    rw [Int.natAbs_mul]
    calc a.natAbs * sc.natAbs ≤ 11 * 1331 := Nat.mul_le_mul ha' hsc
      _ ≤ 14641 := by decide
  refine ⟨M1, blk1 (a * sc), blk1_ok q, s1, ?_⟩
  have m1 : CMulG a sc := cmul_r (by omega)
  simp [e1, m1]
  rfl
end
theorem scale_le {p : Int} {e : Nat} (hp : 2 ≤ p ∧ p ≤ 11) (he : e ≤ 3) : (p ^ e).natAbs ≤ 1331 := by
  rw [Int.natAbs_pow]
  calc p.natAbs ^ e ≤ 11 ^ e := Nat.pow_le_pow_left (by omega) e
    _ ≤ 11 ^ 3 := Nat.pow_le_pow_right (by decide) he
theorem anyForm_spec {l n : Nat} {bound : Int} {M : Mem} (hp : PoolAt l M) (h1 : 1 ≤ n) (h8 : n ≤ 8) : ∃ F M', c__law_any_form [.loc l, .int n, .int bound] M = .ok (tab true true n n F) M' ∧
    (∀ i, i < n → ∀ j, j < n → F i j = F j i) ∧ det n F ≠ 0 ∧ (∀ B : Int, bound ≤ B → 14641 ≤ B → ∀ i, i < n → ∀ j, j < n → ((F i j).natAbs : Int) ≤ B) ∧ PStep l M M' := by
  obtain ⟨p, M0, e0, hpm, s0⟩ := pick_ints (is := [2, 2, 2, 3, 5, 7, 11]) hp (by simp) (by simp)
  simp only [List.map_cons, List.map_nil] at e0
  have hpp : 2 ≤ p ∧ p ≤ 11 := by simp at hpm; omega
  have main := forL_bk (g := mName 6) (n := n) (b := afBody) (τ := [some (.loc l), some (.int n), some (.int bound), some .non, some (.int 0), some (.int p), none, none, none, none, none, none, none]) (M := M0)
    (R := fun k τ M' => ∃ h d x6 x7 x8 x9 x10 x11 x12, PStep l M M' ∧ k ≤ h ∧ h ≤ n ∧ Bks h d ∧ τ = [some (.loc l), some (.int n), some (.int bound), some d, some (.int (h : Nat)), some (.int p), x6, x7, x8, x9, x10, x11, x12])
    (F := fun τ M' => ∃ d x6 x7 x8 x9 x10 x11 x12, PStep l M M' ∧ Bks n d ∧ τ = [some (.loc l), some (.int n), some (.int bound), some d, some (.int n), some (.int p), x6, x7, x8, x9, x10, x11, x12])
    (fun k τ M' hk hR => by
      obtain ⟨h, d, x6, x7, x8, x9, x10, x11, x12, s1, hkh, hhn, hd, rfl⟩ := hR
      have hp1 := hp.step s1
      refine ⟨[some (.loc l), some (.int n), some (.int bound), some d, some (.int (h : Nat)), some (.int p), some (.int (k : Int)), x7, x8, x9, x10, x11, x12], M', rfl, ?_⟩
      by_cases hz : h = n
      · subst hz
        refine .inr ⟨_, M', seq_bk (τ' := [some (.loc l), some (.int h), some (.int bound), some d, some (.int (h : Nat)), some (.int p), some (.int (k : Int)), x7, x8, x9, x10, x11, x12]) (M' := M') (by simp), d, _, _, _, _, _, _, _, s1, hd, rfl⟩
      · obtain ⟨e, M2, e2, he, s2⟩ := pick_ints (is := [0, 0, 1, 1, 2, 3]) hp1 (by simp) (by simp)
        simp only [List.map_cons, List.map_nil] at e2
        have hp2 := hp1.step s2
        obtain ⟨e, rfl⟩ : ∃ e' : Nat, e = e' := ⟨e.toNat, by simp at he; omega⟩
        have he3 : e ≤ 3 := by simp at he; omega
        have epw := lawPower_spec (b := p) (n := e) (by omega) (by omega) M2
        have hsc := scale_le hpp he3
        have b1 : sIf (asB (eBin false oEq (eVar 4) (eVar 1))) sBreak sNil [some (.loc l), some (.int n), some (.int bound), some d, some (.int (h : Nat)), some (.int p), some (.int (k : Int)), x7, x8, x9, x10, x11, x12] M' =
            .nx [some (.loc l), some (.int n), some (.int bound), some d, some (.int (h : Nat)), some (.int p), some (.int (k : Int)), x7, x8, x9, x10, x11, x12] M' := by
          have : ¬ (h : Int) = (n : Int) := by omega
          simp [this, hz]
        have b2 : sSet 7 (eCall 2 (Sh.c__law_power) (aCons (eVar 5) (aCons (eCall 2 (Sh.c__law_pick) (aCons (eVar 0) (aCons (eArgs false oLst (aCons (eC (.int 0)) (aCons (eC (.int 0)) (aCons (eC (.int 1)) (aCons (eC (.int 1)) (aCons (eC (.int 2)) (aCons (eC (.int 3)) aNil))))))) aNil))) aNil)))
            [some (.loc l), some (.int n), some (.int bound), some d, some (.int (h : Nat)), some (.int p), some (.int (k : Int)), x7, x8, x9, x10, x11, x12] M' =
            .nx [some (.loc l), some (.int n), some (.int bound), some d, some (.int (h : Nat)), some (.int p), some (.int (k : Int)), some (.int (p ^ e)), x8, x9, x10, x11, x12] M2 := by
          simp [e2, epw]
        have b3 : ∃ w B M3 y8 y9, 1 ≤ w ∧ h + w ≤ n ∧ Blk w B ∧ PStep l M2 M3 ∧ sIf (mAnd (asB (eBin false oGt (eBin false oSub (eVar 1) (eVar 4)) (eC (.int 1)))) (asB (eBin false oEq (eCall 2 (Sh.c__law_take 2) (aCons (eVar 0) (aCons (eC (.int 3)) aNil))) (eC (.int 0))))) afA afB
            [some (.loc l), some (.int n), some (.int bound), some d, some (.int (h : Nat)), some (.int p), some (.int (k : Int)), some (.int (p ^ e)), x8, x9, x10, x11, x12] M2 =
            .nx [some (.loc l), some (.int n), some (.int bound), some d, some (.int (h : Nat)), some (.int p), some (.int (k : Int)), some (.int (p ^ e)), y8, y9, some (tab true true w w B), x11, x12] M3 := by
          by_cases hg : h + 1 < n
          · obtain ⟨i, M3, e3, hi0, hi1, s3⟩ := take_spec (n := 3) hp2 (by decide) (by decide) 0
            have e3 : c__law_take 2 [.loc l, .int 3] M2 = .ok (.int i) M3 := e3
            have hg' : (1 : Int) < (n : Int) - (h : Int) := by omega
            by_cases hi : i = 0
            · subst hi
              obtain ⟨M4, B, y8, y9, hB, s4, e4⟩ := af_A (hp2.step s3) (n := n) (h := h) hsc (some (.int bound)) (some d) (some (.int p)) (some (.int (k : Int))) x8 x9 x10 x11 x12
              refine ⟨2, B, M4, y8, y9, by omega, by omega, hB, s3.trans s4, (sIf_t (M' := M3) ?_).trans e4⟩
              simp [hg', e3]
            · obtain ⟨M4, B, hB, s4, e4⟩ := af_B (hp2.step s3) (n := n) (h := h) hsc (some (.int bound)) (some d) (some (.int p)) (some (.int (k : Int))) x8 x9 x10 x11 x12
              refine ⟨1, B, M4, x8, x9, by omega, by omega, hB, s3.trans s4, (sIf_f (M' := M3) ?_).trans e4⟩
              simp [hg', e3, hi]
          · obtain ⟨M4, B, hB, s4, e4⟩ := af_B hp2 (n := n) (h := h) hsc (some (.int bound)) (some d) (some (.int p)) (some (.int (k : Int))) x8 x9 x10 x11 x12
            have hg' : ¬ (1 : Int) < (n : Int) - (h : Int) := by omega
            refine ⟨1, B, M4, x8, x9, by omega, by omega, hB, s4, (sIf_f (M' := M2) ?_).trans e4⟩
            simp [hg']
        obtain ⟨w, B, M3, y8, y9, hw, hwn, hB, s3, b3⟩ := b3
        have hlen : seqOf (tab true true w w B) M3 = some { xs := rws true w w B } := seqOf_sq _ _ _
        refine .inl ?_
        rcases hd with ⟨h0, rfl⟩ | ⟨h0, A, hA, rfl⟩
        · subst h0
          refine ⟨[some (.loc l), some (.int n), some (.int bound), some (tab true true w w B), some (.int ((w : Nat) : Int)), some (.int p), some (.int (k : Int)), some (.int (p ^ e)), y8, y9, some (tab true true w w B), x11, x12], M3, ?_, w, tab true true w w B, _, _, _, _, _, _, _, s1.trans (s2.trans s3), by omega, by omega, .inr ⟨hw, B, hB, rfl⟩, rfl⟩
          refine (seq_nx b1).trans ((seq_nx b2).trans ((seq_nx b3).trans ?_))
          simp [hlen]
        · have ebs := lawBeside_spec (n := h) (m := w) (A := A) (B := B) h0 hw (by omega) M3
          have hnn : isNon (tab true true h h A) = false := isNon_sq _ _
          refine ⟨[some (.loc l), some (.int n), some (.int bound), some (tab true true (h + w) (h + w) (bd h A B)), some (.int ((h + w : Nat) : Int)), some (.int p), some (.int (k : Int)), some (.int (p ^ e)), y8, y9, some (tab true true w w B), x11, x12], M3, ?_, h + w, tab true true (h + w) (h + w) (bd h A B), _, _, _, _, _, _, _, s1.trans (s2.trans s3), by omega, hwn, .inr ⟨by omega, _, hA.bd hB, rfl⟩, rfl⟩
          refine (seq_nx b1).trans ((seq_nx b2).trans ((seq_nx b3).trans ?_))
          simp [hlen, ebs, hnn])
    ⟨0, .non, none, none, none, none, none, none, none, s0, by omega, by omega, .inl ⟨rfl, rfl⟩, rfl⟩
  obtain ⟨τ', M1, e1, hfin⟩ := main
  have hfin : ∃ B x6 x7 x8 x9 x10 x11 x12, PStep l M M1 ∧ Blk n B ∧ τ' = [some (.loc l), some (.int n), some (.int bound), some (tab true true n n B), some (.int n), some (.int p), x6, x7, x8, x9, x10, x11, x12] := by
    rcases hfin with ⟨h, d, x6, x7, x8, x9, x10, x11, x12, s1, h2, h3, hd, rfl⟩ | ⟨d, x6, x7, x8, x9, x10, x11, x12, s1, hd, rfl⟩
    · have : h = n := by omega
      subst this
      rcases hd with ⟨h0, _⟩ | ⟨_, B, hB, rfl⟩
      · omega
      · exact ⟨B, x6, x7, x8, x9, x10, x11, x12, s1, hB, rfl⟩
    · rcases hd with ⟨h0, _⟩ | ⟨_, B, hB, rfl⟩
      · omega
      · exact ⟨B, x6, x7, x8, x9, x10, x11, x12, s1, hB, rfl⟩
  obtain ⟨B, x6, x7, x8, x9, x10, x11, x12, s1, hB, rfl⟩ := hfin
  have hp1 := hp.step s1
  have edet := lawDet_spec (b := true) (c := true) (A := B) (n := n) (bb := 14) (by omega) (by omega) (fun i hi j hj => Nat.le_trans (hB.le i hi j hj) (by decide)) M1
  have hl : n < 4611686018427387904 := by omega
  have step4 : ∃ B' y11 y12, Blk n B' ∧ det n B' ≠ 0 ∧ sIf (asB (eBin false oEq (eCall 1 (Sh2.c__law_determinant) (aCons (eVar 3) aNil)) (eC (.int 0)))) (sSet 3 (eArgs false oTuple (aCons (eLc false (iRange1 (aCons (eVar 1) aNil)) (mName 11) mYes (eArgs false oTuple (aCons (eLc false (iRange1 (aCons (eVar 1) aNil)) (mName 12) mYes (eArgs false oInt (aCons (eBin false oEq (eVar 11) (eVar 12)) aNil)) [12]) aNil)) [11]) aNil))) sNil
      [some (.loc l), some (.int n), some (.int bound), some (tab true true n n B), some (.int n), some (.int p), x6, x7, x8, x9, x10, x11, x12] M1 =
      .nx [some (.loc l), some (.int n), some (.int bound), some (tab true true n n B'), some (.int n), some (.int p), x6, x7, x8, x9, x10, y11, y12] M1 := by
    by_cases hz : det n B = 0
    · refine ⟨one, x11, x12, Blk.one n, by rw [det_one]; decide, (sIf_t (M' := M1) (by simp [edet, hz])).trans ?_⟩
      have h : lcL [] (mName 11) mYes (eArgs false oTuple (aCons (eLc false (iRange1 (aCons (eVar 1) aNil)) (mName 12) mYes (eArgs false oInt (aCons (eBin false oEq (eVar 11) (eVar 12)) aNil)) [12]) aNil)) (rangeD 0 n)
          [some (.loc l), some (.int n), some (.int bound), some (tab true true n n B), some (.int n), some (.int p), x6, x7, x8, x9, x10, none, x12] M1 = .ok (rws true n n one) M1 :=
        lcRg fun i hi => ⟨[some (.loc l), some (.int n), some (.int bound), some (tab true true n n B), some (.int n), some (.int p), x6, x7, x8, x9, x10, some (.int i), x12], by simp, by
          have : lcL [] (mName 12) mYes (eArgs false oInt (aCons (eBin false oEq (eVar 11) (eVar 12)) aNil)) (rangeD 0 n) [some (.loc l), some (.int n), some (.int bound), some (tab true true n n B), some (.int n), some (.int p), x6, x7, x8, x9, x10, some (.int i), none] M1 = .ok (vec n (one i)) M1 :=
            lcRg fun j hj => ⟨[some (.loc l), some (.int n), some (.int bound), some (tab true true n n B), some (.int n), some (.int p), x6, x7, x8, x9, x10, some (.int i), some (.int j)], by simp, by
              simp [one]
              by_cases e : i = j
              · subst e; simp
              · rw [if_neg (by omega), if_neg e]⟩
          simp [hl, le_line' (show n ≤ 64 by omega), wipeD, this]⟩
      simp [hl, le_line' (show n ≤ 64 by omega), wipeD, h]
      rfl
    · exact ⟨B, x11, x12, hB, hz, (sIf_f (M' := M1) (by simp [edet, hz])).trans rfl⟩
  obtain ⟨B', y11, y12, hB', hdet, e4⟩ := step4
  obtain ⟨s, M2, e5, hs0, hs1, s2⟩ := take_spec (n := 9) hp1 (by decide) (by decide) 0
  have e5 : c__law_take 2 [.loc l, .int 9] M1 = .ok (.int s) M2 := e5
  obtain ⟨s, rfl⟩ : ∃ s' : Nat, s = s' := ⟨s.toNat, by omega⟩
  obtain ⟨T, M3, e6, hT, hbd, s3⟩ := skewed_spec (hp1.step s2) (n := n) (s := s) (bound := bound) (F := B') h1 (by omega) (by omega) (fun i hi j hj => Nat.le_trans (hB'.le i hi j hj) (by decide))
  refine ⟨mv n T B', M3, ?_, fun i _ j _ => mv_sym hB'.sym i j, by rw [mv_det, hT, Int.mul_one]; exact hdet, fun Bd h2 h3 i hi j hj => ?_, s1.trans (s2.trans s3)⟩
  · have q1 : sSet 5 (eCall 2 (Sh.c__law_pick) (aCons (eVar 0) (aCons (eArgs false oLst (aCons (eC (.int 2)) (aCons (eC (.int 2)) (aCons (eC (.int 2)) (aCons (eC (.int 3)) (aCons (eC (.int 5)) (aCons (eC (.int 7)) (aCons (eC (.int 11)) aNil)))))))) aNil))) [some (.loc l), some (.int n), some (.int bound), some .non, some (.int 0), none, none, none, none, none, none, none, none] M =
        .nx [some (.loc l), some (.int n), some (.int bound), some .non, some (.int 0), some (.int p), none, none, none, none, none, none, none] M0 := by simp [e0]
    have q2 : sFor (iRange1 (aCons (eVar 1) aNil)) (mName 6) afBody [some (.loc l), some (.int n), some (.int bound), some .non, some (.int 0), some (.int p), none, none, none, none, none, none, none] M0 =
        forL [] (mName 6) afBody (rangeD 0 n) [some (.loc l), some (.int n), some (.int bound), some .non, some (.int 0), some (.int p), none, none, none, none, none, none, none] M0 := by
      simp only [sFor, iRange1_eq, aCons, aNil, eVar, List.getElem?_cons_zero, List.getElem?_cons_succ, R.bind_ok, if_true, rngOk_n hl, Int.toNat_natCast, andS_ok]
    unfold c__law_any_form m__law_any_form
    refine (congrArg (endK M) (seq_nx (τ' := [some (.loc l), some (.int n), some (.int bound), some .non, none, none, none, none, none, none, none, none, none]) (M' := M) (by simp [startD]))).trans ?_
    refine (congrArg (endK M) (seq_nx (τ' := [some (.loc l), some (.int n), some (.int bound), some .non, some (.int 0), none, none, none, none, none, none, none, none]) (M' := M) (by simp))).trans ?_
    rw [seq_nx q1, seq_nx (q2.trans e1), seq_nx e4]
    simp [e5, e6]
  · rcases hbd with h | h
    · exact Int.le_trans (h i hi j hj) h2
    · have := h.mv B' (B := 14641) hB'.le i hi j hj
      omega
end Sh2

/-! what is no form -/
namespace Sh2
open PySem PySem.Spec PyProof.Rows L2 DM LA Sh
/-- rows that change: the places P i with W i, the row of them behind the first n -/
structure Rws (l : Nat) (M0 : Mem) (n : Nat) (P : Nat → Nat) (W : Nat → List D) (M : Mem) : Prop where
  ex : ∃ M1 o, M = M1 ++ o ∧ PStep l M0 M1
  rows : memAt M (M0.length + n) = some ((List.range n).map fun i => .loc (P i))
  at_ : ∀ i, i < n → M0.length ≤ P i ∧ P i ≠ M0.length + n ∧ memAt M (P i) = some (W i)
  inj : ∀ i, i < n → ∀ j, j < n → P i = P j → i = j
theorem memAt_hi {M1 M2 o : Mem} {k : Nat} (h : M1.length = M2.length) (hk : M1.length ≤ k) : memAt (M1 ++ o) k = memAt (M2 ++ o) k := by
  unfold memAt
  rw [List.getElem?_append_right hk, List.getElem?_append_right (by omega), h]
section
variable {l n : Nat} {M0 : Mem} {P : Nat → Nat} {W : Nat → List D} {M : Mem} (H : Rws l M0 n P W M) (hp : PoolAt l M0)
include H
theorem Rws.step {M1 M2 o : Mem} (e : M = M1 ++ o) (s1 : PStep l M0 M1) (s2 : PStep l M1 M2) : Rws l M0 n P W (M2 ++ o) := by
  have h1 : M0.length = M1.length := s1.len.symm
  have h2 : M1.length = M2.length := s2.len.symm
  subst e
  refine ⟨⟨M2, o, rfl, s1.trans s2⟩, ?_, fun i hi => ?_, H.inj⟩
  · rw [← memAt_hi h2 (by omega)]; exact H.rows
  · obtain ⟨q1, q2, q3⟩ := H.at_ i hi
    refine ⟨q1, q2, ?_⟩
    rw [← memAt_hi h2 (by omega)]; exact q3
include hp
theorem Rws.take {m : Int} (hn : 0 < m) (hn2 : m < 2 ^ 64) : ∃ i M', c__law_take 2 [.loc l, .int m] M = .ok (.int i) M' ∧ 0 ≤ i ∧ i < m ∧ Rws l M0 n P W M' := by
  obtain ⟨M1, o, rfl, s1⟩ := H.ex
  obtain ⟨i, M2, e1, h1, h2, s2⟩ := take_app (o := o) (hp.step s1) hn hn2
  exact ⟨i, _, e1, h1, h2, H.step rfl s1 s2⟩
theorem Rws.pick {ds : List D} (h0 : ds ≠ []) (hn : ds.length < 2 ^ 64) : ∃ d M', c__law_pick [.loc l, .lst ds] M = .ok d M' ∧ d ∈ ds ∧ Rws l M0 n P W M' := by
  obtain ⟨M1, o, rfl, s1⟩ := H.ex
  obtain ⟨i, M2, e1, h1, s2⟩ := pick_app (o := o) (hp.step s1) h0 hn
  exact ⟨i, _, e1, h1, H.step rfl s1 s2⟩
omit hp
theorem Rws.rowsAt : RowsAt M (.loc (M0.length + n)) ((List.range n).map W) := by
  refine ⟨_, .inr ⟨_, rfl, H.rows⟩, ?_⟩
  have : ∀ ys : List Nat, (∀ y ∈ ys, y < n) → Paired (RowAt M) (ys.map fun i => .loc (P i)) (ys.map W) := by
    intro ys
    induction ys with
    | nil => intro _; exact .nil
    | cons y ys ih =>
      intro h
      exact .cons (.inr ⟨_, rfl, (H.at_ y (h y List.mem_cons_self)).2.2⟩) (ih fun z hz => h z (List.mem_cons_of_mem _ hz))
  exact this _ fun y hy => by simpa using hy
theorem Rws.get {i : Nat} (hi : i < n) : atI ((List.range n).map fun i => D.loc (P i)) (i : Int) = some (.loc (P i)) := atI_range _ hi
theorem Rws.set {i : Nat} (hi : i < n) (v : List D) : Rws l M0 n P (fun k => if k = i then v else W k) (M.set (P i) (some v)) := by
  obtain ⟨M1, o, rfl, s1⟩ := H.ex
  obtain ⟨q1, q2, q3⟩ := H.at_ i hi
  have hl := memAt_lt q3
  have h1 : M1.length = M0.length := s1.len
  refine ⟨⟨M1, o.set (P i - M1.length) (some v), List.set_append_right _ _ (by omega), s1⟩, ?_, fun k hk => ?_, H.inj⟩
  · rw [memAt_set_ne q2]; exact H.rows
  · obtain ⟨p1, p2, p3⟩ := H.at_ k hk
    refine ⟨p1, p2, ?_⟩
    by_cases e : k = i
    · subst e; rw [if_pos rfl, memAt_set_self hl]
    · rw [if_neg e, memAt_set_ne fun q => e (H.inj k hk i hi q.symm)]; exact p3
/-- a new row -/
theorem Rws.newrow {i : Nat} (hi : i < n) (v : List D) : Rws l M0 n (fun k => if k = i then M.length else P k) (fun k => if k = i then v else W k) ((M ++ [some v]).set (M0.length + n) (some ((List.range n).map fun k => .loc (if k = i then M.length else P k)))) := by
  obtain ⟨M1, o, rfl, s1⟩ := H.ex
  have hr := memAt_lt H.rows
  have h1 : M1.length = M0.length := s1.len
  refine ⟨⟨M1, (o ++ [some v]).set (M0.length + n - M1.length) _, by rw [List.append_assoc, List.set_append_right _ _ (by omega)], s1⟩, memAt_set_self (by simp at hr ⊢; omega), fun k hk => ?_, fun a ha b hb e => ?_⟩
  · by_cases e : k = i
    · simp only [e, if_true]
      simp at hr
      refine ⟨by simp; omega, by simp; omega, ?_⟩
      rw [memAt_set_ne (by simp; omega), memAt_app]
    · simp only [e, if_false]
      obtain ⟨p1, p2, p3⟩ := H.at_ k hk
      exact ⟨p1, p2, by rw [memAt_set_ne (Ne.symm p2), memAt_app_lt (memAt_lt p3)]; exact p3⟩
  · have pl := fun k hk => memAt_lt (H.at_ k hk).2.2
    have pa := pl a ha
    have pb := pl b hb
    by_cases ea : a = i
    · by_cases eb : b = i
      · omega
      · rw [if_pos ea, if_neg eb] at e; omega
    · by_cases eb : b = i
      · rw [if_neg ea, if_pos eb] at e; omega
      · rw [if_neg ea, if_neg eb] at e; exact H.inj a ha b hb e
end
/-- values without places that are not deep -/
def Fl (d : D) : Prop := (∀ n, Clo n d) ∧ ∀ (M : Mem) (n : Nat), fzD M n 3 d = some d
theorem fl_int (i : Int) : Fl (.int i) := ⟨fun _ => trivial, fun _ _ => rfl⟩
theorem fl_rows {M : Mem} {k : Nat} {ds : List D} (h : ∀ d ∈ ds, Fl d) : ds.mapM (fzD M k 3) = some ds := mapM_some fun d hd => (h d hd).2 M k
theorem fz_of {M : Mem} {n : Nat} {d d' : D} (h : fzD M n 6 d = some d') (hc : Clo n d → d' = d) : fz M n d = some d' := by
  unfold fz
  by_cases e : Clo n d
  · rw [if_pos e, hc e]
  · rw [if_neg e]; exact h
theorem clo_sqs {k : Nat} {b c : Bool} {dss : List (List D)} (h : ∀ ds ∈ dss, ∀ d ∈ ds, Fl d) : Clo k (sqs b c dss) := by
  have : CloL k (dss.map (sqD c)) := by
    rw [CloL_iff]
    intro x hx
    obtain ⟨ds, hds, rfl⟩ := List.mem_map.mp hx
    have : CloL k ds := by rw [CloL_iff]; exact fun d hd => (h ds hds d hd).1 k
    cases c <;> exact this
  cases b <;> exact this
theorem mapM_map {α β γ : Type} {f : β → Option γ} {g : α → β} {v : α → γ} : ∀ (ys : List α), (∀ y ∈ ys, f (g y) = some (v y)) → (ys.map g).mapM f = some (ys.map v)
  | [], _ => rfl
  | y :: ys, h => by
    rw [List.map_cons, List.mapM_cons, h y List.mem_cons_self, mapM_map ys fun z hz => h z (List.mem_cons_of_mem _ hz)]
    rfl
theorem Rws.fz {l n : Nat} {M0 : Mem} {P : Nat → Nat} {W : Nat → List D} {M : Mem} (H : Rws l M0 n P W M) (hW : ∀ i, i < n → ∀ d ∈ W i, Fl d) (r : Str) :
    DM.fz M M0.length (.tup [.loc (M0.length + n), .str r]) = some (.tup [sqs false false ((List.range n).map W), .str r]) := by
  refine fz_of ?_ fun hc => ?_
  · have h1 : fzD M M0.length 5 (.loc (M0.length + n)) = some (sqs false false ((List.range n).map W)) := by
      show (if M0.length + n < M0.length then some (D.loc (M0.length + n)) else (memAt M (M0.length + n)).bind fun ds => (ds.mapM (fzD M M0.length 4)).map D.lst) = _
      rw [if_neg (by omega), H.rows]
      show (((List.range n).map fun i => D.loc (P i)).mapM (fzD M M0.length 4)).map D.lst = _
      rw [mapM_map (v := fun i => D.lst (W i)) _ fun i hi => ?_]
      · unfold sqs; rw [List.map_map]; rfl
      · have hi : i < n := by simpa using hi
        obtain ⟨q1, q2, q3⟩ := H.at_ i hi
        show (if P i < M0.length then some (D.loc (P i)) else (memAt M (P i)).bind fun ds => (ds.mapM (fzD M M0.length 3)).map D.lst) = _
        rw [if_neg (by omega), q3]
        show ((W i).mapM (fzD M M0.length 3)).map D.lst = _
        rw [fl_rows (hW i hi)]; rfl
    show (([D.loc (M0.length + n), .str r] : List D).mapM (fzD M M0.length 5)).map D.tup = _
    rw [List.mapM_cons, h1]
    rfl
  · have : M0.length + n < M0.length ∧ _ := hc
    omega
theorem trunc_rws {l n : Nat} {M0 : Mem} {P : Nat → Nat} {W : Nat → List D} {M : Mem} (H : Rws l M0 n P W M) (hp : PoolAt l M0) {d d' : D} (h : DM.fz M M0.length d = some d') : ∃ M1, trunc M0 M d = .ok d' M1 ∧ PStep l M0 M1 := by
  obtain ⟨M1, o, rfl, s1⟩ := H.ex
  exact ⟨M1, trunc_step hp s1 h, s1⟩
/-- the rows are made -/
theorem mkLocs {i : Nat} {τ : DSt} (hi : i < τ.length) {enc : Nat → D} {W : Nat → List D} (he : ∀ y M, ∃ src, seqOf (enc y) M = some { xs := W y, src := src }) : ∀ (ys : List Nat) (M : Mem),
    lcL [] (mName i) mYes (eArgs true oList (aCons (eVar i) aNil)) (ys.map enc) τ M = .ok ((List.range' M.length ys.length).map .loc) (M ++ ys.map fun y => some (W y))
  | [], M => by simp [lcL]
  | y :: ys, M => by
    obtain ⟨src, e⟩ := he y M
    have ih := mkLocs hi he ys (M ++ [some (W y)])
    have g : (τ.set i (some (enc y)))[i]? = some (some (enc y)) := by simp [hi]
    rw [List.map_cons]
    unfold lcL
    rw [if_pos (by simp)]
    simp only [mName, mYes, eArgs, aCons, aNil, eVar, g, R.bind_ok, oList_1, e, Option.map_some, fin_lt, ih]
    simp [List.range'_succ]
theorem Rws.mk0 {l n : Nat} {M0 : Mem} (hp : PoolAt l M0) (W : Nat → List D) : Rws l M0 n (fun i => M0.length + i) W ((M0 ++ (List.range n).map fun y => some (W y)) ++ [some ((List.range' M0.length n).map .loc)]) := by
  have hl : (M0 ++ (List.range n).map fun y => some (W y)).length = M0.length + n := by simp
  refine ⟨⟨M0, (List.range n).map (fun y => some (W y)) ++ [some ((List.range' M0.length n).map .loc)], by rw [List.append_assoc], PStep.refl hp⟩, ?_, fun i hi => ⟨by omega, by omega, ?_⟩, fun i _ j _ e => by omega⟩
  · rw [memAt_len hl.symm]
    congr 1
    rw [List.range'_eq_map_range, List.map_map]; rfl
  · rw [memAt_app_lt (by rw [hl]; omega)]
    unfold memAt
    rw [List.getElem?_append_right (by omega), Nat.add_sub_cancel_left, range_map_get _ hi]; rfl
/-! ### what has faults -/
theorem badF_st {k : Nat} {d : D} (h : Pl (k + 2) d) (hf : stB d = false) : BadF d "table" := fun M => fault_st h hf _ M
theorem badF_dic : BadF .dic "table" := fun M => by
  unfold c_fault_of m_fault_of
  simp [startD, isRow_no (d := .dic) (M := M) (t := "dict") rfl (by decide) (by decide)]
theorem pl_sqs {k : Nat} {b c : Bool} {dss : List (List D)} (hl : dss.length ≤ 64) (hr : ∀ ds ∈ dss, ds.length ≤ 65) (h : ∀ ds ∈ dss, ∀ d ∈ ds, Pl (k + 1) d) : Pl (k + 3) (sqs b c dss) := by
  have h1 : ∀ x ∈ dss.map (sqD c), Pl (k + 2) x := fun x hx => by
    obtain ⟨ds, hds, rfl⟩ := List.mem_map.mp hx
    have := hr ds hds
    cases c <;> exact ⟨by omega, h ds hds⟩
  cases b <;> exact ⟨by rw [List.length_map]; omega, h1⟩
theorem stB_row {b c : Bool} {dss : List (List D)} {ds : List D} (hm : ds ∈ dss) (h : ¬ (ds.length = dss.length ∧ ds.all isI = true)) : stB (sqs b c dss) = false := by
  have : wrB (sqD c ds) (dss.length : Int) = false := by
    unfold wrB
    rw [kids_sq]
    cases e : ds.all isI with
    | false => simp [e]
    | true =>
      have : ¬ ds.length = dss.length := fun q => h ⟨q, e⟩
      have : ¬ (ds.length : Int) = dss.length := by omega
      simp [this]
  have h2 : ((dss.map (sqD c)).all fun x => wrB x (dss.length : Int)) = false := by
    rw [List.all_eq_false]
    exact ⟨sqD c ds, List.mem_map.mpr ⟨ds, hm, rfl⟩, by rw [this]; decide⟩
  unfold stB sqs
  rw [kids_sq]
  simp only [List.length_map]
  unfold sqB
  rw [kids_sq]
  simp only [List.length_map, h2, Bool.and_false]
end Sh2

namespace Sh2
open PySem PySem.Spec PyProof.Rows L2 DM LA Sh
theorem mulT_one {d : D} {k : Nat} (hk : 1 ≤ k) (hk2 : k ≤ 64) (M : Mem) : oMulT (.tup [d]) (.int (k : Int)) M = some (.v (.tup (List.replicate k d))) := by
  unfold oMulT
  by_cases e : k = 1
  · subst e; simp
  · have e1 : ¬ (k : Int) = 1 := by omega
    have e2 : ¬ (k : Int) ≤ 0 := by omega
    have e3 : (2 : Int) ≤ k ∧ (k : Int) ≤ 1000 := by omega
    simp [e1, e2, e3]
    omega
def some14 (n : Nat) (P : Nat → Nat) (W : Nat → List D) : List D := [.non, .int 3, .str "1", .dic, .lst [], .tup [], .lst [.int 1], .lst [.lst [.int 1, .int 0]], .lst [.lst [.int 1], .lst [.int 0]], tab true true 9 9 one, .tup (List.replicate n .non), .lst [.lst [.bl true]], .lst [.lst [.non]],
  .lst (((List.range n).map fun i => D.loc (P i)).take (n - 1) ++ [.lst (W (n - 1) ++ [.int 0])])]
def bad7 : List D := [.non, .str "1", .bl true, .int 1000000000000000000000000000001, .int (-1000000000000000000000000000001), .tup [.int 1], .lst [.int 1]]
section
variable {l n : Nat} {M0 : Mem} {P : Nat → Nat} {W : Nat → List D} {M : Mem} (H : Rws l M0 n P W M) (hp : PoolAt l M0) (h1 : 1 ≤ n) (h8 : n ≤ 8) (form kind : D)
include H h1 h8
theorem nf_some (hW : ∀ i, i < n → (W i).length ≤ 64) : sSet 5 (eArgs false oLst (aCons (eC .non) (aCons (eC (.int 3)) (aCons (eC (.str "1")) (aCons (eC .dic) (aCons (eArgs false oLst aNil) (aCons (eArgs false oTup aNil) (aCons (eArgs false oLst (aCons (eC (.int 1)) aNil)) (aCons (eArgs false oLst (aCons (eArgs false oLst (aCons (eC (.int 1)) (aCons (eC (.int 0)) aNil))) aNil)) (aCons (eArgs false oLst (aCons (eArgs false oLst (aCons (eC (.int 1)) aNil)) (aCons (eArgs false oLst (aCons (eC (.int 0)) aNil)) aNil))) (aCons (eCall 1 (Sh2.c__law_unit) (aCons (eC (.int 9)) aNil)) (aCons (eBin false oMulT (eArgs false oTup (aCons (eC .non) aNil)) (eVar 2)) (aCons (eArgs false oLst (aCons (eArgs false oLst (aCons (eC (.bl true)) aNil)) aNil)) (aCons (eArgs false oLst (aCons (eArgs false oLst (aCons (eC .non) aNil)) aNil)) (aCons (eBin false oAdd (eSl false (eVar 3) pNo (pSome (eBin false oSub (eVar 2) (eC (.int 1))))) (eArgs false oLst (aCons (eBin false oAdd (eBin false oIx (eVar 3) (eBin false oSub (eVar 2) (eC (.int 1)))) (eArgs false oLst (aCons (eC (.int 0)) aNil))) aNil))) aNil)))))))))))))))
    [some (.loc l), some form, some (.int n), some (.loc (M0.length + n)), some kind, none, none, none, none, none] M =
    .nx [some (.loc l), some form, some (.int n), some (.loc (M0.length + n)), some kind, some (.lst (some14 n P W)), none, none, none, none] M := by
  have hu : c__law_unit [.int 9] M = .ok (tab true true 9 9 one) M := lawUnit_spec (n := 9) (by decide) M
  have hm := mulT_one (d := .non) h1 (by omega) M
  have e1 : (n : Int) - 1 = ((n - 1 : Nat) : Int) := by omega
  have hsl : oSl none (some ((n - 1 : Nat) : Int)) (.loc (M0.length + n)) M = some (.l (((List.range n).map fun i => D.loc (P i)).take (n - 1))) := by
    show (lstOf (.loc (M0.length + n)) M).map _ = _
    rw [lstOf_loc H.rows]
    simp [DM.cutD, HT.sIx_none, HT.sIx_nat]
  have hat := H.get (show n - 1 < n by omega)
  have hr := (H.at_ (n - 1) (by omega)).2.2
  have hwl := hW (n - 1) (by omega)
  have q1 : (W (n - 1)).length + 1 ≤ 16777216 := by omega
  have q2 : n - 1 ≤ 16777216 - 1 := by omega
  have q3 : n - 1 + 1 ≤ 16777216 := by omega
  have q4 : min (n - 1) n + 1 ≤ 16777216 := by omega
  simp only [sSet, eArgs, aCons, aNil, eC, eVar, eCall, eBin, eSl, pNo, pSome, R.bind_ok, List.getElem?_cons_zero, List.getElem?_cons_succ, oLst, oTup, hu, List.length_nil, List.length_cons, sizeLine_eq, fin_lf, fin_v, hm, oSub_ii, e1, hsl, oIx, seqOf_loc H.rows, Option.bind_some, intOf_int, hat, Option.map_some, oAdd_loc, memAt_of (mem_eq hr), ownL_lst, oAdd_l, List.length_take, List.length_map, List.length_range, q1, q4, if_true, List.length_append]
  simp [hu, hm, hsl, seqOf_loc H.rows, hat, hr, q1, q3, q4, some14]
include hp
theorem nf_A (hW : ∀ i, i < n → (W i).length = n) : ∃ (at_ spot : Nat) (v : D) (d : D) (M' : Mem), at_ < n ∧ spot < n ∧ v ∈ bad7 ∧
    Rws l M0 n P (fun k => if k = at_ then (W at_).set spot v else W k) M' ∧
    (d ∈ some14 n P W ∨ d = .loc (M0.length + n) ∨ d = sqs true true ((List.range n).map fun k => if k = at_ then (W at_).set spot v else W k)) ∧
    (sSeq (sSet 5 (eArgs false oLst (aCons (eC .non) (aCons (eC (.int 3)) (aCons (eC (.str "1")) (aCons (eC .dic) (aCons (eArgs false oLst aNil) (aCons (eArgs false oTup aNil) (aCons (eArgs false oLst (aCons (eC (.int 1)) aNil)) (aCons (eArgs false oLst (aCons (eArgs false oLst (aCons (eC (.int 1)) (aCons (eC (.int 0)) aNil))) aNil)) (aCons (eArgs false oLst (aCons (eArgs false oLst (aCons (eC (.int 1)) aNil)) (aCons (eArgs false oLst (aCons (eC (.int 0)) aNil)) aNil))) (aCons (eCall 1 (Sh2.c__law_unit) (aCons (eC (.int 9)) aNil)) (aCons (eBin false oMulT (eArgs false oTup (aCons (eC .non) aNil)) (eVar 2)) (aCons (eArgs false oLst (aCons (eArgs false oLst (aCons (eC (.bl true)) aNil)) aNil)) (aCons (eArgs false oLst (aCons (eArgs false oLst (aCons (eC .non) aNil)) aNil)) (aCons (eBin false oAdd (eSl false (eVar 3) pNo (pSome (eBin false oSub (eVar 2) (eC (.int 1))))) (eArgs false oLst (aCons (eBin false oAdd (eBin false oIx (eVar 3) (eBin false oSub (eVar 2) (eC (.int 1)))) (eArgs false oLst (aCons (eC (.int 0)) aNil))) aNil))) aNil)))))))))))))))) (sSeq (sPar 6 7 (aCons (eCall 2 (Sh.c__law_take 2) (aCons (eVar 0) (aCons (eVar 2) aNil))) (aCons (eCall 2 (Sh.c__law_take 2) (aCons (eVar 0) (aCons (eVar 2) aNil))) aNil))) (sSeq (sAsg (eCall 2 (Sh.c__law_pick) (aCons (eVar 0) (aCons (eArgs false oLst (aCons (eC .non) (aCons (eC (.str "1")) (aCons (eC (.bl true)) (aCons (eBin false oAdd (eBin false oPow (eC (.int 10)) (eC (.int 30))) (eC (.int 1))) (aCons (eBin false oSub (eUn false oNeg (eBin false oPow (eC (.int 10)) (eC (.int 30)))) (eC (.int 1))) (aCons (eArgs false oTup (aCons (eC (.int 1)) aNil)) (aCons (eArgs false oLst (aCons (eC (.int 1)) aNil)) aNil)))))))) aNil))) (mSub (eBin false oIx (eVar 3) (eVar 6)) (eVar 7))) (sRet (eArgs false oTup (aCons (eCall 2 (Sh.c__law_pick) (aCons (eVar 0) (aCons (eBin false oAdd (eVar 5) (eArgs false oLst (aCons (eVar 3) (aCons (eCall 1 (Sh2.c__law_tuples) (aCons (eVar 3) aNil)) (aCons (eVar 3) (aCons (eVar 3) aNil)))))) aNil))) (aCons (eC (.str "table")) aNil)))))))
      [some (.loc l), some form, some (.int n), some (.loc (M0.length + n)), some kind, none, none, none, none, none] M = .rt (.tup [d, .str "table"]) M' := by
  obtain ⟨a, M1, e1, ha0, ha1, H1⟩ := H.take hp (m := (n : Int)) (by omega) (by omega)
  obtain ⟨s, M2, e2, hs0, hs1, H2⟩ := H1.take hp (m := (n : Int)) (by omega) (by omega)
  obtain ⟨v, M3, e3, hv, H3⟩ := H2.pick hp (ds := bad7) (by simp [bad7]) (by simp [bad7])
  obtain ⟨a, rfl⟩ : ∃ a' : Nat, a = a' := ⟨a.toNat, by omega⟩
  obtain ⟨s, rfl⟩ : ∃ a' : Nat, s = a' := ⟨s.toNat, by omega⟩
  have ha : a < n := by omega
  have hs : s < n := by omega
  have H4 := H3.set ha ((W a).set s v)
  have ht := tuples_rows H4.rowsAt (by simp; omega)
  obtain ⟨d, M5, e5, hd, H5⟩ := H4.pick hp (ds := some14 n P W ++ [.loc (M0.length + n), sqs true true ((List.range n).map fun k => if k = a then (W a).set s v else W k), .loc (M0.length + n), .loc (M0.length + n)]) (by simp [some14]) (by simp [some14])
  refine ⟨a, s, v, d, M5, ha, hs, hv, H5, ?_, ?_⟩
  · simp only [List.mem_append, List.mem_cons, List.not_mem_nil, or_false] at hd
    rcases hd with h | h | h | h | h
    · exact .inl h
    · exact .inr (.inl h)
    · exact .inr (.inr h)
    · exact .inr (.inl h)
    · exact .inr (.inl h)
  · have hr := (H3.at_ a ha).2.2
    have hat := H.get ha
    rw [seq_nx (nf_some H h1 h8 form kind fun i hi => by rw [hW i hi]; omega)]
    refine (seq_nx (τ' := [some (.loc l), some form, some (.int n), some (.loc (M0.length + n)), some kind, some (.lst (some14 n P W)), some (.int (a : Int)), some (.int (s : Int)), none, none]) (M' := M2) ?_).trans ((seq_nx (τ' := [some (.loc l), some form, some (.int n), some (.loc (M0.length + n)), some kind, some (.lst (some14 n P W)), some (.int (a : Int)), some (.int (s : Int)), none, none]) (M' := M3.set (P a) (some ((W a).set s v))) ?_).trans ?_)
    · simp [e1, e2]
    · have hpow : CPow 10 30 := by simp [CPow]
      have hpv : (10 : Int) ^ (30 : Int).toNat = 1000000000000000000000000000000 := by decide
      have e3' := e3
      unfold bad7 at e3'
      have hwa := hW a ha
      simp only [sAsg, eCall, eArgs, aCons, aNil, eC, eVar, eBin, eUn, R.bind_ok, List.getElem?_cons_zero, List.getElem?_cons_succ, oPow_ii, hpow, if_true, hpv, Option.map_some, fin_v, oAdd_ii, oNeg_i, oSub_ii, oTup, oLst, List.length_cons, List.length_nil, sizeLine_eq, fin_lf]
      simp [e3', seqOf_loc H3.rows, hat, hr, hwa, hs]
    · have hlen : (some14 n P W).length = 14 := rfl
      simp [ht, hlen, e5]
end
end Sh2

namespace Sh2
open PySem PySem.Spec PyProof.Rows L2 DM LA Sh
theorem vec_set {n s : Nat} (u : Nat → Int) (x : Int) (hs : s < n) : (vec n u).set s (.int x) = vec n (fun j => if j = s then x else u j) := by
  apply List.ext_getElem?
  intro k
  by_cases hk : k < n
  · rw [vec_get _ hk]
    by_cases e : s = k
    · subst e; rw [List.getElem?_set_self (by simpa using hk), if_pos rfl]
    · rw [List.getElem?_set_ne e, vec_get _ hk, if_neg (Ne.symm e)]
  · rw [List.getElem?_eq_none (by simpa using hk), List.getElem?_eq_none (by simpa using hk)]
theorem Rws.congr {l n : Nat} {M0 : Mem} {P : Nat → Nat} {W W' : Nat → List D} {M : Mem} (H : Rws l M0 n P W M) (h : ∀ i, i < n → W i = W' i) : Rws l M0 n P W' M :=
  ⟨H.ex, H.rows, fun i hi => by rw [← h i hi]; exact H.at_ i hi, H.inj⟩
theorem fl_vec {n : Nat} (v : Nat → Int) : ∀ d ∈ vec n v, Fl d := fun d hd => by
  obtain ⟨i, _, rfl⟩ := List.mem_map.mp hd
  exact fl_int _
/-- the table handed, and given back -/
theorem nf_hand {l n : Nat} {M0 : Mem} {P : Nat → Nat} {G : Mat} {M : Mem} (H : Rws l M0 n P (fun i => vec n (G i)) M) (hp : PoolAt l M0) (hn : n ≤ 64) (r : Str) {τ : DSt} (h0 : τ[0]? = some (some (.loc l))) (h3 : τ[3]? = some (some (.loc (M0.length + n)))) :
    ∃ b c M' e M2, sRet (eArgs false oTup (aCons (eCall 2 (Sh2.c__law_handed) (aCons (eVar 0) (aCons (eVar 3) aNil))) (aCons (eC (.str r)) aNil))) τ M = .rt e M2 ∧ trunc M0 M2 e = .ok (.tup [tab b c n n G, .str r]) M' ∧ PStep l M0 M' := by
  obtain ⟨M1, o, rfl, s1⟩ := H.ex
  have hp1 := hp.step s1
  obtain ⟨e, M', e1, he, s2⟩ := handed_spec (hp1.app (o := o)) H.rowsAt (by simpa using hn)
  obtain ⟨M2, rfl, s3⟩ := s2.app hp1
  have H2 := H.step rfl s1 s3
  have hev : sRet (eArgs false oTup (aCons (eCall 2 (Sh2.c__law_handed) (aCons (eVar 0) (aCons (eVar 3) aNil))) (aCons (eC (.str r)) aNil))) τ (M1 ++ o) = .rt (.tup [e, .str r]) (M2 ++ o) := by
    simp [h0, h3, e1]
  have hg : (List.range n).map (fun i => vec n (G i)) = gr n n G := rfl
  rcases he with rfl | ⟨b, c, rfl⟩
  · obtain ⟨M3, e3, s4⟩ := trunc_rws H2 hp (H2.fz (fun i _ => fl_vec _) r)
    rw [hg, sqs_gr] at e3
    exact ⟨false, false, M3, _, _, hev, e3, s4⟩
  · rw [hg, sqs_gr] at hev
    obtain ⟨M3, e3, s4⟩ := trunc_rws H2 hp (d := .tup [tab b c n n G, .str r]) (fz_clo ⟨clo_tab _ _ _ _ _ _, trivial, trivial⟩)
    exact ⟨b, c, M3, _, _, hev, e3, s4⟩
def setM (F : Mat) (a s : Nat) (x : Int) : Mat := fun i j => if i = a ∧ j = s then x else F i j
theorem setM_row {n a s : Nat} {F : Mat} {x : Int} (hs : s < n) (i : Nat) : (if i = a then (vec n (F a)).set s (.int x) else vec n (F i)) = vec n (setM F a s x i) := by
  by_cases e : i = a
  · subst e
    rw [if_pos rfl, vec_set _ _ hs]
    refine vec_congr fun j _ => ?_
    unfold setM
    by_cases e : j = s
    · rw [if_pos e, if_pos ⟨rfl, e⟩]
    · rw [if_neg e, if_neg fun h => e h.2]
  · rw [if_neg e]
    refine vec_congr fun j _ => ?_
    unfold setM
    rw [if_neg fun h => e h.1]
section
variable {l n : Nat} {M0 : Mem} {P : Nat → Nat} {F : Mat} {M : Mem} (H : Rws l M0 n P (fun i => vec n (F i)) M) (hp : PoolAt l M0) (h1 : 1 ≤ n) (h8 : n ≤ 8) (form kind : D)
include H hp h1 h8
/-- the first kind -/
theorem nf_bad {a s : Nat} {v : D} (ha : a < n) (hs : s < n) (hv : v ∈ bad7) (b c : Bool) : BadF (sqs b c ((List.range n).map fun k => if k = a then (vec n (F a)).set s v else vec n (F k))) "table" := by
  have hgreat : ∀ x : Int, (1000000000000000000000000000000 : Int) < (x.natAbs : Int) → BadF (sqs b c ((List.range n).map fun k => if k = a then (vec n (F a)).set s (.int x) else vec n (F k))) "table" := fun x hx M => by
    have : (List.range n).map (fun k => if k = a then (vec n (F a)).set s (.int x) else vec n (F k)) = gr n n (setM F a s x) := List.map_congr_left fun i _ => setM_row hs i
    rw [this, sqs_gr]
    exact fault_big h1 h8 ⟨a, ha, s, hs, by unfold setM; rw [if_pos ⟨rfl, rfl⟩]; exact hx⟩ M
  have hbad : isI v = false → Pl 2 v → BadF (sqs b c ((List.range n).map fun k => if k = a then (vec n (F a)).set s v else vec n (F k))) "table" := fun hi hpv => by
    refine badF_st (k := 2) (pl_sqs (k := 1) (by simp; omega) (fun ds hds => ?_) fun ds hds d hd => ?_) (stB_row (ds := (vec n (F a)).set s v) (List.mem_map.mpr ⟨a, by simpa using ha, by rw [if_pos rfl]⟩) ?_)
    · obtain ⟨k, _, rfl⟩ := List.mem_map.mp hds
      split <;> simp <;> omega
    · obtain ⟨k, _, rfl⟩ := List.mem_map.mp hds
      have hvec : ∀ u : Nat → Int, ∀ d ∈ vec n u, Pl 2 d := fun u d hd => by
        obtain ⟨i, _, rfl⟩ := List.mem_map.mp hd
        trivial
      split at hd
      · rcases List.mem_or_eq_of_mem_set hd with h | h
        · exact hvec _ d h
        · rw [h]; exact hpv
      · exact hvec _ d hd
    · rintro ⟨_, h⟩
      have hm : v ∈ (vec n (F a)).set s v := List.mem_set (by simpa using hs) v
      have := List.all_eq_true.mp h v hm
      rw [hi] at this
      cases this
  simp only [bad7, List.mem_cons, List.not_mem_nil, or_false] at hv
  rcases hv with rfl | rfl | rfl | rfl | rfl | rfl | rfl
  · exact hbad rfl trivial
  · exact hbad rfl trivial
  · exact hbad rfl trivial
  · exact hgreat _ (by decide)
  · exact hgreat _ (by decide)
  · exact hbad rfl ⟨by decide, fun x hx => by rw [List.mem_singleton.mp hx]; trivial⟩
  · exact hbad rfl ⟨by decide, fun x hx => by rw [List.mem_singleton.mp hx]; trivial⟩
theorem nf_14 {d : D} (hd : d ∈ some14 n P (fun i => vec n (F i))) : (Clo M0.length d ∧ BadF d "table") ∨ d = .lst (((List.range n).map fun i => D.loc (P i)).take (n - 1) ++ [.lst (vec n (F (n - 1)) ++ [.int 0])]) := by
  simp only [some14, List.mem_cons, List.not_mem_nil, or_false] at hd
  have two : ∀ x y : Int, ∀ z ∈ [D.int x, .int y], Pl 2 z := fun x y z hz => by
    simp at hz
    rcases hz with rfl | rfl <;> trivial
  rcases hd with rfl | rfl | rfl | rfl | rfl | rfl | rfl | rfl | rfl | rfl | rfl | rfl | rfl | h
  · exact .inl ⟨trivial, badF_st (k := 2) trivial rfl⟩
  · exact .inl ⟨trivial, badF_st (k := 2) trivial rfl⟩
  · exact .inl ⟨trivial, badF_st (k := 2) trivial rfl⟩
  · exact .inl ⟨trivial, badF_dic⟩
  · exact .inl ⟨trivial, badF_st (k := 2) ⟨by decide, fun x hx => nomatch hx⟩ rfl⟩
  · exact .inl ⟨trivial, badF_st (k := 2) ⟨by decide, fun x hx => nomatch hx⟩ rfl⟩
  · exact .inl ⟨⟨trivial, trivial⟩, badF_st (k := 2) ⟨by decide, fun x hx => by rw [List.mem_singleton.mp hx]; trivial⟩ rfl⟩
  · exact .inl ⟨⟨⟨trivial, trivial, trivial⟩, trivial⟩, badF_st (k := 2) ⟨by decide, fun x hx => by rw [List.mem_singleton.mp hx]; exact ⟨by decide, two 1 0⟩⟩ rfl⟩
  · exact .inl ⟨⟨⟨trivial, trivial⟩, ⟨trivial, trivial⟩, trivial⟩, badF_st (k := 2) ⟨by decide, fun x hx => by
      simp only [List.mem_cons, List.not_mem_nil, or_false] at hx
      rcases hx with rfl | rfl <;> exact ⟨by decide, fun z hz => by rw [List.mem_singleton.mp hz]; trivial⟩⟩ rfl⟩
  · exact .inl ⟨clo_tab _ _ _ _ _ _, badF_st (k := 1) (pl_tab true true one (by decide) (by decide) 0) (by unfold stB tab; rw [kids_sq]; simp)⟩
  · refine .inl ⟨?_, badF_st (k := 2) ⟨by simp; omega, fun x hx => by rw [List.eq_of_mem_replicate hx]; trivial⟩ ?_⟩
    · show CloL _ _
      rw [CloL_iff]
      intro x hx
      rw [List.eq_of_mem_replicate hx]; trivial
    · obtain ⟨m, rfl⟩ : ∃ m, n = m + 1 := ⟨n - 1, by omega⟩
      simp [stB, sqB, kids, List.replicate_succ, wrB]
  · exact .inl ⟨⟨⟨trivial, trivial⟩, trivial⟩, badF_st (k := 2) ⟨by decide, fun x hx => by rw [List.mem_singleton.mp hx]; exact ⟨by decide, fun z hz => by rw [List.mem_singleton.mp hz]; trivial⟩⟩ rfl⟩
  · exact .inl ⟨⟨⟨trivial, trivial⟩, trivial⟩, badF_st (k := 2) ⟨by decide, fun x hx => by rw [List.mem_singleton.mp hx]; exact ⟨by decide, fun z hz => by rw [List.mem_singleton.mp hz]; trivial⟩⟩ rfl⟩
  · exact .inr h
end
end Sh2

namespace Sh2
open PySem PySem.Spec PyProof.Rows L2 DM LA Sh
theorem sIf_nil {t : TM} {a : SM} {τ : DSt} {M M' : Mem} (h : t τ M = .ok false M') : sIf t a sNil τ M = .nx τ M' := (sIf_f h).trans rfl
/-- the table whose row and column s are its row and column a -/
def dup (F : Mat) (a s : Nat) : Mat := fun i j => F (if i = s then a else i) (if j = s then a else j)
noncomputable abbrev nfLoop : SM := (sAsg (eBin false oIx (eBin false oIx (eVar 3) (eVar 8)) (eVar 6)) (mSub (eBin false oIx (eVar 3) (eVar 8)) (eVar 7)))
theorem nf_loop {l n : Nat} {M0 : Mem} {P : Nat → Nat} {G : Mat} {M : Mem} (H : Rws l M0 n P (fun i => vec n (G i)) M) {a s : Nat} (ha : a < n) (hs : s < n) (x1 x4 x5 x8 x9 : Option D) : ∃ y8 M', Rws l M0 n P (fun i => vec n (fun j => if j = s then G i a else G i j)) M' ∧
    forL [] (mName 8) nfLoop (rangeD 0 n) [some (.loc l), x1, some (.int n), some (.loc (M0.length + n)), x4, x5, some (.int (a : Int)), some (.int (s : Int)), x8, x9] M = .nx [some (.loc l), x1, some (.int n), some (.loc (M0.length + n)), x4, x5, some (.int (a : Int)), some (.int (s : Int)), y8, x9] M' := by
  obtain ⟨τ', M', e, y8, H', rfl⟩ := forL_range (g := mName 8) (b := nfLoop) (lo := 0) (n := n)
    (R := fun k τ M' => ∃ y8, Rws l M0 n P (fun i => if i < k then vec n (fun j => if j = s then G i a else G i j) else vec n (G i)) M' ∧ τ = [some (.loc l), x1, some (.int n), some (.loc (M0.length + n)), x4, x5, some (.int (a : Int)), some (.int (s : Int)), y8, x9])
    (fun k τ M' hk hR => by
      obtain ⟨y8, H', rfl⟩ := hR
      have hr := (H'.at_ k hk).2.2
      simp only [Nat.lt_irrefl, if_false] at hr
      have hat := H'.get hk
      have H2 := H'.set hk ((vec n (G k)).set s (.int (G k a)))
      refine ⟨[some (.loc l), x1, some (.int n), some (.loc (M0.length + n)), x4, x5, some (.int (a : Int)), some (.int (s : Int)), some (.int (0 + (k : Int))), x9], M', [some (.loc l), x1, some (.int n), some (.loc (M0.length + n)), x4, x5, some (.int (a : Int)), some (.int (s : Int)), some (.int (0 + (k : Int))), x9], M'.set (P k) (some ((vec n (G k)).set s (.int (G k a)))), rfl, .inl ?_, some (.int (0 + (k : Int))), H2.congr fun i hi => ?_, rfl⟩
      · simp [seqOf_loc H'.rows, hat, seqOf_loc hr, atI_vec _ ha, hr, hs]
      · by_cases e : i = k
        · subst e
          rw [if_pos rfl, if_pos (by omega), vec_set _ _ hs]
        · rw [if_neg e]
          by_cases e2 : i < k
          · rw [if_pos e2, if_pos (by omega)]
          · rw [if_neg e2, if_neg (by omega)])
    (τ := [some (.loc l), x1, some (.int n), some (.loc (M0.length + n)), x4, x5, some (.int (a : Int)), some (.int (s : Int)), x8, x9]) (M := M)
    ⟨x8, H.congr fun i _ => by rw [if_neg (by omega)], rfl⟩
  exact ⟨y8, M', H'.congr fun i hi => by rw [if_pos hi], e⟩
theorem noForm_spec {l n : Nat} {F : Mat} {M : Mem} (hp : PoolAt l M) (h1 : 1 ≤ n) (h8 : n ≤ 8) (hF : ∀ i, i < n → ∀ j, j < n → ((F i j).natAbs : Int) ≤ 1000000) (hsym : ∀ i, i < n → ∀ j, j < n → F i j = F j i) :
    ∃ d r M', c__law_no_form [.loc l, tab true true n n F] M = .ok (.tup [d, .str r]) M' ∧ BadF d r ∧ PStep l M M' := by
  have hsF : ∀ M, seqOf (tab true true n n F) M = some { xs := rws true n n F } := fun M => seqOf_sq _ _ _
  let form := tab true true n n F
  have H0 := Rws.mk0 (n := n) hp (fun i => vec n (F i))
  have hlen : (M ++ (List.range n).map fun y => some (vec n (F y))).length = M.length + n := by simp
  have c1 : sSet 2 (eArgs false oLen (aCons (eVar 1) aNil)) (startD N__law_no_form [.loc l, tab true true n n F]) M = .nx [some (.loc l), some (tab true true n n F), some (.int n), none, none, none, none, none, none, none] M := by
    simp [startD, hsF]
  have c2 : sSet 3 (eLc true (iSeq (eVar 1)) (mName 9) mYes (eArgs true oList (aCons (eVar 9) aNil)) [9]) [some (.loc l), some (tab true true n n F), some (.int n), none, none, none, none, none, none, none] M =
      .nx [some (.loc l), some (tab true true n n F), some (.int n), some (.loc (M.length + n)), none, none, none, none, none, none] ((M ++ (List.range n).map fun y => some (vec n (F y))) ++ [some ((List.range' M.length n).map .loc)]) := by
    have hh := mkLocs (i := 9) (τ := [some (.loc l), some (tab true true n n F), some (.int n), none, none, none, none, none, none, none]) (by simp) (enc := fun i => sqD true (vec n (F i))) (W := fun i => vec n (F i)) (fun y M => ⟨[], seqOf_sq _ _ _⟩) (List.range n) M
    have hh : lcL [] (mName 9) mYes (eArgs true oList (aCons (eVar 9) aNil)) (rws true n n F) [some (.loc l), some (tab true true n n F), some (.int n), none, none, none, none, none, none, none] M = .ok ((List.range' M.length (List.range n).length).map .loc) (M ++ (List.range n).map fun y => some (vec n (F y))) := hh
    simp only [sSet, eLc, iSeq, eVar, List.getElem?_cons_zero, List.getElem?_cons_succ, R.bind_ok, hsF, rws_len, le_line' (show n ≤ 64 by omega), if_true, wipeD, List.set_cons_succ, List.set_cons_zero, hh, List.length_map, List.length_range', List.length_range, fin_lt, andS_ok, hlen]
  obtain ⟨kind, M1, e1, hk0, hk1, H1⟩ := H0.take hp (m := 3) (by decide) (by decide)
  have c3 : sSet 4 (eCall 2 (Sh.c__law_take 2) (aCons (eVar 0) (aCons (eC (.int 3)) aNil))) [some (.loc l), some (tab true true n n F), some (.int n), some (.loc (M.length + n)), none, none, none, none, none, none] ((M ++ (List.range n).map fun y => some (vec n (F y))) ++ [some ((List.range' M.length n).map .loc)]) =
      .nx [some (.loc l), some (tab true true n n F), some (.int n), some (.loc (M.length + n)), some (.int kind), none, none, none, none, none] M1 := by
    simp only [sSet, eCall, aCons, aNil, eC, eVar, List.getElem?_cons_zero, List.getElem?_cons_succ, R.bind_ok, List.length_cons, List.length_nil]
    rw [if_pos (by decide), e1]
    rfl
  unfold c__law_no_form m__law_no_form
  rw [seq_nx c1, seq_nx c2, seq_nx c3]
  by_cases hA : kind = 0 ∨ n < 2
  · obtain ⟨a, s, v, d, M2, ha, hs, hv, H2, hd, e2⟩ := nf_A H1 hp h1 h8 (tab true true n n F) (.int kind) (fun i _ => vec_len _ _)
    have ct : (mOr (asB (eBin false oEq (eVar 4) (eC (.int 0)))) (asB (eBin false oLt (eVar 2) (eC (.int 2))))) [some (.loc l), some (tab true true n n F), some (.int n), some (.loc (M.length + n)), some (.int kind), none, none, none, none, none] M1 = .ok true M1 := by
      by_cases hk : kind = 0
      · simp [hk]
      · have : (n : Int) < 2 := by omega
        simp [hk, this]
    rw [seq_rt ((sIf_t ct).trans e2)]
    show ∃ d' r M', trunc M M2 (.tup [d, .str "table"]) = .ok (.tup [d', .str r]) M' ∧ _
    have hfl : ∀ i, i < n → ∀ d ∈ (if i = a then (vec n (F a)).set s v else vec n (F i)), Fl d := fun i _ d hd => by
      split at hd
      · rcases List.mem_or_eq_of_mem_set hd with h | h
        · exact fl_vec _ d h
        · subst h
          simp only [bad7, List.mem_cons, List.not_mem_nil, or_false] at hv
          rcases hv with rfl | rfl | rfl | rfl | rfl | rfl | rfl
          · exact ⟨fun _ => trivial, fun _ _ => rfl⟩
          · exact ⟨fun _ => trivial, fun _ _ => rfl⟩
          · exact ⟨fun _ => trivial, fun _ _ => rfl⟩
          · exact fl_int _
          · exact fl_int _
          · exact ⟨fun _ => ⟨trivial, trivial⟩, fun _ _ => rfl⟩
          · exact ⟨fun _ => ⟨trivial, trivial⟩, fun _ _ => rfl⟩
      · exact fl_vec _ d hd
    rcases hd with hd | rfl | rfl
    · rcases nf_14 H1 hp h1 h8 hd with ⟨hc, hb⟩ | rfl
      · obtain ⟨M3, e3, s3⟩ := trunc_rws H2 hp (d := .tup [d, .str "table"]) (fz_clo ⟨hc, trivial, trivial⟩)
        exact ⟨d, _, M3, e3, hb, s3⟩
      · let W' : Nat → List D := fun k => if k = a then (vec n (F a)).set s v else vec n (F k)
        have hfz : fz M2 M.length (.tup [.lst (((List.range n).map fun i => D.loc (M.length + i)).take (n - 1) ++ [.lst (vec n (F (n - 1)) ++ [.int 0])]), .str "table"]) = some (.tup [sqs false false (((List.range n).map W').take (n - 1) ++ [vec n (F (n - 1)) ++ [D.int 0]]), .str "table"]) := by
          have hsq : sqs false false (((List.range n).map W').take (n - 1) ++ [vec n (F (n - 1)) ++ [D.int 0]]) = .lst (((List.range n).map fun i => D.lst (W' i)).take (n - 1) ++ [D.lst (vec n (F (n - 1)) ++ [D.int 0])]) := by
            unfold sqs
            rw [List.map_append, List.map_take, List.map_map]; rfl
          rw [hsq]
          refine fz_of ?_ fun hc => ?_
          · have h1' : (((List.range n).map fun i => D.loc (M.length + i)).take (n - 1)).mapM (fzD M2 M.length 4) = some (((List.range n).map fun i => D.lst (W' i)).take (n - 1)) := by
              rw [← List.map_take, ← List.map_take]
              refine mapM_map _ fun i hi => ?_
              have hi : i < n := by
                have := List.mem_of_mem_take hi
                simpa using this
              obtain ⟨q1, q2, q3⟩ := H2.at_ i hi
              show (if M.length + i < M.length then some (D.loc (M.length + i)) else (memAt M2 (M.length + i)).bind fun ds => (ds.mapM (fzD M2 M.length 3)).map D.lst) = _
              rw [if_neg (by omega), q3]
              show ((if i = a then (vec n (F a)).set s v else vec n (F i)).mapM (fzD M2 M.length 3)).map D.lst = _
              rw [fl_rows (hfl i hi)]; rfl
            have h2' : fzD M2 M.length 4 (.lst (vec n (F (n - 1)) ++ [.int 0])) = some (.lst (vec n (F (n - 1)) ++ [.int 0])) := by
              show ((vec n (F (n - 1)) ++ [D.int 0]).mapM (fzD M2 M.length 3)).map D.lst = _
              rw [fl_rows fun d hd => ?_]
              · rfl
              · rcases List.mem_append.mp hd with h | h
                · exact fl_vec _ d h
                · rw [List.mem_singleton.mp h]; exact fl_int _
            have h3' : fzD M2 M.length 5 (.lst (((List.range n).map fun i => D.loc (M.length + i)).take (n - 1) ++ [.lst (vec n (F (n - 1)) ++ [.int 0])])) = some (.lst (((List.range n).map fun i => D.lst (W' i)).take (n - 1) ++ [.lst (vec n (F (n - 1)) ++ [.int 0])])) := by
              show ((((List.range n).map fun i => D.loc (M.length + i)).take (n - 1) ++ [D.lst (vec n (F (n - 1)) ++ [D.int 0])]).mapM (fzD M2 M.length 4)).map D.lst = _
              rw [List.mapM_append, h1', List.mapM_cons, h2']
              rfl
            show (([D.lst (((List.range n).map fun i => D.loc (M.length + i)).take (n - 1) ++ [.lst (vec n (F (n - 1)) ++ [.int 0])]), .str "table"] : List D).mapM (fzD M2 M.length 5)).map D.tup = _
            rw [List.mapM_cons, h3']
            rfl
          · have hc : CloL M.length (((List.range n).map fun i => D.loc (M.length + i)).take (n - 1) ++ [.lst (vec n (F (n - 1)) ++ [.int 0])]) := hc.1
            have : n - 1 = 0 := by
              by_cases z : n - 1 = 0
              · exact z
              · exfalso
                have := (CloL_iff.mp hc) (.loc (M.length + 0)) (List.mem_append_left _ (by
                  rw [← List.map_take]
                  exact List.mem_map.mpr ⟨0, by rw [List.mem_take_iff_getElem]; exact ⟨0, by simp; omega, by simp⟩, rfl⟩))
                have : M.length + 0 < M.length := this
                omega
            rw [this]
            simp
        obtain ⟨M3, e3, s3⟩ := trunc_rws H2 hp hfz
        refine ⟨_, _, M3, e3, ?_, s3⟩
        have hlen2 : (((List.range n).map W').take (n - 1) ++ [vec n (F (n - 1)) ++ [D.int 0]]).length = n := by simp; omega
        refine badF_st (k := 2) (pl_sqs (k := 1) (by rw [hlen2]; omega) (fun ds hds => ?_) fun ds hds d hd => ?_) (stB_row (ds := vec n (F (n - 1)) ++ [D.int 0]) (List.mem_append_right _ (List.mem_singleton.mpr rfl)) ?_)
        · rcases List.mem_append.mp hds with h | h
          · obtain ⟨k, _, rfl⟩ := List.mem_map.mp (List.mem_of_mem_take h)
            show (if k = a then (vec n (F a)).set s v else vec n (F k)).length ≤ 65
            split <;> simp <;> omega
          · rw [List.mem_singleton.mp h]; simp; omega
        · have hvec : ∀ u : Nat → Int, ∀ d ∈ vec n u, Pl 2 d := fun u d hd => by
            obtain ⟨i, _, rfl⟩ := List.mem_map.mp hd
            trivial
          rcases List.mem_append.mp hds with h | h
          · obtain ⟨k, _, rfl⟩ := List.mem_map.mp (List.mem_of_mem_take h)
            have hd : d ∈ (if k = a then (vec n (F a)).set s v else vec n (F k)) := hd
            split at hd
            · rcases List.mem_or_eq_of_mem_set hd with h | h
              · exact hvec _ d h
              · rw [h]
                simp only [bad7, List.mem_cons, List.not_mem_nil, or_false] at hv
                rcases hv with rfl | rfl | rfl | rfl | rfl | rfl | rfl
                · trivial
                · trivial
                · trivial
                · trivial
                · trivial
                · exact ⟨by decide, fun x hx => by rw [List.mem_singleton.mp hx]; trivial⟩
                · exact ⟨by decide, fun x hx => by rw [List.mem_singleton.mp hx]; trivial⟩
            · exact hvec _ d hd
          · rw [List.mem_singleton.mp h] at hd
            rcases List.mem_append.mp hd with h | h
            · exact hvec _ d h
            · rw [List.mem_singleton.mp h]; trivial
        · rintro ⟨h, _⟩
          rw [hlen2] at h
          simp at h
    · obtain ⟨M3, e3, s3⟩ := trunc_rws H2 hp (H2.fz hfl "table")
      exact ⟨_, _, M3, e3, nf_bad H1 hp h1 h8 ha hs hv false false, s3⟩
    · obtain ⟨M3, e3, s3⟩ := trunc_rws H2 hp (d := .tup [sqs true true ((List.range n).map fun k => if k = a then (vec n (F a)).set s v else vec n (F k)), .str "table"]) (fz_clo ⟨clo_sqs fun ds hds d hd => by
        obtain ⟨k, hk, rfl⟩ := List.mem_map.mp hds
        exact hfl k (by simpa using hk) d hd, trivial, trivial⟩)
      exact ⟨_, _, M3, e3, nf_bad H1 hp h1 h8 ha hs hv true true, s3⟩
  · have hk : ¬ kind = 0 := fun h => hA (.inl h)
    have hn2 : 2 ≤ n := by
      apply Classical.byContradiction
      intro h
      exact hA (.inr (by omega))
    have hn2' : ¬ (n : Int) < 2 := by omega
    obtain ⟨a, M2, e2, ha0, ha1, H2⟩ := H1.take hp (m := (n : Int)) (by omega) (by omega)
    obtain ⟨f, M3, e3, hf0, hf1, H3⟩ := H2.take hp (m := (n : Int) - 1) (by omega) (by omega)
    obtain ⟨a, rfl⟩ : ∃ a' : Nat, a = a' := ⟨a.toNat, by omega⟩
    have ha : a < n := by omega
    have hs : ∃ s : Nat, ((a : Int) + 1 + f).fmod (n : Int) = s ∧ s < n ∧ a ≠ s := by
      rw [fmod_pos (by omega)]
      have p1 := Int.emod_nonneg ((a : Int) + 1 + f) (show (n : Int) ≠ 0 by omega)
      have p2 := Int.emod_lt_of_pos ((a : Int) + 1 + f) (show (0 : Int) < n by omega)
      refine ⟨(((a : Int) + 1 + f) % n).toNat, by omega, by omega, ?_⟩
      by_cases z : (a : Int) + 1 + f < n
      · rw [Int.emod_eq_of_lt (by omega) z]; omega
      · have : ((a : Int) + 1 + f) % n = (a : Int) + 1 + f - n := by
          rw [← Int.sub_emod_right, Int.emod_eq_of_lt (by omega) (by omega)]
        rw [this]; omega
    obtain ⟨s, hs1, hs, has⟩ := hs
    have hn0 : ¬ n = 0 := by omega
    have ct : (mOr (asB (eBin false oEq (eVar 4) (eC (.int 0)))) (asB (eBin false oLt (eVar 2) (eC (.int 2))))) [some (.loc l), some (tab true true n n F), some (.int n), some (.loc (M.length + n)), some (.int kind), none, none, none, none, none] M1 = .ok false M1 := by
      simp [hk, hn2']
    rw [seq_nx (sIf_nil ct)]
    have c5 : sSet 6 (eCall 2 (Sh.c__law_take 2) (aCons (eVar 0) (aCons (eVar 2) aNil))) [some (.loc l), some (tab true true n n F), some (.int n), some (.loc (M.length + n)), some (.int kind), none, none, none, none, none] M1 =
        .nx [some (.loc l), some (tab true true n n F), some (.int n), some (.loc (M.length + n)), some (.int kind), none, some (.int (a : Int)), none, none, none] M2 := by simp [e2]
    have c6 : sSet 7 (eBin false oMod (eArgs false oInt (aCons (eBin false oAdd (eBin false oAdd (eVar 6) (eC (.int 1))) (eCall 2 (Sh.c__law_take 2) (aCons (eVar 0) (aCons (eBin false oSub (eVar 2) (eC (.int 1))) aNil)))) aNil)) (eVar 2)) [some (.loc l), some (tab true true n n F), some (.int n), some (.loc (M.length + n)), some (.int kind), none, some (.int (a : Int)), none, none, none] M2 =
        .nx [some (.loc l), some (tab true true n n F), some (.int n), some (.loc (M.length + n)), some (.int kind), none, some (.int (a : Int)), some (.int (s : Int)), none, none] M3 := by simp [e3, hn0, hs1]
    rw [seq_nx c5, seq_nx c6]
    by_cases hk1' : kind = 1
    · subst hk1'
      obtain ⟨t, M4, e4, ht, H4⟩ := H3.pick hp (ds := [.int 1, .int (-1), .int 5]) (by simp) (by simp)
      obtain ⟨t, rfl, ht0, ht5⟩ : ∃ t' : Int, t = .int t' ∧ t' ≠ 0 ∧ t'.natAbs ≤ 5 := by
        simp at ht
        rcases ht with rfl | rfl | rfl
        · exact ⟨1, rfl, by decide, by decide⟩
        · exact ⟨-1, rfl, by decide, by decide⟩
        · exact ⟨5, rfl, by decide, by decide⟩
      have H5 := H4.set ha ((vec n (F a)).set s (.int (F a s + t)))
      have H6 := H5.congr fun i _ => setM_row (F := F) (a := a) (x := F a s + t) hs i
      have hr3 := (H3.at_ a ha).2.2
      have hr4 := (H4.at_ a ha).2.2
      have hat := H3.get ha
      have c7 : sAsg (eBin false oAdd (eBin false oIx (eBin false oIx (eVar 3) (eVar 6)) (eVar 7)) (eCall 2 (Sh.c__law_pick) (aCons (eVar 0) (aCons (eArgs false oLst (aCons (eC (.int 1)) (aCons (eUn false oNeg (eC (.int 1))) (aCons (eC (.int 5)) aNil)))) aNil)))) (mSub (eBin false oIx (eVar 3) (eVar 6)) (eVar 7))
          [some (.loc l), some (tab true true n n F), some (.int n), some (.loc (M.length + n)), some (.int 1), none, some (.int (a : Int)), some (.int (s : Int)), none, none] M3 =
          .nx [some (.loc l), some (tab true true n n F), some (.int n), some (.loc (M.length + n)), some (.int 1), none, some (.int (a : Int)), some (.int (s : Int)), none, none] (M4.set (M.length + a) (some ((vec n (F a)).set s (.int (F a s + t))))) := by
        simp [seqOf_loc H3.rows, seqOf_loc H4.rows, hat, seqOf_loc hr3, atI_vec _ hs, e4, hr4, hs]
      obtain ⟨b, c, M', e, M6, e6, e7, s7⟩ := nf_hand H6 hp (by omega) "sides" (τ := [some (.loc l), some (tab true true n n F), some (.int n), some (.loc (M.length + n)), some (.int 1), none, some (.int (a : Int)), some (.int (s : Int)), none, none]) (by simp) (by simp)
      refine ⟨tab b c n n (setM F a s (F a s + t)), "sides", M', ?_, ?_, s7⟩
      · rw [seq_rt ((sIf_t (M' := M3) (by simp)).trans ((seq_nx c7).trans e6))]
        exact e7
      · intro M
        refine fault_sides h1 h8 (fun i hi j hj => ?_) ⟨a, ha, s, hs, ?_⟩ M
        · have := hF i hi j hj
          have := hF a ha s hs
          unfold setM
          split <;> omega
        · unfold setM
          rw [if_pos ⟨rfl, rfl⟩, if_neg (fun h => has h.2), hsym s hs a ha]
          omega
    · have H4 := H3.newrow hs (vec n (F a))
      have hr3 := (H3.at_ a ha).2.2
      have hat := H3.get ha
      have H5 := H4.congr (W' := fun i => vec n (F (if i = s then a else i))) fun i _ => by
        by_cases e : i = s
        · rw [if_pos e, if_pos e]
        · rw [if_neg e, if_neg e]
      have hrows : memAt (M3 ++ [some (vec n (F a))]) (M.length + n) = some ((List.range n).map fun i => D.loc (M.length + i)) := by
        rw [memAt_app_lt (memAt_lt H3.rows)]; exact H3.rows
      have hset : ((List.range n).map fun i => D.loc (M.length + i)).set s (.loc M3.length) = (List.range n).map fun k => D.loc (if k = s then M3.length else M.length + k) := by
        apply List.ext_getElem?
        intro k
        by_cases hk : k < n
        · rw [range_map_get _ hk]
          by_cases e : s = k
          · subst e; rw [List.getElem?_set_self (by simpa using hk), if_pos rfl]
          · rw [List.getElem?_set_ne e, range_map_get _ hk, if_neg (Ne.symm e)]
        · rw [List.getElem?_eq_none (by simpa using hk), List.getElem?_eq_none (by simpa using hk)]
      have c7 : sIf (asB (eBin false oEq (eVar 4) (eC (.int 1)))) (sSeq (sAsg (eBin false oAdd (eBin false oIx (eBin false oIx (eVar 3) (eVar 6)) (eVar 7)) (eCall 2 (Sh.c__law_pick) (aCons (eVar 0) (aCons (eArgs false oLst (aCons (eC (.int 1)) (aCons (eUn false oNeg (eC (.int 1))) (aCons (eC (.int 5)) aNil)))) aNil)))) (mSub (eBin false oIx (eVar 3) (eVar 6)) (eVar 7))) (sRet (eArgs false oTup (aCons (eCall 2 (Sh2.c__law_handed) (aCons (eVar 0) (aCons (eVar 3) aNil))) (aCons (eC (.str "sides")) aNil))))) sNil
          [some (.loc l), some (tab true true n n F), some (.int n), some (.loc (M.length + n)), some (.int kind), none, some (.int (a : Int)), some (.int (s : Int)), none, none] M3 =
          .nx [some (.loc l), some (tab true true n n F), some (.int n), some (.loc (M.length + n)), some (.int kind), none, some (.int (a : Int)), some (.int (s : Int)), none, none] M3 := sIf_nil (by simp [hk1'])
      have c8 : sAsg (eArgs true oList (aCons (eBin false oIx (eVar 3) (eVar 6)) aNil)) (mSub (eVar 3) (eVar 7)) [some (.loc l), some (tab true true n n F), some (.int n), some (.loc (M.length + n)), some (.int kind), none, some (.int (a : Int)), some (.int (s : Int)), none, none] M3 =
          .nx [some (.loc l), some (tab true true n n F), some (.int n), some (.loc (M.length + n)), some (.int kind), none, some (.int (a : Int)), some (.int (s : Int)), none, none] ((M3 ++ [some (vec n (F a))]).set (M.length + n) (some ((List.range n).map fun k => D.loc (if k = s then M3.length else M.length + k)))) := by
        simp only [sAsg, eArgs, aCons, aNil, eBin, eVar, oIx, List.getElem?_cons_zero, List.getElem?_cons_succ, R.bind_ok, seqOf_loc H3.rows, Option.bind_some, intOf_int, hat, Option.map_some, fin_v, oList_1, seqOf_loc hr3, fin_lt, andS_ok, mSub, setAt, placeOf_loc, hrows, List.length_map, List.length_range, ixN_nat hs, hset]
      obtain ⟨y8, M5, H6, e5⟩ := nf_loop (G := fun i => F (if i = s then a else i)) H5 ha hs (some (tab true true n n F)) (some (.int kind)) none none none
      have hl : n < 4611686018427387904 := by omega
      have c9 : sFor (iRange1 (aCons (eVar 2) aNil)) (mName 8) nfLoop [some (.loc l), some (tab true true n n F), some (.int n), some (.loc (M.length + n)), some (.int kind), none, some (.int (a : Int)), some (.int (s : Int)), none, none] ((M3 ++ [some (vec n (F a))]).set (M.length + n) (some ((List.range n).map fun k => D.loc (if k = s then M3.length else M.length + k)))) =
          .nx [some (.loc l), some (tab true true n n F), some (.int n), some (.loc (M.length + n)), some (.int kind), none, some (.int (a : Int)), some (.int (s : Int)), y8, none] M5 := by
        refine Eq.trans ?_ e5
        simp only [sFor, iRange1_eq, aCons, aNil, eVar, List.getElem?_cons_zero, List.getElem?_cons_succ, R.bind_ok, if_true, rngOk_n hl, Int.toNat_natCast, andS_ok]
      have H7 : Rws l M n _ (fun i => vec n (dup F a s i)) M5 := H6.congr fun i _ => vec_congr fun j _ => by
        unfold dup
        by_cases e : j = s
        · rw [if_pos e, if_pos e]
        · rw [if_neg e, if_neg e]
      obtain ⟨b, c, M', e, M6, e6, e7, s7⟩ := nf_hand H7 hp (by omega) "determinant" (τ := [some (.loc l), some (tab true true n n F), some (.int n), some (.loc (M.length + n)), some (.int kind), none, some (.int (a : Int)), some (.int (s : Int)), y8, none]) (by simp) (by simp)
      refine ⟨tab b c n n (dup F a s), "determinant", M', ?_, ?_, s7⟩
      · rw [seq_nx c7, seq_nx c8, seq_nx c9, e6]
        exact e7
      · intro M
        have hd : det n (dup F a s) = 0 := (det_Alt n).eqr (dup F a s) a s ha hs has fun j _ => by
          unfold dup
          rw [if_neg has, if_pos rfl]
        have hle : ∀ i, i < n → ∀ j, j < n → ((dup F a s i j).natAbs : Int) ≤ 1000000 := fun i hi j hj => by
          unfold dup
          exact hF _ (by split <;> omega) _ (by split <;> omega)
        have := fault_sym (b := b) (c := c) (A := dup F a s) (n := n) (most := 1000000000000000000000000000000) h1 h8 (fun i hi j hj => Int.le_trans (hle i hi j hj) (by decide)) (by decide) (fun i hi j hj => by
          unfold dup
          exact hsym _ (by split <;> omega) _ (by split <;> omega)) M
        rw [hd, if_pos rfl] at this
        exact this
end Sh2

/-! cofactors -/
namespace Sh2
open PySem PySem.Spec PyProof.Rows L2 DM LA Sh
theorem filter_skip {m p : Nat} (h : p ≤ m) : (List.range (m + 1)).filter (fun j => !decide (j = p)) = (List.range m).map (skip p) := by
  have e1 : List.range (m + 1) = List.range p ++ (p :: (List.range (m - p)).map (fun k => p + (k + 1))) := by
    have : m + 1 = p + ((m - p) + 1) := by omega
    rw [this, List.range_add, List.range_succ_eq_map, List.map_cons, List.map_map]
    rfl
  have e2 : List.range m = List.range p ++ (List.range (m - p)).map (fun k => p + k) := by
    conv => lhs; rw [show m = p + (m - p) by omega]
    rw [List.range_add]
  rw [e1, e2, List.filter_append, List.filter_cons, List.map_append, List.map_map]
  congr 1
  · rw [List.filter_eq_self.mpr fun j hj => by
      have : j < p := by simpa using hj
      have : ¬ j = p := by omega
      simp [this]]
    have : (List.range p).map (skip p) = (List.range p).map id := List.map_congr_left fun j hj => skip_of_lt (by simpa using hj)
    rw [this, List.map_id]
  · simp only [decide_true, Bool.not_true]
    rw [if_neg (by simp), List.filter_eq_self.mpr fun j hj => by
      obtain ⟨k, _, rfl⟩ := List.mem_map.mp hj
      have : ¬ p + (k + 1) = p := by omega
      simp [this]]
    exact List.map_congr_left fun k _ => by
      show p + (k + 1) = skip p (p + k)
      rw [skip_of_ge (by omega)]; omega
/-- the lists of the rows so far -/
structure Cf (M : Mem) (n r : Nat) (C : Mat) (M' : Mem) : Prop where
  ex : ∃ (o : Mem) (ls : List Nat), M' = M ++ some (ls.map D.loc) :: o ∧ ls.length = r ∧ ∀ (k x : Nat), ls[k]? = some x → M.length < x ∧ memAt M' x = some (vec n (C k))
theorem Cf.init (M : Mem) (n : Nat) (C : Mat) : Cf M n 0 C (M ++ [some []]) := ⟨[], [], rfl, rfl, fun k x h => by simp at h⟩
theorem memAt_mid {M o : Mem} {a : Option (List D)} : memAt (M ++ a :: o) M.length = a := by
  unfold memAt
  rw [List.getElem?_append_right (Nat.le_refl _), Nat.sub_self]; rfl
theorem set_mid {M o : Mem} {a a' : Option (List D)} : (M ++ a :: o).set M.length a' = M ++ a' :: o := by
  rw [List.set_append_right _ _ (Nat.le_refl _), Nat.sub_self]; rfl
theorem memAt_past {M o : Mem} {a a' : Option (List D)} {x : Nat} (h : M.length < x) : memAt (M ++ a :: o) x = memAt (M ++ a' :: o) x := by
  unfold memAt
  obtain ⟨k, rfl⟩ : ∃ k, x = M.length + (k + 1) := ⟨x - M.length - 1, by omega⟩
  rw [List.getElem?_append_right (by omega), List.getElem?_append_right (by omega), Nat.add_sub_cancel_left]
  rfl
theorem Cf.step {M M' : Mem} {n r : Nat} {C : Mat} (h : Cf M n r C M') (o' : Mem) : ∃ ds, memAt (M' ++ some (vec n (C r)) :: o') M.length = some ds ∧ ds.length = r ∧ Cf M n (r + 1) C ((M' ++ some (vec n (C r)) :: o').set M.length (some (ds ++ [.loc M'.length]))) := by
  obtain ⟨o, ls, rfl, hl, hk⟩ := h.ex
  have e : (M ++ some (ls.map D.loc) :: o) ++ some (vec n (C r)) :: o' = M ++ some (ls.map D.loc) :: (o ++ some (vec n (C r)) :: o') := by simp
  refine ⟨ls.map .loc, by rw [e]; exact memAt_mid, by simpa using hl, ⟨o ++ some (vec n (C r)) :: o', ls ++ [(M ++ some (ls.map D.loc) :: o).length], ?_, by simp [hl], fun k x hx => ?_⟩⟩
  · rw [e, set_mid]; simp
  · rw [e, set_mid]
    by_cases hkl : k < ls.length
    · rw [List.getElem?_append_left hkl] at hx
      obtain ⟨q1, q2⟩ := hk k x hx
      refine ⟨q1, ?_⟩
      rw [memAt_past (a' := some (ls.map .loc)) q1, ← e]
      unfold memAt
      rw [List.getElem?_append_left (memAt_lt q2)]
      exact q2
    · have hkr : k = ls.length := by
        have := (List.getElem?_eq_some_iff.mp hx).1
        simp at this; omega
      subst hkr
      simp at hx
      subst hx
      refine ⟨by omega, ?_⟩
      rw [memAt_past (a' := some (ls.map .loc)) (by omega), ← e, hl]
      have : M.length + (o.length + 1) = (M ++ some (ls.map D.loc) :: o).length := by simp
      rw [this]
      exact memAt_mid
theorem Cf.fin {M M' : Mem} {n : Nat} {C : Mat} (h : Cf M n n C M') : trunc M M' (.loc M.length) = .ok (tab false false n n C) M := by
  obtain ⟨o, ls, rfl, hl, hk⟩ := h.ex
  refine trunc_app (fz_of ?_ fun hc => by
    have : M.length < M.length := hc
    omega)
  show (if M.length < M.length then some (D.loc M.length) else (memAt (M ++ some (ls.map D.loc) :: o) M.length).bind fun ds => (ds.mapM (fzD (M ++ some (ls.map D.loc) :: o) M.length 5)).map D.lst) = _
  rw [if_neg (by omega), memAt_mid]
  show ((ls.map D.loc).mapM (fzD (M ++ some (ls.map D.loc) :: o) M.length 5)).map D.lst = _
  have hls : ls = (List.range n).map (fun k => ls.getD k 0) := by
    apply List.ext_getElem?
    intro k
    by_cases hkn : k < n
    · rw [range_map_get _ hkn, List.getD_eq_getElem?_getD, List.getElem?_eq_getElem (by omega)]; rfl
    · rw [List.getElem?_eq_none (by omega), List.getElem?_eq_none (by simpa using hkn)]
  have : (ls.map D.loc).mapM (fzD (M ++ some (ls.map D.loc) :: o) M.length 5) = some (rws false n n C) := by
    have e1 : ls.map D.loc = (List.range n).map (fun k => D.loc (ls.getD k 0)) := by
      conv => lhs; rw [hls]
      rw [List.map_map]; rfl
    conv => lhs; arg 2; rw [e1]
    refine mapM_map _ fun k hkm => ?_
    have hkn : k < n := by simpa using hkm
    obtain ⟨q1, q2⟩ := hk k (ls.getD k 0) (by rw [List.getD_eq_getElem?_getD, List.getElem?_eq_getElem (by omega)]; rfl)
    show (if ls.getD k 0 < M.length then some (D.loc (ls.getD k 0)) else (memAt (M ++ some (ls.map D.loc) :: o) (ls.getD k 0)).bind fun ds => (ds.mapM (fzD (M ++ some (ls.map D.loc) :: o) M.length 4)).map D.lst) = _
    rw [if_neg (by omega), q2]
    show ((vec n (C k)).mapM (fzD (M ++ some (ls.map D.loc) :: o) M.length 4)).map D.lst = _
    rw [fzD_vec]; rfl
  rw [this]; rfl
theorem sgn_int (i j : Nat) : (1 : Int) - 2 * ((i : Int) + (j : Int)).fmod 2 = sg (i + j) := by
  rw [fmod_pos (by decide)]
  unfold sg
  split <;> omega
theorem sg_le (k : Nat) : (sg k).natAbs ≤ 1 := Nat.le_of_eq (sg_abs k)
theorem vec_snoc (n : Nat) (v : Nat → Int) : vec n v ++ [.int (v n)] = vec (n + 1) v := by
  unfold vec
  rw [List.range_succ, List.map_append]; rfl
section
variable {b c : Bool} {m bb : Nat} {A : Mat} (hn : m + 1 ≤ 64) (hb : (6 + bb) * (m + 1) + 1 ≤ 8000) (hA : ∀ i, i < m + 1 → ∀ j, j < m + 1 → (A i j).natAbs ≤ 2 ^ bb)
include hn hb hA
noncomputable abbrev cfIn : SM := (sIf (asB (eBin false oNe (eVar 6) (eVar 2))) (sExpr (eMt oAppend (eVar 5) (aCons (eLc false (iEnumX (aCons (eVar 7) aNil)) (mTup 2 (mCons (mName 8) (mCons (mName 9) mNil))) (asB (eBin false oNe (eVar 8) (eVar 4))) (eVar 9) [8, 9]) aNil))) sNil)
noncomputable abbrev cfMid : SM := (sSeq (sSet 5 (eArgs true oLst aNil)) (sSeq (sFor (iEnumX (aCons (eVar 0) aNil)) (mTup 2 (mCons (mName 6) (mCons (mName 7) mNil))) cfIn) (sExpr (eMt oAppend (eVar 3) (aCons (eBin false oMul (eBin false oSub (eC (.int 1)) (eBin false oMul (eC (.int 2)) (eBin false oMod (eBin false oAdd (eVar 2) (eVar 4)) (eC (.int 2))))) (eCall 1 (Sh2.c_determinant_of) (aCons (eVar 5) aNil))) aNil)))))
/-- the rows left -/
def rst (c : Bool) (m r p k : Nat) (A : Mat) : List D := ((List.range k).filter (fun i => !decide (i = r))).map fun i => .lst (vec m (fun j => A i (skip p j)))
theorem rst_end {r p : Nat} (hr : r ≤ m) : rst c m r p (m + 1) A = rws false m m (mi r p A) := by
  unfold rst rws
  rw [filter_skip hr, List.map_map]
  rfl
theorem cf_inner {r p : Nat} (hr : r < m + 1) (hp : p < m + 1) (Mb : Mem) (x0 x1 x3 x6 x7 x8 x9 : Option D) : ∃ y6 y7, forL [] (mTup 2 (mCons (mName 6) (mCons (mName 7) mNil))) cfIn (enumD 0 (rws c (m + 1) (m + 1) A))
      [x0, x1, some (.int (r : Int)), x3, some (.int (p : Int)), some (.loc Mb.length), x6, x7, x8, x9] (Mb ++ [some []]) =
    .nx [x0, x1, some (.int (r : Int)), x3, some (.int (p : Int)), some (.loc Mb.length), y6, y7, x8, x9] (Mb ++ [some (rws false m m (mi r p A))]) := by
  have he : enumD 0 (rws c (m + 1) (m + 1) A) = (List.range (m + 1)).map fun (i : Nat) => D.tup [.int (i : Int), sqD c (vec (m + 1) (A i))] := enumD_range _ _
  rw [he]
  obtain ⟨τ', M', e, ⟨y6, y7, rfl⟩, rfl⟩ := forL_idx (g := mTup 2 (mCons (mName 6) (mCons (mName 7) mNil))) (b := cfIn) (src := []) (n := m + 1) (enc := fun (i : Nat) => D.tup [.int (i : Int), sqD c (vec (m + 1) (A i))])
    (R := fun k τ M' => (∃ y6 y7, τ = [x0, x1, some (.int (r : Int)), x3, some (.int (p : Int)), some (.loc Mb.length), y6, y7, x8, x9]) ∧ M' = Mb ++ [some (rst c m r p k A)])
    (fun k τ M' hk hR => by
      obtain ⟨⟨y6, y7, rfl⟩, rfl⟩ := hR
      have hlen : (rst c m r p k A).length ≤ 64 := by
        unfold rst
        rw [List.length_map]
        exact Nat.le_trans (List.length_filter_le _ _) (by simp; omega)
      refine ⟨by simp, [x0, x1, some (.int (r : Int)), x3, some (.int (p : Int)), some (.loc Mb.length), some (.int (k : Int)), some (sqD c (vec (m + 1) (A k))), x8, x9], Mb ++ [some (rst c m r p k A)], [x0, x1, some (.int (r : Int)), x3, some (.int (p : Int)), some (.loc Mb.length), some (.int (k : Int)), some (sqD c (vec (m + 1) (A k))), x8, x9], Mb ++ [some (rst c m r p (k + 1) A)], by simp, .inl ?_, ⟨_, _, rfl⟩, rfl⟩
      by_cases hkr : k = r
      · subst hkr
        have : rst c m k p (k + 1) A = rst c m k p k A := by
          unfold rst
          rw [List.range_succ, List.filter_append]
          simp
        rw [this]
        exact sIf_nil (by simp)
      · have hne : rst c m r p (k + 1) A = rst c m r p k A ++ [.lst (vec m (fun j => A k (skip p j)))] := by
          unfold rst
          rw [List.range_succ, List.filter_append, List.map_append]
          simp [hkr]
        rw [hne]
        have hh : lcL [] (mTup 2 (mCons (mName 8) (mCons (mName 9) mNil))) (asB (eBin false oNe (eVar 8) (eVar 4))) (eVar 9) (enumD 0 (vec (m + 1) (A k))) [x0, x1, some (.int (r : Int)), x3, some (.int (p : Int)), some (.loc Mb.length), some (.int (k : Int)), some (sqD c (vec (m + 1) (A k))), none, none] (Mb ++ [some (rst c m r p k A)]) =
            .ok (vec m (fun j => A k (skip p j))) (Mb ++ [some (rst c m r p k A)]) := by
          have he2 : enumD 0 (vec (m + 1) (A k)) = (List.range (m + 1)).map fun (i : Nat) => D.tup [.int (i : Int), .int (A k i)] := enumD_range _ _
          have hv : vec m (fun j => A k (skip p j)) = ((List.range (m + 1)).filter (fun j => !decide (j = p))).map fun j => D.int (A k j) := by
            rw [filter_skip (by omega), List.map_map]; rfl
          rw [he2, hv]
          exact lcL_map (by simp) _ fun j hj => ⟨[x0, x1, some (.int (r : Int)), x3, some (.int (p : Int)), some (.loc Mb.length), some (.int (k : Int)), some (sqD c (vec (m + 1) (A k))), some (.int (j : Int)), some (.int (A k j))], by simp, by
            by_cases z : j = p
            · subst z; simp
            · have : ¬ (j : Int) = (p : Int) := by omega
              simp [this, z], fun _ => by simp⟩
        have hel : (enumD 0 (vec (m + 1) (A k))).length ≤ 16777216 := by
          have he2 : enumD 0 (vec (m + 1) (A k)) = (List.range (m + 1)).map fun (i : Nat) => D.tup [.int (i : Int), .int (A k i)] := enumD_range _ _
          rw [he2]; simp; omega
        have hsz : (rst c m r p k A).length < sizeLine := by simp only [sizeLine_eq]; omega
        have hkr' : ¬ (k : Int) = (r : Int) := by omega
        refine (sIf_t (M' := Mb ++ [some (rst c m r p k A)]) (by simp [hkr, hkr'])).trans ?_
        simp [hel, wipeD, hh, le_line' (show m ≤ 64 by omega), hsz])
    (fun _ _ _ => by simp) (τ := [x0, x1, some (.int (r : Int)), x3, some (.int (p : Int)), some (.loc Mb.length), x6, x7, x8, x9]) (M := Mb ++ [some []]) ⟨⟨_, _, rfl⟩, rfl⟩
  rw [rst_end hn hb hA (by omega)] at e
  exact ⟨y6, y7, e⟩
end
end Sh2

namespace Sh2
open PySem PySem.Spec PyProof.Rows L2 DM LA Sh
/-- the cofactor of a table with m + 1 rows -/
noncomputable abbrev cf (m : Nat) (A : Mat) : Mat := fun i j => cof m A i j
theorem mi_le {m : Nat} {A : Mat} {B : Nat} (hA : ∀ i, i < m + 1 → ∀ j, j < m + 1 → (A i j).natAbs ≤ B) {r p : Nat} : ∀ i, i < m → ∀ j, j < m → (mi r p A i j).natAbs ≤ B :=
  fun i hi j hj => hA _ (skip_lt hi) _ (skip_lt hj)
section
variable {b c : Bool} {m bb : Nat} {A : Mat} (hn : m + 1 ≤ 64) (hb : (6 + bb) * (m + 1) + 1 ≤ 8000) (hA : ∀ i, i < m + 1 → ∀ j, j < m + 1 → (A i j).natAbs ≤ 2 ^ bb)
include hn hb hA
theorem hb_less : (6 + bb) * m + 1 ≤ 8000 := by
  have : (6 + bb) * (m + 1) = (6 + bb) * m + (6 + bb) := Nat.mul_succ _ _
  omega
theorem mi_sm {r p : Nat} : Sm (det m (mi r p A)) := by
  have h1 := det_lt (N := m) (mi r p A) (Nat.le_refl _) (by omega) (mi_le hA)
  exact Sm.of h1 (by omega) (hb_less hn hb hA)
theorem cof_sm (i j : Nat) : Sm (cof m A i j) := by
  have h1 := det_lt (N := m) (mi i j A) (Nat.le_refl _) (by omega) (mi_le hA)
  refine Sm.of (k := (6 + bb) * m + 1) ?_ (by omega) (hb_less hn hb hA)
  unfold cof
  rw [Int.natAbs_mul, sg_abs, Nat.one_mul]
  exact h1
theorem cf_mid {r : Nat} (hr : r < m + 1) (Ml : Mem) (x1 x4 x5 x6 x7 x8 x9 : Option D) : ∃ y4 y5 y6 y7 o, sFor (iRange1 (aCons (eArgs false oLen (aCons (eVar 0) aNil)) aNil)) (mName 4) cfMid
      [some (tab b c (m + 1) (m + 1) A), x1, some (.int (r : Int)), some (.loc Ml.length), x4, x5, x6, x7, x8, x9] (Ml ++ [some []]) =
    .nx [some (tab b c (m + 1) (m + 1) A), x1, some (.int (r : Int)), some (.loc Ml.length), y4, y5, y6, y7, x8, x9] (Ml ++ some (vec (m + 1) (cf m A r)) :: o) := by
  have hl : m + 1 < 4611686018427387904 := by omega
  have hsA : ∀ M, seqOf (tab b c (m + 1) (m + 1) A) M = some { xs := rws c (m + 1) (m + 1) A } := fun M => seqOf_sq _ _ _
  have q0 : sFor (iRange1 (aCons (eArgs false oLen (aCons (eVar 0) aNil)) aNil)) (mName 4) cfMid [some (tab b c (m + 1) (m + 1) A), x1, some (.int (r : Int)), some (.loc Ml.length), x4, x5, x6, x7, x8, x9] (Ml ++ [some []]) =
      forL [] (mName 4) cfMid (rangeD 0 (m + 1)) [some (tab b c (m + 1) (m + 1) A), x1, some (.int (r : Int)), some (.loc Ml.length), x4, x5, x6, x7, x8, x9] (Ml ++ [some []]) := by
    simp only [sFor, iRange1_eq, eArgs, oLen_1, hsA, Option.map_some, fin_v, rws_len, aCons, aNil, eVar, List.getElem?_cons_zero, R.bind_ok, if_true, rngOk_n hl, Int.toNat_natCast, andS_ok]
  obtain ⟨τ', M', e, y4, y5, y6, y7, o, rfl, rfl⟩ := forL_range (g := mName 4) (lo := 0) (n := m + 1) (b := cfMid)
    (R := fun p τ M' => ∃ y4 y5 y6 y7 o, τ = [some (tab b c (m + 1) (m + 1) A), x1, some (.int (r : Int)), some (.loc Ml.length), y4, y5, y6, y7, x8, x9] ∧ M' = Ml ++ some (vec p (cf m A r)) :: o)
    (fun p τ M' hp hR => by
      obtain ⟨y4, y5, y6, y7, o, rfl, rfl⟩ := hR
      obtain ⟨z6, z7, e1⟩ := cf_inner (c := c) hn hb hA hr hp (Ml ++ some (vec p (cf m A r)) :: o) (some (tab b c (m + 1) (m + 1) A)) x1 (some (.loc Ml.length)) y6 y7 x8 x9
      have hM : (Ml ++ some (vec p (cf m A r)) :: o) ++ [some (rws false m m (mi r p A))] = Ml ++ some (vec p (cf m A r)) :: (o ++ [some (rws false m m (mi r p A))]) := by simp
      have hd := det_specG (d := .loc (Ml ++ some (vec p (cf m A r)) :: o).length) (M := (Ml ++ some (vec p (cf m A r)) :: o) ++ [some (rws false m m (mi r p A))]) (c := false) (n := m) (bb := bb) (A := mi r p A) (by omega) (hb_less hn hb hA) (mi_le hA) (seqOf_app _ _) (fun q hq => by
        have : q = ((Ml ++ some (vec p (cf m A r)) :: o).length, rws false m m (mi r p A)) := by simpa using hq
        subst this
        exact mem_eq (memAt_app _ _))
      refine ⟨[some (tab b c (m + 1) (m + 1) A), x1, some (.int (r : Int)), some (.loc Ml.length), some (.int (0 + (p : Int))), y5, y6, y7, x8, x9], _, [some (tab b c (m + 1) (m + 1) A), x1, some (.int (r : Int)), some (.loc Ml.length), some (.int (0 + (p : Int))), some (.loc (Ml ++ some (vec p (cf m A r)) :: o).length), z6, z7, x8, x9], Ml ++ some (vec (p + 1) (cf m A r)) :: (o ++ [some (rws false m m (mi r p A))]), rfl, .inl ?_, _, _, _, _, _, rfl, rfl⟩
      have ep : (0 : Int) + (p : Int) = (p : Int) := by omega
      rw [ep]
      have s1 : sSet 5 (eArgs true oLst aNil) [some (tab b c (m + 1) (m + 1) A), x1, some (.int (r : Int)), some (.loc Ml.length), some (.int (p : Int)), y5, y6, y7, x8, x9] (Ml ++ some (vec p (cf m A r)) :: o) =
          .nx [some (tab b c (m + 1) (m + 1) A), x1, some (.int (r : Int)), some (.loc Ml.length), some (.int (p : Int)), some (.loc (Ml ++ some (vec p (cf m A r)) :: o).length), y6, y7, x8, x9] ((Ml ++ some (vec p (cf m A r)) :: o) ++ [some []]) := by
        simp only [sSet, eArgs, aNil, R.bind_ok, oLst, List.length_nil, sizeLine_eq, Nat.zero_le, if_true, fin_lt, andS_ok, List.set_cons_succ, List.set_cons_zero]
      have s2 : sFor (iEnumX (aCons (eVar 0) aNil)) (mTup 2 (mCons (mName 6) (mCons (mName 7) mNil))) cfIn [some (tab b c (m + 1) (m + 1) A), x1, some (.int (r : Int)), some (.loc Ml.length), some (.int (p : Int)), some (.loc (Ml ++ some (vec p (cf m A r)) :: o).length), y6, y7, x8, x9] ((Ml ++ some (vec p (cf m A r)) :: o) ++ [some []]) =
          .nx [some (tab b c (m + 1) (m + 1) A), x1, some (.int (r : Int)), some (.loc Ml.length), some (.int (p : Int)), some (.loc (Ml ++ some (vec p (cf m A r)) :: o).length), z6, z7, x8, x9] ((Ml ++ some (vec p (cf m A r)) :: o) ++ [some (rws false m m (mi r p A))]) := by
        refine Eq.trans ?_ e1
        simp only [sFor, iEnumX, aCons, aNil, eVar, List.getElem?_cons_zero, R.bind_ok, hsA, andS_ok]
      refine (seq_nx s1).trans ((seq_nx s2).trans ?_)
      have hm : memAt ((Ml ++ some (vec p (cf m A r)) :: o) ++ [some (rws false m m (mi r p A))]) Ml.length = some (vec p (cf m A r)) := by rw [hM]; exact memAt_mid
      have hset : ∀ z, ((Ml ++ some (vec p (cf m A r)) :: o) ++ [some (rws false m m (mi r p A))]).set Ml.length z = Ml ++ z :: (o ++ [some (rws false m m (mi r p A))]) := fun z => by rw [hM]; exact set_mid
      have c1 : CMulG 2 (((r : Int) + (p : Int)).fmod 2) := cmul_l (by decide)
      have c2 : CMulG (sg (r + p)) (det m (mi r p A)) := cmul_l (by rw [sg_abs]; decide)
      have hv : vec p (cf m A r) ++ [D.int (sg (r + p) * det m (mi r p A))] = vec (p + 1) (cf m A r) := vec_snoc p (cf m A r)
      have hsz : p < sizeLine := by simp only [sizeLine_eq]; omega
      have hz2 : ¬ (2 : Int) = 0 := by decide
      simp only [sExpr, eMt, eVar, List.getElem?_cons_zero, List.getElem?_cons_succ, R.bind_ok, placeOf_loc, hm, aCons, aNil, eBin, eC, oAdd_ii, oMod_ii, fin_v, ne_eq, hz2, not_false_eq_true, if_true, Option.map_some, oMul_ii, c1, oSub_ii, sgn_int, eCall, List.length_cons, List.length_nil, hd, c2, oAppend, Option.bind_some, vec_len, hsz, fin_p, hv, hset, andS_ok])
    (τ := [some (tab b c (m + 1) (m + 1) A), x1, some (.int (r : Int)), some (.loc Ml.length), x4, x5, x6, x7, x8, x9]) (M := Ml ++ [some []]) ⟨x4, x5, x6, x7, [], rfl, rfl⟩
  exact ⟨y4, y5, y6, y7, o, q0.trans e⟩
theorem cofactors_spec (M : Mem) : c_cofactors [tab b c (m + 1) (m + 1) A] M = .ok (tab false false (m + 1) (m + 1) (cf m A)) M := by
  have hl : m + 1 < 4611686018427387904 := by omega
  have hsA : ∀ M, seqOf (tab b c (m + 1) (m + 1) A) M = some { xs := rws c (m + 1) (m + 1) A } := fun M => seqOf_sq _ _ _
  obtain ⟨τ', M', e, y2, y3, y4, y5, y6, y7, y8, y9, H, rfl⟩ := forL_range (g := mName 2) (lo := 0) (n := m + 1)
    (b := (sSeq (sSet 3 (eArgs true oLst aNil)) (sSeq (sFor (iRange1 (aCons (eArgs false oLen (aCons (eVar 0) aNil)) aNil)) (mName 4) cfMid) (sExpr (eMt oAppend (eVar 1) (aCons (eVar 3) aNil))))))
    (R := fun r τ M' => ∃ y2 y3 y4 y5 y6 y7 y8 y9, Cf M (m + 1) r (cf m A) M' ∧ τ = [some (tab b c (m + 1) (m + 1) A), some (.loc M.length), y2, y3, y4, y5, y6, y7, y8, y9])
    (fun r τ M' hr hR => by
      obtain ⟨y2, y3, y4, y5, y6, y7, y8, y9, H, rfl⟩ := hR
      obtain ⟨z4, z5, z6, z7, o, e1⟩ := cf_mid (b := b) (c := c) hn hb hA hr M' (some (.loc M.length)) y4 y5 y6 y7 y8 y9
      obtain ⟨ds, h1, h2, H2⟩ := H.step o
      have er : (0 : Int) + (r : Int) = (r : Int) := by omega
      rw [er]
      refine ⟨[some (tab b c (m + 1) (m + 1) A), some (.loc M.length), some (.int (r : Int)), y3, y4, y5, y6, y7, y8, y9], M', [some (tab b c (m + 1) (m + 1) A), some (.loc M.length), some (.int (r : Int)), some (.loc M'.length), z4, z5, z6, z7, y8, y9], _, rfl, .inl ?_, _, _, _, _, _, _, _, _, H2, rfl⟩
      refine (seq_nx (τ' := [some (tab b c (m + 1) (m + 1) A), some (.loc M.length), some (.int (r : Int)), some (.loc M'.length), y4, y5, y6, y7, y8, y9]) (M' := M' ++ [some []]) (by simp)).trans ((seq_nx e1).trans ?_)
      have hsz : ds.length < sizeLine := by simp only [sizeLine_eq]; omega
      simp only [sExpr, eMt, eVar, List.getElem?_cons_zero, List.getElem?_cons_succ, R.bind_ok, placeOf_loc, h1, aCons, aNil, oAppend, Option.bind_some, hsz, if_true, fin_p, andS_ok])
    (τ := [some (tab b c (m + 1) (m + 1) A), some (.loc M.length), none, none, none, none, none, none, none, none]) (M := M ++ [some []]) ⟨_, _, _, _, _, _, _, _, Cf.init M (m + 1) _, rfl⟩
  unfold c_cofactors m_cofactors
  refine (congrArg (endT M) (seq_nx (τ' := [some (tab b c (m + 1) (m + 1) A), some (.loc M.length), none, none, none, none, none, none, none, none]) (M' := M ++ [some []]) (by simp [startD]))).trans ?_
  refine (congrArg (endT M) (seq_nx (τ' := [some (tab b c (m + 1) (m + 1) A), some (.loc M.length), y2, y3, y4, y5, y6, y7, y8, y9]) (M' := M') ?_)).trans ?_
  · refine Eq.trans ?_ e
    simp only [sFor, iRange1_eq, eArgs, oLen_1, hsA, Option.map_some, fin_v, rws_len, aCons, aNil, eVar, List.getElem?_cons_zero, R.bind_ok, if_true, rngOk_n hl, Int.toNat_natCast, andS_ok]
  · have : sRet (eVar 1) [some (tab b c (m + 1) (m + 1) A), some (.loc M.length), y2, y3, y4, y5, y6, y7, y8, y9] M' = .rt (.loc M.length) M' := by simp
    rw [this]
    exact H.fin
end
end Sh2

/-! common divisors and adjoints -/
namespace Sh2
open PySem PySem.Spec PyProof.Rows L2 DM LA Sh
theorem gcd_sm {g : Nat} {x : Int} (hg : Sm (g : Int)) (hx : Sm x) : Sm ((Nat.gcd g x.natAbs : Nat) : Int) := by
  unfold Sm at *
  simp only [Int.natAbs_natCast] at *
  by_cases h : x.natAbs = 0
  · rw [h, Nat.gcd_zero_right]; exact hg
  · exact Nat.lt_of_le_of_lt (log2_mono (Nat.gcd_le_right _ (Nat.pos_of_ne_zero h))) hx
theorem gl_sm {v : Nat → Int} {g : Nat} (hg : Sm (g : Int)) : ∀ n, (∀ j, j < n → Sm (v j)) → Sm ((gl v g n : Nat) : Int)
  | 0, _ => hg
  | n + 1, h => gcd_sm (gl_sm hg n fun j hj => h j (by omega)) (h n (by omega))
theorem gt_sm {m : Nat} {A : Mat} : ∀ n, (∀ i, i < n → ∀ j, j < m → Sm (A i j)) → Sm ((gt m A n : Nat) : Int)
  | 0, _ => by show Nat.log2 0 < 8000; decide
  | n + 1, h => gl_sm (gt_sm n fun i hi => h i (by omega)) m (h n (by omega))
section
variable {sv wv pv : Nat} (τ0 : DSt) (hs : sv < τ0.length) (hw : wv < τ0.length) (hp : pv < τ0.length) (h1 : sv ≠ wv) (h2 : sv ≠ pv) (h3 : wv ≠ pv)
/-- the state: the divisor so far, the row, the part -/
def gS (sv wv pv : Nat) (τ0 : DSt) (g : Nat) (xw xp : Option D) : DSt := ((τ0.set sv (some (.int (g : Int)))).set wv xw).set pv xp
include hs hw hp h1 h2 h3
theorem gS_get (g : Nat) (xw xp : Option D) : (gS sv wv pv τ0 g xw xp)[sv]? = some (some (.int (g : Int))) ∧ (gS sv wv pv τ0 g xw xp)[wv]? = some xw ∧ (gS sv wv pv τ0 g xw xp)[pv]? = some xp := by
  unfold gS
  refine ⟨?_, ?_, ?_⟩
  · rw [List.getElem?_set_ne (Ne.symm h2), List.getElem?_set_ne (Ne.symm h1), List.getElem?_set_self hs]
  · rw [List.getElem?_set_ne (Ne.symm h3), List.getElem?_set_self (by simpa using hw)]
  · rw [List.getElem?_set_self (by simpa using hp)]
theorem gS_setw (g : Nat) (xw xp x : Option D) : (gS sv wv pv τ0 g xw xp).set wv x = gS sv wv pv τ0 g x xp := by
  unfold gS
  rw [List.set_comm _ _ (Ne.symm h3), List.set_set]
theorem gS_setp (g : Nat) (xw xp x : Option D) : (gS sv wv pv τ0 g xw xp).set pv x = gS sv wv pv τ0 g xw x := by
  unfold gS
  rw [List.set_set]
theorem gS_sets (g g' : Nat) (xw xp : Option D) : (gS sv wv pv τ0 g xw xp).set sv (some (.int (g' : Int))) = gS sv wv pv τ0 g' xw xp := by
  unfold gS
  rw [List.set_comm _ _ (Ne.symm h2), List.set_comm _ _ (Ne.symm h1), List.set_set]
/-- the divisor of all parts -/
theorem gcd_loop {b c : Bool} {n m : Nat} {A : Mat} {ro st : EM} {M : Mem} (hA : ∀ i, i < n → ∀ j, j < m → Sm (A i j)) (hr : ∀ g xw xp, ro (gS sv wv pv τ0 g xw xp) M = .ok (tab b c n m A) M)
    (hst : ∀ (g : Nat) (x : Int) (xw : Option D), Sm (g : Int) → Sm x → st (gS sv wv pv τ0 g xw (some (.int x))) M = .ok (.int ((Nat.gcd g x.natAbs : Nat) : Int)) M) (xw xp : Option D) :
    ∃ yw yp, sFor (iSeq ro) (mName wv) (sFor (iSeq (eVar wv)) (mName pv) (sSet sv st)) (gS sv wv pv τ0 0 xw xp) M = .nx (gS sv wv pv τ0 (gt m A n) yw yp) M := by
  have hsA : seqOf (tab b c n m A) M = some { xs := rws c n m A } := seqOf_sq _ _ _
  have row : ∀ i, i < n → ∀ (g : Nat) xp, Sm (g : Int) → ∃ yp, sFor (iSeq (eVar wv)) (mName pv) (sSet sv st) (gS sv wv pv τ0 g (some (sqD c (vec m (A i)))) xp) M = .nx (gS sv wv pv τ0 (gl (A i) g m) (some (sqD c (vec m (A i)))) yp) M := fun i hi g xp hg => by
    obtain ⟨τ', M', e, ⟨yp, rfl⟩, rfl⟩ := forL_idx (g := mName pv) (b := sSet sv st) (src := []) (n := m) (enc := fun j => .int (A i j))
      (R := fun k τ M' => (∃ yp, τ = gS sv wv pv τ0 (gl (A i) g k) (some (sqD c (vec m (A i)))) yp) ∧ M' = M)
      (fun k τ M' hk hR => by
        obtain ⟨⟨yp, rfl⟩, rfl⟩ := hR
        refine ⟨by simp, gS sv wv pv τ0 (gl (A i) g k) (some (sqD c (vec m (A i)))) (some (.int (A i k))), M', gS sv wv pv τ0 (gl (A i) g (k + 1)) (some (sqD c (vec m (A i)))) (some (.int (A i k))), M', by simp only [mName, gS_setp τ0 hs hw hp h1 h2 h3], .inl ?_, ⟨_, rfl⟩, rfl⟩
        simp only [sSet, hst _ _ _ (gl_sm hg k fun j hj => hA i hi j (by omega)) (hA i hi k hk), andS_ok, gS_sets τ0 hs hw hp h1 h2 h3]
        rfl) (fun _ _ _ => by simp) (τ := gS sv wv pv τ0 g (some (sqD c (vec m (A i)))) xp) (M := M) ⟨⟨xp, rfl⟩, rfl⟩
    refine ⟨yp, Eq.trans ?_ e⟩
    simp only [sFor, iSeq, eVar, (gS_get τ0 hs hw hp h1 h2 h3 g (some (sqD c (vec m (A i)))) xp).2.1, R.bind_ok, seqOf_sq, andS_ok]
    rfl
  obtain ⟨τ', M', e, ⟨yw, yp, rfl⟩, rfl⟩ := forL_idx (g := mName wv) (b := sFor (iSeq (eVar wv)) (mName pv) (sSet sv st)) (src := []) (n := n) (enc := fun i => sqD c (vec m (A i)))
    (R := fun k τ M' => (∃ yw yp, τ = gS sv wv pv τ0 (gt m A k) yw yp) ∧ M' = M)
    (fun k τ M' hk hR => by
      obtain ⟨⟨yw, yp, rfl⟩, rfl⟩ := hR
      obtain ⟨zp, e1⟩ := row k hk (gt m A k) yp (gt_sm k fun i hi => hA i (by omega))
      exact ⟨by simp, gS sv wv pv τ0 (gt m A k) (some (sqD c (vec m (A k)))) yp, M', _, M', by simp only [mName, gS_setw τ0 hs hw hp h1 h2 h3], .inl e1, ⟨_, _, rfl⟩, rfl⟩)
    (fun _ _ _ => by simp) (τ := gS sv wv pv τ0 0 xw xp) (M := M) ⟨⟨xw, xp, rfl⟩, rfl⟩
  refine ⟨yw, yp, Eq.trans ?_ e⟩
  simp only [sFor, iSeq, hr, R.bind_ok, hsA, andS_ok]
  rfl
end
theorem adjoint_spec {b c : Bool} {m : Nat} {F : Mat} (H : Frm (m + 1) F) (h0 : 1 ≤ m) (hF : ∀ i, i < m + 1 → ∀ j, j < m + 1 → (F i j).natAbs ≤ 2 ^ 100) (M : Mem) : c_adjoint [tab b c (m + 1) (m + 1) F] M = .ok (tab true true (m + 1) (m + 1) (red (m + 1) (cf m F))) M := by
  have h8 := H.n8
  have hbb : (6 + 100) * (m + 1) + 1 ≤ 8000 := by omega
  have e1 := told_ok (b := b) (c := c) H M
  have e2 := cofactors_spec (b := true) (c := true) (A := F) (bb := 100) (by omega) hbb hF M
  have hC : ∀ i, i < m + 1 → ∀ j, j < m + 1 → Sm (cf m F i j) := fun i _ j _ => cof_sm (by omega) hbb hF i j
  have hsT : seqOf (tab true true (m + 1) (m + 1) F) M = some { xs := rws true (m + 1) (m + 1) F } := seqOf_sq _ _ _
  have hsC : seqOf (tab false false (m + 1) (m + 1) (cf m F)) M = some { xs := rws false (m + 1) (m + 1) (cf m F) } := seqOf_sq _ _ _
  have q1 : sSet 1 (eCall 1 (Sh2.c_told_form) (aCons (eVar 0) aNil)) (startD N_adjoint [tab b c (m + 1) (m + 1) F]) M = .nx [some (tab b c (m + 1) (m + 1) F), some (tab true true (m + 1) (m + 1) F), none, none, none, none] M := by simp [startD, e1]
  have q2 : sIf (asB (eBin false oEq (eArgs false oLen (aCons (eVar 1) aNil)) (eC (.int 1)))) (sRet (eC .non)) sNil [some (tab b c (m + 1) (m + 1) F), some (tab true true (m + 1) (m + 1) F), none, none, none, none] M = .nx [some (tab b c (m + 1) (m + 1) F), some (tab true true (m + 1) (m + 1) F), none, none, none, none] M := sIf_nil (by
    have z : ¬ m = 0 := by omega
    simp [hsT]
    omega)
  have q3 : sSet 2 (eCall 1 (Sh2.c_cofactors) (aCons (eVar 1) aNil)) [some (tab b c (m + 1) (m + 1) F), some (tab true true (m + 1) (m + 1) F), none, none, none, none] M = .nx [some (tab b c (m + 1) (m + 1) F), some (tab true true (m + 1) (m + 1) F), some (tab false false (m + 1) (m + 1) (cf m F)), none, none, none] M := by simp [e2]
  obtain ⟨yw, yp, q4⟩ := gcd_loop (sv := 3) (wv := 4) (pv := 5) [some (tab b c (m + 1) (m + 1) F), some (tab true true (m + 1) (m + 1) F), some (tab false false (m + 1) (m + 1) (cf m F)), none, none, none] (by simp) (by simp) (by simp) (by decide) (by decide) (by decide)
    (b := false) (c := false) (A := cf m F) (M := M) (ro := eVar 2) (st := eArgs false oGcd (aCons (eVar 3) (aCons (eVar 5) aNil))) hC (fun g xw xp => by simp [gS]) (fun g x xw _ _ => by simp [gS]) none none
  have hg := gt_sm (m := m + 1) (A := cf m F) (m + 1) hC
  have hgp : 0 < gt (m + 1) (cf m F) (m + 1) := gt_pos (n := m) (by rw [det_cof H.det]; exact pow_ne H.det m)
  have hdiv : ∀ x : Int, CDivG x ((gt (m + 1) (cf m F) (m + 1) : Nat) : Int) := fun x => cdiv_sm (by omega) hg
  have h : lcL [] (mName 4) mYes (eArgs false oTuple (aCons (eLc false (iSeq (eVar 4)) (mName 5) mYes (eBin false oDiv (eVar 5) (eVar 3)) [5]) aNil)) (rws false (m + 1) (m + 1) (cf m F))
      [some (tab b c (m + 1) (m + 1) F), some (tab true true (m + 1) (m + 1) F), some (tab false false (m + 1) (m + 1) (cf m F)), some (.int ((gt (m + 1) (cf m F) (m + 1) : Nat) : Int)), none, yp] M = .ok (rws true (m + 1) (m + 1) (red (m + 1) (cf m F))) M :=
    lcRw (by simp) fun i hi => ⟨[some (tab b c (m + 1) (m + 1) F), some (tab true true (m + 1) (m + 1) F), some (tab false false (m + 1) (m + 1) (cf m F)), some (.int ((gt (m + 1) (cf m F) (m + 1) : Nat) : Int)), some (sqD false (vec (m + 1) (cf m F i))), yp], by simp, by
      have : lcL [] (mName 5) mYes (eBin false oDiv (eVar 5) (eVar 3)) (vec (m + 1) (cf m F i)) [some (tab b c (m + 1) (m + 1) F), some (tab true true (m + 1) (m + 1) F), some (tab false false (m + 1) (m + 1) (cf m F)), some (.int ((gt (m + 1) (cf m F) (m + 1) : Nat) : Int)), some (sqD false (vec (m + 1) (cf m F i))), none] M = .ok (vec (m + 1) (red (m + 1) (cf m F) i)) M :=
        lcV (by simp) fun j hj => ⟨[some (tab b c (m + 1) (m + 1) F), some (tab true true (m + 1) (m + 1) F), some (tab false false (m + 1) (m + 1) (cf m F)), some (.int ((gt (m + 1) (cf m F) (m + 1) : Nat) : Int)), some (sqD false (vec (m + 1) (cf m F i))), some (.int (cf m F i j))], by simp, by
          simp only [eBin, eVar, List.getElem?_cons_succ, List.getElem?_cons_zero, R.bind_ok, oDiv_ii, hdiv, if_true, Option.map_some, fin_v]
          rfl⟩
      simp only [sq_f] at this
      simp [le_line' (show m + 1 ≤ 64 by omega), wipeD, this]⟩
  unfold c_adjoint m_adjoint
  rw [seq_nx q1, seq_nx q2, seq_nx q3]
  refine (congrArg (endK M) (seq_nx (τ' := gS 3 4 5 [some (tab b c (m + 1) (m + 1) F), some (tab true true (m + 1) (m + 1) F), some (tab false false (m + 1) (m + 1) (cf m F)), none, none, none] 0 none none) (M' := M) (by simp [gS]))).trans ?_
  rw [seq_nx q4]
  simp [gS, hsC, le_line' (show m + 1 ≤ 64 by omega), wipeD, h]
  rfl
theorem adjoint_one {b c : Bool} {F : Mat} (H : Frm 1 F) (M : Mem) : c_adjoint [tab b c 1 1 F] M = .ok .non M := by
  have e1 := told_ok (b := b) (c := c) H M
  have hsT : seqOf (tab true true 1 1 F) M = some { xs := rws true 1 1 F } := seqOf_sq _ _ _
  unfold c_adjoint m_adjoint
  simp [startD, e1, hsT]
theorem adjoint_badF {d : D} {r : Str} (H : BadF d r) (M : Mem) : c_adjoint [d] M = .exc (.exn "BadForm" true "reason" (.str r)) M := by
  have e1 := told_bad H M
  unfold c_adjoint m_adjoint
  simp [startD, e1]
end Sh2

namespace K02
open PySem PySem.Spec PyProof.Rows L2 DM
abbrev N_is_whole : List Str := ["value"]
abbrev N_is_row : List Str := ["value"]
abbrev N_is_whole_row : List Str := ["value", "many", "part"]
abbrev N_is_square : List Str := ["value", "many", "row"]
abbrev N_dot : List Str := ["one", "other", "part", "more"]
abbrev N_turned_over : List Str := ["rows", "at", "row"]
abbrev N_times : List Str := ["one", "other", "places", "row", "place"]
abbrev N_moved_by : List Str := ["table", "form"]
abbrev N_as_tuples : List Str := ["rows", "row"]
abbrev N_determinant_of : List Str := ["rows", "sign", "before", "at", "chosen", "lead", "number", "by", "row", "part", "more"]
abbrev N_cofactors : List Str := ["rows", "found", "row", "line", "place", "rest", "number", "other", "at", "part"]
abbrev N_beside : List Str := ["blocks", "many", "found", "block", "ahead", "row"]
abbrev N_fault_of : List Str := ["form", "most", "row", "part", "place"]
abbrev N_told_form : List Str := ["form", "fault"]
abbrev N_told_table : List Str := ["table", "many"]
abbrev N_moved : List Str := ["form", "table", "told"]
abbrev N_sum_of_forms : List Str := ["one", "other", "first", "second"]
abbrev N_multiple : List Str := ["form", "m", "row", "part"]
abbrev N_adjoint : List Str := ["form", "told", "rows", "shared", "row", "part"]
abbrev N__law_pool : List Str := ["script", "cell"]
abbrev N__law_take : List Str := ["pool", "many", "digit", "cell", "mixed"]
abbrev N__law_pick : List Str := ["pool", "rows"]
abbrev N__law_is_integer : List Str := ["actual"]
abbrev N__law_same : List Str := ["actual", "due", "k"]
abbrev N__law_order : List Str := ["pool", "many", "left", "found", "k"]
abbrev N__law_power : List Str := ["base", "many", "found", "turn"]
abbrev N__law_common : List Str := ["one", "other", "turn"]
abbrev N__law_determinant : List Str := ["rows", "sign", "before", "at", "chosen", "lead", "k", "row", "j"]
abbrev N__law_tuples : List Str := ["rows", "row"]
abbrev N__law_handed : List Str := ["pool", "rows", "row"]
abbrev N__law_dot : List Str := ["one", "other", "k"]
abbrev N__law_moved : List Str := ["table", "form", "images", "row", "line", "image"]
abbrev N__law_unit : List Str := ["n", "i", "j"]
abbrev N__law_turn : List Str := ["pool", "n", "steps", "rows", "k", "step", "one", "far", "other", "times_v", "part", "j"]
abbrev N__law_skewed : List Str := ["pool", "form", "steps", "bound", "table", "turn", "later", "row", "part"]
abbrev N__law_beside : List Str := ["one", "other", "n", "m", "i"]
abbrev N__law_no_form : List Str := ["pool", "form", "n", "rows", "kind", "some", "at", "spot", "i", "row"]
abbrev N__law_any_form : List Str := ["pool", "n", "bound", "blocks", "have", "p", "turn", "scale", "a", "c", "block", "i", "j"]
abbrev N__law_cofactors : List Str := ["rows", "n", "found", "i", "line", "j", "rest", "a", "b"]
abbrev N__law_told : List Str := ["call", "form", "other", "error"]
abbrev N__law_adjoint : List Str := ["form", "rows", "shared", "row", "part"]
abbrev N__law_so : List Str := ["pool", "n", "form", "handed", "table", "m", "other", "due", "bad", "wrong", "reason", "told", "i", "j", "row", "part"]
abbrev N__law_adjoints_so : List Str := ["pool", "n", "form", "told", "shared", "row", "part", "sign"]
abbrev N_law : List Str := ["script", "pool", "turn"]
def is_BadForm : String → Option Bool := fun s => match s with | "BadForm" => some true | "BadTable" => some false | "FormError" => some false | "TooGreat" => some false | _ => none
def is_BadTable : String → Option Bool := fun s => match s with | "BadForm" => some false | "BadTable" => some true | "FormError" => some false | "TooGreat" => some false | _ => none
def is_FormError : String → Option Bool := fun s => match s with | "BadForm" => some true | "BadTable" => some true | "FormError" => some true | "TooGreat" => some true | _ => none
def is_TooGreat : String → Option Bool := fun s => match s with | "BadForm" => some false | "BadTable" => some false | "FormError" => some false | "TooGreat" => some true | _ => none
def exNames : List String := ["BadForm", "BadTable", "FormError", "TooGreat"]
theorem mem_is_BadForm {s : String} {b : Bool} (h : is_BadForm s = some b) : s ∈ exNames := by
  unfold is_BadForm at h
  split at h <;> first | (simp [exNames]; done) | cases h
theorem mem_is_BadTable {s : String} {b : Bool} (h : is_BadTable s = some b) : s ∈ exNames := by
  unfold is_BadTable at h
  split at h <;> first | (simp [exNames]; done) | cases h
theorem mem_is_FormError {s : String} {b : Bool} (h : is_FormError s = some b) : s ∈ exNames := by
  unfold is_FormError at h
  split at h <;> first | (simp [exNames]; done) | cases h
theorem mem_is_TooGreat {s : String} {b : Bool} (h : is_TooGreat s = some b) : s ∈ exNames := by
  unfold is_TooGreat at h
  split at h <;> first | (simp [exNames]; done) | cases h
abbrev k_MOST_NUMBER : D := .int (1000000000000000000000000000000)
abbrev k_MOST_VARIABLES : D := .int (8)
/-! ### what the code does, on data -/
noncomputable def m__law_cofactors : SM := (sSeq (sSet 1 (eArgs false oLen (aCons (eVar 0) aNil))) (sSeq (sSet 2 (eArgs true oLst aNil)) (sSeq (sFor (iRange1 (aCons (eVar 1) aNil)) (mName 3) (sSeq (sSet 4 (eArgs true oLst aNil)) (sSeq (sFor (iRange1 (aCons (eVar 1) aNil)) (mName 5) (sSeq (sSet 6 (eLc false (iRange1 (aCons (eVar 1) aNil)) (mName 7) (asB (eBin false oNe (eVar 7) (eVar 3))) (eLc false (iRange1 (aCons (eVar 1) aNil)) (mName 8) (asB (eBin false oNe (eVar 8) (eVar 5))) (eBin false oIx (eBin false oIx (eVar 0) (eVar 7)) (eVar 8)) [8]) [7])) (sExpr (eMt oAppend (eVar 4) (aCons (eBin false oMul (eBin false oSub (eC (.int 1)) (eBin false oMul (eC (.int 2)) (eArgs false oInt (aCons (eBin false oMod (eArgs false oInt (aCons (eBin false oAdd (eVar 3) (eVar 5)) aNil)) (eC (.int 2))) aNil)))) (eIf (asT (eVar 6)) (eCall 1 (Sh2.c__law_determinant) (aCons (eVar 6) aNil)) (eC (.int 1)))) aNil))))) (sExpr (eMt oAppend (eVar 2) (aCons (eVar 4) aNil)))))) (sRet (eVar 2)))))
noncomputable def c__law_cofactors : FM := fun ds M => endT M (m__law_cofactors (startD N__law_cofactors ds) M)
noncomputable def m__law_told : SM := (sTry (sSeq (sIf (asB (eBin false oEq (eVar 0) (eC (.int 0)))) (sRet (eCall 2 (Sh2.c_moved) (aCons (eVar 1) (aCons (eVar 2) aNil)))) sNil) (sSeq (sIf (asB (eBin false oEq (eVar 0) (eC (.int 1)))) (sRet (eCall 2 (Sh2.c_sum_of_forms) (aCons (eVar 1) (aCons (eVar 2) aNil)))) sNil) (sRet (eIf (asB (eBin false oEq (eVar 0) (eC (.int 2)))) (eCall 1 (Sh2.c_adjoint) (aCons (eVar 1) aNil)) (eCall 2 (Sh2.c_multiple) (aCons (eVar 1) (aCons (eVar 2) aNil))))))) ([{ tst := is_FormError, i := 3, s := (sSeq (sIf (asT (eIsX is_BadForm (eVar 3))) (sRet (eArgs false oTup (aCons (eC (.str "form")) (aCons (eFld "reason" (eVar 3)) aNil)))) sNil) (sRet (eIf (asT (eIsX is_BadTable (eVar 3))) (eArgs false oTup (aCons (eC (.str "table")) aNil)) (eIf (asT (eIsX is_TooGreat (eVar 3))) (eArgs false oTup (aCons (eC (.str "great")) aNil)) (eArgs false oTup (aCons (eC (.str "other")) aNil)))))) }]))
noncomputable def c__law_told : FM := fun ds M => endK M (m__law_told (startD N__law_told ds) M)
noncomputable def m__law_adjoint : SM := (sSeq (sAsg (eArgs false oTup (aCons (eCall 1 (c__law_cofactors) (aCons (eVar 0) aNil)) (aCons (eC (.int 0)) aNil))) (mTup 2 (mCons (mName 1) (mCons (mName 2) mNil)))) (sSeq (sFor (iSeq (eVar 1)) (mName 3) (sFor (iSeq (eVar 3)) (mName 4) (sSet 2 (eCall 2 (Sh2.c__law_common) (aCons (eVar 2) (aCons (eVar 4) aNil)))))) (sRet (eArgs false oTuple (aCons (eLc false (iSeq (eVar 1)) (mName 3) mYes (eArgs false oTuple (aCons (eLc false (iSeq (eVar 3)) (mName 4) mYes (eArgs false oInt (aCons (eBin false oDiv (eVar 4) (eVar 2)) aNil)) [4]) aNil)) [3]) aNil)))))
noncomputable def c__law_adjoint : FM := fun ds M => endK M (m__law_adjoint (startD N__law_adjoint ds) M)
noncomputable def m__law_so : SM := (sSeq (sSet 2 (eCall 3 (Sh2.c__law_any_form) (aCons (eVar 0) (aCons (eVar 1) (aCons (eBin false oPow (eC (.int 10)) (eC (.int 6))) aNil))))) (sSeq (sSet 3 (eCall 2 (Sh2.c__law_handed) (aCons (eVar 0) (aCons (eVar 2) aNil)))) (sSeq (sSet 4 (eLc false (iRange1 (aCons (eVar 1) aNil)) (mName 12) mYes (eLc false (iRange1 (aCons (eVar 1) aNil)) (mName 13) mYes (eBin false oSub (eCall 2 (Sh.c__law_take 2) (aCons (eVar 0) (aCons (eC (.int 7)) aNil))) (eC (.int 3))) [13]) [12])) (sSeq (sIf (mNot (asT (eCall 2 (Sh.c__law_same 8) (aCons (eCall 3 (c__law_told) (aCons (eC (.int 0)) (aCons (eVar 3) (aCons (eCall 2 (Sh2.c__law_handed) (aCons (eVar 0) (aCons (eVar 4) aNil))) aNil)))) (aCons (eCall 2 (Sh2.c__law_moved) (aCons (eVar 4) (aCons (eVar 2) aNil))) aNil))))) (sRet (eC (.bl false))) sNil) (sSeq (sSet 5 (eCall 2 (Sh.c__law_pick) (aCons (eVar 0) (aCons (eArgs false oLst (aCons (eC (.int 1)) (aCons (eUn false oNeg (eC (.int 1))) (aCons (eC (.int 2)) (aCons (eUn false oNeg (eC (.int 6))) (aCons (eBin false oPow (eC (.int 10)) (eC (.int 12))) (aCons (eC (.int 7)) aNil))))))) aNil)))) (sSeq (sIf (mNot (asT (eCall 2 (Sh.c__law_same 8) (aCons (eCall 3 (c__law_told) (aCons (eC (.int 3)) (aCons (eVar 3) (aCons (eVar 5) aNil)))) (aCons (eArgs false oTuple (aCons (eLc false (iSeq (eVar 2)) (mName 14) mYes (eArgs false oTuple (aCons (eLc false (iSeq (eVar 14)) (mName 15) mYes (eBin false oMul (eVar 5) (eVar 15)) [15]) aNil)) [14]) aNil)) aNil))))) (sRet (eC (.bl false))) sNil) (sSeq (sSet 6 (eCall 3 (Sh2.c__law_any_form) (aCons (eVar 0) (aCons (eBin false oAdd (eC (.int 1)) (eCall 2 (Sh.c__law_take 2) (aCons (eVar 0) (aCons (eC (.int 8)) aNil)))) (aCons (eBin false oPow (eC (.int 10)) (eC (.int 6))) aNil))))) (sSeq (sSet 7 (eIf (asB (eBin false oLe (eBin false oAdd (eVar 1) (eArgs false oLen (aCons (eVar 6) aNil))) (eC (.int 8)))) (eCall 2 (Sh2.c__law_beside) (aCons (eVar 2) (aCons (eVar 6) aNil))) (eArgs false oTup (aCons (eC (.str "great")) aNil)))) (sSeq (sIf (mNot (asT (eCall 2 (Sh.c__law_same 8) (aCons (eCall 3 (c__law_told) (aCons (eC (.int 1)) (aCons (eVar 3) (aCons (eCall 2 (Sh2.c__law_handed) (aCons (eVar 0) (aCons (eVar 6) aNil))) aNil)))) (aCons (eVar 7) aNil))))) (sRet (eC (.bl false))) sNil) (sSeq (sSet 8 (eCall 2 (Sh.c__law_pick) (aCons (eVar 0) (aCons (eArgs false oLst (aCons (eC .non) (aCons (eC (.int 3)) (aCons (eSl false (eVar 4) (pSome (eC (.int 1))) pNo) (aCons (eBin false oAdd (eVar 4) (eSl false (eVar 4) pNo (pSome (eC (.int 1))))) (aCons (eLc false (iSeq (eVar 4)) (mName 14) mYes (eBin false oAdd (eVar 14) (eArgs false oLst (aCons (eC (.int 0)) aNil))) [14]) (aCons (eBin false oMul (eArgs false oLst (aCons (eBin false oMul (eArgs false oLst (aCons (eC .non) aNil)) (eVar 1)) aNil)) (eVar 1)) (aCons (eBin false oMul (eArgs false oLst (aCons (eBin false oMul (eArgs false oLst (aCons (eC (.bl true)) aNil)) (eVar 1)) aNil)) (eVar 1)) (aCons (eC (.str "1")) aNil))))))))) aNil)))) (sSeq (sAsg (eCall 2 (Sh2.c__law_no_form) (aCons (eVar 0) (aCons (eVar 2) aNil))) (mTup 2 (mCons (mName 9) (mCons (mName 10) mNil)))) (sSeq (sSet 11 (eArgs false oLst (aCons (eCall 3 (c__law_told) (aCons (eC (.int 0)) (aCons (eVar 3) (aCons (eVar 8) aNil)))) (aCons (eCall 3 (c__law_told) (aCons (eC (.int 0)) (aCons (eVar 9) (aCons (eVar 8) aNil)))) (aCons (eCall 3 (c__law_told) (aCons (eC (.int 1)) (aCons (eVar 9) (aCons (eC .non) aNil)))) (aCons (eCall 3 (c__law_told) (aCons (eC (.int 1)) (aCons (eVar 2) (aCons (eVar 9) aNil)))) (aCons (eCall 3 (c__law_told) (aCons (eC (.int 2)) (aCons (eVar 9) (aCons (eC .non) aNil)))) (aCons (eCall 3 (c__law_told) (aCons (eC (.int 3)) (aCons (eVar 9) (aCons (eC (.int 2)) aNil)))) aNil)))))))) (sRet (eCall 2 (Sh.c__law_same 8) (aCons (eVar 11) (aCons (eBin false oAdd (eArgs false oLst (aCons (eArgs false oTup (aCons (eC (.str "table")) aNil)) aNil)) (eBin false oMul (eArgs false oLst (aCons (eArgs false oTup (aCons (eC (.str "form")) (aCons (eVar 10) aNil))) aNil)) (eC (.int 5)))) aNil))))))))))))))))
noncomputable def c__law_so : FM := fun ds M => endK M (m__law_so (startD N__law_so ds) M)
noncomputable def m__law_adjoints_so : SM := (sSeq (sSet 2 (eCall 3 (Sh2.c__law_any_form) (aCons (eVar 0) (aCons (eVar 1) (aCons (eC (.int 200)) aNil))))) (sSeq (sSet 3 (eCall 3 (c__law_told) (aCons (eC (.int 2)) (aCons (eCall 2 (Sh2.c__law_handed) (aCons (eVar 0) (aCons (eVar 2) aNil))) (aCons (eC .non) aNil))))) (sSeq (sIf (asB (eBin false oEq (eVar 1) (eC (.int 1)))) (sRet (eBin false oIs (eVar 3) (eC .non))) sNil) (sSeq (sIf (mNot (asT (eCall 2 (Sh.c__law_same 8) (aCons (eVar 3) (aCons (eCall 1 (c__law_adjoint) (aCons (eVar 2) aNil)) aNil))))) (sRet (eC (.bl false))) sNil) (sSeq (sIf (asB (eBin false oLe (eArgs false oMaxL (aCons (eLc false (iSeq (eVar 3)) (mName 5) mYes (eArgs false oMaxL (aCons (eLc false (iSeq (eVar 5)) (mName 6) mYes (eArgs false oAbs (aCons (eVar 6) aNil)) [6]) aNil)) [5]) aNil)) (eBin false oPow (eC (.int 10)) (eC (.int 6))))) (sSeq (sSet 4 (eC (.int 0))) (sSeq (sFor (iSeq (eVar 2)) (mName 5) (sFor (iSeq (eVar 5)) (mName 6) (sSet 4 (eCall 2 (Sh2.c__law_common) (aCons (eVar 4) (aCons (eVar 6) aNil)))))) (sSeq (sSet 7 (eIf (mAnd (asB (eBin false oLt (eCall 1 (Sh2.c__law_determinant) (aCons (eVar 2) aNil)) (eC (.int 0)))) (asB (eBin false oEq (eBin false oMod (eArgs false oInt (aCons (eVar 1) aNil)) (eC (.int 2))) (eC (.int 1))))) (eUn false oNeg (eC (.int 1))) (eC (.int 1)))) (sIf (mNot (asT (eCall 2 (Sh.c__law_same 8) (aCons (eCall 1 (Sh2.c_adjoint) (aCons (eVar 3) aNil)) (aCons (eArgs false oTuple (aCons (eLc false (iSeq (eVar 2)) (mName 5) mYes (eArgs false oTuple (aCons (eLc false (iSeq (eVar 5)) (mName 6) mYes (eArgs false oInt (aCons (eBin false oDiv (eBin false oMul (eVar 7) (eVar 6)) (eVar 4)) aNil)) [6]) aNil)) [5]) aNil)) aNil))))) (sRet (eC (.bl false))) sNil)))) sNil) (sRet (eC (.bl true))))))))
noncomputable def c__law_adjoints_so : FM := fun ds M => endK M (m__law_adjoints_so (startD N__law_adjoints_so ds) M)
noncomputable def m_law : SM := (sSeq (sSet 1 (eCall 1 (Sh.c__law_pool) (aCons (eVar 0) aNil))) (sSeq (sFor (iRange1 (aCons (eC (.int 2)) aNil)) (mName 2) (sIf (mOr (mNot (asT (eCall 2 (c__law_so) (aCons (eVar 1) (aCons (eBin false oAdd (eC (.int 1)) (eCall 2 (Sh.c__law_take 2) (aCons (eVar 1) (aCons (eC (.int 8)) aNil)))) aNil))))) (mNot (asT (eCall 2 (c__law_adjoints_so) (aCons (eVar 1) (aCons (eBin false oAdd (eC (.int 1)) (eCall 2 (Sh.c__law_take 2) (aCons (eVar 1) (aCons (eC (.int 6)) aNil)))) aNil)))))) (sRet (eC (.bl false))) sNil)) (sRet (eC (.bl true)))))
noncomputable def c_law : FM := fun ds M => endK M (m_law (startD N_law ds) M)
end K02

namespace K02
open PySem PySem.Spec PyProof.Rows L2 DM LA Sh Sh2
theorem bin_mul {a b : EM} {τ : DSt} {M : Mem} {x y : Int} (ha : a τ M = .ok (.int x) M) (hb : b τ M = .ok (.int y) M) (hc : CMulG x y) : eBin false oMul a b τ M = .ok (.int (x * y)) M := by
  simp only [eBin, ha, hb, R.bind_ok, oMul_ii, hc, if_true, fin_v]
theorem app_ok {o e : EM} {l : Nat} {ds : List D} {d : D} {τ : DSt} {M : Mem} (ho : o τ M = .ok (.loc l) M) (hm : memAt M l = some ds) (hv : e τ M = .ok d M) (hsz : ds.length < sizeLine) : sExpr (eMt oAppend o (aCons e aNil)) τ M = .nx τ (M.set l (some (ds ++ [d]))) := by
  simp only [sExpr, eMt, ho, R.bind_ok, placeOf_loc, hm, aCons, aNil, hv, oAppend, Option.bind_some, hsz, if_true, fin_p, andS_ok]
section
variable {b c : Bool} {m bb : Nat} {A : Mat} (hn : m + 1 ≤ 64) (hb : (6 + bb) * (m + 1) + 1 ≤ 8000) (hA : ∀ i, i < m + 1 → ∀ j, j < m + 1 → (A i j).natAbs ≤ 2 ^ bb)
include hn hb hA
noncomputable abbrev lcMid : SM := (sSeq (sSet 6 (eLc false (iRange1 (aCons (eVar 1) aNil)) (mName 7) (asB (eBin false oNe (eVar 7) (eVar 3))) (eLc false (iRange1 (aCons (eVar 1) aNil)) (mName 8) (asB (eBin false oNe (eVar 8) (eVar 5))) (eBin false oIx (eBin false oIx (eVar 0) (eVar 7)) (eVar 8)) [8]) [7])) (sExpr (eMt oAppend (eVar 4) (aCons (eBin false oMul (eBin false oSub (eC (.int 1)) (eBin false oMul (eC (.int 2)) (eArgs false oInt (aCons (eBin false oMod (eArgs false oInt (aCons (eBin false oAdd (eVar 3) (eVar 5)) aNil)) (eC (.int 2))) aNil)))) (eIf (asT (eVar 6)) (eCall 1 (Sh2.c__law_determinant) (aCons (eVar 6) aNil)) (eC (.int 1)))) aNil))))
theorem lc_mid {r : Nat} (hr : r < m + 1) (Ml : Mem) (x2 x5 x6 x7 x8 : Option D) : ∃ y5 y6 o, sFor (iRange1 (aCons (eVar 1) aNil)) (mName 5) lcMid
      [some (tab b c (m + 1) (m + 1) A), some (.int ((m + 1 : Nat) : Int)), x2, some (.int (r : Int)), some (.loc Ml.length), x5, x6, x7, x8] (Ml ++ [some []]) =
    .nx [some (tab b c (m + 1) (m + 1) A), some (.int ((m + 1 : Nat) : Int)), x2, some (.int (r : Int)), some (.loc Ml.length), y5, y6, x7, x8] (Ml ++ some (vec (m + 1) (cf m A r)) :: o) := by
  have hl : m + 1 < 4611686018427387904 := by omega
  have hsA : ∀ M, seqOf (tab b c (m + 1) (m + 1) A) M = some { xs := rws c (m + 1) (m + 1) A } := fun M => seqOf_sq _ _ _
  have q0 : sFor (iRange1 (aCons (eVar 1) aNil)) (mName 5) lcMid [some (tab b c (m + 1) (m + 1) A), some (.int ((m + 1 : Nat) : Int)), x2, some (.int (r : Int)), some (.loc Ml.length), x5, x6, x7, x8] (Ml ++ [some []]) =
      forL [] (mName 5) lcMid (rangeD 0 (m + 1)) [some (tab b c (m + 1) (m + 1) A), some (.int ((m + 1 : Nat) : Int)), x2, some (.int (r : Int)), some (.loc Ml.length), x5, x6, x7, x8] (Ml ++ [some []]) := by
    simp only [sFor, iRange1_eq, aCons, aNil, eVar, List.getElem?_cons_zero, List.getElem?_cons_succ, R.bind_ok, if_true, rngOk_n hl, Int.toNat_natCast, andS_ok]
  obtain ⟨τ', M', e, y5, y6, o, rfl, rfl⟩ := forL_range (g := mName 5) (lo := 0) (n := m + 1) (b := lcMid)
    (R := fun p τ M' => ∃ y5 y6 o, τ = [some (tab b c (m + 1) (m + 1) A), some (.int ((m + 1 : Nat) : Int)), x2, some (.int (r : Int)), some (.loc Ml.length), y5, y6, x7, x8] ∧ M' = Ml ++ some (vec p (cf m A r)) :: o)
    (fun p τ M' hp hR => by
      obtain ⟨y5, y6, o, rfl, rfl⟩ := hR
      have ep : (0 : Int) + (p : Int) = (p : Int) := by omega
      rw [ep]
      have hd := lawDet_spec (b := false) (c := false) (n := m) (bb := bb) (A := mi r p A) (by omega) (hb_less hn hb hA) (mi_le hA) (Ml ++ some (vec p (cf m A r)) :: o)
      have hh : lcL [] (mName 7) (asB (eBin false oNe (eVar 7) (eVar 3))) (eLc false (iRange1 (aCons (eVar 1) aNil)) (mName 8) (asB (eBin false oNe (eVar 8) (eVar 5))) (eBin false oIx (eBin false oIx (eVar 0) (eVar 7)) (eVar 8)) [8]) (rangeD 0 (m + 1))
          [some (tab b c (m + 1) (m + 1) A), some (.int ((m + 1 : Nat) : Int)), x2, some (.int (r : Int)), some (.loc Ml.length), some (.int (p : Int)), y6, none, x8] (Ml ++ some (vec p (cf m A r)) :: o) = .ok (rws false m m (mi r p A)) (Ml ++ some (vec p (cf m A r)) :: o) := by
        have hv : rws false m m (mi r p A) = ((List.range (m + 1)).filter (fun i => !decide (i = r))).map fun i => D.lst (vec m (fun j => A i (skip p j))) := (rst_end (c := false) hn hb hA (show r ≤ m by omega)).symm
        rw [hv, rangeD_0]
        refine lcL_map (by simp) _ fun i hi => ⟨[some (tab b c (m + 1) (m + 1) A), some (.int ((m + 1 : Nat) : Int)), x2, some (.int (r : Int)), some (.loc Ml.length), some (.int (p : Int)), y6, some (.int (i : Int)), x8], by simp, by
          by_cases z : i = r
          · subst z; simp
          · have : ¬ (i : Int) = (r : Int) := by omega
            simp [this, z], fun _ => ?_⟩
        have hi : i < m + 1 := by simpa using hi
        have er := atI_rws (c := c) (m := m + 1) A hi
        have h2 : lcL [] (mName 8) (asB (eBin false oNe (eVar 8) (eVar 5))) (eBin false oIx (eBin false oIx (eVar 0) (eVar 7)) (eVar 8)) (rangeD 0 (m + 1))
            [some (tab b c (m + 1) (m + 1) A), some (.int ((m + 1 : Nat) : Int)), x2, some (.int (r : Int)), some (.loc Ml.length), some (.int (p : Int)), y6, some (.int (i : Int)), none] (Ml ++ some (vec p (cf m A r)) :: o) = .ok (vec m (fun j => A i (skip p j))) (Ml ++ some (vec p (cf m A r)) :: o) := by
          have hv : vec m (fun j => A i (skip p j)) = ((List.range (m + 1)).filter (fun j => !decide (j = p))).map fun j => D.int (A i j) := by
            rw [filter_skip (by omega), List.map_map]; rfl
          rw [hv, rangeD_0]
          exact lcL_map (by simp) _ fun j hj => ⟨[some (tab b c (m + 1) (m + 1) A), some (.int ((m + 1 : Nat) : Int)), x2, some (.int (r : Int)), some (.loc Ml.length), some (.int (p : Int)), y6, some (.int (i : Int)), some (.int (j : Int))], by simp, by
            by_cases z : j = p
            · subst z; simp
            · have : ¬ (j : Int) = (p : Int) := by omega
              simp [this, z], fun _ => by
            have hj : j < m + 1 := by simpa using hj
            simp [hsA, er, atI_vec _ hj]⟩
        simp only [eLc, iRange1_eq, aCons, aNil, eVar, List.getElem?_cons_zero, List.getElem?_cons_succ, R.bind_ok, if_true, rngOk_n hl, Int.toNat_natCast, rangeD_len, le_line' hn, wipeD, List.set_cons_succ, List.set_cons_zero, h2, vec_len, le_line' (show m ≤ 64 by omega), fin_lf]
      refine ⟨[some (tab b c (m + 1) (m + 1) A), some (.int ((m + 1 : Nat) : Int)), x2, some (.int (r : Int)), some (.loc Ml.length), some (.int (p : Int)), y6, x7, x8], _, [some (tab b c (m + 1) (m + 1) A), some (.int ((m + 1 : Nat) : Int)), x2, some (.int (r : Int)), some (.loc Ml.length), some (.int (p : Int)), some (tab false false m m (mi r p A)), x7, x8], Ml ++ some (vec (p + 1) (cf m A r)) :: o, rfl, .inl ?_, _, _, _, rfl, rfl⟩
      have s1 : sSet 6 (eLc false (iRange1 (aCons (eVar 1) aNil)) (mName 7) (asB (eBin false oNe (eVar 7) (eVar 3))) (eLc false (iRange1 (aCons (eVar 1) aNil)) (mName 8) (asB (eBin false oNe (eVar 8) (eVar 5))) (eBin false oIx (eBin false oIx (eVar 0) (eVar 7)) (eVar 8)) [8]) [7])
          [some (tab b c (m + 1) (m + 1) A), some (.int ((m + 1 : Nat) : Int)), x2, some (.int (r : Int)), some (.loc Ml.length), some (.int (p : Int)), y6, x7, x8] (Ml ++ some (vec p (cf m A r)) :: o) =
          .nx [some (tab b c (m + 1) (m + 1) A), some (.int ((m + 1 : Nat) : Int)), x2, some (.int (r : Int)), some (.loc Ml.length), some (.int (p : Int)), some (tab false false m m (mi r p A)), x7, x8] (Ml ++ some (vec p (cf m A r)) :: o) := by
        have e0 := fun τ M => show eLc false (iRange1 (aCons (eVar 1) aNil)) (mName 7) (asB (eBin false oNe (eVar 7) (eVar 3))) (eLc false (iRange1 (aCons (eVar 1) aNil)) (mName 8) (asB (eBin false oNe (eVar 8) (eVar 5))) (eBin false oIx (eBin false oIx (eVar 0) (eVar 7)) (eVar 8)) [8]) [7] τ M = _ from rfl
        rw [sSet, eLc]
        simp only [iRange1_eq, aCons, aNil, eVar, List.getElem?_cons_zero, List.getElem?_cons_succ, R.bind_ok, if_true, rngOk_n hl, Int.toNat_natCast, rangeD_len, le_line' hn, wipeD, List.set_cons_succ, List.set_cons_zero]
        rw [hh]
        simp only [R.bind_ok, rws_len, le_line' (show m ≤ 64 by omega), if_true, fin_lf, andS_ok, List.set_cons_succ, List.set_cons_zero]
        rfl
      refine (seq_nx s1).trans ?_
      have hif : eIf (asT (eVar 6)) (eCall 1 (Sh2.c__law_determinant) (aCons (eVar 6) aNil)) (eC (.int 1)) [some (tab b c (m + 1) (m + 1) A), some (.int ((m + 1 : Nat) : Int)), x2, some (.int (r : Int)), some (.loc Ml.length), some (.int (p : Int)), some (tab false false m m (mi r p A)), x7, x8] (Ml ++ some (vec p (cf m A r)) :: o) =
          .ok (.int (det m (mi r p A))) (Ml ++ some (vec p (cf m A r)) :: o) := by
        have hT : dTru (tab false false m m (mi r p A)) (Ml ++ some (vec p (cf m A r)) :: o) = some (!(rws false m m (mi r p A)).isEmpty) := dTru_sq _ _ _
        by_cases z : m = 0
        · subst z
          have : (rws false 0 0 (mi r p A)).isEmpty = true := rfl
          simp only [eIf, asT, eVar, List.getElem?_cons_zero, List.getElem?_cons_succ, R.bind_ok, hT, this, Bool.not_true, eC]
          rfl
        · have : (rws false m m (mi r p A)).isEmpty = false := by
            cases e : rws false m m (mi r p A) with
            | nil => have := congrArg List.length e; simp at this; omega
            | cons => rfl
          simp only [eIf, asT, eVar, List.getElem?_cons_zero, List.getElem?_cons_succ, R.bind_ok, hT, this, Bool.not_false, if_true, eCall, aCons, aNil, List.length_cons, List.length_nil, hd]
      have hm : memAt (Ml ++ some (vec p (cf m A r)) :: o) Ml.length = some (vec p (cf m A r)) := memAt_mid
      have hset : ∀ z, (Ml ++ some (vec p (cf m A r)) :: o).set Ml.length z = Ml ++ z :: o := fun z => set_mid
      have c1 : CMulG 2 (((r : Int) + (p : Int)).fmod 2) := cmul_l (by decide)
      have c2 : CMulG (sg (r + p)) (det m (mi r p A)) := cmul_l (by rw [sg_abs]; decide)
      have hv : vec p (cf m A r) ++ [D.int (sg (r + p) * det m (mi r p A))] = vec (p + 1) (cf m A r) := vec_snoc p (cf m A r)
      have hsz : p < sizeLine := by simp only [sizeLine_eq]; omega
      have hz2 : ¬ (2 : Int) = 0 := by decide
      have hsg : eBin false oSub (eC (.int 1)) (eBin false oMul (eC (.int 2)) (eArgs false oInt (aCons (eBin false oMod (eArgs false oInt (aCons (eBin false oAdd (eVar 3) (eVar 5)) aNil)) (eC (.int 2))) aNil))) [some (tab b c (m + 1) (m + 1) A), some (.int ((m + 1 : Nat) : Int)), x2, some (.int (r : Int)), some (.loc Ml.length), some (.int (p : Int)), some (tab false false m m (mi r p A)), x7, x8] (Ml ++ some (vec p (cf m A r)) :: o) =
          .ok (.int (sg (r + p))) (Ml ++ some (vec p (cf m A r)) :: o) := by
        simp only [eArgs, aCons, aNil, eVar, List.getElem?_cons_zero, List.getElem?_cons_succ, eBin, eC, R.bind_ok, oAdd_ii, oInt_i, oMod_ii, fin_v, ne_eq, hz2, not_false_eq_true, if_true, Option.map_some, oMul_ii, c1, oSub_ii, sgn_int]
      refine (app_ok (l := Ml.length) (by simp) hm (bin_mul hsg hif c2) (by rw [vec_len]; exact hsz)).trans ?_
      rw [hv, hset])
    (τ := [some (tab b c (m + 1) (m + 1) A), some (.int ((m + 1 : Nat) : Int)), x2, some (.int (r : Int)), some (.loc Ml.length), x5, x6, x7, x8]) (M := Ml ++ [some []]) ⟨x5, x6, [], rfl, rfl⟩
  exact ⟨y5, y6, o, q0.trans e⟩
theorem lawCofactors_spec (M : Mem) : c__law_cofactors [tab b c (m + 1) (m + 1) A] M = .ok (tab false false (m + 1) (m + 1) (cf m A)) M := by
  have hl : m + 1 < 4611686018427387904 := by omega
  have hsA : ∀ M, seqOf (tab b c (m + 1) (m + 1) A) M = some { xs := rws c (m + 1) (m + 1) A } := fun M => seqOf_sq _ _ _
  obtain ⟨τ', M', e, y3, y4, y5, y6, y7, y8, H, rfl⟩ := forL_range (g := mName 3) (lo := 0) (n := m + 1)
    (b := (sSeq (sSet 4 (eArgs true oLst aNil)) (sSeq (sFor (iRange1 (aCons (eVar 1) aNil)) (mName 5) lcMid) (sExpr (eMt oAppend (eVar 2) (aCons (eVar 4) aNil))))))
    (R := fun r τ M' => ∃ y3 y4 y5 y6 y7 y8, Cf M (m + 1) r (cf m A) M' ∧ τ = [some (tab b c (m + 1) (m + 1) A), some (.int ((m + 1 : Nat) : Int)), some (.loc M.length), y3, y4, y5, y6, y7, y8])
    (fun r τ M' hr hR => by
      obtain ⟨y3, y4, y5, y6, y7, y8, H, rfl⟩ := hR
      obtain ⟨z5, z6, o, e1⟩ := lc_mid (b := b) (c := c) hn hb hA hr M' (some (.loc M.length)) y5 y6 y7 y8
      obtain ⟨ds, h1, h2, H2⟩ := H.step o
      have er : (0 : Int) + (r : Int) = (r : Int) := by omega
      rw [er]
      refine ⟨[some (tab b c (m + 1) (m + 1) A), some (.int ((m + 1 : Nat) : Int)), some (.loc M.length), some (.int (r : Int)), y4, y5, y6, y7, y8], M', [some (tab b c (m + 1) (m + 1) A), some (.int ((m + 1 : Nat) : Int)), some (.loc M.length), some (.int (r : Int)), some (.loc M'.length), z5, z6, y7, y8], _, rfl, .inl ?_, _, _, _, _, _, _, H2, rfl⟩
      refine (seq_nx (τ' := [some (tab b c (m + 1) (m + 1) A), some (.int ((m + 1 : Nat) : Int)), some (.loc M.length), some (.int (r : Int)), some (.loc M'.length), y5, y6, y7, y8]) (M' := M' ++ [some []]) (by simp)).trans ((seq_nx e1).trans ?_)
      have hsz : ds.length < sizeLine := by simp only [sizeLine_eq]; omega
      simp only [sExpr, eMt, eVar, List.getElem?_cons_zero, List.getElem?_cons_succ, R.bind_ok, placeOf_loc, h1, aCons, aNil, oAppend, Option.bind_some, hsz, if_true, fin_p, andS_ok])
    (τ := [some (tab b c (m + 1) (m + 1) A), some (.int ((m + 1 : Nat) : Int)), some (.loc M.length), none, none, none, none, none, none]) (M := M ++ [some []]) ⟨_, _, _, _, _, _, Cf.init M (m + 1) _, rfl⟩
  unfold c__law_cofactors m__law_cofactors
  refine (congrArg (endT M) (seq_nx (τ' := [some (tab b c (m + 1) (m + 1) A), some (.int ((m + 1 : Nat) : Int)), none, none, none, none, none, none, none]) (M' := M) (by simp [startD, hsA]))).trans ?_
  refine (congrArg (endT M) (seq_nx (τ' := [some (tab b c (m + 1) (m + 1) A), some (.int ((m + 1 : Nat) : Int)), some (.loc M.length), none, none, none, none, none, none]) (M' := M ++ [some []]) (by simp))).trans ?_
  refine (congrArg (endT M) (seq_nx (τ' := [some (tab b c (m + 1) (m + 1) A), some (.int ((m + 1 : Nat) : Int)), some (.loc M.length), y3, y4, y5, y6, y7, y8]) (M' := M') ?_)).trans ?_
  · refine Eq.trans ?_ e
    simp only [sFor, iRange1_eq, aCons, aNil, eVar, List.getElem?_cons_zero, List.getElem?_cons_succ, R.bind_ok, if_true, rngOk_n hl, Int.toNat_natCast, andS_ok]
  · have : sRet (eVar 2) [some (tab b c (m + 1) (m + 1) A), some (.int ((m + 1 : Nat) : Int)), some (.loc M.length), y3, y4, y5, y6, y7, y8] M' = .rt (.loc M.length) M' := by simp
    rw [this]
    exact H.fin
theorem lawAdjoint_spec (hd : det (m + 1) A ≠ 0) (M : Mem) : c__law_adjoint [tab b c (m + 1) (m + 1) A] M = .ok (tab true true (m + 1) (m + 1) (red (m + 1) (cf m A))) M := by
  have e2 := lawCofactors_spec (b := b) (c := c) hn hb hA M
  have hC : ∀ i, i < m + 1 → ∀ j, j < m + 1 → Sm (cf m A i j) := fun i _ j _ => cof_sm hn hb hA i j
  have hsC : seqOf (tab false false (m + 1) (m + 1) (cf m A)) M = some { xs := rws false (m + 1) (m + 1) (cf m A) } := seqOf_sq _ _ _
  obtain ⟨yw, yp, q4⟩ := gcd_loop (sv := 2) (wv := 3) (pv := 4) [some (tab b c (m + 1) (m + 1) A), some (tab false false (m + 1) (m + 1) (cf m A)), none, none, none] (by simp) (by simp) (by simp) (by decide) (by decide) (by decide)
    (b := false) (c := false) (A := cf m A) (M := M) (ro := eVar 1) (st := eCall 2 (Sh2.c__law_common) (aCons (eVar 2) (aCons (eVar 4) aNil))) hC (fun g xw xp => by simp [gS]) (fun g x xw hg hx => by
      have := common_spec (a := (g : Int)) (b := x) (by unfold Sm at hg; omega) (by unfold Sm at hx; omega) M
      simp only [Int.natAbs_natCast] at this
      simp [gS, this]) none none
  have hg := gt_sm (m := m + 1) (A := cf m A) (m + 1) hC
  have hgp : 0 < gt (m + 1) (cf m A) (m + 1) := gt_pos (n := m) (by rw [det_cof hd]; exact pow_ne hd m)
  have hdiv : ∀ x : Int, CDivG x ((gt (m + 1) (cf m A) (m + 1) : Nat) : Int) := fun x => cdiv_sm (by omega) hg
  have h : lcL [] (mName 3) mYes (eArgs false oTuple (aCons (eLc false (iSeq (eVar 3)) (mName 4) mYes (eArgs false oInt (aCons (eBin false oDiv (eVar 4) (eVar 2)) aNil)) [4]) aNil)) (rws false (m + 1) (m + 1) (cf m A))
      [some (tab b c (m + 1) (m + 1) A), some (tab false false (m + 1) (m + 1) (cf m A)), some (.int ((gt (m + 1) (cf m A) (m + 1) : Nat) : Int)), none, yp] M = .ok (rws true (m + 1) (m + 1) (red (m + 1) (cf m A))) M :=
    lcRw (by simp) fun i hi => ⟨[some (tab b c (m + 1) (m + 1) A), some (tab false false (m + 1) (m + 1) (cf m A)), some (.int ((gt (m + 1) (cf m A) (m + 1) : Nat) : Int)), some (sqD false (vec (m + 1) (cf m A i))), yp], by simp, by
      have : lcL [] (mName 4) mYes (eArgs false oInt (aCons (eBin false oDiv (eVar 4) (eVar 2)) aNil)) (vec (m + 1) (cf m A i)) [some (tab b c (m + 1) (m + 1) A), some (tab false false (m + 1) (m + 1) (cf m A)), some (.int ((gt (m + 1) (cf m A) (m + 1) : Nat) : Int)), some (sqD false (vec (m + 1) (cf m A i))), none] M = .ok (vec (m + 1) (red (m + 1) (cf m A) i)) M :=
        lcV (by simp) fun j hj => ⟨[some (tab b c (m + 1) (m + 1) A), some (tab false false (m + 1) (m + 1) (cf m A)), some (.int ((gt (m + 1) (cf m A) (m + 1) : Nat) : Int)), some (sqD false (vec (m + 1) (cf m A i))), some (.int (cf m A i j))], by simp, by
          simp only [eArgs, aCons, aNil, eBin, eVar, List.getElem?_cons_succ, List.getElem?_cons_zero, R.bind_ok, oDiv_ii, hdiv, if_true, Option.map_some, fin_v, oInt_i]
          rfl⟩
      simp only [sq_f] at this
      simp [le_line' hn, wipeD, this]⟩
  unfold c__law_adjoint m__law_adjoint
  refine (congrArg (endK M) (seq_nx (τ' := gS 2 3 4 [some (tab b c (m + 1) (m + 1) A), some (tab false false (m + 1) (m + 1) (cf m A)), none, none, none] 0 none none) (M' := M) (by simp [startD, e2, gS]))).trans ?_
  rw [seq_nx q4]
  simp [gS, hsC, le_line' hn, wipeD, h]
  rfl
end
end K02

namespace K02
open PySem PySem.Spec PyProof.Rows L2 DM LA Sh Sh2
noncomputable abbrev tdB : SM := (sSeq (sIf (asB (eBin false oEq (eVar 0) (eC (.int 0)))) (sRet (eCall 2 (Sh2.c_moved) (aCons (eVar 1) (aCons (eVar 2) aNil)))) sNil) (sSeq (sIf (asB (eBin false oEq (eVar 0) (eC (.int 1)))) (sRet (eCall 2 (Sh2.c_sum_of_forms) (aCons (eVar 1) (aCons (eVar 2) aNil)))) sNil) (sRet (eIf (asB (eBin false oEq (eVar 0) (eC (.int 2)))) (eCall 1 (Sh2.c_adjoint) (aCons (eVar 1) aNil)) (eCall 2 (Sh2.c_multiple) (aCons (eVar 1) (aCons (eVar 2) aNil)))))))
/-- what the call gives -/
noncomputable def tdR (k : Int) (f o : D) (M : Mem) : R D := if k = 0 then c_moved [f, o] M else if k = 1 then c_sum_of_forms [f, o] M else if k = 2 then c_adjoint [f] M else c_multiple [f, o] M
theorem told_val {k : Int} {f o d : D} {M M' : Mem} (h : tdR k f o M = .ok d M') : c__law_told [.int k, f, o] M = .ok d M' := by
  have : tdB [some (.int k), some f, some o, none] M = .rt d M' := by
    unfold tdR at h
    by_cases k0 : k = 0
    · subst k0; simp at h; simp [h]
    · by_cases k1 : k = 1
      · subst k1; simp at h; simp [h]
      · by_cases k2 : k = 2
        · subst k2; simp at h; simp [h]
        · simp [k0, k1, k2] at h
          simp [k0, k1, k2, h]
  unfold c__law_told m__law_told
  show endK M (sTry tdB _ [some (.int k), some f, some o, none] M) = _
  unfold sTry
  rw [this]
  rfl
theorem told_exn {k : Int} {f o x : D} {M M' : Mem} (h : tdR k f o M = .exc x M') : tdB [some (.int k), some f, some o, none] M = .exc x [some (.int k), some f, some o, none] M' := by
  unfold tdR at h
  by_cases k0 : k = 0
  · subst k0; simp at h; simp [h]
  · by_cases k1 : k = 1
    · subst k1; simp at h; simp [h]
    · by_cases k2 : k = 2
      · subst k2; simp at h; simp [h]
      · simp [k0, k1, k2] at h
        simp [k0, k1, k2, h]
theorem told_bf {k : Int} {f o : D} {r : Str} {M : Mem} (h : tdR k f o M = .exc (.exn "BadForm" true "reason" (.str r)) M) : c__law_told [.int k, f, o] M = .ok (.tup [.str "form", .str r]) M := by
  have := told_exn h
  unfold c__law_told m__law_told
  show endK M (sTry tdB _ [some (.int k), some f, some o, none] M) = _
  unfold sTry
  rw [this]
  simp [handle, is_FormError, is_BadForm, NoX, NoXL]
theorem told_bt {k : Int} {f o : D} {M : Mem} (h : tdR k f o M = .exc (.exn "BadTable" false "" .non) M) : c__law_told [.int k, f, o] M = .ok (.tup [.str "table"]) M := by
  have := told_exn h
  unfold c__law_told m__law_told
  show endK M (sTry tdB _ [some (.int k), some f, some o, none] M) = _
  unfold sTry
  rw [this]
  simp [handle, is_FormError, is_BadForm, is_BadTable, NoX, NoXL]
theorem told_tg {k : Int} {f o : D} {M : Mem} (h : tdR k f o M = .exc (.exn "TooGreat" false "" .non) M) : c__law_told [.int k, f, o] M = .ok (.tup [.str "great"]) M := by
  have := told_exn h
  unfold c__law_told m__law_told
  show endK M (sTry tdB _ [some (.int k), some f, some o, none] M) = _
  unfold sTry
  rw [this]
  simp [handle, is_FormError, is_BadForm, is_BadTable, is_TooGreat, NoX, NoXL]
/-! ### drawn tables -/
/-- a comprehension that draws -/
theorem lcStep {l : Nat} {g : GM} {e : EM} {enc : Nat → D} {τ : DSt} {Q : D → Prop} : ∀ (ys : List Nat) (M : Mem), PoolAt l M →
    (∀ y M, y ∈ ys → PoolAt l M → ∃ τ1 v M', g (enc y) τ M = .ok τ1 M ∧ e τ1 M = .ok v M' ∧ Q v ∧ PStep l M M') →
    ∃ vs M', lcL [] g mYes e (ys.map enc) τ M = .ok vs M' ∧ vs.length = ys.length ∧ (∀ v ∈ vs, Q v) ∧ PStep l M M'
  | [], M, hp, _ => ⟨[], M, by simp [lcL], rfl, fun v hv => by simp at hv, PStep.refl hp⟩
  | y :: ys, M, hp, h => by
    obtain ⟨τ1, v, M1, e1, e2, hq, s1⟩ := h y M List.mem_cons_self hp
    obtain ⟨vs, M2, e3, h3, h4, s2⟩ := lcStep ys M1 (hp.step s1) fun z M hz => h z M (List.mem_cons_of_mem _ hz)
    refine ⟨v :: vs, M2, ?_, by simp [h3], fun w hw => ?_, s1.trans s2⟩
    · rw [List.map_cons]
      unfold lcL
      rw [if_pos (by simp)]
      simp [e1, e2, e3]
    · rcases List.mem_cons.mp hw with rfl | hw
      · exact hq
      · exact h4 w hw
theorem ints_vec {n : Nat} {B : Nat} : ∀ {vs : List D}, vs.length = n → (∀ v ∈ vs, ∃ i : Int, v = .int i ∧ i.natAbs ≤ B) → ∃ u : Nat → Int, vs = vec n u ∧ ∀ j, j < n → (u j).natAbs ≤ B := by
  intro vs hl h
  have hx : ∀ j, j < n → ∃ i : Int, vs[j]? = some (.int i) ∧ i.natAbs ≤ B := fun j hj => by
    obtain ⟨i, e, hi⟩ := h vs[j] (List.getElem_mem (by omega))
    exact ⟨i, by rw [List.getElem?_eq_getElem (by omega), e], hi⟩
  obtain ⟨u, hu⟩ : ∃ u : Nat → Int, ∀ j, j < n → vs[j]? = some (.int (u j)) ∧ (u j).natAbs ≤ B :=
    ⟨fun j => if hj : j < n then (hx j hj).choose else 0, fun j hj => by simp only [dif_pos hj]; exact (hx j hj).choose_spec⟩
  refine ⟨u, ?_, fun j hj => (hu j hj).2⟩
  apply List.ext_getElem?
  intro j
  by_cases hj : j < n
  · rw [vec_get _ hj, (hu j hj).1]
  · rw [List.getElem?_eq_none (by omega), List.getElem?_eq_none (by simpa using hj)]
theorem rows_rws {n : Nat} {B : Nat} : ∀ {vs : List D}, vs.length = n → (∀ v ∈ vs, ∃ u : Nat → Int, v = .lst (vec n u) ∧ ∀ j, j < n → (u j).natAbs ≤ B) → ∃ T : Mat, vs = rws false n n T ∧ ∀ i, i < n → ∀ j, j < n → (T i j).natAbs ≤ B := by
  intro vs hl h
  have hx : ∀ i, i < n → ∃ u : Nat → Int, vs[i]? = some (.lst (vec n u)) ∧ ∀ j, j < n → (u j).natAbs ≤ B := fun i hi => by
    obtain ⟨u, e, hu⟩ := h vs[i] (List.getElem_mem (by omega))
    exact ⟨u, by rw [List.getElem?_eq_getElem (by omega), e], hu⟩
  obtain ⟨T, hT⟩ : ∃ T : Mat, ∀ i, i < n → vs[i]? = some (.lst (vec n (T i))) ∧ ∀ j, j < n → (T i j).natAbs ≤ B :=
    ⟨fun i => if hi : i < n then (hx i hi).choose else fun _ => 0, fun i hi => by simp only [dif_pos hi]; exact (hx i hi).choose_spec⟩
  refine ⟨T, ?_, fun i hi => (hT i hi).2⟩
  apply List.ext_getElem?
  intro i
  by_cases hi : i < n
  · rw [rws_get _ hi, (hT i hi).1]; rfl
  · rw [List.getElem?_eq_none (by omega), List.getElem?_eq_none (by simpa using hi)]
theorem take2 {l : Nat} {M : Mem} {n : Int} (hp : PoolAt l M) (hn : 0 < n) (hn2 : n < 2 ^ 64) : ∃ i M', c__law_take 2 [.loc l, .int n] M = .ok (.int i) M' ∧ 0 ≤ i ∧ i < n ∧ PStep l M M' := take_spec hp hn hn2 0
/-! ### what is no table -/
theorem pl_lst {k : Nat} {ds : List D} (hl : ds.length ≤ 16777216) (h : ∀ d ∈ ds, Pl k d) : Pl (k + 1) (.lst ds) := ⟨hl, h⟩
theorem sqB_len {ds : List D} {n : Nat} (h : ds.length ≠ n) : sqB (.lst ds) n = false := by
  have : ¬ (ds.length : Int) = n := by omega
  simp [sqB, kids, this]
theorem sqB_row {ds : List D} {n : Nat} {d : D} (hm : d ∈ ds) (h : wrB d n = false) : sqB (.lst ds) n = false := by
  have : (ds.all fun x => wrB x n) = false := by
    rw [List.all_eq_false]
    exact ⟨d, hm, by rw [h]; decide⟩
  simp only [sqB, kids, this, Bool.and_false]
/-- the pool's bad tables -/
def bad8 (n : Nat) (T : Mat) : List D := [.non, .int 3, .lst ((rws false n n T).drop 1), .lst (rws false n n T ++ (rws false n n T).take 1), .lst ((List.range n).map fun i => .lst (vec n (T i) ++ [.int 0])), .lst (List.replicate n (.lst (List.replicate n .non))), .lst (List.replicate n (.lst (List.replicate n (.bl true)))), .str "1"]
theorem bad8_ok {n : Nat} {T : Mat} (h1 : 1 ≤ n) (h8 : n ≤ 8) {d : D} (hd : d ∈ bad8 n T) : Pl 5 d ∧ sqB d n = false := by
  have hr : ∀ d ∈ rws false n n T, Pl 4 d := fun d hd => by
    obtain ⟨i, _, rfl⟩ := List.mem_map.mp hd
    exact pl_vec n (T i) (by omega) false 2
  have hv : ∀ u : Nat → Int, ∀ d ∈ vec n u, Pl 3 d := fun u d hd => by
    obtain ⟨i, _, rfl⟩ := List.mem_map.mp hd
    trivial
  simp only [bad8, List.mem_cons, List.not_mem_nil, or_false] at hd
  rcases hd with rfl | rfl | rfl | rfl | rfl | rfl | rfl | rfl
  · exact ⟨trivial, rfl⟩
  · exact ⟨trivial, rfl⟩
  · exact ⟨pl_lst (by simp; omega) fun d hd => hr d (List.mem_of_mem_drop hd), sqB_len (by simp; omega)⟩
  · refine ⟨pl_lst (by simp; omega) fun d hd => ?_, sqB_len (by simp; omega)⟩
    rcases List.mem_append.mp hd with h | h
    · exact hr d h
    · exact hr d (List.mem_of_mem_take h)
  · refine ⟨pl_lst (by simp; omega) fun d hd => ?_, sqB_row (d := .lst (vec n (T 0) ++ [.int 0])) (List.mem_map.mpr ⟨0, by simp; omega, rfl⟩) ?_⟩
    · obtain ⟨i, _, rfl⟩ := List.mem_map.mp hd
      refine pl_lst (by simp; omega) fun d hd => ?_
      rcases List.mem_append.mp hd with h | h
      · exact hv _ d h
      · rw [List.mem_singleton.mp h]; trivial
    · have : ¬ ((n : Int) + 1 = n) := by omega
      simp [wrB, kids, this]
  · refine ⟨pl_lst (by simp; omega) fun d hd => ?_, sqB_row (d := .lst (List.replicate n .non)) (List.mem_replicate.mpr ⟨by omega, rfl⟩) ?_⟩
    · rw [List.eq_of_mem_replicate hd]
      exact pl_lst (by simp; omega) fun d hd => by rw [List.eq_of_mem_replicate hd]; trivial
    · obtain ⟨k, rfl⟩ : ∃ k, n = k + 1 := ⟨n - 1, by omega⟩
      simp [wrB, kids, List.replicate_succ, isI]
  · refine ⟨pl_lst (by simp; omega) fun d hd => ?_, sqB_row (d := .lst (List.replicate n (.bl true))) (List.mem_replicate.mpr ⟨by omega, rfl⟩) ?_⟩
    · rw [List.eq_of_mem_replicate hd]
      exact pl_lst (by simp; omega) fun d hd => by rw [List.eq_of_mem_replicate hd]; trivial
    · obtain ⟨k, rfl⟩ : ∃ k, n = k + 1 := ⟨n - 1, by omega⟩
      simp [wrB, kids, List.replicate_succ, isI]
  · exact ⟨trivial, rfl⟩
end K02

namespace K02
open PySem PySem.Spec PyProof.Rows L2 DM LA Sh Sh2
theorem same_chk {a b : EM} {d : D} {τ : DSt} {M M1 M2 : Mem} (ha : a τ M = .ok d M1) (hb : b τ M1 = .ok d M2) (hd : Pl 8 d) : sIf (mNot (asT (eCall 2 (Sh.c__law_same 8) (aCons a (aCons b aNil))))) (sRet (eC (.bl false))) sNil τ M = .nx τ M2 := by
  have h := same_spec M2 8 d hd
  refine sIf_nil ?_
  simp only [mNot, asT, eCall, aCons, aNil, ha, hb, R.bind_ok, List.length_cons, List.length_nil, if_true, h, dTru_bl]
  rfl
theorem same_ret {a b : EM} {d : D} {τ : DSt} {M M1 M2 : Mem} (ha : a τ M = .ok d M1) (hb : b τ M1 = .ok d M2) (hd : Pl 8 d) : sRet (eCall 2 (Sh.c__law_same 8) (aCons a (aCons b aNil))) τ M = .rt (.bl true) M2 := by
  have h := same_spec M2 8 d hd
  simp only [sRet, eCall, aCons, aNil, ha, hb, R.bind_ok, List.length_cons, List.length_nil, if_true, h, andS_ok]
structure FF (n : Nat) (F : Mat) : Prop where
  frm : Frm n F
  le : ∀ i, i < n → ∀ j, j < n → ((F i j).natAbs : Int) ≤ 1000000
theorem FF.le100 {n : Nat} {F : Mat} (H : FF n F) : ∀ i, i < n → ∀ j, j < n → (F i j).natAbs ≤ 2 ^ 100 := fun i hi j hj => by
  have := H.le i hi j hj
  have : (1000000 : Nat) ≤ 2 ^ 100 := by decide
  omega
theorem anyF {l n : Nat} {bound : Int} {M : Mem} (hp : PoolAt l M) (h1 : 1 ≤ n) (h8 : n ≤ 8) (hb : bound ≤ 1000000) : ∃ F M', c__law_any_form [.loc l, .int n, .int bound] M = .ok (tab true true n n F) M' ∧ FF n F ∧ PStep l M M' := by
  obtain ⟨F, M', e, hs, hd, hle, s⟩ := anyForm_spec (bound := bound) hp h1 h8
  have hl := hle 1000000 hb (by decide)
  exact ⟨F, M', e, ⟨⟨h1, h8, fun i hi j hj => Int.le_trans (hl i hi j hj) (by decide), hs, hd⟩, hl⟩, s⟩
theorem pow106 : eBin false oPow (eC (.int 10)) (eC (.int 6)) = fun _ M => .ok (.int 1000000) M := by
  funext τ M
  have h : CPow 10 6 := by simp [CPow]
  simp [h]
theorem pow1012 : eBin false oPow (eC (.int 10)) (eC (.int 12)) = fun _ M => .ok (.int 1000000000000) M := by
  funext τ M
  have h : CPow 10 12 := by simp [CPow]
  simp [h]
theorem pl8 (b c : Bool) {n : Nat} (A : Mat) (hn : n ≤ 64) : Pl 8 (tab b c n n A) := pl_tab b c A hn hn 5
/-- a drawn table -/
theorem drawn {l n : Nat} {M : Mem} (hp : PoolAt l M) (h1 : 1 ≤ n) (h8 : n ≤ 8) (x2 x3 x4 x5 x6 x7 x8 x9 x10 x11 x12 x13 x14 x15 : Option D) : ∃ T M', sSet 4 (eLc false (iRange1 (aCons (eVar 1) aNil)) (mName 12) mYes (eLc false (iRange1 (aCons (eVar 1) aNil)) (mName 13) mYes (eBin false oSub (eCall 2 (Sh.c__law_take 2) (aCons (eVar 0) (aCons (eC (.int 7)) aNil))) (eC (.int 3))) [13]) [12])
      [some (.loc l), some (.int n), x2, x3, x4, x5, x6, x7, x8, x9, x10, x11, x12, x13, x14, x15] M = .nx [some (.loc l), some (.int n), x2, x3, some (tab false false n n T), x5, x6, x7, x8, x9, x10, x11, x12, x13, x14, x15] M' ∧ (∀ i, i < n → ∀ j, j < n → (T i j).natAbs ≤ 3) ∧ PStep l M M' := by
  have hl : n < 4611686018427387904 := by omega
  obtain ⟨vs, M', e, hlen, hq, s⟩ := lcStep (l := l) (g := mName 12) (e := (eLc false (iRange1 (aCons (eVar 1) aNil)) (mName 13) mYes (eBin false oSub (eCall 2 (Sh.c__law_take 2) (aCons (eVar 0) (aCons (eC (.int 7)) aNil))) (eC (.int 3))) [13])) (enc := fun i => .int (i : Int))
    (τ := [some (.loc l), some (.int n), x2, x3, x4, x5, x6, x7, x8, x9, x10, x11, none, x13, x14, x15]) (Q := fun v => ∃ u : Nat → Int, v = .lst (vec n u) ∧ ∀ j, j < n → (u j).natAbs ≤ 3) (List.range n) M hp (fun y M _ hp => by
      obtain ⟨us, M', e, hlen, hq, s⟩ := lcStep (l := l) (g := mName 13) (e := eBin false oSub (eCall 2 (Sh.c__law_take 2) (aCons (eVar 0) (aCons (eC (.int 7)) aNil))) (eC (.int 3))) (enc := fun i => .int (i : Int))
        (τ := [some (.loc l), some (.int n), x2, x3, x4, x5, x6, x7, x8, x9, x10, x11, some (.int (y : Int)), none, x14, x15]) (Q := fun v => ∃ i : Int, v = .int i ∧ i.natAbs ≤ 3) (List.range n) M hp (fun z M _ hp => by
          obtain ⟨i, M', e, hi0, hi1, s⟩ := take2 (n := 7) hp (by decide) (by decide)
          exact ⟨_, .int (i - 3), M', rfl, by simp [e], ⟨i - 3, rfl, by omega⟩, s⟩)
      obtain ⟨u, rfl, hu⟩ := ints_vec (n := n) (by simpa using hlen) hq
      refine ⟨_, .lst (vec n u), M', rfl, ?_, ⟨u, rfl, hu⟩, s⟩
      rw [← rangeD_0] at e
      simp only [eLc, iRange1_eq, aCons, aNil, eVar, List.set_cons_succ, List.set_cons_zero, List.getElem?_cons_zero, List.getElem?_cons_succ, R.bind_ok, rngOk_n hl, if_true, Int.toNat_natCast, rangeD_len, le_line' (show n ≤ 64 by omega), wipeD, e, vec_len, fin_lf])
  obtain ⟨T, rfl, hT⟩ := rows_rws (n := n) (by simpa using hlen) hq
  refine ⟨T, M', ?_, hT, s⟩
  rw [← rangeD_0] at e
  rw [sSet, eLc]
  simp only [iRange1_eq, aCons, aNil, eVar, List.getElem?_cons_zero, List.getElem?_cons_succ, R.bind_ok, rngOk_n hl, if_true, Int.toNat_natCast, rangeD_len, le_line' (show n ≤ 64 by omega), wipeD, List.set_cons_succ, List.set_cons_zero]
  rw [e]
  simp only [R.bind_ok, rws_len, le_line' (show n ≤ 64 by omega), if_true, fin_lf, andS_ok, List.set_cons_succ, List.set_cons_zero]
  rfl
theorem oSl1 (ds : List D) (M : Mem) : oSl (some 1) none (.lst ds) M = some (.l (ds.drop 1)) := by
  show (lstOf (.lst ds) M).map (fun it => ON.l (DM.cutD it.xs (some 1) none)) = _
  have h1 : HT.sIx ds.length 0 (some 1) = min 1 ds.length := HT.sIx_nat ds.length 0 1
  simp only [lstOf_lst, Option.map_some, DM.cutD, h1, HT.sIx_none]
  congr 2
  by_cases h : 1 ≤ ds.length
  · rw [Nat.min_eq_left h]
    exact List.take_of_length_le (by simp)
  · have : ds = [] := List.length_eq_zero_iff.mp (by omega)
    subst this; simp
theorem oSl2 (ds : List D) (M : Mem) : oSl none (some 1) (.lst ds) M = some (.l (ds.take 1)) := by
  show (lstOf (.lst ds) M).map (fun it => ON.l (DM.cutD it.xs none (some 1))) = _
  have h1 : HT.sIx ds.length ds.length (some 1) = min 1 ds.length := HT.sIx_nat ds.length ds.length 1
  simp only [lstOf_lst, Option.map_some, DM.cutD, h1, HT.sIx_none, List.drop_zero, Nat.sub_zero]
  congr 2
  by_cases h : 1 ≤ ds.length
  · rw [Nat.min_eq_left h]
  · have : ds = [] := List.length_eq_zero_iff.mp (by omega)
    subst this; simp
/-- the row of bad tables -/
theorem bads {n : Nat} {M : Mem} {T : Mat} (h1 : 1 ≤ n) (h8 : n ≤ 8) (x0 x2 x3 x5 x6 x7 x8 x9 x10 x11 x12 x13 x14 x15 : Option D) :
    eArgs false oLst (aCons (eC .non) (aCons (eC (.int 3)) (aCons (eSl false (eVar 4) (pSome (eC (.int 1))) pNo) (aCons (eBin false oAdd (eVar 4) (eSl false (eVar 4) pNo (pSome (eC (.int 1))))) (aCons (eLc false (iSeq (eVar 4)) (mName 14) mYes (eBin false oAdd (eVar 14) (eArgs false oLst (aCons (eC (.int 0)) aNil))) [14]) (aCons (eBin false oMul (eArgs false oLst (aCons (eBin false oMul (eArgs false oLst (aCons (eC .non) aNil)) (eVar 1)) aNil)) (eVar 1)) (aCons (eBin false oMul (eArgs false oLst (aCons (eBin false oMul (eArgs false oLst (aCons (eC (.bl true)) aNil)) (eVar 1)) aNil)) (eVar 1)) (aCons (eC (.str "1")) aNil))))))))
      [x0, some (.int n), x2, x3, some (tab false false n n T), x5, x6, x7, x8, x9, x10, x11, x12, x13, x14, x15] M = .ok (.lst (bad8 n T)) M := by
  have hl : n ≤ 64 := by omega
  have hcomp : lcL [] (mName 14) mYes (eBin false oAdd (eVar 14) (eArgs false oLst (aCons (eC (.int 0)) aNil))) (rws false n n T) [x0, some (.int n), x2, x3, some (tab false false n n T), x5, x6, x7, x8, x9, x10, x11, x12, x13, none, x15] M = .ok ((List.range n).map fun i => .lst (vec n (T i) ++ [.int 0])) M :=
    lcRw (by simp) fun i hi => ⟨[x0, some (.int n), x2, x3, some (tab false false n n T), x5, x6, x7, x8, x9, x10, x11, x12, x13, some (sqD false (vec n (T i))), x15], by simp, by
      have : n + 1 ≤ 16777216 := by omega
      simp [this]⟩
  have ht : tab false false n n T = .lst (rws false n n T) := rfl
  have hrep : repOk 1 (n : Int) := ⟨by omega, by omega, by simp only [sizeLine_eq]; omega⟩
  have hq1 : n + min 1 n ≤ 16777216 := by omega
  have hA : eSl false (eVar 4) (pSome (eC (.int 1))) pNo [x0, some (.int n), x2, x3, some (tab false false n n T), x5, x6, x7, x8, x9, x10, x11, x12, x13, x14, x15] M = .ok (.lst ((rws false n n T).drop 1)) M := by
    simp [ht, oSl1]
  have hB : eBin false oAdd (eVar 4) (eSl false (eVar 4) pNo (pSome (eC (.int 1)))) [x0, some (.int n), x2, x3, some (tab false false n n T), x5, x6, x7, x8, x9, x10, x11, x12, x13, x14, x15] M = .ok (.lst (rws false n n T ++ (rws false n n T).take 1)) M := by
    simp [ht, oSl2, hq1]
  have hC : eLc false (iSeq (eVar 4)) (mName 14) mYes (eBin false oAdd (eVar 14) (eArgs false oLst (aCons (eC (.int 0)) aNil))) [14] [x0, some (.int n), x2, x3, some (tab false false n n T), x5, x6, x7, x8, x9, x10, x11, x12, x13, x14, x15] M = .ok (.lst ((List.range n).map fun i => .lst (vec n (T i) ++ [.int 0]))) M := by
    have hs : seqOf (tab false false n n T) M = some { xs := rws false n n T } := seqOf_sq _ _ _
    rw [eLc]
    simp only [iSeq, eVar, List.getElem?_cons_zero, List.getElem?_cons_succ, R.bind_ok, hs, rws_len, le_line' hl, if_true, wipeD, List.set_cons_succ, List.set_cons_zero]
    rw [hcomp]
    simp only [R.bind_ok, List.length_map, List.length_range, le_line' hl, if_true, fin_lf]
  have hD : ∀ v : D, eBin false oMul (eArgs false oLst (aCons (eBin false oMul (eArgs false oLst (aCons (eC v) aNil)) (eVar 1)) aNil)) (eVar 1) [x0, some (.int n), x2, x3, some (tab false false n n T), x5, x6, x7, x8, x9, x10, x11, x12, x13, x14, x15] M = .ok (.lst (List.replicate n (.lst (List.replicate n v)))) M := fun v => by
    simp [hrep]
  rw [eArgs]
  simp only [aCons, hA, hB, hC, hD, eC, aNil, R.bind_ok, oLst, List.length_cons, List.length_nil, sizeLine_eq]
  rfl
end K02

namespace K02
open PySem PySem.Spec PyProof.Rows L2 DM LA Sh Sh2
theorem pl_str {k : Nat} (x : Str) : Pl (k + 1) (.str x) := trivial
theorem pl_tup1 {k : Nat} {d : D} (h : Pl k d) : Pl (k + 1) (.tup [d]) := ⟨by simp, fun x hx => by rw [List.mem_singleton.mp hx]; exact h⟩
theorem so_true {l n : Nat} {M : Mem} (hp : PoolAt l M) (h1 : 1 ≤ n) (h8 : n ≤ 8) : ∃ M', c__law_so [.loc l, .int n] M = .ok (.bl true) M' ∧ PStep l M M' := by
  obtain ⟨F, M1, e1, HF, s1⟩ := anyF (bound := 1000000) hp h1 h8 (by decide)
  have hp1 := hp.step s1
  obtain ⟨b, c, M2, e2, s2⟩ := handed_tab (b := true) (c := true) (n := n) (m := n) (A := F) hp1 (by omega)
  have hp2 := hp1.step s2
  obtain ⟨T, M3, e3, hT, s3⟩ := drawn hp2 h1 h8 (some (tab true true n n F)) (some (tab b c n n F)) none none none none none none none none none none none none
  have hp3 := hp2.step s3
  obtain ⟨b4, c4, M4, e4, s4⟩ := handed_tab (b := false) (c := false) (n := n) (m := n) (A := T) hp3 (by omega)
  have hp4 := hp3.step s4
  have hT1 : ∀ i, i < n → ∀ j, j < n → (T i j).natAbs ≤ 3 ^ 1 := hT
  have hTs : ∀ i, i < n → ∀ j, j < n → Sm (T i j) := fun i hi j hj => sm_le_pow (k := 2) (Nat.le_trans (hT i hi j hj) (by decide)) (by decide)
  have hTF : ∀ i, i < n → ∀ j, j < n → Sm (mul n T F i j) := fun i hi j hj => by
    have := mul_le hT HF.le100 i hi j hj
    refine sm_le_pow (k := 105) (Nat.le_trans this ?_) (by decide)
    calc n * (3 * 2 ^ 100) ≤ 8 * (3 * 2 ^ 100) := Nat.mul_le_mul_right _ h8
      _ ≤ 2 ^ 105 := by decide
  have em := moved_ok (b := b) (c := c) (b' := b4) (c' := c4) HF.frm hTs hTF M4
  rw [tab_congr (B := mv n T F) fun i _ j _ => mv_eq HF.frm.sym i j] at em
  have el := lawMv (b := false) (c := false) (b' := true) (c' := true) (s := 1) (by omega) (by decide) hT1 HF.le100 M4
  have et0 := told_val (k := 0) (f := tab b c n n F) (o := tab b4 c4 n n T) em
  obtain ⟨m, M5, e5, hm, s5⟩ := pick_ints (is := [1, -1, 2, -6, 1000000000000, 7]) hp4 (by simp) (by simp)
  simp only [List.map_cons, List.map_nil] at e5
  have hp5 := hp4.step s5
  have hms : Sm m := by
    have : m.natAbs ≤ 1000000000000 := by simp at hm; omega
    exact sm_le_pow (k := 40) (Nat.le_trans this (by decide)) (by decide)
  have emu := multiple_ok (b := b) (c := c) HF.frm hms M5
  have et3 := told_val (k := 3) (f := tab b c n n F) (o := .int m) emu
  have hFs : ∀ i, i < n → ∀ j, j < n → Sm (F i j) := fun i hi j hj => sm_le_pow (k := 100) (HF.le100 i hi j hj) (by decide)
  obtain ⟨w, M6, e6, hw0, hw1, s6⟩ := take2 (n := 8) hp5 (by decide) (by decide)
  have hp6 := hp5.step s6
  obtain ⟨q, hq⟩ : ∃ q : Nat, 1 + w = q := ⟨(1 + w).toNat, by omega⟩
  have hq1 : 1 ≤ q := by omega
  have hq8 : q ≤ 8 := by omega
  obtain ⟨G, M7, e7, HG, s7⟩ := anyF (n := q) (bound := 1000000) hp6 hq1 hq8 (by decide)
  have hp7 := hp6.step s7
  obtain ⟨b8, c8, M8, e8, s8⟩ := handed_tab (b := true) (c := true) (n := q) (m := q) (A := G) hp7 (by omega)
  have hp8 := hp7.step s8
  obtain ⟨bad, M9, e9, hbad, s9⟩ := pick_spec (ds := bad8 n T) hp8 (by simp [bad8]) (by simp [bad8])
  have hp9 := hp8.step s9
  obtain ⟨hbp, hbq⟩ := bad8_ok h1 h8 hbad
  obtain ⟨wr, r, M10, e10, hwr, s10⟩ := noForm_spec hp9 h1 h8 HF.le HF.frm.sym
  have sAll := s1.trans (s2.trans (s3.trans (s4.trans (s5.trans (s6.trans (s7.trans (s8.trans (s9.trans s10))))))))
  -- the six calls
  have r1 := told_bt (k := 0) (f := tab b c n n F) (o := bad) (moved_badT HF.frm (k := 3) hbp hbq M10)
  have r2 := told_bf (k := 0) (f := wr) (o := bad) (moved_badF hwr M10)
  have r3 := told_bf (k := 1) (f := wr) (o := .non) (sum_bad1 hwr M10)
  have r4 := told_bf (k := 1) (f := tab true true n n F) (o := wr) (sum_bad2 HF.frm hwr M10)
  have r5 := told_bf (k := 2) (f := wr) (o := .non) (adjoint_badF hwr M10)
  have r6 := told_bf (k := 3) (f := wr) (o := .int 2) (multiple_badF hwr M10)
  -- the sum
  have hdue : ∃ due, Pl 8 due ∧ (∀ τ : DSt, τ[1]? = some (some (.int n)) → τ[2]? = some (some (tab true true n n F)) → τ[6]? = some (some (tab true true q q G)) →
      eIf (asB (eBin false oLe (eBin false oAdd (eVar 1) (eArgs false oLen (aCons (eVar 6) aNil))) (eC (.int 8)))) (eCall 2 (Sh2.c__law_beside) (aCons (eVar 2) (aCons (eVar 6) aNil))) (eArgs false oTup (aCons (eC (.str "great")) aNil)) τ M7 = .ok due M7) ∧
      c__law_told [.int 1, tab b c n n F, tab b8 c8 q q G] M8 = .ok due M8 := by
    have hsG : seqOf (tab true true q q G) M7 = some { xs := rws true q q G } := seqOf_sq _ _ _
    by_cases h : n + q ≤ 8
    · refine ⟨tab true true (n + q) (n + q) (bd n F G), pl8 _ _ _ (by omega), fun τ g1 g2 g6 => ?_, told_val (k := 1) (sum_ok HF.frm HG.frm h M8)⟩
      have hb := lawBeside_spec (A := F) (B := G) h1 hq1 (by omega) M7
      have h' : (n : Int) + (q : Int) ≤ 8 := by omega
      simp [g1, g2, g6, hsG, h', hb]
    · refine ⟨.tup [.str "great"], pl_tup1 (pl_str _), fun τ g1 g2 g6 => ?_, told_tg (k := 1) (sum_great HF.frm HG.frm (by omega) M8)⟩
      have h' : ¬ (n : Int) + (q : Int) ≤ 8 := by omega
      simp [g1, g2, g6, hsG, h']
  obtain ⟨due, hdp, hdue, et1⟩ := hdue
  refine ⟨M10, ?_, sAll⟩
  unfold c__law_so m__law_so
  -- the form
  have t1 : sSet 2 (eCall 3 (Sh2.c__law_any_form) (aCons (eVar 0) (aCons (eVar 1) (aCons (eBin false oPow (eC (.int 10)) (eC (.int 6))) aNil)))) (startD N__law_so [.loc l, .int n]) M =
      .nx [some (.loc l), some (.int n), some (tab true true n n F), none, none, none, none, none, none, none, none, none, none, none, none, none] M1 := by
    rw [pow106]
    simp [startD, e1]
  have t2 : sSet 3 (eCall 2 (Sh2.c__law_handed) (aCons (eVar 0) (aCons (eVar 2) aNil))) [some (.loc l), some (.int n), some (tab true true n n F), none, none, none, none, none, none, none, none, none, none, none, none, none] M1 =
      .nx [some (.loc l), some (.int n), some (tab true true n n F), some (tab b c n n F), none, none, none, none, none, none, none, none, none, none, none, none] M2 := by simp [e2]
  have t4 := same_chk (a := eCall 3 (c__law_told) (aCons (eC (.int 0)) (aCons (eVar 3) (aCons (eCall 2 (Sh2.c__law_handed) (aCons (eVar 0) (aCons (eVar 4) aNil))) aNil)))) (b := eCall 2 (Sh2.c__law_moved) (aCons (eVar 4) (aCons (eVar 2) aNil))) (d := tab true true n n (mv n T F))
    (τ := [some (.loc l), some (.int n), some (tab true true n n F), some (tab b c n n F), some (tab false false n n T), none, none, none, none, none, none, none, none, none, none, none]) (M := M3) (M1 := M4) (M2 := M4) (by simp [e4, et0]) (by simp [el]) (pl8 _ _ _ (by omega))
  have t5 : sSet 5 (eCall 2 (Sh.c__law_pick) (aCons (eVar 0) (aCons (eArgs false oLst (aCons (eC (.int 1)) (aCons (eUn false oNeg (eC (.int 1))) (aCons (eC (.int 2)) (aCons (eUn false oNeg (eC (.int 6))) (aCons (eBin false oPow (eC (.int 10)) (eC (.int 12))) (aCons (eC (.int 7)) aNil))))))) aNil)))
      [some (.loc l), some (.int n), some (tab true true n n F), some (tab b c n n F), some (tab false false n n T), none, none, none, none, none, none, none, none, none, none, none] M4 =
      .nx [some (.loc l), some (.int n), some (tab true true n n F), some (tab b c n n F), some (tab false false n n T), some (.int m), none, none, none, none, none, none, none, none, none, none] M5 := by
    rw [pow1012]
    simp [e5]
  have hmul : eArgs false oTuple (aCons (eLc false (iSeq (eVar 2)) (mName 14) mYes (eArgs false oTuple (aCons (eLc false (iSeq (eVar 14)) (mName 15) mYes (eBin false oMul (eVar 5) (eVar 15)) [15]) aNil)) [14]) aNil)
      [some (.loc l), some (.int n), some (tab true true n n F), some (tab b c n n F), some (tab false false n n T), some (.int m), none, none, none, none, none, none, none, none, none, none] M5 = .ok (tab true true n n fun i j => m * F i j) M5 := by
    have h : lcL [] (mName 14) mYes (eArgs false oTuple (aCons (eLc false (iSeq (eVar 14)) (mName 15) mYes (eBin false oMul (eVar 5) (eVar 15)) [15]) aNil)) (rws true n n F) [some (.loc l), some (.int n), some (tab true true n n F), some (tab b c n n F), some (tab false false n n T), some (.int m), none, none, none, none, none, none, none, none, none, none] M5 = .ok (rws true n n fun i j => m * F i j) M5 :=
      lcRw (by simp) fun i hi => ⟨[some (.loc l), some (.int n), some (tab true true n n F), some (tab b c n n F), some (tab false false n n T), some (.int m), none, none, none, none, none, none, none, none, some (sqD true (vec n (F i))), none], by simp, by
        have : lcL [] (mName 15) mYes (eBin false oMul (eVar 5) (eVar 15)) (vec n (F i)) [some (.loc l), some (.int n), some (tab true true n n F), some (tab b c n n F), some (tab false false n n T), some (.int m), none, none, none, none, none, none, none, none, some (sqD true (vec n (F i))), none] M5 = .ok (vec n fun j => m * F i j) M5 :=
          lcV (by simp) fun j hj => ⟨[some (.loc l), some (.int n), some (tab true true n n F), some (tab b c n n F), some (tab false false n n T), some (.int m), none, none, none, none, none, none, none, none, some (sqD true (vec n (F i))), some (.int (F i j))], by simp, by simp [cmul_sm hms (hFs i hi j hj)]⟩
        simp only [sq_t] at this
        simp [le_line' (show n ≤ 64 by omega), wipeD, this]⟩
    have hs : seqOf (tab true true n n F) M5 = some { xs := rws true n n F } := seqOf_sq _ _ _
    simp [hs, le_line' (show n ≤ 64 by omega), wipeD, h]
    rfl
  have t6 := same_chk (a := eCall 3 (c__law_told) (aCons (eC (.int 3)) (aCons (eVar 3) (aCons (eVar 5) aNil)))) (d := tab true true n n fun i j => m * F i j) (M := M5) (M1 := M5) (M2 := M5) (τ := [some (.loc l), some (.int n), some (tab true true n n F), some (tab b c n n F), some (tab false false n n T), some (.int m), none, none, none, none, none, none, none, none, none, none]) (by simp [et3]) hmul (pl8 _ _ _ (by omega))
  have t7 : sSet 6 (eCall 3 (Sh2.c__law_any_form) (aCons (eVar 0) (aCons (eBin false oAdd (eC (.int 1)) (eCall 2 (Sh.c__law_take 2) (aCons (eVar 0) (aCons (eC (.int 8)) aNil)))) (aCons (eBin false oPow (eC (.int 10)) (eC (.int 6))) aNil))))
      [some (.loc l), some (.int n), some (tab true true n n F), some (tab b c n n F), some (tab false false n n T), some (.int m), none, none, none, none, none, none, none, none, none, none] M5 =
      .nx [some (.loc l), some (.int n), some (tab true true n n F), some (tab b c n n F), some (tab false false n n T), some (.int m), some (tab true true q q G), none, none, none, none, none, none, none, none, none] M7 := by
    rw [pow106]
    simp [e6, hq, e7]
  have t8 : sSet 7 (eIf (asB (eBin false oLe (eBin false oAdd (eVar 1) (eArgs false oLen (aCons (eVar 6) aNil))) (eC (.int 8)))) (eCall 2 (Sh2.c__law_beside) (aCons (eVar 2) (aCons (eVar 6) aNil))) (eArgs false oTup (aCons (eC (.str "great")) aNil)))
      [some (.loc l), some (.int n), some (tab true true n n F), some (tab b c n n F), some (tab false false n n T), some (.int m), some (tab true true q q G), none, none, none, none, none, none, none, none, none] M7 =
      .nx [some (.loc l), some (.int n), some (tab true true n n F), some (tab b c n n F), some (tab false false n n T), some (.int m), some (tab true true q q G), some due, none, none, none, none, none, none, none, none] M7 := by
    rw [sSet, hdue _ (by simp) (by simp) (by simp)]
    simp
  have t9 := same_chk (a := eCall 3 (c__law_told) (aCons (eC (.int 1)) (aCons (eVar 3) (aCons (eCall 2 (Sh2.c__law_handed) (aCons (eVar 0) (aCons (eVar 6) aNil))) aNil)))) (b := eVar 7) (d := due) (M := M7) (M1 := M8) (M2 := M8)
    (τ := [some (.loc l), some (.int n), some (tab true true n n F), some (tab b c n n F), some (tab false false n n T), some (.int m), some (tab true true q q G), some due, none, none, none, none, none, none, none, none]) (by simp [e8, et1]) (by simp) hdp
  have hbads := bads (T := T) (M := M8) h1 h8 (some (.loc l)) (some (tab true true n n F)) (some (tab b c n n F)) (some (.int m)) (some (tab true true q q G)) (some due) none none none none none none none none
  have t10 : sSet 8 (eCall 2 (Sh.c__law_pick) (aCons (eVar 0) (aCons (eArgs false oLst (aCons (eC .non) (aCons (eC (.int 3)) (aCons (eSl false (eVar 4) (pSome (eC (.int 1))) pNo) (aCons (eBin false oAdd (eVar 4) (eSl false (eVar 4) pNo (pSome (eC (.int 1))))) (aCons (eLc false (iSeq (eVar 4)) (mName 14) mYes (eBin false oAdd (eVar 14) (eArgs false oLst (aCons (eC (.int 0)) aNil))) [14]) (aCons (eBin false oMul (eArgs false oLst (aCons (eBin false oMul (eArgs false oLst (aCons (eC .non) aNil)) (eVar 1)) aNil)) (eVar 1)) (aCons (eBin false oMul (eArgs false oLst (aCons (eBin false oMul (eArgs false oLst (aCons (eC (.bl true)) aNil)) (eVar 1)) aNil)) (eVar 1)) (aCons (eC (.str "1")) aNil))))))))) aNil)))
      [some (.loc l), some (.int n), some (tab true true n n F), some (tab b c n n F), some (tab false false n n T), some (.int m), some (tab true true q q G), some due, none, none, none, none, none, none, none, none] M8 =
      .nx [some (.loc l), some (.int n), some (tab true true n n F), some (tab b c n n F), some (tab false false n n T), some (.int m), some (tab true true q q G), some due, some bad, none, none, none, none, none, none, none] M9 := by
    rw [sSet, eCall]
    simp only [aCons, hbads, aNil, eVar, List.getElem?_cons_zero, R.bind_ok, List.length_cons, List.length_nil]
    rw [if_pos (by decide), e9]
    simp
  have t11 : sAsg (eCall 2 (Sh2.c__law_no_form) (aCons (eVar 0) (aCons (eVar 2) aNil))) (mTup 2 (mCons (mName 9) (mCons (mName 10) mNil))) [some (.loc l), some (.int n), some (tab true true n n F), some (tab b c n n F), some (tab false false n n T), some (.int m), some (tab true true q q G), some due, some bad, none, none, none, none, none, none, none] M9 =
      .nx [some (.loc l), some (.int n), some (tab true true n n F), some (tab b c n n F), some (tab false false n n T), some (.int m), some (tab true true q q G), some due, some bad, some wr, some (.str r), none, none, none, none, none] M10 := by simp [e10]
  have t12 : sSet 11 (eArgs false oLst (aCons (eCall 3 (c__law_told) (aCons (eC (.int 0)) (aCons (eVar 3) (aCons (eVar 8) aNil)))) (aCons (eCall 3 (c__law_told) (aCons (eC (.int 0)) (aCons (eVar 9) (aCons (eVar 8) aNil)))) (aCons (eCall 3 (c__law_told) (aCons (eC (.int 1)) (aCons (eVar 9) (aCons (eC .non) aNil)))) (aCons (eCall 3 (c__law_told) (aCons (eC (.int 1)) (aCons (eVar 2) (aCons (eVar 9) aNil)))) (aCons (eCall 3 (c__law_told) (aCons (eC (.int 2)) (aCons (eVar 9) (aCons (eC .non) aNil)))) (aCons (eCall 3 (c__law_told) (aCons (eC (.int 3)) (aCons (eVar 9) (aCons (eC (.int 2)) aNil)))) aNil)))))))
      [some (.loc l), some (.int n), some (tab true true n n F), some (tab b c n n F), some (tab false false n n T), some (.int m), some (tab true true q q G), some due, some bad, some wr, some (.str r), none, none, none, none, none] M10 =
      .nx [some (.loc l), some (.int n), some (tab true true n n F), some (tab b c n n F), some (tab false false n n T), some (.int m), some (tab true true q q G), some due, some bad, some wr, some (.str r), some (.lst [.tup [.str "table"], .tup [.str "form", .str r], .tup [.str "form", .str r], .tup [.str "form", .str r], .tup [.str "form", .str r], .tup [.str "form", .str r]]), none, none, none, none] M10 := by
    simp [r1, r2, r3, r4, r5, r6]
  have hrep5 : repOk 1 5 := ⟨by decide, by decide, by decide⟩
  have t13 := same_ret (a := eVar 11) (b := eBin false oAdd (eArgs false oLst (aCons (eArgs false oTup (aCons (eC (.str "table")) aNil)) aNil)) (eBin false oMul (eArgs false oLst (aCons (eArgs false oTup (aCons (eC (.str "form")) (aCons (eVar 10) aNil))) aNil)) (eC (.int 5)))) (M := M10) (M1 := M10) (M2 := M10)
    (d := .lst [.tup [.str "table"], .tup [.str "form", .str r], .tup [.str "form", .str r], .tup [.str "form", .str r], .tup [.str "form", .str r], .tup [.str "form", .str r]])
    (τ := [some (.loc l), some (.int n), some (tab true true n n F), some (tab b c n n F), some (tab false false n n T), some (.int m), some (tab true true q q G), some due, some bad, some wr, some (.str r), some (.lst [.tup [.str "table"], .tup [.str "form", .str r], .tup [.str "form", .str r], .tup [.str "form", .str r], .tup [.str "form", .str r], .tup [.str "form", .str r]]), none, none, none, none])
    (by simp) (by simp [hrep5, List.replicate]) (by
      have h2 : Pl 7 (.tup [.str "form", .str r]) := ⟨by simp, fun x hx => by
        simp only [List.mem_cons, List.not_mem_nil, or_false] at hx
        rcases hx with rfl | rfl <;> trivial⟩
      refine ⟨by simp, fun x hx => ?_⟩
      simp only [List.mem_cons, List.not_mem_nil, or_false] at hx
      rcases hx with rfl | rfl | rfl | rfl | rfl | rfl
      · exact pl_tup1 (pl_str _)
      all_goals exact h2)
  rw [seq_nx t1, seq_nx t2, seq_nx e3, seq_nx t4, seq_nx t5, seq_nx t6, seq_nx t7, seq_nx t8, seq_nx t9, seq_nx t10, seq_nx t11, seq_nx t12, t13]
  rfl
end K02

namespace K02
open PySem PySem.Spec PyProof.Rows L2 DM LA Sh Sh2
theorem adjoints_true {l n : Nat} {M : Mem} (hp : PoolAt l M) (h1 : 1 ≤ n) (h6 : n ≤ 6) : ∃ M', c__law_adjoints_so [.loc l, .int n] M = .ok (.bl true) M' ∧ PStep l M M' := by
  obtain ⟨F, M1, e1, HF, s1⟩ := anyF (n := n) (bound := 200) hp h1 (by omega) (by decide)
  have hp1 := hp.step s1
  obtain ⟨b, c, M2, e2, s2⟩ := handed_tab (b := true) (c := true) (n := n) (m := n) (A := F) hp1 (by omega)
  refine ⟨M2, ?_, s1.trans s2⟩
  unfold c__law_adjoints_so m__law_adjoints_so
  have t1 : sSet 2 (eCall 3 (Sh2.c__law_any_form) (aCons (eVar 0) (aCons (eVar 1) (aCons (eC (.int 200)) aNil)))) (startD N__law_adjoints_so [.loc l, .int n]) M = .nx [some (.loc l), some (.int n), some (tab true true n n F), none, none, none, none, none] M1 := by
    simp [startD, e1]
  by_cases hn1 : n = 1
  · subst hn1
    have ea := told_val (k := 2) (f := tab b c 1 1 F) (o := .non) (adjoint_one HF.frm M2)
    have t2 : sSet 3 (eCall 3 (c__law_told) (aCons (eC (.int 2)) (aCons (eCall 2 (Sh2.c__law_handed) (aCons (eVar 0) (aCons (eVar 2) aNil))) (aCons (eC .non) aNil)))) [some (.loc l), some (.int ((1 : Nat) : Int)), some (tab true true 1 1 F), none, none, none, none, none] M1 =
        .nx [some (.loc l), some (.int ((1 : Nat) : Int)), some (tab true true 1 1 F), some .non, none, none, none, none] M2 := by simp [e2, ea]
    rw [seq_nx t1, seq_nx t2]
    simp
  · obtain ⟨m, rfl⟩ : ∃ m, n = m + 1 := ⟨n - 1, by omega⟩
    have hm : 1 ≤ m := by omega
    have hd := HF.frm.det
    have hbb : (6 + 100) * (m + 1) + 1 ≤ 8000 := by omega
    have ea := told_val (k := 2) (f := tab b c (m + 1) (m + 1) F) (o := .non) (adjoint_spec HF.frm hm HF.le100 M2)
    have el := lawAdjoint_spec (b := true) (c := true) (m := m) (bb := 100) (by omega) hbb HF.le100 hd M2
    have edet := lawDet_spec (b := true) (c := true) (n := m + 1) (bb := 100) (A := F) (by omega) hbb HF.le100 M2
    have hC : det (m + 1) (cf m F) ≠ 0 := by
      have : det (m + 1) (cf m F) = det (m + 1) F ^ m := det_cof hd
      rw [this]; exact pow_ne hd m
    have hRd : det (m + 1) (red (m + 1) (cf m F)) ≠ 0 := red_det hC
    have hRs := red_sym (n := m + 1) (A := cf m F) fun i hi j hj => cof_sym HF.frm.sym i j
    have hFs : ∀ i, i < m + 1 → ∀ j, j < m + 1 → Sm (F i j) := fun i hi j hj => sm_le_pow (k := 100) (HF.le100 i hi j hj) (by decide)
    have t2 : sSet 3 (eCall 3 (c__law_told) (aCons (eC (.int 2)) (aCons (eCall 2 (Sh2.c__law_handed) (aCons (eVar 0) (aCons (eVar 2) aNil))) (aCons (eC .non) aNil)))) [some (.loc l), some (.int ((m + 1 : Nat) : Int)), some (tab true true (m + 1) (m + 1) F), none, none, none, none, none] M1 =
        .nx [some (.loc l), some (.int ((m + 1 : Nat) : Int)), some (tab true true (m + 1) (m + 1) F), some (tab true true (m + 1) (m + 1) (red (m + 1) (cf m F))), none, none, none, none] M2 := by simp [e2, ea]
    have t3 : sIf (asB (eBin false oEq (eVar 1) (eC (.int 1)))) (sRet (eBin false oIs (eVar 3) (eC .non))) sNil [some (.loc l), some (.int ((m + 1 : Nat) : Int)), some (tab true true (m + 1) (m + 1) F), some (tab true true (m + 1) (m + 1) (red (m + 1) (cf m F))), none, none, none, none] M2 =
        .nx [some (.loc l), some (.int ((m + 1 : Nat) : Int)), some (tab true true (m + 1) (m + 1) F), some (tab true true (m + 1) (m + 1) (red (m + 1) (cf m F))), none, none, none, none] M2 := sIf_nil (by
      have : ¬ (((m + 1 : Nat) : Int) = 1) := by omega
      simp only [asB, eBin, eVar, eC, List.getElem?_cons_zero, List.getElem?_cons_succ, R.bind_ok, oEq_ii, this, decide_false, fin_v])
    have t4 := same_chk (a := eVar 3) (b := eCall 1 (c__law_adjoint) (aCons (eVar 2) aNil)) (d := tab true true (m + 1) (m + 1) (red (m + 1) (cf m F))) (M := M2) (M1 := M2) (M2 := M2)
      (τ := [some (.loc l), some (.int ((m + 1 : Nat) : Int)), some (tab true true (m + 1) (m + 1) F), some (tab true true (m + 1) (m + 1) (red (m + 1) (cf m F))), none, none, none, none]) (by simp) (by simp [el]) (pl8 _ _ _ (by omega))
    obtain ⟨mx, e5, h5⟩ := max_tab (b := true) (c := true) (n := m + 1) (A := red (m + 1) (cf m F)) (i := 5) (j := 6) (ro := eVar 3) (M := M2) (τ := [some (.loc l), some (.int ((m + 1 : Nat) : Int)), some (tab true true (m + 1) (m + 1) F), some (tab true true (m + 1) (m + 1) (red (m + 1) (cf m F))), none, none, none, none]) (by omega) (by omega) (by simp) (by simp) (by decide) (by simp)
    rw [seq_nx t1, seq_nx t2, seq_nx t3, seq_nx t4]
    have tc := asB_le (b := 1000000) (y := eBin false oPow (eC (.int 10)) (eC (.int 6))) e5 (by rw [pow106])
    by_cases hle : mx ≤ 1000000
    · rw [decide_eq_true hle] at tc
      have hR := (h5 1000000).mp hle
      have HR : FF (m + 1) (red (m + 1) (cf m F)) := ⟨⟨by omega, by omega, fun i hi j hj => Int.le_trans (hR i hi j hj) (by decide), hRs, hRd⟩, hR⟩
      have ead := adjoint_spec (b := true) (c := true) HR.frm hm HR.le100 M2
      obtain ⟨yw, yp, q4⟩ := gcd_loop (sv := 4) (wv := 5) (pv := 6) [some (.loc l), some (.int ((m + 1 : Nat) : Int)), some (tab true true (m + 1) (m + 1) F), some (tab true true (m + 1) (m + 1) (red (m + 1) (cf m F))), none, none, none, none] (by simp) (by simp) (by simp) (by decide) (by decide) (by decide)
        (b := true) (c := true) (A := F) (M := M2) (ro := eVar 2) (st := eCall 2 (Sh2.c__law_common) (aCons (eVar 4) (aCons (eVar 6) aNil))) hFs (fun g xw xp => by simp [gS]) (fun g x xw hg hx => by
          have := common_spec (a := (g : Int)) (b := x) (by unfold Sm at hg; omega) (by unfold Sm at hx; omega) M2
          simp only [Int.natAbs_natCast] at this
          simp [gS, this]) none none
      have hg := gt_sm (m := m + 1) (A := F) (m + 1) hFs
      have hgp : 0 < gt (m + 1) F (m + 1) := gt_pos (n := m) hd
      have hdiv : ∀ x : Int, CDivG x ((gt (m + 1) F (m + 1) : Nat) : Int) := fun x => cdiv_sm (by omega) hg
      have u1 : sSet 4 (eC (.int 0)) [some (.loc l), some (.int ((m + 1 : Nat) : Int)), some (tab true true (m + 1) (m + 1) F), some (tab true true (m + 1) (m + 1) (red (m + 1) (cf m F))), none, none, none, none] M2 =
          .nx (gS 4 5 6 [some (.loc l), some (.int ((m + 1 : Nat) : Int)), some (tab true true (m + 1) (m + 1) F), some (tab true true (m + 1) (m + 1) (red (m + 1) (cf m F))), none, none, none, none] 0 none none) M2 := by simp [gS]
      have eg : gS 4 5 6 [some (.loc l), some (.int ((m + 1 : Nat) : Int)), some (tab true true (m + 1) (m + 1) F), some (tab true true (m + 1) (m + 1) (red (m + 1) (cf m F))), none, none, none, none] (gt (m + 1) F (m + 1)) yw yp =
          [some (.loc l), some (.int ((m + 1 : Nat) : Int)), some (tab true true (m + 1) (m + 1) F), some (tab true true (m + 1) (m + 1) (red (m + 1) (cf m F))), some (.int ((gt (m + 1) F (m + 1) : Nat) : Int)), yw, yp, none] := by simp [gS]
      have u3 : sSet 7 (eIf (mAnd (asB (eBin false oLt (eCall 1 (Sh2.c__law_determinant) (aCons (eVar 2) aNil)) (eC (.int 0)))) (asB (eBin false oEq (eBin false oMod (eArgs false oInt (aCons (eVar 1) aNil)) (eC (.int 2))) (eC (.int 1))))) (eUn false oNeg (eC (.int 1))) (eC (.int 1)))
          [some (.loc l), some (.int ((m + 1 : Nat) : Int)), some (tab true true (m + 1) (m + 1) F), some (tab true true (m + 1) (m + 1) (red (m + 1) (cf m F))), some (.int ((gt (m + 1) F (m + 1) : Nat) : Int)), yw, yp, none] M2 =
          .nx [some (.loc l), some (.int ((m + 1 : Nat) : Int)), some (tab true true (m + 1) (m + 1) F), some (tab true true (m + 1) (m + 1) (red (m + 1) (cf m F))), some (.int ((gt (m + 1) F (m + 1) : Nat) : Int)), yw, yp, some (.int (sgp (m + 1) (det (m + 1) F)))] M2 := by
        have hmod : (((m + 1 : Nat) : Int)).fmod 2 = (((m + 1) % 2 : Nat) : Int) := by rw [fmod_pos (by decide)]; omega
        unfold sgp
        by_cases hneg : det (m + 1) F < 0
        · by_cases hodd : (m + 1) % 2 = 1
          · have ho : ((((m + 1) % 2 : Nat) : Int) = 1) := by omega
            rw [if_pos ⟨hneg, hodd⟩]
            simp only [sSet, eIf, mAnd, asB, eBin, eUn, eArgs, eCall, aCons, aNil, eVar, eC, List.getElem?_cons_zero, List.getElem?_cons_succ, R.bind_ok, List.length_cons, List.length_nil, if_true, edet, oLt_ii, fin_v, hneg, decide_true, oInt_i, oMod_ii, hmod, ne_eq, show ¬ (2 : Int) = 0 by decide, not_false_eq_true, Option.map_some, oEq_ii, ho, oNeg_i, andS_ok, List.set_cons_succ, List.set_cons_zero]
          · have ho : ¬ ((((m + 1) % 2 : Nat) : Int) = 1) := by omega
            rw [if_neg fun h => hodd h.2]
            simp only [sSet, eIf, mAnd, asB, eBin, eUn, eArgs, eCall, aCons, aNil, eVar, eC, List.getElem?_cons_zero, List.getElem?_cons_succ, R.bind_ok, List.length_cons, List.length_nil, if_true, edet, oLt_ii, fin_v, hneg, decide_true, oInt_i, oMod_ii, hmod, ne_eq, show ¬ (2 : Int) = 0 by decide, not_false_eq_true, Option.map_some, oEq_ii, ho, decide_false, oNeg_i]
            rfl
        · rw [if_neg fun h => hneg h.1]
          simp only [sSet, eIf, mAnd, asB, eBin, eUn, eArgs, eCall, aCons, aNil, eVar, eC, List.getElem?_cons_zero, List.getElem?_cons_succ, R.bind_ok, List.length_cons, List.length_nil, if_true, edet, oLt_ii, fin_v, hneg, decide_false]
          rfl
      have hdue : ∀ x1 : Option D, eArgs false oTuple (aCons (eLc false (iSeq (eVar 2)) (mName 5) mYes (eArgs false oTuple (aCons (eLc false (iSeq (eVar 5)) (mName 6) mYes (eArgs false oInt (aCons (eBin false oDiv (eBin false oMul (eVar 7) (eVar 6)) (eVar 4)) aNil)) [6]) aNil)) [5]) aNil)
          [some (.loc l), x1, some (tab true true (m + 1) (m + 1) F), some (tab true true (m + 1) (m + 1) (red (m + 1) (cf m F))), some (.int ((gt (m + 1) F (m + 1) : Nat) : Int)), yw, yp, some (.int (sgp (m + 1) (det (m + 1) F)))] M2 =
          .ok (tab true true (m + 1) (m + 1) (red (m + 1) (cf m (red (m + 1) (cf m F))))) M2 := fun x1 => by
        have hsg : ∀ x : Int, CMulG (sgp (m + 1) (det (m + 1) F)) x := fun x => cmul_l (by unfold sgp; split <;> decide)
        have e0 : tab true true (m + 1) (m + 1) (red (m + 1) (cf m (red (m + 1) (cf m F)))) = tab true true (m + 1) (m + 1) (fun i j => Int.fdiv (sgp (m + 1) (det (m + 1) F) * F i j) (gt (m + 1) F (m + 1))) := tab_congr fun i hi j hj => red_red hm hd i hi j hj
        rw [e0]
        have h : lcL [] (mName 5) mYes (eArgs false oTuple (aCons (eLc false (iSeq (eVar 5)) (mName 6) mYes (eArgs false oInt (aCons (eBin false oDiv (eBin false oMul (eVar 7) (eVar 6)) (eVar 4)) aNil)) [6]) aNil)) (rws true (m + 1) (m + 1) F)
            [some (.loc l), x1, some (tab true true (m + 1) (m + 1) F), some (tab true true (m + 1) (m + 1) (red (m + 1) (cf m F))), some (.int ((gt (m + 1) F (m + 1) : Nat) : Int)), none, yp, some (.int (sgp (m + 1) (det (m + 1) F)))] M2 = .ok (rws true (m + 1) (m + 1) (fun i j => Int.fdiv (sgp (m + 1) (det (m + 1) F) * F i j) (gt (m + 1) F (m + 1)))) M2 :=
          lcRw (by simp) fun i hi => ⟨[some (.loc l), x1, some (tab true true (m + 1) (m + 1) F), some (tab true true (m + 1) (m + 1) (red (m + 1) (cf m F))), some (.int ((gt (m + 1) F (m + 1) : Nat) : Int)), some (sqD true (vec (m + 1) (F i))), yp, some (.int (sgp (m + 1) (det (m + 1) F)))], by simp, by
            have : lcL [] (mName 6) mYes (eArgs false oInt (aCons (eBin false oDiv (eBin false oMul (eVar 7) (eVar 6)) (eVar 4)) aNil)) (vec (m + 1) (F i))
                [some (.loc l), x1, some (tab true true (m + 1) (m + 1) F), some (tab true true (m + 1) (m + 1) (red (m + 1) (cf m F))), some (.int ((gt (m + 1) F (m + 1) : Nat) : Int)), some (sqD true (vec (m + 1) (F i))), none, some (.int (sgp (m + 1) (det (m + 1) F)))] M2 = .ok (vec (m + 1) fun j => Int.fdiv (sgp (m + 1) (det (m + 1) F) * F i j) (gt (m + 1) F (m + 1))) M2 :=
              lcV (by simp) fun j hj => ⟨[some (.loc l), x1, some (tab true true (m + 1) (m + 1) F), some (tab true true (m + 1) (m + 1) (red (m + 1) (cf m F))), some (.int ((gt (m + 1) F (m + 1) : Nat) : Int)), some (sqD true (vec (m + 1) (F i))), some (.int (F i j)), some (.int (sgp (m + 1) (det (m + 1) F)))], by simp, by
                simp only [eArgs, aCons, aNil, eBin, eVar, List.getElem?_cons_succ, List.getElem?_cons_zero, R.bind_ok, oMul_ii, hsg, if_true, fin_v, oDiv_ii, hdiv, Option.map_some, oInt_i]⟩
            simp only [sq_t] at this
            simp [le_line' (show m + 1 ≤ 64 by omega), wipeD, this]⟩
        have hs : seqOf (tab true true (m + 1) (m + 1) F) M2 = some { xs := rws true (m + 1) (m + 1) F } := seqOf_sq _ _ _
        simp [hs, le_line' (show m + 1 ≤ 64 by omega), wipeD, h]
        rfl
      have u4 := same_chk (a := eCall 1 (Sh2.c_adjoint) (aCons (eVar 3) aNil)) (d := tab true true (m + 1) (m + 1) (red (m + 1) (cf m (red (m + 1) (cf m F))))) (M := M2) (M1 := M2) (M2 := M2)
        (τ := [some (.loc l), some (.int ((m + 1 : Nat) : Int)), some (tab true true (m + 1) (m + 1) F), some (tab true true (m + 1) (m + 1) (red (m + 1) (cf m F))), some (.int ((gt (m + 1) F (m + 1) : Nat) : Int)), yw, yp, some (.int (sgp (m + 1) (det (m + 1) F)))]) (by simp [ead]) (hdue _) (pl8 _ _ _ (by omega))
      rw [eg] at q4
      refine (congrArg (endK M) (seq_nx ((sIf_t tc).trans ((seq_nx u1).trans ((seq_nx q4).trans ((seq_nx u3).trans u4)))))).trans ?_
      simp
    · rw [decide_eq_false hle] at tc
      refine (congrArg (endK M) (seq_nx (sIf_nil tc))).trans ?_
      simp
theorem law_true (ns : List Int) (hn : ns.length ≤ 63) : ∃ M, m_law (startD N_law [.scr ns]) [] = .rt (.bl true) M := by
  obtain ⟨M0, e0, hp⟩ := pool_spec ns hn
  obtain ⟨τ', M', e, hp', x2, rfl⟩ := forL_range (g := mName 2) (lo := 0) (n := 2) (b := (sIf (mOr (mNot (asT (eCall 2 (c__law_so) (aCons (eVar 1) (aCons (eBin false oAdd (eC (.int 1)) (eCall 2 (Sh.c__law_take 2) (aCons (eVar 1) (aCons (eC (.int 8)) aNil)))) aNil))))) (mNot (asT (eCall 2 (c__law_adjoints_so) (aCons (eVar 1) (aCons (eBin false oAdd (eC (.int 1)) (eCall 2 (Sh.c__law_take 2) (aCons (eVar 1) (aCons (eC (.int 6)) aNil)))) aNil)))))) (sRet (eC (.bl false))) sNil))
    (R := fun k τ M => PoolAt 0 M ∧ ∃ x2, τ = [some (.scr ns), some (.loc 0), x2])
    (fun k τ M hk hR => by
      obtain ⟨hp, x2, rfl⟩ := hR
      obtain ⟨a, M1, e1, ha0, ha1, s1⟩ := take2 (n := 8) hp (by decide) (by decide)
      obtain ⟨q, hq⟩ : ∃ q : Nat, 1 + a = q := ⟨(1 + a).toNat, by omega⟩
      obtain ⟨M2, e2, s2⟩ := so_true (n := q) (hp.step s1) (by omega) (by omega)
      have hp2 := (hp.step s1).step s2
      obtain ⟨a', M3, e3, hb0, hb1, s3⟩ := take2 (n := 6) hp2 (by decide) (by decide)
      obtain ⟨q', hq'⟩ : ∃ q : Nat, 1 + a' = q := ⟨(1 + a').toNat, by omega⟩
      obtain ⟨M4, e4, s4⟩ := adjoints_true (n := q') (hp2.step s3) (by omega) (by omega)
      refine ⟨[some (.scr ns), some (.loc 0), some (.int (0 + (k : Int)))], M, [some (.scr ns), some (.loc 0), some (.int (0 + (k : Int)))], M4, rfl, .inl ?_, (hp2.step s3).step s4, _, rfl⟩
      refine sIf_nil ?_
      simp [e1, hq, e2, e3, hq', e4])
    (τ := [some (.scr ns), some (.loc 0), none]) (M := M0) ⟨hp, none, rfl⟩
  refine ⟨M', ?_⟩
  unfold m_law
  refine (seq_nx (τ' := [some (.scr ns), some (.loc 0), none]) (M' := M0) (by simp [startD, e0])).trans ((seq_nx (τ' := [some (.scr ns), some (.loc 0), x2]) (M' := M') ?_).trans (by simp))
  refine Eq.trans ?_ e
  simp
end K02

namespace K02
open PySem PySem.Spec PyProof.Rows L2 DM
abbrev PP : Program := PySem.Challenge.pw_generaproved_k02_whole_moves_and_adjoint
def topS (i : Nat) : Stmt := PySem.Challenge.pw_generaproved_k02_whole_moves_and_adjoint.main.body.getD i (.Pass ⟨0, 0, 0, 0⟩)
theorem noSup : (PP.main.scope.names.lookup ("super" : Str)).isSome = false := by decide +kernel
def tabNs : List Str := ["fault_of"]
theorem hrec : ∀ y ∈ tabNs, ∃ dd, (PyProof.Rows.recsOf PP).find? (fun e => e.name == y) = some dd := fun y hy => by
  simp only [tabNs, List.mem_cons, List.not_mem_nil, or_false] at hy
  subst hy; exact Option.isSome_iff_exists.mp (by decide +kernel)
abbrev cs_BadForm : Stmt := topS 19
abbrev s_is_whole : Stmt := topS 4
abbrev s_is_row : Stmt := topS 5
abbrev s_is_whole_row : Stmt := topS 6
abbrev s_is_square : Stmt := topS 7
abbrev s_dot : Stmt := topS 8
abbrev s_turned_over : Stmt := topS 9
abbrev s_times : Stmt := topS 10
abbrev s_moved_by : Stmt := topS 11
abbrev s_as_tuples : Stmt := topS 12
abbrev s_determinant_of : Stmt := topS 13
abbrev s_cofactors : Stmt := topS 14
abbrev s_beside : Stmt := topS 15
abbrev s_fault_of : Stmt := topS 22
abbrev s_told_form : Stmt := topS 23
abbrev s_told_table : Stmt := topS 24
abbrev s_moved : Stmt := topS 25
abbrev s_sum_of_forms : Stmt := topS 26
abbrev s_multiple : Stmt := topS 27
abbrev s_adjoint : Stmt := topS 28
abbrev s__law_pool : Stmt := topS 30
abbrev s__law_take : Stmt := topS 31
abbrev s__law_pick : Stmt := topS 32
abbrev s__law_is_integer : Stmt := topS 33
abbrev s__law_same : Stmt := topS 34
abbrev s__law_order : Stmt := topS 35
abbrev s__law_power : Stmt := topS 36
abbrev s__law_common : Stmt := topS 37
abbrev s__law_determinant : Stmt := topS 38
abbrev s__law_tuples : Stmt := topS 39
abbrev s__law_handed : Stmt := topS 40
abbrev s__law_dot : Stmt := topS 41
abbrev s__law_moved : Stmt := topS 42
abbrev s__law_unit : Stmt := topS 43
abbrev s__law_turn : Stmt := topS 44
abbrev s__law_skewed : Stmt := topS 45
abbrev s__law_beside : Stmt := topS 46
abbrev s__law_no_form : Stmt := topS 47
abbrev s__law_any_form : Stmt := topS 48
abbrev s__law_cofactors : Stmt := topS 49
abbrev s__law_told : Stmt := topS 50
abbrev s__law_adjoint : Stmt := topS 51
abbrev s__law_so : Stmt := topS 52
abbrev s__law_adjoints_so : Stmt := topS 53
abbrev s_law : Stmt := topS 54
theorem sc_is_whole : FnScope N_is_whole ["value"] (defScope s_is_whole) := ⟨rfl, rfl, rfl, by decide +kernel, rfl, by decide +kernel, by decide +kernel⟩
theorem sc_is_row : FnScope N_is_row ["value"] (defScope s_is_row) := ⟨rfl, rfl, rfl, by decide +kernel, rfl, by decide +kernel, by decide +kernel⟩
theorem sc_is_whole_row : FnScope N_is_whole_row ["value", "many"] (defScope s_is_whole_row) := ⟨rfl, rfl, rfl, by decide +kernel, rfl, by decide +kernel, by decide +kernel⟩
theorem sc_is_square : FnScope N_is_square ["value", "many"] (defScope s_is_square) := ⟨rfl, rfl, rfl, by decide +kernel, rfl, by decide +kernel, by decide +kernel⟩
theorem sc_dot : FnScope N_dot ["one", "other"] (defScope s_dot) := ⟨rfl, rfl, rfl, by decide +kernel, rfl, by decide +kernel, by decide +kernel⟩
theorem sc_turned_over : FnScope N_turned_over ["rows"] (defScope s_turned_over) := ⟨rfl, rfl, rfl, by decide +kernel, rfl, by decide +kernel, by decide +kernel⟩
theorem sc_times : FnScope N_times ["one", "other"] (defScope s_times) := ⟨rfl, rfl, rfl, by decide +kernel, rfl, by decide +kernel, by decide +kernel⟩
theorem sc_moved_by : FnScope N_moved_by ["table", "form"] (defScope s_moved_by) := ⟨rfl, rfl, rfl, by decide +kernel, rfl, by decide +kernel, by decide +kernel⟩
theorem sc_as_tuples : FnScope N_as_tuples ["rows"] (defScope s_as_tuples) := ⟨rfl, rfl, rfl, by decide +kernel, rfl, by decide +kernel, by decide +kernel⟩
theorem sc_determinant_of : FnScope N_determinant_of ["rows"] (defScope s_determinant_of) := ⟨rfl, rfl, rfl, by decide +kernel, rfl, by decide +kernel, by decide +kernel⟩
theorem sc_cofactors : FnScope N_cofactors ["rows"] (defScope s_cofactors) := ⟨rfl, rfl, rfl, by decide +kernel, rfl, by decide +kernel, by decide +kernel⟩
theorem sc_beside : FnScope N_beside ["blocks"] (defScope s_beside) := ⟨rfl, rfl, rfl, by decide +kernel, rfl, by decide +kernel, by decide +kernel⟩
theorem sc_fault_of : FnScope N_fault_of ["form", "most"] (defScope s_fault_of) := ⟨rfl, rfl, rfl, by decide +kernel, rfl, by decide +kernel, by decide +kernel⟩
theorem sc_told_form : FnScope N_told_form ["form"] (defScope s_told_form) := ⟨rfl, rfl, rfl, by decide +kernel, rfl, by decide +kernel, by decide +kernel⟩
theorem sc_told_table : FnScope N_told_table ["table", "many"] (defScope s_told_table) := ⟨rfl, rfl, rfl, by decide +kernel, rfl, by decide +kernel, by decide +kernel⟩
theorem sc_moved : FnScope N_moved ["form", "table"] (defScope s_moved) := ⟨rfl, rfl, rfl, by decide +kernel, rfl, by decide +kernel, by decide +kernel⟩
theorem sc_sum_of_forms : FnScope N_sum_of_forms ["one", "other"] (defScope s_sum_of_forms) := ⟨rfl, rfl, rfl, by decide +kernel, rfl, by decide +kernel, by decide +kernel⟩
theorem sc_multiple : FnScope N_multiple ["form", "m"] (defScope s_multiple) := ⟨rfl, rfl, rfl, by decide +kernel, rfl, by decide +kernel, by decide +kernel⟩
theorem sc_adjoint : FnScope N_adjoint ["form"] (defScope s_adjoint) := ⟨rfl, rfl, rfl, by decide +kernel, rfl, by decide +kernel, by decide +kernel⟩
theorem sc__law_pool : FnScope N__law_pool ["script"] (defScope s__law_pool) := ⟨rfl, rfl, rfl, by decide +kernel, rfl, by decide +kernel, by decide +kernel⟩
theorem sc__law_take : FnScope N__law_take ["pool", "many"] (defScope s__law_take) := ⟨rfl, rfl, rfl, by decide +kernel, rfl, by decide +kernel, by decide +kernel⟩
theorem sc__law_pick : FnScope N__law_pick ["pool", "rows"] (defScope s__law_pick) := ⟨rfl, rfl, rfl, by decide +kernel, rfl, by decide +kernel, by decide +kernel⟩
theorem sc__law_is_integer : FnScope N__law_is_integer ["actual"] (defScope s__law_is_integer) := ⟨rfl, rfl, rfl, by decide +kernel, rfl, by decide +kernel, by decide +kernel⟩
theorem sc__law_same : FnScope N__law_same ["actual", "due"] (defScope s__law_same) := ⟨rfl, rfl, rfl, by decide +kernel, rfl, by decide +kernel, by decide +kernel⟩
theorem sc__law_order : FnScope N__law_order ["pool", "many"] (defScope s__law_order) := ⟨rfl, rfl, rfl, by decide +kernel, rfl, by decide +kernel, by decide +kernel⟩
theorem sc__law_power : FnScope N__law_power ["base", "many"] (defScope s__law_power) := ⟨rfl, rfl, rfl, by decide +kernel, rfl, by decide +kernel, by decide +kernel⟩
theorem sc__law_common : FnScope N__law_common ["one", "other"] (defScope s__law_common) := ⟨rfl, rfl, rfl, by decide +kernel, rfl, by decide +kernel, by decide +kernel⟩
theorem sc__law_determinant : FnScope N__law_determinant ["rows"] (defScope s__law_determinant) := ⟨rfl, rfl, rfl, by decide +kernel, rfl, by decide +kernel, by decide +kernel⟩
theorem sc__law_tuples : FnScope N__law_tuples ["rows"] (defScope s__law_tuples) := ⟨rfl, rfl, rfl, by decide +kernel, rfl, by decide +kernel, by decide +kernel⟩
theorem sc__law_handed : FnScope N__law_handed ["pool", "rows"] (defScope s__law_handed) := ⟨rfl, rfl, rfl, by decide +kernel, rfl, by decide +kernel, by decide +kernel⟩
theorem sc__law_dot : FnScope N__law_dot ["one", "other"] (defScope s__law_dot) := ⟨rfl, rfl, rfl, by decide +kernel, rfl, by decide +kernel, by decide +kernel⟩
theorem sc__law_moved : FnScope N__law_moved ["table", "form"] (defScope s__law_moved) := ⟨rfl, rfl, rfl, by decide +kernel, rfl, by decide +kernel, by decide +kernel⟩
theorem sc__law_unit : FnScope N__law_unit ["n"] (defScope s__law_unit) := ⟨rfl, rfl, rfl, by decide +kernel, rfl, by decide +kernel, by decide +kernel⟩
theorem sc__law_turn : FnScope N__law_turn ["pool", "n", "steps"] (defScope s__law_turn) := ⟨rfl, rfl, rfl, by decide +kernel, rfl, by decide +kernel, by decide +kernel⟩
theorem sc__law_skewed : FnScope N__law_skewed ["pool", "form", "steps", "bound"] (defScope s__law_skewed) := ⟨rfl, rfl, rfl, by decide +kernel, rfl, by decide +kernel, by decide +kernel⟩
theorem sc__law_beside : FnScope N__law_beside ["one", "other"] (defScope s__law_beside) := ⟨rfl, rfl, rfl, by decide +kernel, rfl, by decide +kernel, by decide +kernel⟩
theorem sc__law_no_form : FnScope N__law_no_form ["pool", "form"] (defScope s__law_no_form) := ⟨rfl, rfl, rfl, by decide +kernel, rfl, by decide +kernel, by decide +kernel⟩
theorem sc__law_any_form : FnScope N__law_any_form ["pool", "n", "bound"] (defScope s__law_any_form) := ⟨rfl, rfl, rfl, by decide +kernel, rfl, by decide +kernel, by decide +kernel⟩
theorem sc__law_cofactors : FnScope N__law_cofactors ["rows"] (defScope s__law_cofactors) := ⟨rfl, rfl, rfl, by decide +kernel, rfl, by decide +kernel, by decide +kernel⟩
theorem sc__law_told : FnScope N__law_told ["call", "form", "other"] (defScope s__law_told) := ⟨rfl, rfl, rfl, by decide +kernel, rfl, by decide +kernel, by decide +kernel⟩
theorem sc__law_adjoint : FnScope N__law_adjoint ["form"] (defScope s__law_adjoint) := ⟨rfl, rfl, rfl, by decide +kernel, rfl, by decide +kernel, by decide +kernel⟩
theorem sc__law_so : FnScope N__law_so ["pool", "n"] (defScope s__law_so) := ⟨rfl, rfl, rfl, by decide +kernel, rfl, by decide +kernel, by decide +kernel⟩
theorem sc__law_adjoints_so : FnScope N__law_adjoints_so ["pool", "n"] (defScope s__law_adjoints_so) := ⟨rfl, rfl, rfl, by decide +kernel, rfl, by decide +kernel, by decide +kernel⟩
theorem sc_law : FnScope N_law ["script"] (defScope s_law) := ⟨rfl, rfl, rfl, by decide +kernel, rfl, by decide +kernel, by decide +kernel⟩
/-! ### the text behind the top -/
structure Txt (base : Heap) (G : Gd) (mg : Str → Option Value) where
  f_is_whole : Addr
  d_is_whole : FuncData
  F_is_whole : Fun G.K "is_whole" "is_whole" s_is_whole f_is_whole d_is_whole
  g_is_whole : mg "is_whole" = some (.ref f_is_whole)
  f_is_row : Addr
  d_is_row : FuncData
  F_is_row : Fun G.K "is_row" "is_row" s_is_row f_is_row d_is_row
  g_is_row : mg "is_row" = some (.ref f_is_row)
  f_is_whole_row : Addr
  d_is_whole_row : FuncData
  F_is_whole_row : Fun G.K "is_whole_row" "is_whole_row" s_is_whole_row f_is_whole_row d_is_whole_row
  g_is_whole_row : mg "is_whole_row" = some (.ref f_is_whole_row)
  f_is_square : Addr
  d_is_square : FuncData
  F_is_square : Fun G.K "is_square" "is_square" s_is_square f_is_square d_is_square
  g_is_square : mg "is_square" = some (.ref f_is_square)
  f_dot : Addr
  d_dot : FuncData
  F_dot : Fun G.K "dot" "dot" s_dot f_dot d_dot
  g_dot : mg "dot" = some (.ref f_dot)
  f_turned_over : Addr
  d_turned_over : FuncData
  F_turned_over : Fun G.K "turned_over" "turned_over" s_turned_over f_turned_over d_turned_over
  g_turned_over : mg "turned_over" = some (.ref f_turned_over)
  f_times : Addr
  d_times : FuncData
  F_times : Fun G.K "times" "times" s_times f_times d_times
  g_times : mg "times" = some (.ref f_times)
  f_moved_by : Addr
  d_moved_by : FuncData
  F_moved_by : Fun G.K "moved_by" "moved_by" s_moved_by f_moved_by d_moved_by
  g_moved_by : mg "moved_by" = some (.ref f_moved_by)
  f_as_tuples : Addr
  d_as_tuples : FuncData
  F_as_tuples : Fun G.K "as_tuples" "as_tuples" s_as_tuples f_as_tuples d_as_tuples
  g_as_tuples : mg "as_tuples" = some (.ref f_as_tuples)
  f_determinant_of : Addr
  d_determinant_of : FuncData
  F_determinant_of : Fun G.K "determinant_of" "determinant_of" s_determinant_of f_determinant_of d_determinant_of
  g_determinant_of : mg "determinant_of" = some (.ref f_determinant_of)
  f_cofactors : Addr
  d_cofactors : FuncData
  F_cofactors : Fun G.K "cofactors" "cofactors" s_cofactors f_cofactors d_cofactors
  g_cofactors : mg "cofactors" = some (.ref f_cofactors)
  f_beside : Addr
  d_beside : FuncData
  F_beside : Fun G.K "beside" "beside" s_beside f_beside d_beside
  g_beside : mg "beside" = some (.ref f_beside)
  f_fault_of : Addr
  d_fault_of : FuncData
  F_fault_of : Fun G.K "fault_of" "fault_of" s_fault_of f_fault_of d_fault_of
  g_fault_of : mg "fault_of" = some (.ref f_fault_of)
  f_told_form : Addr
  d_told_form : FuncData
  F_told_form : Fun G.K "told_form" "told_form" s_told_form f_told_form d_told_form
  g_told_form : mg "told_form" = some (.ref f_told_form)
  f_told_table : Addr
  d_told_table : FuncData
  F_told_table : Fun G.K "told_table" "told_table" s_told_table f_told_table d_told_table
  g_told_table : mg "told_table" = some (.ref f_told_table)
  f_moved : Addr
  d_moved : FuncData
  F_moved : Fun G.K "moved" "moved" s_moved f_moved d_moved
  g_moved : mg "moved" = some (.ref f_moved)
  f_sum_of_forms : Addr
  d_sum_of_forms : FuncData
  F_sum_of_forms : Fun G.K "sum_of_forms" "sum_of_forms" s_sum_of_forms f_sum_of_forms d_sum_of_forms
  g_sum_of_forms : mg "sum_of_forms" = some (.ref f_sum_of_forms)
  f_multiple : Addr
  d_multiple : FuncData
  F_multiple : Fun G.K "multiple" "multiple" s_multiple f_multiple d_multiple
  g_multiple : mg "multiple" = some (.ref f_multiple)
  f_adjoint : Addr
  d_adjoint : FuncData
  F_adjoint : Fun G.K "adjoint" "adjoint" s_adjoint f_adjoint d_adjoint
  g_adjoint : mg "adjoint" = some (.ref f_adjoint)
  f__law_pool : Addr
  d__law_pool : FuncData
  F__law_pool : Fun G.K "_law_pool" "_law_pool" s__law_pool f__law_pool d__law_pool
  g__law_pool : mg "_law_pool" = some (.ref f__law_pool)
  f__law_take : Addr
  d__law_take : FuncData
  F__law_take : Fun G.K "_law_take" "_law_take" s__law_take f__law_take d__law_take
  g__law_take : mg "_law_take" = some (.ref f__law_take)
  f__law_pick : Addr
  d__law_pick : FuncData
  F__law_pick : Fun G.K "_law_pick" "_law_pick" s__law_pick f__law_pick d__law_pick
  g__law_pick : mg "_law_pick" = some (.ref f__law_pick)
  f__law_is_integer : Addr
  d__law_is_integer : FuncData
  F__law_is_integer : Fun G.K "_law_is_integer" "_law_is_integer" s__law_is_integer f__law_is_integer d__law_is_integer
  g__law_is_integer : mg "_law_is_integer" = some (.ref f__law_is_integer)
  f__law_same : Addr
  d__law_same : FuncData
  F__law_same : Fun G.K "_law_same" "_law_same" s__law_same f__law_same d__law_same
  g__law_same : mg "_law_same" = some (.ref f__law_same)
  f__law_order : Addr
  d__law_order : FuncData
  F__law_order : Fun G.K "_law_order" "_law_order" s__law_order f__law_order d__law_order
  g__law_order : mg "_law_order" = some (.ref f__law_order)
  f__law_power : Addr
  d__law_power : FuncData
  F__law_power : Fun G.K "_law_power" "_law_power" s__law_power f__law_power d__law_power
  g__law_power : mg "_law_power" = some (.ref f__law_power)
  f__law_common : Addr
  d__law_common : FuncData
  F__law_common : Fun G.K "_law_common" "_law_common" s__law_common f__law_common d__law_common
  g__law_common : mg "_law_common" = some (.ref f__law_common)
  f__law_determinant : Addr
  d__law_determinant : FuncData
  F__law_determinant : Fun G.K "_law_determinant" "_law_determinant" s__law_determinant f__law_determinant d__law_determinant
  g__law_determinant : mg "_law_determinant" = some (.ref f__law_determinant)
  f__law_tuples : Addr
  d__law_tuples : FuncData
  F__law_tuples : Fun G.K "_law_tuples" "_law_tuples" s__law_tuples f__law_tuples d__law_tuples
  g__law_tuples : mg "_law_tuples" = some (.ref f__law_tuples)
  f__law_handed : Addr
  d__law_handed : FuncData
  F__law_handed : Fun G.K "_law_handed" "_law_handed" s__law_handed f__law_handed d__law_handed
  g__law_handed : mg "_law_handed" = some (.ref f__law_handed)
  f__law_dot : Addr
  d__law_dot : FuncData
  F__law_dot : Fun G.K "_law_dot" "_law_dot" s__law_dot f__law_dot d__law_dot
  g__law_dot : mg "_law_dot" = some (.ref f__law_dot)
  f__law_moved : Addr
  d__law_moved : FuncData
  F__law_moved : Fun G.K "_law_moved" "_law_moved" s__law_moved f__law_moved d__law_moved
  g__law_moved : mg "_law_moved" = some (.ref f__law_moved)
  f__law_unit : Addr
  d__law_unit : FuncData
  F__law_unit : Fun G.K "_law_unit" "_law_unit" s__law_unit f__law_unit d__law_unit
  g__law_unit : mg "_law_unit" = some (.ref f__law_unit)
  f__law_turn : Addr
  d__law_turn : FuncData
  F__law_turn : Fun G.K "_law_turn" "_law_turn" s__law_turn f__law_turn d__law_turn
  g__law_turn : mg "_law_turn" = some (.ref f__law_turn)
  f__law_skewed : Addr
  d__law_skewed : FuncData
  F__law_skewed : Fun G.K "_law_skewed" "_law_skewed" s__law_skewed f__law_skewed d__law_skewed
  g__law_skewed : mg "_law_skewed" = some (.ref f__law_skewed)
  f__law_beside : Addr
  d__law_beside : FuncData
  F__law_beside : Fun G.K "_law_beside" "_law_beside" s__law_beside f__law_beside d__law_beside
  g__law_beside : mg "_law_beside" = some (.ref f__law_beside)
  f__law_no_form : Addr
  d__law_no_form : FuncData
  F__law_no_form : Fun G.K "_law_no_form" "_law_no_form" s__law_no_form f__law_no_form d__law_no_form
  g__law_no_form : mg "_law_no_form" = some (.ref f__law_no_form)
  f__law_any_form : Addr
  d__law_any_form : FuncData
  F__law_any_form : Fun G.K "_law_any_form" "_law_any_form" s__law_any_form f__law_any_form d__law_any_form
  g__law_any_form : mg "_law_any_form" = some (.ref f__law_any_form)
  f__law_cofactors : Addr
  d__law_cofactors : FuncData
  F__law_cofactors : Fun G.K "_law_cofactors" "_law_cofactors" s__law_cofactors f__law_cofactors d__law_cofactors
  g__law_cofactors : mg "_law_cofactors" = some (.ref f__law_cofactors)
  f__law_told : Addr
  d__law_told : FuncData
  F__law_told : Fun G.K "_law_told" "_law_told" s__law_told f__law_told d__law_told
  g__law_told : mg "_law_told" = some (.ref f__law_told)
  f__law_adjoint : Addr
  d__law_adjoint : FuncData
  F__law_adjoint : Fun G.K "_law_adjoint" "_law_adjoint" s__law_adjoint f__law_adjoint d__law_adjoint
  g__law_adjoint : mg "_law_adjoint" = some (.ref f__law_adjoint)
  f__law_so : Addr
  d__law_so : FuncData
  F__law_so : Fun G.K "_law_so" "_law_so" s__law_so f__law_so d__law_so
  g__law_so : mg "_law_so" = some (.ref f__law_so)
  f__law_adjoints_so : Addr
  d__law_adjoints_so : FuncData
  F__law_adjoints_so : Fun G.K "_law_adjoints_so" "_law_adjoints_so" s__law_adjoints_so f__law_adjoints_so d__law_adjoints_so
  g__law_adjoints_so : mg "_law_adjoints_so" = some (.ref f__law_adjoints_so)
  f_law : Addr
  d_law : FuncData
  F_law : Fun G.K "law" "law" s_law f_law d_law
  g_law : mg "law" = some (.ref f_law)
  n_abs : mg "abs" = none
  n_all : mg "all" = none
  n_any : mg "any" = none
  n_bool : mg "bool" = none
  n_enumerate : mg "enumerate" = none
  n_int : mg "int" = none
  n_isinstance : mg "isinstance" = none
  n_len : mg "len" = none
  n_list : mg "list" = none
  n_max : mg "max" = none
  n_range : mg "range" = none
  n_str : mg "str" = none
  n_sum : mg "sum" = none
  n_tuple : mg "tuple" = none
  n_zip : mg "zip" = none
  t_MOST_NUMBER : Tok
  v_MOST_NUMBER : mg "MOST_NUMBER" = some (.int (1000000000000000000000000000000) t_MOST_NUMBER)
  t_MOST_VARIABLES : Tok
  v_MOST_VARIABLES : mg "MOST_VARIABLES" = some (.int (8) t_MOST_VARIABLES)
  i_gcd : mg "gcd" = some (.builtin "math.gcd")
  C_BadForm : Addr
  g_BadForm : mg "BadForm" = some (.ref C_BadForm)
  a_BadForm : G.ca "BadForm" = C_BadForm
  e_BadForm : ∀ cn b, is_BadForm cn = some b → PySem.W.exmOne G.K (.ref (G.ca cn)) (.ref C_BadForm) = some b
  s_BadForm : ∀ cn b, is_BadForm cn = some b → PySem.W.kitOne G.K (.ref (G.ca cn)) (.ref C_BadForm) = some b
  C_BadTable : Addr
  g_BadTable : mg "BadTable" = some (.ref C_BadTable)
  a_BadTable : G.ca "BadTable" = C_BadTable
  q_BadTable : PySem.W.excIn G.K C_BadTable [.type "ValueError", .type "Exception", .type "BaseException", .type "object"] "ValueError.__new__" = true
  k_BadTable : PySem.W.keepIn G.K (.ref C_BadTable) = true
  b_BadTable : PySem.W.subIn G.K (.ref C_BadTable) (.type "BaseException") = some true
  t_BadTable : PySem.W.typeIn G.K (.ref C_BadTable) = some (.type "type")
  e_BadTable : ∀ cn b, is_BadTable cn = some b → PySem.W.exmOne G.K (.ref (G.ca cn)) (.ref C_BadTable) = some b
  s_BadTable : ∀ cn b, is_BadTable cn = some b → PySem.W.kitOne G.K (.ref (G.ca cn)) (.ref C_BadTable) = some b
  C_FormError : Addr
  g_FormError : mg "FormError" = some (.ref C_FormError)
  a_FormError : G.ca "FormError" = C_FormError
  e_FormError : ∀ cn b, is_FormError cn = some b → PySem.W.exmOne G.K (.ref (G.ca cn)) (.ref C_FormError) = some b
  s_FormError : ∀ cn b, is_FormError cn = some b → PySem.W.kitOne G.K (.ref (G.ca cn)) (.ref C_FormError) = some b
  C_TooGreat : Addr
  g_TooGreat : mg "TooGreat" = some (.ref C_TooGreat)
  a_TooGreat : G.ca "TooGreat" = C_TooGreat
  q_TooGreat : PySem.W.excIn G.K C_TooGreat [.type "ValueError", .type "Exception", .type "BaseException", .type "object"] "ValueError.__new__" = true
  k_TooGreat : PySem.W.keepIn G.K (.ref C_TooGreat) = true
  b_TooGreat : PySem.W.subIn G.K (.ref C_TooGreat) (.type "BaseException") = some true
  t_TooGreat : PySem.W.typeIn G.K (.ref C_TooGreat) = some (.type "type")
  e_TooGreat : ∀ cn b, is_TooGreat cn = some b → PySem.W.exmOne G.K (.ref (G.ca cn)) (.ref C_TooGreat) = some b
  s_TooGreat : ∀ cn b, is_TooGreat cn = some b → PySem.W.kitOne G.K (.ref (G.ca cn)) (.ref C_TooGreat) = some b
  xc : ∀ cn, cn ∈ exNames → ExcC G.K (G.ca cn)
  fI_BadForm : Addr
  fl_BadForm : Str
  fd_BadForm : FuncData
  su_BadForm : SupC G.K C_BadForm fI_BadForm fl_BadForm "reason" "reason" (initOf cs_BadForm) fd_BadForm
  sl_BadForm : ((PP.main.file : Str) == fl_BadForm) = true
  cT_fault_of : Addr
  pT_fault_of : Addr
  tb_fault_of : GxR.TabB base mg cT_fault_of pT_fault_of
  tm_fault_of : pT_fault_of ∈ G.tabs
  tc_fault_of : d_fault_of.code = .ref cT_fault_of
  nf_reason : ∀ cn, cn ∈ exNames → PySem.W.findIn G.K (.ref (G.ca cn)) "reason" = some none
section
theorem ss_BadForm : SupSE (initOf cs_BadForm) "reason" "reason" := ⟨_, _, _, _, _, _, _, _, _, _, rfl, rfl, by decide, by decide, rfl, rfl, rfl, rfl, by decide +kernel, rfl, rfl, rfl, fun _ _ _ _ _ => ⟨rfl, rfl, rfl⟩, ⟨_, fun _ _ _ _ _ => rfl⟩, fun _ _ _ _ _ => rfl⟩
theorem bi_BadForm (q : Str) (kV doc pm : Value) (an : Option Addr) (cdv ct : Value) (cc : Addr) (us : List Value) (hl : us.length = 2) : bindArgs (PySem.W.ksFn "__init__" q (defArgs (initOf cs_BadForm)) (defBody (initOf cs_BadForm)) (defScope (initOf cs_BadForm)) .none kV doc pm an cdv ct cc) ⟨us, []⟩ = pure ([("self" : Str), "reason"].zip us) := match us, hl with | [_, _], _ => rfl
variable {w : World} {G : Gd} {mg : Str → Option Value} {base : Heap} (T : Txt base G mg)
theorem b_is_whole : Binds G.K T.d_is_whole ["value"] [] := T.F_is_whole.binds fun _ _ _ _ _ _ us hl => match us, hl with | [_], _ => rfl
theorem b_is_row : Binds G.K T.d_is_row ["value"] [] := T.F_is_row.binds fun _ _ _ _ _ _ us hl => match us, hl with | [_], _ => rfl
theorem b_is_whole_row : Binds G.K T.d_is_whole_row ["value", "many"] [] := T.F_is_whole_row.binds fun _ _ _ _ _ _ us hl => match us, hl with | [_, _], _ => rfl
theorem b_is_square : Binds G.K T.d_is_square ["value", "many"] [] := T.F_is_square.binds fun _ _ _ _ _ _ us hl => match us, hl with | [_, _], _ => rfl
theorem b_dot : Binds G.K T.d_dot ["one", "other"] [] := T.F_dot.binds fun _ _ _ _ _ _ us hl => match us, hl with | [_, _], _ => rfl
theorem b_turned_over : Binds G.K T.d_turned_over ["rows"] [] := T.F_turned_over.binds fun _ _ _ _ _ _ us hl => match us, hl with | [_], _ => rfl
theorem b_times : Binds G.K T.d_times ["one", "other"] [] := T.F_times.binds fun _ _ _ _ _ _ us hl => match us, hl with | [_, _], _ => rfl
theorem b_moved_by : Binds G.K T.d_moved_by ["table", "form"] [] := T.F_moved_by.binds fun _ _ _ _ _ _ us hl => match us, hl with | [_, _], _ => rfl
theorem b_as_tuples : Binds G.K T.d_as_tuples ["rows"] [] := T.F_as_tuples.binds fun _ _ _ _ _ _ us hl => match us, hl with | [_], _ => rfl
theorem b_determinant_of : Binds G.K T.d_determinant_of ["rows"] [] := T.F_determinant_of.binds fun _ _ _ _ _ _ us hl => match us, hl with | [_], _ => rfl
theorem b_cofactors : Binds G.K T.d_cofactors ["rows"] [] := T.F_cofactors.binds fun _ _ _ _ _ _ us hl => match us, hl with | [_], _ => rfl
theorem b_beside : Binds G.K T.d_beside ["blocks"] [] := T.F_beside.binds fun _ _ _ _ _ _ us hl => match us, hl with | [_], _ => rfl
theorem b_fault_of : Binds G.K T.d_fault_of ["form", "most"] [] := T.F_fault_of.binds fun _ _ _ _ _ _ us hl => match us, hl with | [_, _], _ => rfl
theorem b_told_form : Binds G.K T.d_told_form ["form"] [] := T.F_told_form.binds fun _ _ _ _ _ _ us hl => match us, hl with | [_], _ => rfl
theorem b_told_table : Binds G.K T.d_told_table ["table", "many"] [] := T.F_told_table.binds fun _ _ _ _ _ _ us hl => match us, hl with | [_, _], _ => rfl
theorem b_moved : Binds G.K T.d_moved ["form", "table"] [] := T.F_moved.binds fun _ _ _ _ _ _ us hl => match us, hl with | [_, _], _ => rfl
theorem b_sum_of_forms : Binds G.K T.d_sum_of_forms ["one", "other"] [] := T.F_sum_of_forms.binds fun _ _ _ _ _ _ us hl => match us, hl with | [_, _], _ => rfl
theorem b_multiple : Binds G.K T.d_multiple ["form", "m"] [] := T.F_multiple.binds fun _ _ _ _ _ _ us hl => match us, hl with | [_, _], _ => rfl
theorem b_adjoint : Binds G.K T.d_adjoint ["form"] [] := T.F_adjoint.binds fun _ _ _ _ _ _ us hl => match us, hl with | [_], _ => rfl
theorem b__law_pool : Binds G.K T.d__law_pool ["script"] [] := T.F__law_pool.binds fun _ _ _ _ _ _ us hl => match us, hl with | [_], _ => rfl
theorem b__law_take : Binds G.K T.d__law_take ["pool", "many"] [] := T.F__law_take.binds fun _ _ _ _ _ _ us hl => match us, hl with | [_, _], _ => rfl
theorem b__law_pick : Binds G.K T.d__law_pick ["pool", "rows"] [] := T.F__law_pick.binds fun _ _ _ _ _ _ us hl => match us, hl with | [_, _], _ => rfl
theorem b__law_is_integer : Binds G.K T.d__law_is_integer ["actual"] [] := T.F__law_is_integer.binds fun _ _ _ _ _ _ us hl => match us, hl with | [_], _ => rfl
theorem b__law_same : Binds G.K T.d__law_same ["actual", "due"] [] := T.F__law_same.binds fun _ _ _ _ _ _ us hl => match us, hl with | [_, _], _ => rfl
theorem b__law_order : Binds G.K T.d__law_order ["pool", "many"] [] := T.F__law_order.binds fun _ _ _ _ _ _ us hl => match us, hl with | [_, _], _ => rfl
theorem b__law_power : Binds G.K T.d__law_power ["base", "many"] [] := T.F__law_power.binds fun _ _ _ _ _ _ us hl => match us, hl with | [_, _], _ => rfl
theorem b__law_common : Binds G.K T.d__law_common ["one", "other"] [] := T.F__law_common.binds fun _ _ _ _ _ _ us hl => match us, hl with | [_, _], _ => rfl
theorem b__law_determinant : Binds G.K T.d__law_determinant ["rows"] [] := T.F__law_determinant.binds fun _ _ _ _ _ _ us hl => match us, hl with | [_], _ => rfl
theorem b__law_tuples : Binds G.K T.d__law_tuples ["rows"] [] := T.F__law_tuples.binds fun _ _ _ _ _ _ us hl => match us, hl with | [_], _ => rfl
theorem b__law_handed : Binds G.K T.d__law_handed ["pool", "rows"] [] := T.F__law_handed.binds fun _ _ _ _ _ _ us hl => match us, hl with | [_, _], _ => rfl
theorem b__law_dot : Binds G.K T.d__law_dot ["one", "other"] [] := T.F__law_dot.binds fun _ _ _ _ _ _ us hl => match us, hl with | [_, _], _ => rfl
theorem b__law_moved : Binds G.K T.d__law_moved ["table", "form"] [] := T.F__law_moved.binds fun _ _ _ _ _ _ us hl => match us, hl with | [_, _], _ => rfl
theorem b__law_unit : Binds G.K T.d__law_unit ["n"] [] := T.F__law_unit.binds fun _ _ _ _ _ _ us hl => match us, hl with | [_], _ => rfl
theorem b__law_turn : Binds G.K T.d__law_turn ["pool", "n", "steps"] [] := T.F__law_turn.binds fun _ _ _ _ _ _ us hl => match us, hl with | [_, _, _], _ => rfl
theorem b__law_skewed : Binds G.K T.d__law_skewed ["pool", "form", "steps", "bound"] [] := T.F__law_skewed.binds fun _ _ _ _ _ _ us hl => match us, hl with | [_, _, _, _], _ => rfl
theorem b__law_beside : Binds G.K T.d__law_beside ["one", "other"] [] := T.F__law_beside.binds fun _ _ _ _ _ _ us hl => match us, hl with | [_, _], _ => rfl
theorem b__law_no_form : Binds G.K T.d__law_no_form ["pool", "form"] [] := T.F__law_no_form.binds fun _ _ _ _ _ _ us hl => match us, hl with | [_, _], _ => rfl
theorem b__law_any_form : Binds G.K T.d__law_any_form ["pool", "n", "bound"] [] := T.F__law_any_form.binds fun _ _ _ _ _ _ us hl => match us, hl with | [_, _, _], _ => rfl
theorem b__law_cofactors : Binds G.K T.d__law_cofactors ["rows"] [] := T.F__law_cofactors.binds fun _ _ _ _ _ _ us hl => match us, hl with | [_], _ => rfl
theorem b__law_told : Binds G.K T.d__law_told ["call", "form", "other"] [] := T.F__law_told.binds fun _ _ _ _ _ _ us hl => match us, hl with | [_, _, _], _ => rfl
theorem b__law_adjoint : Binds G.K T.d__law_adjoint ["form"] [] := T.F__law_adjoint.binds fun _ _ _ _ _ _ us hl => match us, hl with | [_], _ => rfl
theorem b__law_so : Binds G.K T.d__law_so ["pool", "n"] [] := T.F__law_so.binds fun _ _ _ _ _ _ us hl => match us, hl with | [_, _], _ => rfl
theorem b__law_adjoints_so : Binds G.K T.d__law_adjoints_so ["pool", "n"] [] := T.F__law_adjoints_so.binds fun _ _ _ _ _ _ us hl => match us, hl with | [_, _], _ => rfl
theorem b_law : Binds G.K T.d_law ["script"] [] := T.F_law.binds fun _ _ _ _ _ _ us hl => match us, hl with | [_], _ => rfl
theorem ok_is_whole : FnOk PP w G.K mg base (L2.CX PP w) 1 T.f_is_whole T.d_is_whole ["value"] (spD G 1 Sh.c_is_whole) := fn_K (m := Sh.m_is_whole) T.F_is_whole sc_is_whole fun cdv A outer s H E hr => (dss_one (ds_ret (de_and (de_callB false real_isi (call_isi.or call_isiT) T.n_isinstance (by rfl) (da_cons (de_var 0) (da_cons (de_ty T.n_int (by rfl)) da_nil))) (de_one (de_not (de_callB false real_isi (call_isi.or call_isiT) T.n_isinstance (by rfl) (da_cons (de_var 0) (da_cons (de_ty T.n_bool (by rfl)) da_nil))))))))
theorem ok_is_row : FnOk PP w G.K mg base (L2.CX PP w) 1 T.f_is_row T.d_is_row ["value"] (spD G 1 Sh2.c_is_row) := fn_K (m := Sh2.m_is_row) T.F_is_row sc_is_row fun cdv A outer s H E hr => (dss_one (ds_ret (de_callB false real_isi (call_isi.or call_isiT) T.n_isinstance (by rfl) (da_cons (de_var 0) (da_cons (de_tup (da_cons (de_ty T.n_tuple (by rfl)) (da_cons (de_ty T.n_list (by rfl)) da_nil))) da_nil)))))
theorem ok_is_whole_row : FnOk PP w G.K mg base (L2.CX PP w) 2 T.f_is_whole_row T.d_is_whole_row ["value", "many"] (spD G 2 Sh2.c_is_whole_row) := fn_K (m := Sh2.m_is_whole_row) T.F_is_whole_row sc_is_whole_row fun cdv A outer s H E hr => (dss_one (ds_ret (de_and (de_call (ok_is_row T) (hr.mono (by decide)) T.g_is_row T.F_is_row.kp (b_is_row T) (da_cons (de_var 0) da_nil)) (de_and (de_c c_eq (de_callB false real_len call_len T.n_len (by rfl) (da_cons (de_var 0) da_nil)) (de_var 1)) (de_one (de_callB false real_all (cr_all rfl) T.n_all (by rfl) (da_cons (de_lc false (ow := [("part", 2)]) sc_is_whole_row.nd (di_seq (de_var 0)) (blkOk_by (N := N_is_whole_row) (sc := defScope s_is_whole_row) (by decide +kernel)) (gw_name 2) (hm_name 2) (fun _ _ _ _ _ => pg_name (i := 2) sc_is_whole_row.nd rfl (by first | exact Or.inl rfl | exact Or.inr rfl)) (fun _ _ _ _ _ => dts_nil) (fun _ _ _ _ _ => (de_call (ok_is_whole T) (hr.mono (by decide)) T.g_is_whole T.F_is_whole.kp (b_is_whole T) (da_cons (de_var 2) da_nil)))) da_nil)))))))
theorem ok_is_square : FnOk PP w G.K mg base (L2.CX PP w) 3 T.f_is_square T.d_is_square ["value", "many"] (spD G 2 Sh2.c_is_square) := fn_K (m := Sh2.m_is_square) T.F_is_square sc_is_square fun cdv A outer s H E hr => (dss_one (ds_ret (de_and (de_call (ok_is_row T) (hr.mono (by decide)) T.g_is_row T.F_is_row.kp (b_is_row T) (da_cons (de_var 0) da_nil)) (de_and (de_c c_eq (de_callB false real_len call_len T.n_len (by rfl) (da_cons (de_var 0) da_nil)) (de_var 1)) (de_one (de_callB false real_all (cr_all rfl) T.n_all (by rfl) (da_cons (de_lc false (ow := [("row", 2)]) sc_is_square.nd (di_seq (de_var 0)) (blkOk_by (N := N_is_square) (sc := defScope s_is_square) (by decide +kernel)) (gw_name 2) (hm_name 2) (fun _ _ _ _ _ => pg_name (i := 2) sc_is_square.nd rfl (by first | exact Or.inl rfl | exact Or.inr rfl)) (fun _ _ _ _ _ => dts_nil) (fun _ _ _ _ _ => (de_call (ok_is_whole_row T) (hr.mono (by decide)) T.g_is_whole_row T.F_is_whole_row.kp (b_is_whole_row T) (da_cons (de_var 2) (da_cons (de_var 1) da_nil))))) da_nil)))))))
theorem ok_dot : FnOk PP w G.K mg base (L2.CX PP w) 1 T.f_dot T.d_dot ["one", "other"] (spD G 2 Sh2.c_dot) := fn_K (m := Sh2.m_dot) T.F_dot sc_dot fun cdv A outer s H E hr => (dss_one (ds_ret (de_callB false real_sum (cr_sum rfl) T.n_sum (by rfl) (da_cons (de_lc false (ow := [("part", 2), ("more", 3)]) sc_dot.nd (di_zipX T.n_zip (da_cons (de_var 0) (da_cons (de_var 1) da_nil))) (blkOk_by (N := N_dot) (sc := defScope s_dot) (by decide +kernel)) (gw_tup rfl (gws_cons (gw_name 2) (gws_cons (gw_name 3) gws_nil (hm_name 3)) (hm_name 2))) (hm_tup2 2 3) (fun _ _ _ _ _ => pg_tup rfl (pgs_cons (pg_name (i := 2) sc_dot.nd rfl (by first | exact Or.inl rfl | exact Or.inr rfl)) (pgs_cons (pg_name (i := 3) sc_dot.nd rfl (by first | exact Or.inl rfl | exact Or.inr rfl)) pgs_nil))) (fun _ _ _ _ _ => dts_nil) (fun _ _ _ _ _ => (de_mul false (de_var 2) (de_var 3)))) da_nil))))
theorem ok_turned_over : FnOk PP w G.K mg base (L2.CX PP w) 1 T.f_turned_over T.d_turned_over ["rows"] (spD G 1 Sh2.c_turned_over) := fn_K (m := Sh2.m_turned_over) T.F_turned_over sc_turned_over fun cdv A outer s H E hr => (dss_one (ds_ret (de_if (dt_tru (de_var 0)) (de_lc false (ow := [("at", 1)]) sc_turned_over.nd (di_range1 T.n_range (da_cons (de_callB false real_len call_len T.n_len (by rfl) (da_cons (de_ix (de_var 0) de_int) da_nil)) da_nil)) (blkOk_by (N := N_turned_over) (sc := defScope s_turned_over) (by decide +kernel)) (gw_name 1) (hm_name 1) (fun _ _ _ _ _ => pg_name (i := 1) sc_turned_over.nd rfl (by first | exact Or.inl rfl | exact Or.inr rfl)) (fun _ _ _ _ _ => dts_nil) (fun _ _ _ _ _ => (de_lc false (ow := [("row", 2)]) sc_turned_over.nd (di_seq (de_var 0)) (blkOk_by (by kernel_rfl)) (gw_name 2) (hm_name 2) (fun _ _ _ _ _ => pg_name (i := 2) sc_turned_over.nd rfl (by first | exact Or.inl rfl | exact Or.inr rfl)) (fun _ _ _ _ _ => dts_nil) (fun _ _ _ _ _ => (de_ix (de_var 2) (de_var 1)))))) (de_lst false da_nil))))
theorem ok_times : FnOk PP w G.K mg base (L2.CX PP w) 2 T.f_times T.d_times ["one", "other"] (spD G 2 Sh2.c_times) := fn_K (m := Sh2.m_times) T.F_times sc_times fun cdv A outer s H E hr => (dss_cons (ds_set (i := 2) sc_times.nd (de_call (ok_turned_over T) (hr.mono (by decide)) T.g_turned_over T.F_turned_over.kp (b_turned_over T) (da_cons (de_var 1) da_nil))) (dss_one (ds_ret (de_lc false (ow := [("row", 3)]) sc_times.nd (di_seq (de_var 0)) (blkOk_by (N := N_times) (sc := defScope s_times) (by decide +kernel)) (gw_name 3) (hm_name 3) (fun _ _ _ _ _ => pg_name (i := 3) sc_times.nd rfl (by first | exact Or.inl rfl | exact Or.inr rfl)) (fun _ _ _ _ _ => dts_nil) (fun _ _ _ _ _ => (de_lc false (ow := [("place", 4)]) sc_times.nd (di_seq (de_var 2)) (blkOk_by (by kernel_rfl)) (gw_name 4) (hm_name 4) (fun _ _ _ _ _ => pg_name (i := 4) sc_times.nd rfl (by first | exact Or.inl rfl | exact Or.inr rfl)) (fun _ _ _ _ _ => dts_nil) (fun _ _ _ _ _ => (de_call (ok_dot T) (hr.mono (by decide)) T.g_dot T.F_dot.kp (b_dot T) (da_cons (de_var 3) (da_cons (de_var 4) da_nil))))))))))
theorem ok_moved_by : FnOk PP w G.K mg base (L2.CX PP w) 3 T.f_moved_by T.d_moved_by ["table", "form"] (spD G 2 Sh2.c_moved_by) := fn_K (m := Sh2.m_moved_by) T.F_moved_by sc_moved_by fun cdv A outer s H E hr => (dss_one (ds_ret (de_call (ok_times T) (hr.mono (by decide)) T.g_times T.F_times.kp (b_times T) (da_cons (de_call (ok_times T) (hr.mono (by decide)) T.g_times T.F_times.kp (b_times T) (da_cons (de_var 0) (da_cons (de_var 1) da_nil))) (da_cons (de_call (ok_turned_over T) (hr.mono (by decide)) T.g_turned_over T.F_turned_over.kp (b_turned_over T) (da_cons (de_var 0) da_nil)) da_nil)))))
theorem ok_as_tuples : FnOk PP w G.K mg base (L2.CX PP w) 1 T.f_as_tuples T.d_as_tuples ["rows"] (spD G 1 Sh2.c_as_tuples) := fn_K (m := Sh2.m_as_tuples) T.F_as_tuples sc_as_tuples fun cdv A outer s H E hr => (dss_one (ds_ret (de_callTy false real_tuple call_tuple_of T.n_tuple (by rfl) (da_cons (de_lc false (ow := [("row", 1)]) sc_as_tuples.nd (di_seq (de_var 0)) (blkOk_by (N := N_as_tuples) (sc := defScope s_as_tuples) (by decide +kernel)) (gw_name 1) (hm_name 1) (fun _ _ _ _ _ => pg_name (i := 1) sc_as_tuples.nd rfl (by first | exact Or.inl rfl | exact Or.inr rfl)) (fun _ _ _ _ _ => dts_nil) (fun _ _ _ _ _ => (de_callTy false real_tuple call_tuple_of T.n_tuple (by rfl) (da_cons (de_var 1) da_nil)))) da_nil))))
theorem ok_determinant_of : FnOk PP w G.K mg base (L2.CX PP w) 1 T.f_determinant_of T.d_determinant_of ["rows"] (spD G 1 Sh2.c_determinant_of) := fn_T (m := Sh2.m_determinant_of) T.F_determinant_of sc_determinant_of fun cdv A outer s H E hr => (dss_cons (ds_set (i := 0) sc_determinant_of.nd (de_lc true (ow := [("row", 8)]) sc_determinant_of.nd (di_seq (de_var 0)) (blkOk_by (N := N_determinant_of) (sc := defScope s_determinant_of) (by decide +kernel)) (gw_name 8) (hm_name 8) (fun _ _ _ _ _ => pg_name (i := 8) sc_determinant_of.nd rfl (by first | exact Or.inl rfl | exact Or.inr rfl)) (fun _ _ _ _ _ => dts_nil) (fun _ _ _ _ _ => (de_callTy false real_list call_list_of T.n_list (by rfl) (da_cons (de_var 8) da_nil))))) (dss_cons (ds_set (i := 1) sc_determinant_of.nd de_int) (dss_cons (ds_set (i := 2) sc_determinant_of.nd de_int) (dss_cons (ds_for (di_range1 T.n_range (da_cons (de_callB false real_len call_len T.n_len (by rfl) (da_cons (de_var 0) da_nil)) da_nil)) (dg_name sc_determinant_of.nd) (dss_cons (ds_setLc (j := 4) false (ow := [("number", 6)]) sc_determinant_of.nd (di_range2 T.n_range (da_cons (de_var 3) (da_cons (de_callB false real_len call_len T.n_len (by rfl) (da_cons (de_var 0) da_nil)) da_nil))) (blkOk_by (N := N_determinant_of) (sc := defScope s_determinant_of) (by decide +kernel)) (gw_name 6) (hm_name 6) (fun _ _ _ _ _ => pg_name (i := 6) sc_determinant_of.nd rfl (by first | exact Or.inl rfl | exact Or.inr rfl)) (fun _ _ _ _ _ => dts_one (dt_c c_ne (de_ix (de_ix (de_var 0) (de_var 6)) (de_var 3)) de_int)) (fun _ _ _ _ _ => (de_var 6))) (dss_cons (ds_if (dt_not (dt_tru (de_var 4))) (dss_one (ds_ret de_int)) dss_nil) (dss_cons (ds_if (dt_c c_ne (de_ix (de_var 4) de_int) (de_var 3)) (dss_cons (ds_asg (de_tup (da_cons (de_ix (de_var 0) (de_ix (de_var 4) de_int)) (da_cons (de_ix (de_var 0) (de_var 3)) da_nil))) (dg_tup (dgs_cons (dg_sub (de_var 0) (de_var 3)) (dgs_cons (dg_sub (de_var 0) (de_ix (de_var 4) de_int)) dgs_nil)))) (dss_one (ds_set (i := 1) sc_determinant_of.nd (de_neg (de_var 1))))) dss_nil) (dss_cons (ds_set (i := 5) sc_determinant_of.nd (de_ix (de_var 0) (de_var 3))) (dss_cons (ds_for (di_range2 T.n_range (da_cons (de_add false (de_var 3) de_int) (da_cons (de_callB false real_len call_len T.n_len (by rfl) (da_cons (de_var 0) da_nil)) da_nil))) (dg_name sc_determinant_of.nd) (dss_cons (ds_set (i := 7) sc_determinant_of.nd (de_ix (de_ix (de_var 0) (de_var 6)) (de_var 3))) (dss_one (ds_asg (de_lc false (ow := [("part", 9), ("more", 10)]) sc_determinant_of.nd (di_zipX T.n_zip (da_cons (de_ix (de_var 0) (de_var 6)) (da_cons (de_var 5) da_nil))) (blkOk_by (N := N_determinant_of) (sc := defScope s_determinant_of) (by decide +kernel)) (gw_tup rfl (gws_cons (gw_name 9) (gws_cons (gw_name 10) gws_nil (hm_name 10)) (hm_name 9))) (hm_tup2 9 10) (fun _ _ _ _ _ => pg_tup rfl (pgs_cons (pg_name (i := 9) sc_determinant_of.nd rfl (by first | exact Or.inl rfl | exact Or.inr rfl)) (pgs_cons (pg_name (i := 10) sc_determinant_of.nd rfl (by first | exact Or.inl rfl | exact Or.inr rfl)) pgs_nil))) (fun _ _ _ _ _ => dts_nil) (fun _ _ _ _ _ => (de_div (de_sub (de_mul false (de_ix (de_var 5) (de_var 3)) (de_var 9)) (de_mul false (de_var 7) (de_var 10))) (de_var 2)))) (dg_sub (de_var 0) (de_var 6)))))) (dss_one (ds_set (i := 2) sc_determinant_of.nd (de_ix (de_var 5) (de_var 3)))))))))) (dss_one (ds_ret (de_mul false (de_var 1) (de_var 2))))))))
theorem ok_cofactors : FnOk PP w G.K mg base (L2.CX PP w) 2 T.f_cofactors T.d_cofactors ["rows"] (spD G 1 Sh2.c_cofactors) := fn_T (m := Sh2.m_cofactors) T.F_cofactors sc_cofactors fun cdv A outer s H E hr => (dss_cons (ds_set (i := 1) sc_cofactors.nd (de_lst true da_nil)) (dss_cons (ds_for (di_range1 T.n_range (da_cons (de_callB false real_len call_len T.n_len (by rfl) (da_cons (de_var 0) da_nil)) da_nil)) (dg_name sc_cofactors.nd) (dss_cons (ds_set (i := 3) sc_cofactors.nd (de_lst true da_nil)) (dss_cons (ds_for (di_range1 T.n_range (da_cons (de_callB false real_len call_len T.n_len (by rfl) (da_cons (de_var 0) da_nil)) da_nil)) (dg_name sc_cofactors.nd) (dss_cons (ds_set (i := 5) sc_cofactors.nd (de_lst true da_nil)) (dss_cons (ds_for (di_enumX T.n_enumerate (da_cons (de_var 0) da_nil)) (dg_tup (dgs_cons (dg_name sc_cofactors.nd) (dgs_cons (dg_name sc_cofactors.nd) dgs_nil))) (dss_one (ds_if (dt_c c_ne (de_var 6) (de_var 2)) (dss_one (ds_expr (de_mt real_append mt_append PySem.F.slot_list_append PySem.F.type_list_append (de_var 5) (da_cons (de_lc false (ow := [("at", 8), ("part", 9)]) sc_cofactors.nd (di_enumX T.n_enumerate (da_cons (de_var 7) da_nil)) (blkOk_by (N := N_cofactors) (sc := defScope s_cofactors) (by decide +kernel)) (gw_tup rfl (gws_cons (gw_name 8) (gws_cons (gw_name 9) gws_nil (hm_name 9)) (hm_name 8))) (hm_tup2 8 9) (fun _ _ _ _ _ => pg_tup rfl (pgs_cons (pg_name (i := 8) sc_cofactors.nd rfl (by first | exact Or.inl rfl | exact Or.inr rfl)) (pgs_cons (pg_name (i := 9) sc_cofactors.nd rfl (by first | exact Or.inl rfl | exact Or.inr rfl)) pgs_nil))) (fun _ _ _ _ _ => dts_one (dt_c c_ne (de_var 8) (de_var 4))) (fun _ _ _ _ _ => (de_var 9))) da_nil)))) dss_nil))) (dss_one (ds_expr (de_mt real_append mt_append PySem.F.slot_list_append PySem.F.type_list_append (de_var 3) (da_cons (de_mul false (de_sub de_int (de_mul false de_int (de_mod (de_add false (de_var 2) (de_var 4)) de_int))) (de_call (ok_determinant_of T) (hr.mono (by decide)) T.g_determinant_of T.F_determinant_of.kp (b_determinant_of T) (da_cons (de_var 5) da_nil))) da_nil))))))) (dss_one (ds_expr (de_mt real_append mt_append PySem.F.slot_list_append PySem.F.type_list_append (de_var 1) (da_cons (de_var 3) da_nil))))))) (dss_one (ds_ret (de_var 1)))))
theorem ok_beside : FnOk PP w G.K mg base (L2.CX PP w) 1 T.f_beside T.d_beside ["blocks"] (spD G 1 Sh2.c_beside) := fn_T (m := Sh2.m_beside) T.F_beside sc_beside fun cdv A outer s H E hr => (dss_cons (ds_set (i := 1) sc_beside.nd (de_callB false real_sum (cr_sum rfl) T.n_sum (by rfl) (da_cons (de_lc false (ow := [("block", 3)]) sc_beside.nd (di_seq (de_var 0)) (blkOk_by (N := N_beside) (sc := defScope s_beside) (by decide +kernel)) (gw_name 3) (hm_name 3) (fun _ _ _ _ _ => pg_name (i := 3) sc_beside.nd rfl (by first | exact Or.inl rfl | exact Or.inr rfl)) (fun _ _ _ _ _ => dts_nil) (fun _ _ _ _ _ => (de_callB false real_len call_len T.n_len (by rfl) (da_cons (de_var 3) da_nil)))) da_nil))) (dss_cons (ds_set (i := 2) sc_beside.nd (de_lst true da_nil)) (dss_cons (ds_for (di_seq (de_var 0)) (dg_name sc_beside.nd) (dss_cons (ds_set (i := 4) sc_beside.nd (de_callB false real_len call_len T.n_len (by rfl) (da_cons (de_var 2) da_nil))) (dss_one (ds_for (di_seq (de_var 3)) (dg_name sc_beside.nd) (dss_one (ds_expr (de_mt real_append mt_append PySem.F.slot_list_append PySem.F.type_list_append (de_var 2) (da_cons (de_add false (de_add false (de_mul false (de_lst false (da_cons de_int da_nil)) (de_var 4)) (de_callTy false real_list call_list_of T.n_list (by rfl) (da_cons (de_var 5) da_nil))) (de_mul false (de_lst false (da_cons de_int da_nil)) (de_sub (de_sub (de_var 1) (de_var 4)) (de_callB false real_len call_len T.n_len (by rfl) (da_cons (de_var 5) da_nil))))) da_nil)))))))) (dss_one (ds_ret (de_var 2))))))
theorem ok_fault_of : FnOk PP w G.K mg base (L2.CX PP w) 4 T.f_fault_of T.d_fault_of ["form", "most"] (spD G 2 Sh2.c_fault_of) := fn_Kc (m := Sh2.m_fault_of) T.tc_fault_of T.F_fault_of sc_fault_of fun A outer s H E hr => (dss_cons (ds_if (dt_w (dw_or (dt_not (dt_tru (de_call (ok_is_row T) (hr.mono (by decide)) T.g_is_row T.F_is_row.kp (b_is_row T) (da_cons (de_var 0) da_nil)))) (dw_or (dt_not (dt_c2 c_le c_le de_int (de_callB false real_len call_len T.n_len (by rfl) (da_cons (de_var 0) da_nil)) (de_glob (v := .int (8)) T.v_MOST_VARIABLES ⟨_, rfl⟩ (fun _ => rfl)))) (dw_or1 (dt_not (dt_tru (de_call (ok_is_square T) (hr.mono (by decide)) T.g_is_square T.F_is_square.kp (b_is_square T) (da_cons (de_var 0) (da_cons (de_callB false real_len call_len T.n_len (by rfl) (da_cons (de_var 0) da_nil)) da_nil))))))))) (dss_one (ds_ret de_str)) dss_nil) (dss_cons (ds_if (dt_w (dw_and (dt_c c_isNot (de_var 1) de_non) (dw_and1 (dt_tru (de_callB false real_any (cr_any rfl) T.n_any (by rfl) (da_cons (de_lc false (ow := [("row", 2)]) sc_fault_of.nd (di_seq (de_var 0)) (blkOk_by (N := N_fault_of) (sc := defScope s_fault_of) (by decide +kernel)) (gw_name 2) (hm_name 2) (fun _ _ _ _ _ => pg_name (i := 2) sc_fault_of.nd rfl (by first | exact Or.inl rfl | exact Or.inr rfl)) (fun _ _ _ _ _ => dts_nil) (fun _ _ _ _ _ => (de_c c_gt (de_maxabs hr T.tb_fault_of rfl T.tm_fault_of (genS rfl rfl rfl rfl rfl) (de_var 2) T.n_abs T.n_max) (de_var 1)))) da_nil)))))) (dss_one (ds_ret de_str)) dss_nil) (dss_cons (ds_if (dt_tru (de_callB false real_any (cr_any rfl) T.n_any (by rfl) (da_cons (de_lc2 false (ow := [("row", 2), ("place", 4)]) (vs1 := [4]) sc_fault_of.nd (di_range1 T.n_range (da_cons (de_callB false real_len call_len T.n_len (by rfl) (da_cons (de_var 0) da_nil)) da_nil)) (blkOk_by (N := N_fault_of) (sc := defScope s_fault_of) (by decide +kernel)) (by decide) (gw_name 2) (hm_name 2) (gw_name 4) (hm_name 4) (fun _ _ _ _ _ => pg_name (i := 2) sc_fault_of.nd rfl (by first | exact Or.inl rfl | exact Or.inr rfl)) (fun _ _ _ _ _ => dts_nil) (fun _ _ _ _ _ => (di_range1 T.n_range (da_cons (de_var 2) da_nil))) (fun _ _ _ _ _ => pg_name (i := 4) sc_fault_of.nd rfl (by first | exact Or.inl rfl | exact Or.inr rfl)) (fun _ _ _ _ _ => dts_nil) (fun _ _ _ _ _ => (de_c c_ne (de_ix (de_ix (de_var 0) (de_var 2)) (de_var 4)) (de_ix (de_ix (de_var 0) (de_var 4)) (de_var 2))))) da_nil))) (dss_one (ds_ret de_str)) dss_nil) (dss_one (ds_ret (de_if (dt_c c_eq (de_call (ok_determinant_of T) (hr.mono (by decide)) T.g_determinant_of T.F_determinant_of.kp (b_determinant_of T) (da_cons (de_var 0) da_nil)) de_int) de_str de_non))))))
theorem ok_told_form : FnOk PP w G.K mg base (L2.CX PP w) 5 T.f_told_form T.d_told_form ["form"] (spD G 1 Sh2.c_told_form) := fn_K (m := Sh2.m_told_form) T.F_told_form sc_told_form fun cdv A outer s H E hr => (dss_cons (ds_set (i := 1) sc_told_form.nd (de_call (ok_fault_of T) (hr.mono (by decide)) T.g_fault_of T.F_fault_of.kp (b_fault_of T) (da_cons (de_var 0) (da_cons (de_glob (v := .int (1000000000000000000000000000000)) T.v_MOST_NUMBER ⟨_, rfl⟩ (fun _ => rfl)) da_nil)))) (dss_cons (ds_if (dt_c c_isNot (de_var 1) de_non) (dss_one (ds_raiseF (c := "BadForm") T.su_BadForm (fn_sinitE (k := 0) T.su_BadForm ss_BadForm T.sl_BadForm noSup) (T.su_BadForm.binds bi_BadForm) (hr.mono (by decide)) T.g_BadForm T.a_BadForm (da_cons (de_var 1) da_nil))) dss_nil) (dss_one (ds_ret (de_call (ok_as_tuples T) (hr.mono (by decide)) T.g_as_tuples T.F_as_tuples.kp (b_as_tuples T) (da_cons (de_var 0) da_nil))))))
theorem ok_told_table : FnOk PP w G.K mg base (L2.CX PP w) 4 T.f_told_table T.d_told_table ["table", "many"] (spD G 2 Sh2.c_told_table) := fn_K (m := Sh2.m_told_table) T.F_told_table sc_told_table fun cdv A outer s H E hr => (dss_cons (ds_if (dt_not (dt_tru (de_call (ok_is_square T) (hr.mono (by decide)) T.g_is_square T.F_is_square.kp (b_is_square T) (da_cons (de_var 0) (da_cons (de_var 1) da_nil))))) (dss_one (ds_raise (c := "BadTable") PySem.F.excBase_ValueError T.q_BadTable T.g_BadTable T.k_BadTable (raises_own T.b_BadTable T.t_BadTable) T.a_BadTable)) dss_nil) (dss_one (ds_ret (de_call (ok_as_tuples T) (hr.mono (by decide)) T.g_as_tuples T.F_as_tuples.kp (b_as_tuples T) (da_cons (de_var 0) da_nil)))))
theorem ok_moved : FnOk PP w G.K mg base (L2.CX PP w) 6 T.f_moved T.d_moved ["form", "table"] (spD G 2 Sh2.c_moved) := fn_K (m := Sh2.m_moved) T.F_moved sc_moved fun cdv A outer s H E hr => (dss_cons (ds_set (i := 2) sc_moved.nd (de_call (ok_told_form T) (hr.mono (by decide)) T.g_told_form T.F_told_form.kp (b_told_form T) (da_cons (de_var 0) da_nil))) (dss_one (ds_ret (de_call (ok_as_tuples T) (hr.mono (by decide)) T.g_as_tuples T.F_as_tuples.kp (b_as_tuples T) (da_cons (de_call (ok_moved_by T) (hr.mono (by decide)) T.g_moved_by T.F_moved_by.kp (b_moved_by T) (da_cons (de_call (ok_told_table T) (hr.mono (by decide)) T.g_told_table T.F_told_table.kp (b_told_table T) (da_cons (de_var 1) (da_cons (de_callB false real_len call_len T.n_len (by rfl) (da_cons (de_var 2) da_nil)) da_nil))) (da_cons (de_var 2) da_nil))) da_nil)))))
theorem ok_sum_of_forms : FnOk PP w G.K mg base (L2.CX PP w) 6 T.f_sum_of_forms T.d_sum_of_forms ["one", "other"] (spD G 2 Sh2.c_sum_of_forms) := fn_K (m := Sh2.m_sum_of_forms) T.F_sum_of_forms sc_sum_of_forms fun cdv A outer s H E hr => (dss_cons (ds_set (i := 2) sc_sum_of_forms.nd (de_call (ok_told_form T) (hr.mono (by decide)) T.g_told_form T.F_told_form.kp (b_told_form T) (da_cons (de_var 0) da_nil))) (dss_cons (ds_set (i := 3) sc_sum_of_forms.nd (de_call (ok_told_form T) (hr.mono (by decide)) T.g_told_form T.F_told_form.kp (b_told_form T) (da_cons (de_var 1) da_nil))) (dss_cons (ds_if (dt_c c_gt (de_add false (de_callB false real_len call_len T.n_len (by rfl) (da_cons (de_var 2) da_nil)) (de_callB false real_len call_len T.n_len (by rfl) (da_cons (de_var 3) da_nil))) (de_glob (v := .int (8)) T.v_MOST_VARIABLES ⟨_, rfl⟩ (fun _ => rfl))) (dss_one (ds_raise (c := "TooGreat") PySem.F.excBase_ValueError T.q_TooGreat T.g_TooGreat T.k_TooGreat (raises_own T.b_TooGreat T.t_TooGreat) T.a_TooGreat)) dss_nil) (dss_one (ds_ret (de_call (ok_as_tuples T) (hr.mono (by decide)) T.g_as_tuples T.F_as_tuples.kp (b_as_tuples T) (da_cons (de_call (ok_beside T) (hr.mono (by decide)) T.g_beside T.F_beside.kp (b_beside T) (da_cons (de_lst false (da_cons (de_var 2) (da_cons (de_var 3) da_nil))) da_nil)) da_nil)))))))
theorem ok_multiple : FnOk PP w G.K mg base (L2.CX PP w) 6 T.f_multiple T.d_multiple ["form", "m"] (spD G 2 Sh2.c_multiple) := fn_K (m := Sh2.m_multiple) T.F_multiple sc_multiple fun cdv A outer s H E hr => (dss_one (ds_ret (de_callTy false real_tuple call_tuple_of T.n_tuple (by rfl) (da_cons (de_lc false (ow := [("row", 2)]) sc_multiple.nd (di_seq (de_call (ok_told_form T) (hr.mono (by decide)) T.g_told_form T.F_told_form.kp (b_told_form T) (da_cons (de_var 0) da_nil))) (blkOk_by (N := N_multiple) (sc := defScope s_multiple) (by decide +kernel)) (gw_name 2) (hm_name 2) (fun _ _ _ _ _ => pg_name (i := 2) sc_multiple.nd rfl (by first | exact Or.inl rfl | exact Or.inr rfl)) (fun _ _ _ _ _ => dts_nil) (fun _ _ _ _ _ => (de_callTy false real_tuple call_tuple_of T.n_tuple (by rfl) (da_cons (de_lc false (ow := [("part", 3)]) sc_multiple.nd (di_seq (de_var 2)) (blkOk_by (by kernel_rfl)) (gw_name 3) (hm_name 3) (fun _ _ _ _ _ => pg_name (i := 3) sc_multiple.nd rfl (by first | exact Or.inl rfl | exact Or.inr rfl)) (fun _ _ _ _ _ => dts_nil) (fun _ _ _ _ _ => (de_mul false (de_var 1) (de_var 3)))) da_nil)))) da_nil))))
theorem ok_adjoint : FnOk PP w G.K mg base (L2.CX PP w) 6 T.f_adjoint T.d_adjoint ["form"] (spD G 1 Sh2.c_adjoint) := fn_K (m := Sh2.m_adjoint) T.F_adjoint sc_adjoint fun cdv A outer s H E hr => (dss_cons (ds_set (i := 1) sc_adjoint.nd (de_call (ok_told_form T) (hr.mono (by decide)) T.g_told_form T.F_told_form.kp (b_told_form T) (da_cons (de_var 0) da_nil))) (dss_cons (ds_if (dt_c c_eq (de_callB false real_len call_len T.n_len (by rfl) (da_cons (de_var 1) da_nil)) de_int) (dss_one (ds_ret de_non)) dss_nil) (dss_cons (ds_set (i := 2) sc_adjoint.nd (de_call (ok_cofactors T) (hr.mono (by decide)) T.g_cofactors T.F_cofactors.kp (b_cofactors T) (da_cons (de_var 1) da_nil))) (dss_cons (ds_set (i := 3) sc_adjoint.nd de_int) (dss_cons (ds_for (di_seq (de_var 2)) (dg_name sc_adjoint.nd) (dss_one (ds_for (di_seq (de_var 4)) (dg_name sc_adjoint.nd) (dss_one (ds_set (i := 3) sc_adjoint.nd (de_callFun false real_gcd cr_gcd T.i_gcd (da_cons (de_var 3) (da_cons (de_var 5) da_nil)))))))) (dss_one (ds_ret (de_callTy false real_tuple call_tuple_of T.n_tuple (by rfl) (da_cons (de_lc false (ow := [("row", 4)]) sc_adjoint.nd (di_seq (de_var 2)) (blkOk_by (N := N_adjoint) (sc := defScope s_adjoint) (by decide +kernel)) (gw_name 4) (hm_name 4) (fun _ _ _ _ _ => pg_name (i := 4) sc_adjoint.nd rfl (by first | exact Or.inl rfl | exact Or.inr rfl)) (fun _ _ _ _ _ => dts_nil) (fun _ _ _ _ _ => (de_callTy false real_tuple call_tuple_of T.n_tuple (by rfl) (da_cons (de_lc false (ow := [("part", 5)]) sc_adjoint.nd (di_seq (de_var 4)) (blkOk_by (by kernel_rfl)) (gw_name 5) (hm_name 5) (fun _ _ _ _ _ => pg_name (i := 5) sc_adjoint.nd rfl (by first | exact Or.inl rfl | exact Or.inr rfl)) (fun _ _ _ _ _ => dts_nil) (fun _ _ _ _ _ => (de_div (de_var 5) (de_var 3)))) da_nil)))) da_nil)))))))))
theorem ok__law_pool : FnOk PP w G.K mg base (L2.CX PP w) 1 T.f__law_pool T.d__law_pool ["script"] (spD G 1 Sh.c__law_pool) := fn_K (m := Sh.m__law_pool) T.F__law_pool sc__law_pool fun cdv A outer s H E hr => (dss_one (ds_ret (de_lst true (da_cons (de_lc false (ow := [("cell", 1)]) sc__law_pool.nd (di_seq (de_var 0)) (blkOk_by (N := N__law_pool) (sc := defScope s__law_pool) (by decide +kernel)) (gw_name 1) (hm_name 1) (fun _ _ _ _ _ => pg_name (i := 1) sc__law_pool.nd rfl (by first | exact Or.inl rfl | exact Or.inr rfl)) (fun _ _ _ _ _ => dts_nil) (fun _ _ _ _ _ => (de_if (dt_c c_ge (de_var 1) de_int) (de_mul false de_int (de_var 1)) (de_sub (de_mul false (de_neg de_int) (de_var 1)) de_int)))) (da_cons de_int (da_cons de_int (da_cons de_int da_nil)))))))
theorem ok__law_take : ∀ d : Nat, FnOk PP w G.K mg base (L2.CX PP w) (d + 0) T.f__law_take T.d__law_take ["pool", "many"] (spD G 2 (Sh.c__law_take d))
  | 0 => ⟨fun vs H Q E h => by obtain ⟨ds, W, _, _, _, r, hl, _⟩ := h; rw [← r.length]; exact hl, fun A outer s H args us vs Q E hr he hb hv h => by obtain ⟨ds, W, _, _, _, r, hl, q⟩ := h; exact q.elim⟩
  | d + 1 => by
    have ih := ok__law_take d
    have e : d + 1 + 0 = (d + 0) + 1 := by omega
    rw [e]
    exact fn_K (m := Sh.m__law_take (Sh.c__law_take d)) T.F__law_take sc__law_take fun cdv A outer s H E hr => (dss_cons (ds_if (dt_c c_gt (de_ix (de_var 0) de_int) de_int) (dss_cons (ds_set (i := 2) sc__law_take.nd (de_mod (de_callTy false real_int call_int1 T.n_int (by rfl) (da_cons (de_ix (de_var 0) de_int) da_nil)) (de_var 1))) (dss_cons (ds_asg (de_div (de_ix (de_var 0) de_int) (de_var 1)) (dg_sub (de_var 0) de_int)) (dss_one (ds_ret (de_var 2))))) dss_nil) (dss_cons (ds_set (i := 3) sc__law_take.nd de_int) (dss_cons (ds_if (dt_c c_lt (de_ix (de_var 0) de_int) (de_callB false real_len call_len T.n_len (by rfl) (da_cons (de_ix (de_var 0) de_int) da_nil))) (dss_one (ds_set (i := 3) sc__law_take.nd (de_ix (de_ix (de_var 0) de_int) (de_ix (de_var 0) de_int)))) dss_nil) (dss_cons (ds_asg (de_add false (de_ix (de_var 0) de_int) de_int) (dg_sub (de_var 0) de_int)) (dss_cons (ds_if (dt_c c_ge (de_var 3) (de_pow de_int de_int)) (dss_cons (ds_asg (de_div (de_var 3) de_int) (dg_sub (de_var 0) de_int)) (dss_one (ds_ret (de_call (ih) (hr.mono (by omega)) T.g__law_take T.F__law_take.kp (b__law_take T) (da_cons (de_var 0) (da_cons (de_var 1) da_nil)))))) dss_nil) (dss_cons (ds_asg (de_mod (de_callTy false real_int call_int1 T.n_int (by rfl) (da_cons (de_add false (de_add false (de_mul false (de_ix (de_var 0) de_int) de_int) (de_mul false (de_var 3) de_int)) (de_mul false (de_ix (de_var 0) de_int) de_int)) da_nil)) de_int) (dg_sub (de_var 0) de_int)) (dss_cons (ds_set (i := 4) sc__law_take.nd (de_mod (de_callTy false real_int call_int1 T.n_int (by rfl) (da_cons (de_add false (de_add false (de_mul false (de_ix (de_var 0) de_int) (de_ix (de_var 0) de_int)) (de_mul false (de_ix (de_var 0) de_int) de_int)) de_int) da_nil)) de_int)) (dss_one (ds_ret (de_mod (de_callTy false real_int call_int1 T.n_int (by rfl) (da_cons (de_div (de_var 4) de_int) da_nil)) (de_var 1)))))))))))
theorem ok__law_pick : FnOk PP w G.K mg base (L2.CX PP w) 3 T.f__law_pick T.d__law_pick ["pool", "rows"] (spD G 2 Sh.c__law_pick) := fn_K (m := Sh.m__law_pick) T.F__law_pick sc__law_pick fun cdv A outer s H E hr => (dss_one (ds_ret (de_ix (de_var 1) (de_call (ok__law_take T 2) (hr.mono (by decide)) T.g__law_take T.F__law_take.kp (b__law_take T) (da_cons (de_var 0) (da_cons (de_callB false real_len call_len T.n_len (by rfl) (da_cons (de_var 1) da_nil)) da_nil))))))
theorem ok__law_is_integer : FnOk PP w G.K mg base (L2.CX PP w) 1 T.f__law_is_integer T.d__law_is_integer ["actual"] (spD G 1 Sh.c__law_is_integer) := fn_K (m := Sh.m__law_is_integer) T.F__law_is_integer sc__law_is_integer fun cdv A outer s H E hr => (dss_one (ds_ret (de_and (de_callB false real_isi (call_isi.or call_isiT) T.n_isinstance (by rfl) (da_cons (de_var 0) (da_cons (de_ty T.n_int (by rfl)) da_nil))) (de_one (de_not (de_callB false real_isi (call_isi.or call_isiT) T.n_isinstance (by rfl) (da_cons (de_var 0) (da_cons (de_ty T.n_bool (by rfl)) da_nil))))))))
theorem ok__law_same : ∀ d : Nat, FnOk PP w G.K mg base (L2.CX PP w) (d + 1) T.f__law_same T.d__law_same ["actual", "due"] (spD G 2 (Sh.c__law_same d))
  | 0 => ⟨fun vs H Q E h => by obtain ⟨ds, W, _, _, _, r, hl, _⟩ := h; rw [← r.length]; exact hl, fun A outer s H args us vs Q E hr he hb hv h => by obtain ⟨ds, W, _, _, _, r, hl, q⟩ := h; exact q.elim⟩
  | d + 1 => by
    have ih := ok__law_same d
    have e : d + 1 + 1 = (d + 1) + 1 := by omega
    rw [e]
    exact fn_K (m := Sh.m__law_same (Sh.c__law_same d)) T.F__law_same sc__law_same fun cdv A outer s H E hr => (dss_cons (ds_if (dt_tru (de_callB false real_isi (call_isi.or call_isiT) T.n_isinstance (by rfl) (da_cons (de_var 1) (da_cons (de_ty T.n_tuple (by rfl)) da_nil)))) (dss_cons (ds_if (dt_w (dw_or (dt_not (dt_tru (de_callB false real_isi (call_isi.or call_isiT) T.n_isinstance (by rfl) (da_cons (de_var 0) (da_cons (de_ty T.n_tuple (by rfl)) da_nil))))) (dw_or1 (dt_c c_ne (de_callB false real_len call_len T.n_len (by rfl) (da_cons (de_var 0) da_nil)) (de_callB false real_len call_len T.n_len (by rfl) (da_cons (de_var 1) da_nil)))))) (dss_one (ds_ret de_bl)) dss_nil) (dss_one (ds_ret (de_callB false real_all (cr_all rfl) T.n_all (by rfl) (da_cons (de_lc false (ow := [("k", 2)]) sc__law_same.nd (di_range1 T.n_range (da_cons (de_callB false real_len call_len T.n_len (by rfl) (da_cons (de_var 1) da_nil)) da_nil)) (blkOk_by (N := N__law_same) (sc := defScope s__law_same) (by decide +kernel)) (gw_name 2) (hm_name 2) (fun _ _ _ _ _ => pg_name (i := 2) sc__law_same.nd rfl (by first | exact Or.inl rfl | exact Or.inr rfl)) (fun _ _ _ _ _ => dts_nil) (fun _ _ _ _ _ => (de_call (ih) (hr.mono (by omega)) T.g__law_same T.F__law_same.kp (b__law_same T) (da_cons (de_ix (de_var 0) (de_var 2)) (da_cons (de_ix (de_var 1) (de_var 2)) da_nil))))) da_nil))))) dss_nil) (dss_cons (ds_if (dt_tru (de_callB false real_isi (call_isi.or call_isiT) T.n_isinstance (by rfl) (da_cons (de_var 1) (da_cons (de_ty T.n_list (by rfl)) da_nil)))) (dss_cons (ds_if (dt_w (dw_or (dt_not (dt_tru (de_callB false real_isi (call_isi.or call_isiT) T.n_isinstance (by rfl) (da_cons (de_var 0) (da_cons (de_ty T.n_list (by rfl)) da_nil))))) (dw_or1 (dt_c c_ne (de_callB false real_len call_len T.n_len (by rfl) (da_cons (de_var 0) da_nil)) (de_callB false real_len call_len T.n_len (by rfl) (da_cons (de_var 1) da_nil)))))) (dss_one (ds_ret de_bl)) dss_nil) (dss_one (ds_ret (de_callB false real_all (cr_all rfl) T.n_all (by rfl) (da_cons (de_lc false (ow := [("k", 2)]) sc__law_same.nd (di_range1 T.n_range (da_cons (de_callB false real_len call_len T.n_len (by rfl) (da_cons (de_var 1) da_nil)) da_nil)) (blkOk_by (N := N__law_same) (sc := defScope s__law_same) (by decide +kernel)) (gw_name 2) (hm_name 2) (fun _ _ _ _ _ => pg_name (i := 2) sc__law_same.nd rfl (by first | exact Or.inl rfl | exact Or.inr rfl)) (fun _ _ _ _ _ => dts_nil) (fun _ _ _ _ _ => (de_call (ih) (hr.mono (by omega)) T.g__law_same T.F__law_same.kp (b__law_same T) (da_cons (de_ix (de_var 0) (de_var 2)) (da_cons (de_ix (de_var 1) (de_var 2)) da_nil))))) da_nil))))) dss_nil) (dss_cons (ds_if (dt_c c_is (de_var 1) de_non) (dss_one (ds_ret (de_c c_is (de_var 0) de_non))) dss_nil) (dss_cons (ds_if (dt_tru (de_callB false real_isi (call_isi.or call_isiT) T.n_isinstance (by rfl) (da_cons (de_var 1) (da_cons (de_ty T.n_bool (by rfl)) da_nil)))) (dss_one (ds_ret (de_and (de_callB false real_isi (call_isi.or call_isiT) T.n_isinstance (by rfl) (da_cons (de_var 0) (da_cons (de_ty T.n_bool (by rfl)) da_nil))) (de_one (de_c c_eq (de_var 0) (de_var 1)))))) dss_nil) (dss_cons (ds_if (dt_tru (de_callB false real_isi (call_isi.or call_isiT) T.n_isinstance (by rfl) (da_cons (de_var 1) (da_cons (de_ty T.n_str (by rfl)) da_nil)))) (dss_one (ds_ret (de_and (de_callB false real_isi (call_isi.or call_isiT) T.n_isinstance (by rfl) (da_cons (de_var 0) (da_cons (de_ty T.n_str (by rfl)) da_nil))) (de_one (de_c c_eq (de_var 0) (de_var 1)))))) dss_nil) (dss_one (ds_ret (de_and (de_call (ok__law_is_integer T) (hr.mono (by omega)) T.g__law_is_integer T.F__law_is_integer.kp (b__law_is_integer T) (da_cons (de_var 0) da_nil)) (de_one (de_c c_eq (de_var 0) (de_var 1)))))))))))
theorem ok__law_order : FnOk PP w G.K mg base (L2.CX PP w) 3 T.f__law_order T.d__law_order ["pool", "many"] (spD G 2 Sh2.c__law_order) := fn_T (m := Sh2.m__law_order) T.F__law_order sc__law_order fun cdv A outer s H E hr => (dss_cons (ds_set (i := 2) sc__law_order.nd (de_listRange true T.n_list T.n_range (de_var 1))) (dss_cons (ds_set (i := 3) sc__law_order.nd (de_tup da_nil)) (dss_cons (ds_for (di_range1 T.n_range (da_cons (de_var 1) da_nil)) (dg_name sc__law_order.nd) (dss_one (ds_set (i := 3) sc__law_order.nd (de_add false (de_var 3) (de_tup (da_cons (de_mt real_popAt mt_popAt PySem.F.slot_list_pop PySem.F.type_list_pop (de_var 2) (da_cons (de_call (ok__law_take T 2) (hr.mono (by decide)) T.g__law_take T.F__law_take.kp (b__law_take T) (da_cons (de_var 0) (da_cons (de_callB false real_len call_len T.n_len (by rfl) (da_cons (de_var 2) da_nil)) da_nil))) da_nil)) da_nil)))))) (dss_one (ds_ret (de_var 3))))))
theorem ok__law_power : FnOk PP w G.K mg base (L2.CX PP w) 1 T.f__law_power T.d__law_power ["base", "many"] (spD G 2 Sh.c__law_power) := fn_K (m := Sh.m__law_power) T.F__law_power sc__law_power fun cdv A outer s H E hr => (dss_cons (ds_set (i := 2) sc__law_power.nd de_int) (dss_cons (ds_for (di_range1 T.n_range (da_cons (de_var 1) da_nil)) (dg_name sc__law_power.nd) (dss_one (ds_set (i := 2) sc__law_power.nd (de_mul false (de_var 2) (de_var 0))))) (dss_one (ds_ret (de_var 2)))))
theorem ok__law_common : FnOk PP w G.K mg base (L2.CX PP w) 1 T.f__law_common T.d__law_common ["one", "other"] (spD G 2 Sh2.c__law_common) := fn_K (m := Sh2.m__law_common) T.F__law_common sc__law_common fun cdv A outer s H E hr => (dss_cons (ds_par (i := 0) (j := 1) sc__law_common.nd (da_cons (de_callB false real_abs call_abs T.n_abs (by rfl) (da_cons (de_var 0) da_nil)) (da_cons (de_callB false real_abs call_abs T.n_abs (by rfl) (da_cons (de_var 1) da_nil)) da_nil))) (dss_cons (ds_for (di_range1 T.n_range (da_cons de_int da_nil)) (dg_name sc__law_common.nd) (dss_cons (ds_if (dt_c c_eq (de_var 1) de_int) (dss_one ds_break) dss_nil) (dss_one (ds_par (i := 0) (j := 1) sc__law_common.nd (da_cons (de_var 1) (da_cons (de_sub (de_var 0) (de_mul false (de_var 1) (de_callTy false real_int call_int1 T.n_int (by rfl) (da_cons (de_div (de_var 0) (de_var 1)) da_nil)))) da_nil)))))) (dss_one (ds_ret (de_var 0)))))
theorem ok__law_determinant : FnOk PP w G.K mg base (L2.CX PP w) 1 T.f__law_determinant T.d__law_determinant ["rows"] (spD G 1 Sh2.c__law_determinant) := fn_T (m := Sh2.m__law_determinant) T.F__law_determinant sc__law_determinant fun cdv A outer s H E hr => (dss_cons (ds_set (i := 0) sc__law_determinant.nd (de_lc true (ow := [("row", 7)]) sc__law_determinant.nd (di_seq (de_var 0)) (blkOk_by (N := N__law_determinant) (sc := defScope s__law_determinant) (by decide +kernel)) (gw_name 7) (hm_name 7) (fun _ _ _ _ _ => pg_name (i := 7) sc__law_determinant.nd rfl (by first | exact Or.inl rfl | exact Or.inr rfl)) (fun _ _ _ _ _ => dts_nil) (fun _ _ _ _ _ => (de_callTy false real_list call_list_of T.n_list (by rfl) (da_cons (de_var 7) da_nil))))) (dss_cons (ds_asg (de_tup (da_cons de_int (da_cons de_int da_nil))) (dg_tup (dgs_cons (dg_name sc__law_determinant.nd) (dgs_cons (dg_name sc__law_determinant.nd) dgs_nil)))) (dss_cons (ds_for (di_range1 T.n_range (da_cons (de_callB false real_len call_len T.n_len (by rfl) (da_cons (de_var 0) da_nil)) da_nil)) (dg_name sc__law_determinant.nd) (dss_cons (ds_setLc (j := 4) false (ow := [("k", 6)]) sc__law_determinant.nd (di_range2 T.n_range (da_cons (de_var 3) (da_cons (de_callB false real_len call_len T.n_len (by rfl) (da_cons (de_var 0) da_nil)) da_nil))) (blkOk_by (N := N__law_determinant) (sc := defScope s__law_determinant) (by decide +kernel)) (gw_name 6) (hm_name 6) (fun _ _ _ _ _ => pg_name (i := 6) sc__law_determinant.nd rfl (by first | exact Or.inl rfl | exact Or.inr rfl)) (fun _ _ _ _ _ => dts_one (dt_c c_ne (de_ix (de_ix (de_var 0) (de_var 6)) (de_var 3)) de_int)) (fun _ _ _ _ _ => (de_var 6))) (dss_cons (ds_if (dt_not (dt_tru (de_var 4))) (dss_one (ds_ret de_int)) dss_nil) (dss_cons (ds_if (dt_c c_ne (de_ix (de_var 4) de_int) (de_var 3)) (dss_cons (ds_asg (de_tup (da_cons (de_ix (de_var 0) (de_ix (de_var 4) de_int)) (da_cons (de_ix (de_var 0) (de_var 3)) da_nil))) (dg_tup (dgs_cons (dg_sub (de_var 0) (de_var 3)) (dgs_cons (dg_sub (de_var 0) (de_ix (de_var 4) de_int)) dgs_nil)))) (dss_one (ds_set (i := 1) sc__law_determinant.nd (de_neg (de_var 1))))) dss_nil) (dss_cons (ds_set (i := 5) sc__law_determinant.nd (de_ix (de_var 0) (de_var 3))) (dss_cons (ds_for (di_range2 T.n_range (da_cons (de_add false (de_var 3) de_int) (da_cons (de_callB false real_len call_len T.n_len (by rfl) (da_cons (de_var 0) da_nil)) da_nil))) (dg_name sc__law_determinant.nd) (dss_one (ds_asg (de_lc false (ow := [("j", 8)]) sc__law_determinant.nd (di_range1 T.n_range (da_cons (de_callB false real_len call_len T.n_len (by rfl) (da_cons (de_var 0) da_nil)) da_nil)) (blkOk_by (N := N__law_determinant) (sc := defScope s__law_determinant) (by decide +kernel)) (gw_name 8) (hm_name 8) (fun _ _ _ _ _ => pg_name (i := 8) sc__law_determinant.nd rfl (by first | exact Or.inl rfl | exact Or.inr rfl)) (fun _ _ _ _ _ => dts_nil) (fun _ _ _ _ _ => (de_callTy false real_int call_int1 T.n_int (by rfl) (da_cons (de_div (de_sub (de_mul false (de_ix (de_var 5) (de_var 3)) (de_ix (de_ix (de_var 0) (de_var 6)) (de_var 8))) (de_mul false (de_ix (de_ix (de_var 0) (de_var 6)) (de_var 3)) (de_ix (de_var 5) (de_var 8)))) (de_var 2)) da_nil)))) (dg_sub (de_var 0) (de_var 6))))) (dss_one (ds_set (i := 2) sc__law_determinant.nd (de_ix (de_var 5) (de_var 3)))))))))) (dss_one (ds_ret (de_mul false (de_var 1) (de_var 2)))))))
theorem ok__law_tuples : FnOk PP w G.K mg base (L2.CX PP w) 1 T.f__law_tuples T.d__law_tuples ["rows"] (spD G 1 Sh2.c__law_tuples) := fn_K (m := Sh2.m__law_tuples) T.F__law_tuples sc__law_tuples fun cdv A outer s H E hr => (dss_one (ds_ret (de_callTy false real_tuple call_tuple_of T.n_tuple (by rfl) (da_cons (de_lc false (ow := [("row", 1)]) sc__law_tuples.nd (di_seq (de_var 0)) (blkOk_by (N := N__law_tuples) (sc := defScope s__law_tuples) (by decide +kernel)) (gw_name 1) (hm_name 1) (fun _ _ _ _ _ => pg_name (i := 1) sc__law_tuples.nd rfl (by first | exact Or.inl rfl | exact Or.inr rfl)) (fun _ _ _ _ _ => dts_nil) (fun _ _ _ _ _ => (de_callTy false real_tuple call_tuple_of T.n_tuple (by rfl) (da_cons (de_var 1) da_nil)))) da_nil))))
theorem ok__law_handed : FnOk PP w G.K mg base (L2.CX PP w) 4 T.f__law_handed T.d__law_handed ["pool", "rows"] (spD G 2 Sh2.c__law_handed) := fn_K (m := Sh2.m__law_handed) T.F__law_handed sc__law_handed fun cdv A outer s H E hr => (dss_one (ds_ret (de_call (ok__law_pick T) (hr.mono (by decide)) T.g__law_pick T.F__law_pick.kp (b__law_pick T) (da_cons (de_var 0) (da_cons (de_lst false (da_cons (de_var 1) (da_cons (de_call (ok__law_tuples T) (hr.mono (by decide)) T.g__law_tuples T.F__law_tuples.kp (b__law_tuples T) (da_cons (de_var 1) da_nil)) (da_cons (de_lc false (ow := [("row", 2)]) sc__law_handed.nd (di_seq (de_var 1)) (blkOk_by (N := N__law_handed) (sc := defScope s__law_handed) (by decide +kernel)) (gw_name 2) (hm_name 2) (fun _ _ _ _ _ => pg_name (i := 2) sc__law_handed.nd rfl (by first | exact Or.inl rfl | exact Or.inr rfl)) (fun _ _ _ _ _ => dts_nil) (fun _ _ _ _ _ => (de_callTy false real_list call_list_of T.n_list (by rfl) (da_cons (de_var 2) da_nil)))) (da_cons (de_lc false (ow := [("row", 2)]) sc__law_handed.nd (di_seq (de_var 1)) (blkOk_by (N := N__law_handed) (sc := defScope s__law_handed) (by decide +kernel)) (gw_name 2) (hm_name 2) (fun _ _ _ _ _ => pg_name (i := 2) sc__law_handed.nd rfl (by first | exact Or.inl rfl | exact Or.inr rfl)) (fun _ _ _ _ _ => dts_nil) (fun _ _ _ _ _ => (de_callTy false real_tuple call_tuple_of T.n_tuple (by rfl) (da_cons (de_var 2) da_nil)))) (da_cons (de_callTy false real_tuple call_tuple_of T.n_tuple (by rfl) (da_cons (de_lc false (ow := [("row", 2)]) sc__law_handed.nd (di_seq (de_var 1)) (blkOk_by (N := N__law_handed) (sc := defScope s__law_handed) (by decide +kernel)) (gw_name 2) (hm_name 2) (fun _ _ _ _ _ => pg_name (i := 2) sc__law_handed.nd rfl (by first | exact Or.inl rfl | exact Or.inr rfl)) (fun _ _ _ _ _ => dts_nil) (fun _ _ _ _ _ => (de_callTy false real_list call_list_of T.n_list (by rfl) (da_cons (de_var 2) da_nil)))) da_nil)) da_nil)))))) da_nil)))))
theorem ok__law_dot : FnOk PP w G.K mg base (L2.CX PP w) 1 T.f__law_dot T.d__law_dot ["one", "other"] (spD G 2 Sh2.c__law_dot) := fn_K (m := Sh2.m__law_dot) T.F__law_dot sc__law_dot fun cdv A outer s H E hr => (dss_one (ds_ret (de_callB false real_sum (cr_sum rfl) T.n_sum (by rfl) (da_cons (de_lc false (ow := [("k", 2)]) sc__law_dot.nd (di_range1 T.n_range (da_cons (de_callB false real_len call_len T.n_len (by rfl) (da_cons (de_var 0) da_nil)) da_nil)) (blkOk_by (N := N__law_dot) (sc := defScope s__law_dot) (by decide +kernel)) (gw_name 2) (hm_name 2) (fun _ _ _ _ _ => pg_name (i := 2) sc__law_dot.nd rfl (by first | exact Or.inl rfl | exact Or.inr rfl)) (fun _ _ _ _ _ => dts_nil) (fun _ _ _ _ _ => (de_mul false (de_ix (de_var 0) (de_var 2)) (de_ix (de_var 1) (de_var 2))))) da_nil))))
theorem ok__law_moved : FnOk PP w G.K mg base (L2.CX PP w) 2 T.f__law_moved T.d__law_moved ["table", "form"] (spD G 2 Sh2.c__law_moved) := fn_K (m := Sh2.m__law_moved) T.F__law_moved sc__law_moved fun cdv A outer s H E hr => (dss_cons (ds_setLc (j := 2) false (ow := [("row", 3)]) sc__law_moved.nd (di_seq (de_var 0)) (blkOk_by (N := N__law_moved) (sc := defScope s__law_moved) (by decide +kernel)) (gw_name 3) (hm_name 3) (fun _ _ _ _ _ => pg_name (i := 3) sc__law_moved.nd rfl (by first | exact Or.inl rfl | exact Or.inr rfl)) (fun _ _ _ _ _ => dts_nil) (fun _ _ _ _ _ => (de_lc false (ow := [("line", 4)]) sc__law_moved.nd (di_seq (de_var 1)) (blkOk_by (by kernel_rfl)) (gw_name 4) (hm_name 4) (fun _ _ _ _ _ => pg_name (i := 4) sc__law_moved.nd rfl (by first | exact Or.inl rfl | exact Or.inr rfl)) (fun _ _ _ _ _ => dts_nil) (fun _ _ _ _ _ => (de_call (ok__law_dot T) (hr.mono (by decide)) T.g__law_dot T.F__law_dot.kp (b__law_dot T) (da_cons (de_var 4) (da_cons (de_var 3) da_nil))))))) (dss_one (ds_ret (de_callTy false real_tuple call_tuple_of T.n_tuple (by rfl) (da_cons (de_lc false (ow := [("image", 5)]) sc__law_moved.nd (di_seq (de_var 2)) (blkOk_by (N := N__law_moved) (sc := defScope s__law_moved) (by decide +kernel)) (gw_name 5) (hm_name 5) (fun _ _ _ _ _ => pg_name (i := 5) sc__law_moved.nd rfl (by first | exact Or.inl rfl | exact Or.inr rfl)) (fun _ _ _ _ _ => dts_nil) (fun _ _ _ _ _ => (de_callTy false real_tuple call_tuple_of T.n_tuple (by rfl) (da_cons (de_lc false (ow := [("row", 3)]) sc__law_moved.nd (di_seq (de_var 0)) (blkOk_by (by kernel_rfl)) (gw_name 3) (hm_name 3) (fun _ _ _ _ _ => pg_name (i := 3) sc__law_moved.nd rfl (by first | exact Or.inl rfl | exact Or.inr rfl)) (fun _ _ _ _ _ => dts_nil) (fun _ _ _ _ _ => (de_call (ok__law_dot T) (hr.mono (by decide)) T.g__law_dot T.F__law_dot.kp (b__law_dot T) (da_cons (de_var 5) (da_cons (de_var 3) da_nil))))) da_nil)))) da_nil)))))
theorem ok__law_unit : FnOk PP w G.K mg base (L2.CX PP w) 1 T.f__law_unit T.d__law_unit ["n"] (spD G 1 Sh2.c__law_unit) := fn_K (m := Sh2.m__law_unit) T.F__law_unit sc__law_unit fun cdv A outer s H E hr => (dss_one (ds_ret (de_callTy false real_tuple call_tuple_of T.n_tuple (by rfl) (da_cons (de_lc false (ow := [("i", 1)]) sc__law_unit.nd (di_range1 T.n_range (da_cons (de_var 0) da_nil)) (blkOk_by (N := N__law_unit) (sc := defScope s__law_unit) (by decide +kernel)) (gw_name 1) (hm_name 1) (fun _ _ _ _ _ => pg_name (i := 1) sc__law_unit.nd rfl (by first | exact Or.inl rfl | exact Or.inr rfl)) (fun _ _ _ _ _ => dts_nil) (fun _ _ _ _ _ => (de_callTy false real_tuple call_tuple_of T.n_tuple (by rfl) (da_cons (de_lc false (ow := [("j", 2)]) sc__law_unit.nd (di_range1 T.n_range (da_cons (de_var 0) da_nil)) (blkOk_by (by kernel_rfl)) (gw_name 2) (hm_name 2) (fun _ _ _ _ _ => pg_name (i := 2) sc__law_unit.nd rfl (by first | exact Or.inl rfl | exact Or.inr rfl)) (fun _ _ _ _ _ => dts_nil) (fun _ _ _ _ _ => (de_callTy false real_int call_int1 T.n_int (by rfl) (da_cons (de_c c_eq (de_var 1) (de_var 2)) da_nil)))) da_nil)))) da_nil))))
theorem ok__law_turn : FnOk PP w G.K mg base (L2.CX PP w) 4 T.f__law_turn T.d__law_turn ["pool", "n", "steps"] (spD G 3 Sh2.c__law_turn) := fn_T (m := Sh2.m__law_turn) T.F__law_turn sc__law_turn fun cdv A outer s H E hr => (dss_cons (ds_set (i := 3) sc__law_turn.nd (de_lc true (ow := [("k", 4)]) sc__law_turn.nd (di_seq (de_call (ok__law_order T) (hr.mono (by decide)) T.g__law_order T.F__law_order.kp (b__law_order T) (da_cons (de_var 0) (da_cons (de_var 1) da_nil)))) (blkOk_by (N := N__law_turn) (sc := defScope s__law_turn) (by decide +kernel)) (gw_name 4) (hm_name 4) (fun _ _ _ _ _ => pg_name (i := 4) sc__law_turn.nd rfl (by first | exact Or.inl rfl | exact Or.inr rfl)) (fun _ _ _ _ _ => dts_nil) (fun _ _ _ _ _ => (de_callTy false real_list call_list_of T.n_list (by rfl) (da_cons (de_ix (de_call (ok__law_unit T) (hr.mono (by decide)) T.g__law_unit T.F__law_unit.kp (b__law_unit T) (da_cons (de_var 1) da_nil)) (de_var 4)) da_nil))))) (dss_cons (ds_for (di_range1 T.n_range (da_cons (de_var 1) da_nil)) (dg_name sc__law_turn.nd) (dss_one (ds_if (dt_c c_eq (de_call (ok__law_take T 2) (hr.mono (by decide)) T.g__law_take T.F__law_take.kp (b__law_take T) (da_cons (de_var 0) (da_cons de_int da_nil))) de_int) (dss_one (ds_asg (de_lc false (ow := [("part", 10)]) sc__law_turn.nd (di_seq (de_ix (de_var 3) (de_var 4))) (blkOk_by (N := N__law_turn) (sc := defScope s__law_turn) (by decide +kernel)) (gw_name 10) (hm_name 10) (fun _ _ _ _ _ => pg_name (i := 10) sc__law_turn.nd rfl (by first | exact Or.inl rfl | exact Or.inr rfl)) (fun _ _ _ _ _ => dts_nil) (fun _ _ _ _ _ => (de_neg (de_var 10)))) (dg_sub (de_var 3) (de_var 4)))) dss_nil))) (dss_cons (ds_for (di_range1 T.n_range (da_cons (de_if (dt_c c_gt (de_var 1) de_int) (de_var 2) de_int) da_nil)) (dg_name sc__law_turn.nd) (dss_cons (ds_asg (de_tup (da_cons (de_call (ok__law_take T 2) (hr.mono (by decide)) T.g__law_take T.F__law_take.kp (b__law_take T) (da_cons (de_var 0) (da_cons (de_var 1) da_nil))) (da_cons (de_add false de_int (de_call (ok__law_take T 2) (hr.mono (by decide)) T.g__law_take T.F__law_take.kp (b__law_take T) (da_cons (de_var 0) (da_cons (de_sub (de_var 1) de_int) da_nil)))) da_nil))) (dg_tup (dgs_cons (dg_name sc__law_turn.nd) (dgs_cons (dg_name sc__law_turn.nd) dgs_nil)))) (dss_cons (ds_asg (de_tup (da_cons (de_mod (de_callTy false real_int call_int1 T.n_int (by rfl) (da_cons (de_add false (de_var 6) (de_var 7)) da_nil)) (de_var 1)) (da_cons (de_call (ok__law_pick T) (hr.mono (by decide)) T.g__law_pick T.F__law_pick.kp (b__law_pick T) (da_cons (de_var 0) (da_cons (de_lst false (da_cons de_int (da_cons (de_neg de_int) (da_cons de_int (da_cons (de_neg de_int) da_nil))))) da_nil))) da_nil))) (dg_tup (dgs_cons (dg_name sc__law_turn.nd) (dgs_cons (dg_name sc__law_turn.nd) dgs_nil)))) (dss_one (ds_asg (de_lc false (ow := [("j", 11)]) sc__law_turn.nd (di_range1 T.n_range (da_cons (de_var 1) da_nil)) (blkOk_by (N := N__law_turn) (sc := defScope s__law_turn) (by decide +kernel)) (gw_name 11) (hm_name 11) (fun _ _ _ _ _ => pg_name (i := 11) sc__law_turn.nd rfl (by first | exact Or.inl rfl | exact Or.inr rfl)) (fun _ _ _ _ _ => dts_nil) (fun _ _ _ _ _ => (de_add false (de_ix (de_ix (de_var 3) (de_var 6)) (de_var 11)) (de_mul false (de_var 9) (de_ix (de_ix (de_var 3) (de_var 8)) (de_var 11)))))) (dg_sub (de_var 3) (de_var 6))))))) (dss_one (ds_ret (de_call (ok__law_tuples T) (hr.mono (by decide)) T.g__law_tuples T.F__law_tuples.kp (b__law_tuples T) (da_cons (de_var 3) da_nil)))))))
theorem ok__law_skewed : FnOk PP w G.K mg base (L2.CX PP w) 5 T.f__law_skewed T.d__law_skewed ["pool", "form", "steps", "bound"] (spD G 4 Sh2.c__law_skewed) := fn_K (m := Sh2.m__law_skewed) T.F__law_skewed sc__law_skewed fun cdv A outer s H E hr => (dss_cons (ds_set (i := 4) sc__law_skewed.nd (de_call (ok__law_turn T) (hr.mono (by decide)) T.g__law_turn T.F__law_turn.kp (b__law_turn T) (da_cons (de_var 0) (da_cons (de_callB false real_len call_len T.n_len (by rfl) (da_cons (de_var 1) da_nil)) (da_cons (de_var 2) da_nil))))) (dss_cons (ds_for (di_range1 T.n_range (da_cons (de_add false (de_var 2) de_int) da_nil)) (dg_name sc__law_skewed.nd) (dss_cons (ds_set (i := 6) sc__law_skewed.nd (de_call (ok__law_moved T) (hr.mono (by decide)) T.g__law_moved T.F__law_moved.kp (b__law_moved T) (da_cons (de_var 4) (da_cons (de_var 1) da_nil)))) (dss_cons (ds_if (dt_c c_le (de_callB false real_maxL (cr_max rfl) T.n_max (by rfl) (da_cons (de_lc false (ow := [("row", 7)]) sc__law_skewed.nd (di_seq (de_var 6)) (blkOk_by (N := N__law_skewed) (sc := defScope s__law_skewed) (by decide +kernel)) (gw_name 7) (hm_name 7) (fun _ _ _ _ _ => pg_name (i := 7) sc__law_skewed.nd rfl (by first | exact Or.inl rfl | exact Or.inr rfl)) (fun _ _ _ _ _ => dts_nil) (fun _ _ _ _ _ => (de_callB false real_maxL (cr_max rfl) T.n_max (by rfl) (da_cons (de_lc false (ow := [("part", 8)]) sc__law_skewed.nd (di_seq (de_var 7)) (blkOk_by (by kernel_rfl)) (gw_name 8) (hm_name 8) (fun _ _ _ _ _ => pg_name (i := 8) sc__law_skewed.nd rfl (by first | exact Or.inl rfl | exact Or.inr rfl)) (fun _ _ _ _ _ => dts_nil) (fun _ _ _ _ _ => (de_callB false real_abs call_abs T.n_abs (by rfl) (da_cons (de_var 8) da_nil)))) da_nil)))) da_nil)) (de_var 3)) (dss_one (ds_ret (de_tup (da_cons (de_var 6) (da_cons (de_var 4) da_nil))))) dss_nil) (dss_one (ds_set (i := 4) sc__law_skewed.nd (de_call (ok__law_turn T) (hr.mono (by decide)) T.g__law_turn T.F__law_turn.kp (b__law_turn T) (da_cons (de_var 0) (da_cons (de_callB false real_len call_len T.n_len (by rfl) (da_cons (de_var 1) da_nil)) (da_cons (de_callB false real_max2 (call_max2 rfl) T.n_max (by rfl) (da_cons de_int (da_cons (de_sub (de_sub (de_var 2) (de_var 5)) de_int) da_nil))) da_nil))))))))) (dss_one (ds_ret (de_tup (da_cons (de_call (ok__law_moved T) (hr.mono (by decide)) T.g__law_moved T.F__law_moved.kp (b__law_moved T) (da_cons (de_var 4) (da_cons (de_var 1) da_nil))) (da_cons (de_var 4) da_nil)))))))
theorem ok__law_beside : FnOk PP w G.K mg base (L2.CX PP w) 1 T.f__law_beside T.d__law_beside ["one", "other"] (spD G 2 Sh2.c__law_beside) := fn_K (m := Sh2.m__law_beside) T.F__law_beside sc__law_beside fun cdv A outer s H E hr => (dss_cons (ds_asg (de_tup (da_cons (de_callB false real_len call_len T.n_len (by rfl) (da_cons (de_var 0) da_nil)) (da_cons (de_callB false real_len call_len T.n_len (by rfl) (da_cons (de_var 1) da_nil)) da_nil))) (dg_tup (dgs_cons (dg_name sc__law_beside.nd) (dgs_cons (dg_name sc__law_beside.nd) dgs_nil)))) (dss_one (ds_ret (de_callTy false real_tuple call_tuple_of T.n_tuple (by rfl) (da_cons (de_add false (de_lc false (ow := [("i", 4)]) sc__law_beside.nd (di_range1 T.n_range (da_cons (de_var 2) da_nil)) (blkOk_by (N := N__law_beside) (sc := defScope s__law_beside) (by decide +kernel)) (gw_name 4) (hm_name 4) (fun _ _ _ _ _ => pg_name (i := 4) sc__law_beside.nd rfl (by first | exact Or.inl rfl | exact Or.inr rfl)) (fun _ _ _ _ _ => dts_nil) (fun _ _ _ _ _ => (de_add false (de_callTy false real_tuple call_tuple_of T.n_tuple (by rfl) (da_cons (de_ix (de_var 0) (de_var 4)) da_nil)) (de_mulT false (de_tup (da_cons de_int da_nil)) (de_var 3))))) (de_lc false (ow := [("i", 4)]) sc__law_beside.nd (di_range1 T.n_range (da_cons (de_var 3) da_nil)) (blkOk_by (N := N__law_beside) (sc := defScope s__law_beside) (by decide +kernel)) (gw_name 4) (hm_name 4) (fun _ _ _ _ _ => pg_name (i := 4) sc__law_beside.nd rfl (by first | exact Or.inl rfl | exact Or.inr rfl)) (fun _ _ _ _ _ => dts_nil) (fun _ _ _ _ _ => (de_add false (de_mulT false (de_tup (da_cons de_int da_nil)) (de_var 2)) (de_callTy false real_tuple call_tuple_of T.n_tuple (by rfl) (da_cons (de_ix (de_var 1) (de_var 4)) da_nil)))))) da_nil)))))
theorem ok__law_no_form : FnOk PP w G.K mg base (L2.CX PP w) 5 T.f__law_no_form T.d__law_no_form ["pool", "form"] (spD G 2 Sh2.c__law_no_form) := fn_T (m := Sh2.m__law_no_form) T.F__law_no_form sc__law_no_form fun cdv A outer s H E hr => (dss_cons (ds_set (i := 2) sc__law_no_form.nd (de_callB false real_len call_len T.n_len (by rfl) (da_cons (de_var 1) da_nil))) (dss_cons (ds_setLc (j := 3) true (ow := [("row", 9)]) sc__law_no_form.nd (di_seq (de_var 1)) (blkOk_by (N := N__law_no_form) (sc := defScope s__law_no_form) (by decide +kernel)) (gw_name 9) (hm_name 9) (fun _ _ _ _ _ => pg_name (i := 9) sc__law_no_form.nd rfl (by first | exact Or.inl rfl | exact Or.inr rfl)) (fun _ _ _ _ _ => dts_nil) (fun _ _ _ _ _ => (de_callTy true real_list call_list_of T.n_list (by rfl) (da_cons (de_var 9) da_nil)))) (dss_cons (ds_set (i := 4) sc__law_no_form.nd (de_call (ok__law_take T 2) (hr.mono (by decide)) T.g__law_take T.F__law_take.kp (b__law_take T) (da_cons (de_var 0) (da_cons de_int da_nil)))) (dss_cons (ds_if (dt_w (dw_or (dt_c c_eq (de_var 4) de_int) (dw_or1 (dt_c c_lt (de_var 2) de_int)))) (dss_cons (ds_set (i := 5) sc__law_no_form.nd (de_lst false (da_cons de_non (da_cons de_int (da_cons de_str (da_cons de_dic (da_cons (de_lst false da_nil) (da_cons (de_tup da_nil) (da_cons (de_lst false (da_cons de_int da_nil)) (da_cons (de_lst false (da_cons (de_lst false (da_cons de_int (da_cons de_int da_nil))) da_nil)) (da_cons (de_lst false (da_cons (de_lst false (da_cons de_int da_nil)) (da_cons (de_lst false (da_cons de_int da_nil)) da_nil))) (da_cons (de_call (ok__law_unit T) (hr.mono (by decide)) T.g__law_unit T.F__law_unit.kp (b__law_unit T) (da_cons de_int da_nil)) (da_cons (de_mulT false (de_tup (da_cons de_non da_nil)) (de_var 2)) (da_cons (de_lst false (da_cons (de_lst false (da_cons de_bl da_nil)) da_nil)) (da_cons (de_lst false (da_cons (de_lst false (da_cons de_non da_nil)) da_nil)) (da_cons (de_add false (de_slice false (de_var 3) do_none (do_some (de_sub (de_var 2) de_int))) (de_lst false (da_cons (de_add false (de_ix (de_var 3) (de_sub (de_var 2) de_int)) (de_lst false (da_cons de_int da_nil))) da_nil))) da_nil)))))))))))))))) (dss_cons (ds_par (i := 6) (j := 7) sc__law_no_form.nd (da_cons (de_call (ok__law_take T 2) (hr.mono (by decide)) T.g__law_take T.F__law_take.kp (b__law_take T) (da_cons (de_var 0) (da_cons (de_var 2) da_nil))) (da_cons (de_call (ok__law_take T 2) (hr.mono (by decide)) T.g__law_take T.F__law_take.kp (b__law_take T) (da_cons (de_var 0) (da_cons (de_var 2) da_nil))) da_nil))) (dss_cons (ds_asg (de_call (ok__law_pick T) (hr.mono (by decide)) T.g__law_pick T.F__law_pick.kp (b__law_pick T) (da_cons (de_var 0) (da_cons (de_lst false (da_cons de_non (da_cons de_str (da_cons de_bl (da_cons (de_add false (de_pow de_int de_int) de_int) (da_cons (de_sub (de_neg (de_pow de_int de_int)) de_int) (da_cons (de_tup (da_cons de_int da_nil)) (da_cons (de_lst false (da_cons de_int da_nil)) da_nil)))))))) da_nil))) (dg_sub (de_ix (de_var 3) (de_var 6)) (de_var 7))) (dss_one (ds_ret (de_tup (da_cons (de_call (ok__law_pick T) (hr.mono (by decide)) T.g__law_pick T.F__law_pick.kp (b__law_pick T) (da_cons (de_var 0) (da_cons (de_add false (de_var 5) (de_lst false (da_cons (de_var 3) (da_cons (de_call (ok__law_tuples T) (hr.mono (by decide)) T.g__law_tuples T.F__law_tuples.kp (b__law_tuples T) (da_cons (de_var 3) da_nil)) (da_cons (de_var 3) (da_cons (de_var 3) da_nil)))))) da_nil))) (da_cons de_str da_nil)))))))) dss_nil) (dss_cons (ds_set (i := 6) sc__law_no_form.nd (de_call (ok__law_take T 2) (hr.mono (by decide)) T.g__law_take T.F__law_take.kp (b__law_take T) (da_cons (de_var 0) (da_cons (de_var 2) da_nil)))) (dss_cons (ds_set (i := 7) sc__law_no_form.nd (de_mod (de_callTy false real_int call_int1 T.n_int (by rfl) (da_cons (de_add false (de_add false (de_var 6) de_int) (de_call (ok__law_take T 2) (hr.mono (by decide)) T.g__law_take T.F__law_take.kp (b__law_take T) (da_cons (de_var 0) (da_cons (de_sub (de_var 2) de_int) da_nil)))) da_nil)) (de_var 2))) (dss_cons (ds_if (dt_c c_eq (de_var 4) de_int) (dss_cons (ds_asg (de_add false (de_ix (de_ix (de_var 3) (de_var 6)) (de_var 7)) (de_call (ok__law_pick T) (hr.mono (by decide)) T.g__law_pick T.F__law_pick.kp (b__law_pick T) (da_cons (de_var 0) (da_cons (de_lst false (da_cons de_int (da_cons (de_neg de_int) (da_cons de_int da_nil)))) da_nil)))) (dg_sub (de_ix (de_var 3) (de_var 6)) (de_var 7))) (dss_one (ds_ret (de_tup (da_cons (de_call (ok__law_handed T) (hr.mono (by decide)) T.g__law_handed T.F__law_handed.kp (b__law_handed T) (da_cons (de_var 0) (da_cons (de_var 3) da_nil))) (da_cons de_str da_nil)))))) dss_nil) (dss_cons (ds_asg (de_callTy true real_list call_list_of T.n_list (by rfl) (da_cons (de_ix (de_var 3) (de_var 6)) da_nil)) (dg_sub (de_var 3) (de_var 7))) (dss_cons (ds_for (di_range1 T.n_range (da_cons (de_var 2) da_nil)) (dg_name sc__law_no_form.nd) (dss_one (ds_asg (de_ix (de_ix (de_var 3) (de_var 8)) (de_var 6)) (dg_sub (de_ix (de_var 3) (de_var 8)) (de_var 7))))) (dss_one (ds_ret (de_tup (da_cons (de_call (ok__law_handed T) (hr.mono (by decide)) T.g__law_handed T.F__law_handed.kp (b__law_handed T) (da_cons (de_var 0) (da_cons (de_var 3) da_nil))) (da_cons de_str da_nil))))))))))))))
theorem ok__law_any_form : FnOk PP w G.K mg base (L2.CX PP w) 6 T.f__law_any_form T.d__law_any_form ["pool", "n", "bound"] (spD G 3 Sh2.c__law_any_form) := fn_K (m := Sh2.m__law_any_form) T.F__law_any_form sc__law_any_form fun cdv A outer s H E hr => (dss_cons (ds_set (i := 3) sc__law_any_form.nd de_non) (dss_cons (ds_set (i := 4) sc__law_any_form.nd de_int) (dss_cons (ds_set (i := 5) sc__law_any_form.nd (de_call (ok__law_pick T) (hr.mono (by decide)) T.g__law_pick T.F__law_pick.kp (b__law_pick T) (da_cons (de_var 0) (da_cons (de_lst false (da_cons de_int (da_cons de_int (da_cons de_int (da_cons de_int (da_cons de_int (da_cons de_int (da_cons de_int da_nil)))))))) da_nil)))) (dss_cons (ds_for (di_range1 T.n_range (da_cons (de_var 1) da_nil)) (dg_name sc__law_any_form.nd) (dss_cons (ds_if (dt_c c_eq (de_var 4) (de_var 1)) (dss_one ds_break) dss_nil) (dss_cons (ds_set (i := 7) sc__law_any_form.nd (de_call (ok__law_power T) (hr.mono (by decide)) T.g__law_power T.F__law_power.kp (b__law_power T) (da_cons (de_var 5) (da_cons (de_call (ok__law_pick T) (hr.mono (by decide)) T.g__law_pick T.F__law_pick.kp (b__law_pick T) (da_cons (de_var 0) (da_cons (de_lst false (da_cons de_int (da_cons de_int (da_cons de_int (da_cons de_int (da_cons de_int (da_cons de_int da_nil))))))) da_nil))) da_nil)))) (dss_cons (ds_if (dt_w (dw_and (dt_c c_gt (de_sub (de_var 1) (de_var 4)) de_int) (dw_and1 (dt_c c_eq (de_call (ok__law_take T 2) (hr.mono (by decide)) T.g__law_take T.F__law_take.kp (b__law_take T) (da_cons (de_var 0) (da_cons de_int da_nil))) de_int)))) (dss_cons (ds_par (i := 8) (j := 9) sc__law_any_form.nd (da_cons (de_call (ok__law_pick T) (hr.mono (by decide)) T.g__law_pick T.F__law_pick.kp (b__law_pick T) (da_cons (de_var 0) (da_cons (de_lst false (da_cons de_int (da_cons de_int (da_cons (de_neg de_int) (da_cons de_int da_nil))))) da_nil))) (da_cons (de_call (ok__law_pick T) (hr.mono (by decide)) T.g__law_pick T.F__law_pick.kp (b__law_pick T) (da_cons (de_var 0) (da_cons (de_lst false (da_cons de_int (da_cons de_int (da_cons de_int (da_cons (de_neg de_int) da_nil))))) da_nil))) da_nil))) (dss_one (ds_set (i := 10) sc__law_any_form.nd (de_tup (da_cons (de_tup (da_cons (de_mul false (de_mul false de_int (de_var 8)) (de_var 7)) (da_cons (de_var 7) da_nil))) (da_cons (de_tup (da_cons (de_var 7) (da_cons (de_mul false (de_mul false de_int (de_var 9)) (de_var 7)) da_nil))) da_nil)))))) (dss_one (ds_set (i := 10) sc__law_any_form.nd (de_tup (da_cons (de_tup (da_cons (de_mul false (de_call (ok__law_pick T) (hr.mono (by decide)) T.g__law_pick T.F__law_pick.kp (b__law_pick T) (da_cons (de_var 0) (da_cons (de_lst false (da_cons de_int (da_cons (de_neg de_int) (da_cons de_int (da_cons (de_neg de_int) (da_cons de_int (da_cons de_int (da_cons (de_neg de_int) (da_cons de_int (da_cons de_int (da_cons de_int (da_cons de_int da_nil)))))))))))) da_nil))) (de_var 7)) da_nil)) da_nil))))) (dss_cons (ds_set (i := 3) sc__law_any_form.nd (de_if (dt_c c_is (de_var 3) de_non) (de_var 10) (de_call (ok__law_beside T) (hr.mono (by decide)) T.g__law_beside T.F__law_beside.kp (b__law_beside T) (da_cons (de_var 3) (da_cons (de_var 10) da_nil))))) (dss_one (ds_set (i := 4) sc__law_any_form.nd (de_add false (de_var 4) (de_callB false real_len call_len T.n_len (by rfl) (da_cons (de_var 10) da_nil)))))))))) (dss_cons (ds_if (dt_c c_eq (de_call (ok__law_determinant T) (hr.mono (by decide)) T.g__law_determinant T.F__law_determinant.kp (b__law_determinant T) (da_cons (de_var 3) da_nil)) de_int) (dss_one (ds_set (i := 3) sc__law_any_form.nd (de_callTy false real_tuple call_tuple_of T.n_tuple (by rfl) (da_cons (de_lc false (ow := [("i", 11)]) sc__law_any_form.nd (di_range1 T.n_range (da_cons (de_var 1) da_nil)) (blkOk_by (N := N__law_any_form) (sc := defScope s__law_any_form) (by decide +kernel)) (gw_name 11) (hm_name 11) (fun _ _ _ _ _ => pg_name (i := 11) sc__law_any_form.nd rfl (by first | exact Or.inl rfl | exact Or.inr rfl)) (fun _ _ _ _ _ => dts_nil) (fun _ _ _ _ _ => (de_callTy false real_tuple call_tuple_of T.n_tuple (by rfl) (da_cons (de_lc false (ow := [("j", 12)]) sc__law_any_form.nd (di_range1 T.n_range (da_cons (de_var 1) da_nil)) (blkOk_by (by kernel_rfl)) (gw_name 12) (hm_name 12) (fun _ _ _ _ _ => pg_name (i := 12) sc__law_any_form.nd rfl (by first | exact Or.inl rfl | exact Or.inr rfl)) (fun _ _ _ _ _ => dts_nil) (fun _ _ _ _ _ => (de_callTy false real_int call_int1 T.n_int (by rfl) (da_cons (de_c c_eq (de_var 11) (de_var 12)) da_nil)))) da_nil)))) da_nil)))) dss_nil) (dss_one (ds_ret (de_ix (de_call (ok__law_skewed T) (hr.mono (by decide)) T.g__law_skewed T.F__law_skewed.kp (b__law_skewed T) (da_cons (de_var 0) (da_cons (de_var 3) (da_cons (de_call (ok__law_take T 2) (hr.mono (by decide)) T.g__law_take T.F__law_take.kp (b__law_take T) (da_cons (de_var 0) (da_cons de_int da_nil))) (da_cons (de_var 2) da_nil))))) de_int))))))))
theorem ok__law_cofactors : FnOk PP w G.K mg base (L2.CX PP w) 2 T.f__law_cofactors T.d__law_cofactors ["rows"] (spD G 1 c__law_cofactors) := fn_T (m := m__law_cofactors) T.F__law_cofactors sc__law_cofactors fun cdv A outer s H E hr => (dss_cons (ds_set (i := 1) sc__law_cofactors.nd (de_callB false real_len call_len T.n_len (by rfl) (da_cons (de_var 0) da_nil))) (dss_cons (ds_set (i := 2) sc__law_cofactors.nd (de_lst true da_nil)) (dss_cons (ds_for (di_range1 T.n_range (da_cons (de_var 1) da_nil)) (dg_name sc__law_cofactors.nd) (dss_cons (ds_set (i := 4) sc__law_cofactors.nd (de_lst true da_nil)) (dss_cons (ds_for (di_range1 T.n_range (da_cons (de_var 1) da_nil)) (dg_name sc__law_cofactors.nd) (dss_cons (ds_setLc (j := 6) false (ow := [("a", 7)]) sc__law_cofactors.nd (di_range1 T.n_range (da_cons (de_var 1) da_nil)) (blkOk_by (N := N__law_cofactors) (sc := defScope s__law_cofactors) (by decide +kernel)) (gw_name 7) (hm_name 7) (fun _ _ _ _ _ => pg_name (i := 7) sc__law_cofactors.nd rfl (by first | exact Or.inl rfl | exact Or.inr rfl)) (fun _ _ _ _ _ => dts_one (dt_c c_ne (de_var 7) (de_var 3))) (fun _ _ _ _ _ => (de_lc false (ow := [("b", 8)]) sc__law_cofactors.nd (di_range1 T.n_range (da_cons (de_var 1) da_nil)) (blkOk_by (by kernel_rfl)) (gw_name 8) (hm_name 8) (fun _ _ _ _ _ => pg_name (i := 8) sc__law_cofactors.nd rfl (by first | exact Or.inl rfl | exact Or.inr rfl)) (fun _ _ _ _ _ => dts_one (dt_c c_ne (de_var 8) (de_var 5))) (fun _ _ _ _ _ => (de_ix (de_ix (de_var 0) (de_var 7)) (de_var 8)))))) (dss_one (ds_expr (de_mt real_append mt_append PySem.F.slot_list_append PySem.F.type_list_append (de_var 4) (da_cons (de_mul false (de_sub de_int (de_mul false de_int (de_callTy false real_int call_int1 T.n_int (by rfl) (da_cons (de_mod (de_callTy false real_int call_int1 T.n_int (by rfl) (da_cons (de_add false (de_var 3) (de_var 5)) da_nil)) de_int) da_nil)))) (de_if (dt_tru (de_var 6)) (de_call (ok__law_determinant T) (hr.mono (by decide)) T.g__law_determinant T.F__law_determinant.kp (b__law_determinant T) (da_cons (de_var 6) da_nil)) de_int)) da_nil)))))) (dss_one (ds_expr (de_mt real_append mt_append PySem.F.slot_list_append PySem.F.type_list_append (de_var 2) (da_cons (de_var 4) da_nil))))))) (dss_one (ds_ret (de_var 2))))))
theorem ok__law_told : FnOk PP w G.K mg base (L2.CX PP w) 7 T.f__law_told T.d__law_told ["call", "form", "other"] (spD G 3 c__law_told) := fn_K (m := m__law_told) T.F__law_told sc__law_told fun cdv A outer s H E hr => (dss_one (ds_try sc__law_told.nd (fun W pn xe tk hp => (dss_cons (ds_if (dt_c c_eq (de_var 0) de_int) (dss_one (ds_ret (de_call (ok_moved T) (hr.mono (by decide)) T.g_moved T.F_moved.kp (b_moved T) (da_cons (de_var 1) (da_cons (de_var 2) da_nil))))) dss_nil) (dss_cons (ds_if (dt_c c_eq (de_var 0) de_int) (dss_one (ds_ret (de_call (ok_sum_of_forms T) (hr.mono (by decide)) T.g_sum_of_forms T.F_sum_of_forms.kp (b_sum_of_forms T) (da_cons (de_var 1) (da_cons (de_var 2) da_nil))))) dss_nil) (dss_one (ds_ret (de_if (dt_c c_eq (de_var 0) de_int) (de_call (ok_adjoint T) (hr.mono (by decide)) T.g_adjoint T.F_adjoint.kp (b_adjoint T) (da_cons (de_var 1) da_nil)) (de_call (ok_multiple T) (hr.mono (by decide)) T.g_multiple T.F_multiple.kp (b_multiple T) (da_cons (de_var 1) (da_cons (de_var 2) da_nil))))))))) (HdsD.cons ⟨by rfl, by decide, .inl T.g_FormError⟩ rfl rfl T.e_FormError (fun a oe pn cn dd ht hz hv => (dss_cons (ds_if (dt_tru (de_isX (v2 := .ref T.C_BadForm) (T.xc cn (mem_is_FormError ht)) hz hv (T.s_BadForm cn) T.n_isinstance (de_var 3) (fun u h => h) (pe_clsN T.g_BadForm))) (dss_one (ds_ret (de_tup (da_cons de_str (da_cons (de_fld (T.xc cn (mem_is_FormError ht)) (T.nf_reason cn (mem_is_FormError ht)) hz hv (de_var 3)) da_nil))))) dss_nil) (dss_one (ds_ret (de_if (dt_tru (de_isX (v2 := .ref T.C_BadTable) (T.xc cn (mem_is_FormError ht)) hz hv (T.s_BadTable cn) T.n_isinstance (de_var 3) (fun u h => h) (pe_clsN T.g_BadTable))) (de_tup (da_cons de_str da_nil)) (de_if (dt_tru (de_isX (v2 := .ref T.C_TooGreat) (T.xc cn (mem_is_FormError ht)) hz hv (T.s_TooGreat cn) T.n_isinstance (de_var 3) (fun u h => h) (pe_clsN T.g_TooGreat))) (de_tup (da_cons de_str da_nil)) (de_tup (da_cons de_str da_nil)))))))) HdsD.nil)))
theorem ok__law_adjoint : FnOk PP w G.K mg base (L2.CX PP w) 3 T.f__law_adjoint T.d__law_adjoint ["form"] (spD G 1 c__law_adjoint) := fn_K (m := m__law_adjoint) T.F__law_adjoint sc__law_adjoint fun cdv A outer s H E hr => (dss_cons (ds_asg (de_tup (da_cons (de_call (ok__law_cofactors T) (hr.mono (by decide)) T.g__law_cofactors T.F__law_cofactors.kp (b__law_cofactors T) (da_cons (de_var 0) da_nil)) (da_cons de_int da_nil))) (dg_tup (dgs_cons (dg_name sc__law_adjoint.nd) (dgs_cons (dg_name sc__law_adjoint.nd) dgs_nil)))) (dss_cons (ds_for (di_seq (de_var 1)) (dg_name sc__law_adjoint.nd) (dss_one (ds_for (di_seq (de_var 3)) (dg_name sc__law_adjoint.nd) (dss_one (ds_set (i := 2) sc__law_adjoint.nd (de_call (ok__law_common T) (hr.mono (by decide)) T.g__law_common T.F__law_common.kp (b__law_common T) (da_cons (de_var 2) (da_cons (de_var 4) da_nil)))))))) (dss_one (ds_ret (de_callTy false real_tuple call_tuple_of T.n_tuple (by rfl) (da_cons (de_lc false (ow := [("row", 3)]) sc__law_adjoint.nd (di_seq (de_var 1)) (blkOk_by (N := N__law_adjoint) (sc := defScope s__law_adjoint) (by decide +kernel)) (gw_name 3) (hm_name 3) (fun _ _ _ _ _ => pg_name (i := 3) sc__law_adjoint.nd rfl (by first | exact Or.inl rfl | exact Or.inr rfl)) (fun _ _ _ _ _ => dts_nil) (fun _ _ _ _ _ => (de_callTy false real_tuple call_tuple_of T.n_tuple (by rfl) (da_cons (de_lc false (ow := [("part", 4)]) sc__law_adjoint.nd (di_seq (de_var 3)) (blkOk_by (by kernel_rfl)) (gw_name 4) (hm_name 4) (fun _ _ _ _ _ => pg_name (i := 4) sc__law_adjoint.nd rfl (by first | exact Or.inl rfl | exact Or.inr rfl)) (fun _ _ _ _ _ => dts_nil) (fun _ _ _ _ _ => (de_callTy false real_int call_int1 T.n_int (by rfl) (da_cons (de_div (de_var 4) (de_var 2)) da_nil)))) da_nil)))) da_nil))))))
theorem ok__law_so : FnOk PP w G.K mg base (L2.CX PP w) 10 T.f__law_so T.d__law_so ["pool", "n"] (spD G 2 c__law_so) := fn_K (m := m__law_so) T.F__law_so sc__law_so fun cdv A outer s H E hr => (dss_cons (ds_set (i := 2) sc__law_so.nd (de_call (ok__law_any_form T) (hr.mono (by decide)) T.g__law_any_form T.F__law_any_form.kp (b__law_any_form T) (da_cons (de_var 0) (da_cons (de_var 1) (da_cons (de_pow de_int de_int) da_nil))))) (dss_cons (ds_set (i := 3) sc__law_so.nd (de_call (ok__law_handed T) (hr.mono (by decide)) T.g__law_handed T.F__law_handed.kp (b__law_handed T) (da_cons (de_var 0) (da_cons (de_var 2) da_nil)))) (dss_cons (ds_setLc (j := 4) false (ow := [("i", 12)]) sc__law_so.nd (di_range1 T.n_range (da_cons (de_var 1) da_nil)) (blkOk_by (N := N__law_so) (sc := defScope s__law_so) (by decide +kernel)) (gw_name 12) (hm_name 12) (fun _ _ _ _ _ => pg_name (i := 12) sc__law_so.nd rfl (by first | exact Or.inl rfl | exact Or.inr rfl)) (fun _ _ _ _ _ => dts_nil) (fun _ _ _ _ _ => (de_lc false (ow := [("j", 13)]) sc__law_so.nd (di_range1 T.n_range (da_cons (de_var 1) da_nil)) (blkOk_by (by kernel_rfl)) (gw_name 13) (hm_name 13) (fun _ _ _ _ _ => pg_name (i := 13) sc__law_so.nd rfl (by first | exact Or.inl rfl | exact Or.inr rfl)) (fun _ _ _ _ _ => dts_nil) (fun _ _ _ _ _ => (de_sub (de_call (ok__law_take T 2) (hr.mono (by decide)) T.g__law_take T.F__law_take.kp (b__law_take T) (da_cons (de_var 0) (da_cons de_int da_nil))) de_int))))) (dss_cons (ds_if (dt_not (dt_tru (de_call (ok__law_same T 8) (hr.mono (by decide)) T.g__law_same T.F__law_same.kp (b__law_same T) (da_cons (de_call (ok__law_told T) (hr.mono (by decide)) T.g__law_told T.F__law_told.kp (b__law_told T) (da_cons de_int (da_cons (de_var 3) (da_cons (de_call (ok__law_handed T) (hr.mono (by decide)) T.g__law_handed T.F__law_handed.kp (b__law_handed T) (da_cons (de_var 0) (da_cons (de_var 4) da_nil))) da_nil)))) (da_cons (de_call (ok__law_moved T) (hr.mono (by decide)) T.g__law_moved T.F__law_moved.kp (b__law_moved T) (da_cons (de_var 4) (da_cons (de_var 2) da_nil))) da_nil))))) (dss_one (ds_ret de_bl)) dss_nil) (dss_cons (ds_set (i := 5) sc__law_so.nd (de_call (ok__law_pick T) (hr.mono (by decide)) T.g__law_pick T.F__law_pick.kp (b__law_pick T) (da_cons (de_var 0) (da_cons (de_lst false (da_cons de_int (da_cons (de_neg de_int) (da_cons de_int (da_cons (de_neg de_int) (da_cons (de_pow de_int de_int) (da_cons de_int da_nil))))))) da_nil)))) (dss_cons (ds_if (dt_not (dt_tru (de_call (ok__law_same T 8) (hr.mono (by decide)) T.g__law_same T.F__law_same.kp (b__law_same T) (da_cons (de_call (ok__law_told T) (hr.mono (by decide)) T.g__law_told T.F__law_told.kp (b__law_told T) (da_cons de_int (da_cons (de_var 3) (da_cons (de_var 5) da_nil)))) (da_cons (de_callTy false real_tuple call_tuple_of T.n_tuple (by rfl) (da_cons (de_lc false (ow := [("row", 14)]) sc__law_so.nd (di_seq (de_var 2)) (blkOk_by (N := N__law_so) (sc := defScope s__law_so) (by decide +kernel)) (gw_name 14) (hm_name 14) (fun _ _ _ _ _ => pg_name (i := 14) sc__law_so.nd rfl (by first | exact Or.inl rfl | exact Or.inr rfl)) (fun _ _ _ _ _ => dts_nil) (fun _ _ _ _ _ => (de_callTy false real_tuple call_tuple_of T.n_tuple (by rfl) (da_cons (de_lc false (ow := [("part", 15)]) sc__law_so.nd (di_seq (de_var 14)) (blkOk_by (by kernel_rfl)) (gw_name 15) (hm_name 15) (fun _ _ _ _ _ => pg_name (i := 15) sc__law_so.nd rfl (by first | exact Or.inl rfl | exact Or.inr rfl)) (fun _ _ _ _ _ => dts_nil) (fun _ _ _ _ _ => (de_mul false (de_var 5) (de_var 15)))) da_nil)))) da_nil)) da_nil))))) (dss_one (ds_ret de_bl)) dss_nil) (dss_cons (ds_set (i := 6) sc__law_so.nd (de_call (ok__law_any_form T) (hr.mono (by decide)) T.g__law_any_form T.F__law_any_form.kp (b__law_any_form T) (da_cons (de_var 0) (da_cons (de_add false de_int (de_call (ok__law_take T 2) (hr.mono (by decide)) T.g__law_take T.F__law_take.kp (b__law_take T) (da_cons (de_var 0) (da_cons de_int da_nil)))) (da_cons (de_pow de_int de_int) da_nil))))) (dss_cons (ds_set (i := 7) sc__law_so.nd (de_if (dt_c c_le (de_add false (de_var 1) (de_callB false real_len call_len T.n_len (by rfl) (da_cons (de_var 6) da_nil))) de_int) (de_call (ok__law_beside T) (hr.mono (by decide)) T.g__law_beside T.F__law_beside.kp (b__law_beside T) (da_cons (de_var 2) (da_cons (de_var 6) da_nil))) (de_tup (da_cons de_str da_nil)))) (dss_cons (ds_if (dt_not (dt_tru (de_call (ok__law_same T 8) (hr.mono (by decide)) T.g__law_same T.F__law_same.kp (b__law_same T) (da_cons (de_call (ok__law_told T) (hr.mono (by decide)) T.g__law_told T.F__law_told.kp (b__law_told T) (da_cons de_int (da_cons (de_var 3) (da_cons (de_call (ok__law_handed T) (hr.mono (by decide)) T.g__law_handed T.F__law_handed.kp (b__law_handed T) (da_cons (de_var 0) (da_cons (de_var 6) da_nil))) da_nil)))) (da_cons (de_var 7) da_nil))))) (dss_one (ds_ret de_bl)) dss_nil) (dss_cons (ds_set (i := 8) sc__law_so.nd (de_call (ok__law_pick T) (hr.mono (by decide)) T.g__law_pick T.F__law_pick.kp (b__law_pick T) (da_cons (de_var 0) (da_cons (de_lst false (da_cons de_non (da_cons de_int (da_cons (de_slice false (de_var 4) (do_some de_int) do_none) (da_cons (de_add false (de_var 4) (de_slice false (de_var 4) do_none (do_some de_int))) (da_cons (de_lc false (ow := [("row", 14)]) sc__law_so.nd (di_seq (de_var 4)) (blkOk_by (N := N__law_so) (sc := defScope s__law_so) (by decide +kernel)) (gw_name 14) (hm_name 14) (fun _ _ _ _ _ => pg_name (i := 14) sc__law_so.nd rfl (by first | exact Or.inl rfl | exact Or.inr rfl)) (fun _ _ _ _ _ => dts_nil) (fun _ _ _ _ _ => (de_add false (de_var 14) (de_lst false (da_cons de_int da_nil))))) (da_cons (de_mul false (de_lst false (da_cons (de_mul false (de_lst false (da_cons de_non da_nil)) (de_var 1)) da_nil)) (de_var 1)) (da_cons (de_mul false (de_lst false (da_cons (de_mul false (de_lst false (da_cons de_bl da_nil)) (de_var 1)) da_nil)) (de_var 1)) (da_cons de_str da_nil))))))))) da_nil)))) (dss_cons (ds_asg (de_call (ok__law_no_form T) (hr.mono (by decide)) T.g__law_no_form T.F__law_no_form.kp (b__law_no_form T) (da_cons (de_var 0) (da_cons (de_var 2) da_nil))) (dg_tup (dgs_cons (dg_name sc__law_so.nd) (dgs_cons (dg_name sc__law_so.nd) dgs_nil)))) (dss_cons (ds_set (i := 11) sc__law_so.nd (de_lst false (da_cons (de_call (ok__law_told T) (hr.mono (by decide)) T.g__law_told T.F__law_told.kp (b__law_told T) (da_cons de_int (da_cons (de_var 3) (da_cons (de_var 8) da_nil)))) (da_cons (de_call (ok__law_told T) (hr.mono (by decide)) T.g__law_told T.F__law_told.kp (b__law_told T) (da_cons de_int (da_cons (de_var 9) (da_cons (de_var 8) da_nil)))) (da_cons (de_call (ok__law_told T) (hr.mono (by decide)) T.g__law_told T.F__law_told.kp (b__law_told T) (da_cons de_int (da_cons (de_var 9) (da_cons de_non da_nil)))) (da_cons (de_call (ok__law_told T) (hr.mono (by decide)) T.g__law_told T.F__law_told.kp (b__law_told T) (da_cons de_int (da_cons (de_var 2) (da_cons (de_var 9) da_nil)))) (da_cons (de_call (ok__law_told T) (hr.mono (by decide)) T.g__law_told T.F__law_told.kp (b__law_told T) (da_cons de_int (da_cons (de_var 9) (da_cons de_non da_nil)))) (da_cons (de_call (ok__law_told T) (hr.mono (by decide)) T.g__law_told T.F__law_told.kp (b__law_told T) (da_cons de_int (da_cons (de_var 9) (da_cons de_int da_nil)))) da_nil)))))))) (dss_one (ds_ret (de_call (ok__law_same T 8) (hr.mono (by decide)) T.g__law_same T.F__law_same.kp (b__law_same T) (da_cons (de_var 11) (da_cons (de_add false (de_lst false (da_cons (de_tup (da_cons de_str da_nil)) da_nil)) (de_mul false (de_lst false (da_cons (de_tup (da_cons de_str (da_cons (de_var 10) da_nil))) da_nil)) de_int)) da_nil)))))))))))))))))
theorem ok__law_adjoints_so : FnOk PP w G.K mg base (L2.CX PP w) 10 T.f__law_adjoints_so T.d__law_adjoints_so ["pool", "n"] (spD G 2 c__law_adjoints_so) := fn_K (m := m__law_adjoints_so) T.F__law_adjoints_so sc__law_adjoints_so fun cdv A outer s H E hr => (dss_cons (ds_set (i := 2) sc__law_adjoints_so.nd (de_call (ok__law_any_form T) (hr.mono (by decide)) T.g__law_any_form T.F__law_any_form.kp (b__law_any_form T) (da_cons (de_var 0) (da_cons (de_var 1) (da_cons de_int da_nil))))) (dss_cons (ds_set (i := 3) sc__law_adjoints_so.nd (de_call (ok__law_told T) (hr.mono (by decide)) T.g__law_told T.F__law_told.kp (b__law_told T) (da_cons de_int (da_cons (de_call (ok__law_handed T) (hr.mono (by decide)) T.g__law_handed T.F__law_handed.kp (b__law_handed T) (da_cons (de_var 0) (da_cons (de_var 2) da_nil))) (da_cons de_non da_nil))))) (dss_cons (ds_if (dt_c c_eq (de_var 1) de_int) (dss_one (ds_ret (de_c c_is (de_var 3) de_non))) dss_nil) (dss_cons (ds_if (dt_not (dt_tru (de_call (ok__law_same T 8) (hr.mono (by decide)) T.g__law_same T.F__law_same.kp (b__law_same T) (da_cons (de_var 3) (da_cons (de_call (ok__law_adjoint T) (hr.mono (by decide)) T.g__law_adjoint T.F__law_adjoint.kp (b__law_adjoint T) (da_cons (de_var 2) da_nil)) da_nil))))) (dss_one (ds_ret de_bl)) dss_nil) (dss_cons (ds_if (dt_c c_le (de_callB false real_maxL (cr_max rfl) T.n_max (by rfl) (da_cons (de_lc false (ow := [("row", 5)]) sc__law_adjoints_so.nd (di_seq (de_var 3)) (blkOk_by (N := N__law_adjoints_so) (sc := defScope s__law_adjoints_so) (by decide +kernel)) (gw_name 5) (hm_name 5) (fun _ _ _ _ _ => pg_name (i := 5) sc__law_adjoints_so.nd rfl (by first | exact Or.inl rfl | exact Or.inr rfl)) (fun _ _ _ _ _ => dts_nil) (fun _ _ _ _ _ => (de_callB false real_maxL (cr_max rfl) T.n_max (by rfl) (da_cons (de_lc false (ow := [("part", 6)]) sc__law_adjoints_so.nd (di_seq (de_var 5)) (blkOk_by (by kernel_rfl)) (gw_name 6) (hm_name 6) (fun _ _ _ _ _ => pg_name (i := 6) sc__law_adjoints_so.nd rfl (by first | exact Or.inl rfl | exact Or.inr rfl)) (fun _ _ _ _ _ => dts_nil) (fun _ _ _ _ _ => (de_callB false real_abs call_abs T.n_abs (by rfl) (da_cons (de_var 6) da_nil)))) da_nil)))) da_nil)) (de_pow de_int de_int)) (dss_cons (ds_set (i := 4) sc__law_adjoints_so.nd de_int) (dss_cons (ds_for (di_seq (de_var 2)) (dg_name sc__law_adjoints_so.nd) (dss_one (ds_for (di_seq (de_var 5)) (dg_name sc__law_adjoints_so.nd) (dss_one (ds_set (i := 4) sc__law_adjoints_so.nd (de_call (ok__law_common T) (hr.mono (by decide)) T.g__law_common T.F__law_common.kp (b__law_common T) (da_cons (de_var 4) (da_cons (de_var 6) da_nil)))))))) (dss_cons (ds_set (i := 7) sc__law_adjoints_so.nd (de_if (dt_w (dw_and (dt_c c_lt (de_call (ok__law_determinant T) (hr.mono (by decide)) T.g__law_determinant T.F__law_determinant.kp (b__law_determinant T) (da_cons (de_var 2) da_nil)) de_int) (dw_and1 (dt_c c_eq (de_mod (de_callTy false real_int call_int1 T.n_int (by rfl) (da_cons (de_var 1) da_nil)) de_int) de_int)))) (de_neg de_int) de_int)) (dss_one (ds_if (dt_not (dt_tru (de_call (ok__law_same T 8) (hr.mono (by decide)) T.g__law_same T.F__law_same.kp (b__law_same T) (da_cons (de_call (ok_adjoint T) (hr.mono (by decide)) T.g_adjoint T.F_adjoint.kp (b_adjoint T) (da_cons (de_var 3) da_nil)) (da_cons (de_callTy false real_tuple call_tuple_of T.n_tuple (by rfl) (da_cons (de_lc false (ow := [("row", 5)]) sc__law_adjoints_so.nd (di_seq (de_var 2)) (blkOk_by (N := N__law_adjoints_so) (sc := defScope s__law_adjoints_so) (by decide +kernel)) (gw_name 5) (hm_name 5) (fun _ _ _ _ _ => pg_name (i := 5) sc__law_adjoints_so.nd rfl (by first | exact Or.inl rfl | exact Or.inr rfl)) (fun _ _ _ _ _ => dts_nil) (fun _ _ _ _ _ => (de_callTy false real_tuple call_tuple_of T.n_tuple (by rfl) (da_cons (de_lc false (ow := [("part", 6)]) sc__law_adjoints_so.nd (di_seq (de_var 5)) (blkOk_by (by kernel_rfl)) (gw_name 6) (hm_name 6) (fun _ _ _ _ _ => pg_name (i := 6) sc__law_adjoints_so.nd rfl (by first | exact Or.inl rfl | exact Or.inr rfl)) (fun _ _ _ _ _ => dts_nil) (fun _ _ _ _ _ => (de_callTy false real_int call_int1 T.n_int (by rfl) (da_cons (de_div (de_mul false (de_var 7) (de_var 6)) (de_var 4)) da_nil)))) da_nil)))) da_nil)) da_nil))))) (dss_one (ds_ret de_bl)) dss_nil))))) dss_nil) (dss_one (ds_ret de_bl)))))))
theorem ok_law (hl : ∀ ns : List Int, ns.length ≤ 63 → ∃ M, m_law (startD N_law [.scr ns]) [] = .rt (.bl true) M) : FnOk PP w G.K mg base CX0 11 T.f_law T.d_law ["script"] (spLaw G) := fn_law (m := m_law) T.F_law sc_law (fun cdv A outer s H E hr => (dss_cons (ds_set (i := 1) sc_law.nd (de_call (ok__law_pool T) (hr.mono (by decide)) T.g__law_pool T.F__law_pool.kp (b__law_pool T) (da_cons (de_var 0) da_nil))) (dss_cons (ds_for (di_range1 T.n_range (da_cons de_int da_nil)) (dg_name sc_law.nd) (dss_one (ds_if (dt_w (dw_or (dt_not (dt_tru (de_call (ok__law_so T) (hr.mono (by decide)) T.g__law_so T.F__law_so.kp (b__law_so T) (da_cons (de_var 1) (da_cons (de_add false de_int (de_call (ok__law_take T 2) (hr.mono (by decide)) T.g__law_take T.F__law_take.kp (b__law_take T) (da_cons (de_var 1) (da_cons de_int da_nil)))) da_nil))))) (dw_or1 (dt_not (dt_tru (de_call (ok__law_adjoints_so T) (hr.mono (by decide)) T.g__law_adjoints_so T.F__law_adjoints_so.kp (b__law_adjoints_so T) (da_cons (de_var 1) (da_cons (de_add false de_int (de_call (ok__law_take T 2) (hr.mono (by decide)) T.g__law_take T.F__law_take.kp (b__law_take T) (da_cons (de_var 1) (da_cons de_int da_nil)))) da_nil)))))))) (dss_one (ds_ret de_bl)) dss_nil))) (dss_one (ds_ret de_bl))))) hl
end
def Xs (K : PySem.W.Frag) : Prop := ∃ C_BadForm C_BadTable C_FormError C_TooGreat, Exc0 K "BadForm" C_BadForm ∧ Exc1 K "BadTable" C_BadTable ∧ Exc1 K "FormError" C_FormError ∧ Exc1 K "TooGreat" C_TooGreat ∧ PySem.W.subIn K (.ref C_BadForm) (.ref C_BadForm) = some true ∧ PySem.W.subIn K (.ref C_BadForm) (.ref C_BadTable) = some false ∧ PySem.W.subIn K (.ref C_BadForm) (.ref C_FormError) = some true ∧ PySem.W.subIn K (.ref C_BadForm) (.ref C_TooGreat) = some false ∧ PySem.W.subIn K (.ref C_BadTable) (.ref C_BadForm) = some false ∧ PySem.W.subIn K (.ref C_BadTable) (.ref C_BadTable) = some true ∧ PySem.W.subIn K (.ref C_BadTable) (.ref C_FormError) = some true ∧ PySem.W.subIn K (.ref C_BadTable) (.ref C_TooGreat) = some false ∧ PySem.W.subIn K (.ref C_FormError) (.ref C_BadForm) = some false ∧ PySem.W.subIn K (.ref C_FormError) (.ref C_BadTable) = some false ∧ PySem.W.subIn K (.ref C_FormError) (.ref C_FormError) = some true ∧ PySem.W.subIn K (.ref C_FormError) (.ref C_TooGreat) = some false ∧ PySem.W.subIn K (.ref C_TooGreat) (.ref C_BadForm) = some false ∧ PySem.W.subIn K (.ref C_TooGreat) (.ref C_BadTable) = some false ∧ PySem.W.subIn K (.ref C_TooGreat) (.ref C_FormError) = some true ∧ PySem.W.subIn K (.ref C_TooGreat) (.ref C_TooGreat) = some true ∧ SupF K C_BadForm PP.main.file "reason" "reason" (initOf cs_BadForm) ∧ PySem.W.findIn K (.ref C_BadForm) "reason" = some none ∧ PySem.W.findIn K (.ref C_BadTable) "reason" = some none ∧ PySem.W.findIn K (.ref C_FormError) "reason" = some none ∧ PySem.W.findIn K (.ref C_TooGreat) "reason" = some none
theorem Xs.mk1 {K : PySem.W.Frag} {h : Heap} (X : K.In h) {C_BadForm C_BadTable C_FormError C_TooGreat : Addr} (e_BadForm : Exc0 K "BadForm" C_BadForm) (e_BadTable : Exc1 K "BadTable" C_BadTable) (e_FormError : Exc1 K "FormError" C_FormError) (e_TooGreat : Exc1 K "TooGreat" C_TooGreat) (s_BadForm_BadForm : PySem.W.subIn K (.ref C_BadForm) (.ref C_BadForm) = some true) (s_BadForm_BadTable : PySem.W.subIn K (.ref C_BadForm) (.ref C_BadTable) = some false) (s_BadForm_FormError : PySem.W.subIn K (.ref C_BadForm) (.ref C_FormError) = some true) (s_BadForm_TooGreat : PySem.W.subIn K (.ref C_BadForm) (.ref C_TooGreat) = some false) (s_BadTable_BadForm : PySem.W.subIn K (.ref C_BadTable) (.ref C_BadForm) = some false) (s_BadTable_BadTable : PySem.W.subIn K (.ref C_BadTable) (.ref C_BadTable) = some true) (s_BadTable_FormError : PySem.W.subIn K (.ref C_BadTable) (.ref C_FormError) = some true) (s_BadTable_TooGreat : PySem.W.subIn K (.ref C_BadTable) (.ref C_TooGreat) = some false) (s_FormError_BadForm : PySem.W.subIn K (.ref C_FormError) (.ref C_BadForm) = some false) (s_FormError_BadTable : PySem.W.subIn K (.ref C_FormError) (.ref C_BadTable) = some false) (s_FormError_FormError : PySem.W.subIn K (.ref C_FormError) (.ref C_FormError) = some true) (s_FormError_TooGreat : PySem.W.subIn K (.ref C_FormError) (.ref C_TooGreat) = some false) (s_TooGreat_BadForm : PySem.W.subIn K (.ref C_TooGreat) (.ref C_BadForm) = some false) (s_TooGreat_BadTable : PySem.W.subIn K (.ref C_TooGreat) (.ref C_BadTable) = some false) (s_TooGreat_FormError : PySem.W.subIn K (.ref C_TooGreat) (.ref C_FormError) = some true) (s_TooGreat_TooGreat : PySem.W.subIn K (.ref C_TooGreat) (.ref C_TooGreat) = some true) (su_BadForm : SupF K C_BadForm PP.main.file "reason" "reason" (initOf cs_BadForm)) (nf_BadForm_reason : PySem.W.findIn K (.ref C_BadForm) "reason" = some none) (nf_BadTable_reason : PySem.W.findIn K (.ref C_BadTable) "reason" = some none) (nf_FormError_reason : PySem.W.findIn K (.ref C_FormError) "reason" = some none) (nf_TooGreat_reason : PySem.W.findIn K (.ref C_TooGreat) "reason" = some none) : Xs K := ⟨C_BadForm, C_BadTable, C_FormError, C_TooGreat, e_BadForm, e_BadTable, e_FormError, e_TooGreat, s_BadForm_BadForm, s_BadForm_BadTable, s_BadForm_FormError, s_BadForm_TooGreat, s_BadTable_BadForm, s_BadTable_BadTable, s_BadTable_FormError, s_BadTable_TooGreat, s_FormError_BadForm, s_FormError_BadTable, s_FormError_FormError, s_FormError_TooGreat, s_TooGreat_BadForm, s_TooGreat_BadTable, s_TooGreat_FormError, s_TooGreat_TooGreat, su_BadForm, nf_BadForm_reason, nf_BadTable_reason, nf_FormError_reason, nf_TooGreat_reason⟩
structure Facts (K : PySem.W.Frag) : Prop where
  d_is_whole : Def1 K "is_whole" s_is_whole
  d_is_row : Def1 K "is_row" s_is_row
  d_is_whole_row : Def1 K "is_whole_row" s_is_whole_row
  d_is_square : Def1 K "is_square" s_is_square
  d_dot : Def1 K "dot" s_dot
  d_turned_over : Def1 K "turned_over" s_turned_over
  d_times : Def1 K "times" s_times
  d_moved_by : Def1 K "moved_by" s_moved_by
  d_as_tuples : Def1 K "as_tuples" s_as_tuples
  d_determinant_of : Def1 K "determinant_of" s_determinant_of
  d_cofactors : Def1 K "cofactors" s_cofactors
  d_beside : Def1 K "beside" s_beside
  d_fault_of : Def1 K "fault_of" s_fault_of
  d_told_form : Def1 K "told_form" s_told_form
  d_told_table : Def1 K "told_table" s_told_table
  d_moved : Def1 K "moved" s_moved
  d_sum_of_forms : Def1 K "sum_of_forms" s_sum_of_forms
  d_multiple : Def1 K "multiple" s_multiple
  d_adjoint : Def1 K "adjoint" s_adjoint
  d__law_pool : Def1 K "_law_pool" s__law_pool
  d__law_take : Def1 K "_law_take" s__law_take
  d__law_pick : Def1 K "_law_pick" s__law_pick
  d__law_is_integer : Def1 K "_law_is_integer" s__law_is_integer
  d__law_same : Def1 K "_law_same" s__law_same
  d__law_order : Def1 K "_law_order" s__law_order
  d__law_power : Def1 K "_law_power" s__law_power
  d__law_common : Def1 K "_law_common" s__law_common
  d__law_determinant : Def1 K "_law_determinant" s__law_determinant
  d__law_tuples : Def1 K "_law_tuples" s__law_tuples
  d__law_handed : Def1 K "_law_handed" s__law_handed
  d__law_dot : Def1 K "_law_dot" s__law_dot
  d__law_moved : Def1 K "_law_moved" s__law_moved
  d__law_unit : Def1 K "_law_unit" s__law_unit
  d__law_turn : Def1 K "_law_turn" s__law_turn
  d__law_skewed : Def1 K "_law_skewed" s__law_skewed
  d__law_beside : Def1 K "_law_beside" s__law_beside
  d__law_no_form : Def1 K "_law_no_form" s__law_no_form
  d__law_any_form : Def1 K "_law_any_form" s__law_any_form
  d__law_cofactors : Def1 K "_law_cofactors" s__law_cofactors
  d__law_told : Def1 K "_law_told" s__law_told
  d__law_adjoint : Def1 K "_law_adjoint" s__law_adjoint
  d__law_so : Def1 K "_law_so" s__law_so
  d__law_adjoints_so : Def1 K "_law_adjoints_so" s__law_adjoints_so
  d_law : Def1 K "law" s_law
  n_abs : No1 K "abs"
  n_all : No1 K "all"
  n_any : No1 K "any"
  n_bool : No1 K "bool"
  n_enumerate : No1 K "enumerate"
  n_int : No1 K "int"
  n_isinstance : No1 K "isinstance"
  n_len : No1 K "len"
  n_list : No1 K "list"
  n_max : No1 K "max"
  n_range : No1 K "range"
  n_str : No1 K "str"
  n_sum : No1 K "sum"
  n_tuple : No1 K "tuple"
  n_zip : No1 K "zip"
  i_gcd : Blt1 K "gcd" "math.gcd"
  v_MOST_NUMBER : Int1 K "MOST_NUMBER" (1000000000000000000000000000000)
  v_MOST_VARIABLES : Int1 K "MOST_VARIABLES" (8)
  xs : Xs K
  tb_fault_of : TabF K "fault_of"
  nt : PySem.W.noTabs K = true
theorem txt_mk {K : PySem.W.Frag} {h : Heap} {mg : Str → Option Value} (F : Facts K) (X : K.In h) (g : h.Ns mainGlobals mg) (TT : ∀ y ∈ tabNs, ∀ c Q, PySem.W.tabIn K y = some (c, Q) → PySem.W.CodeHd h c Q ∧ h.get? Q = some (PySem.W.tabObj #[])) : ∃ (G : Gd) (cs : List (Addr × Addr)), G.K = K ∧ G.tabs = cs.map (·.2) ∧ (∀ p ∈ cs, PySem.W.CodeHd h p.1 p.2 ∧ h.get? p.2 = some (PySem.W.tabObj #[])) ∧ ∀ base : Heap, (∀ p ∈ cs, GxR.TabB base mg p.1 p.2) → Nonempty (Txt base G mg) := by
  obtain ⟨cT_fault_of, pT_fault_of, tI_fault_of⟩ := F.tb_fault_of
  obtain ⟨f_is_whole, d_is_whole, F_is_whole, g_is_whole⟩ := F.d_is_whole.get X g
  obtain ⟨f_is_row, d_is_row, F_is_row, g_is_row⟩ := F.d_is_row.get X g
  obtain ⟨f_is_whole_row, d_is_whole_row, F_is_whole_row, g_is_whole_row⟩ := F.d_is_whole_row.get X g
  obtain ⟨f_is_square, d_is_square, F_is_square, g_is_square⟩ := F.d_is_square.get X g
  obtain ⟨f_dot, d_dot, F_dot, g_dot⟩ := F.d_dot.get X g
  obtain ⟨f_turned_over, d_turned_over, F_turned_over, g_turned_over⟩ := F.d_turned_over.get X g
  obtain ⟨f_times, d_times, F_times, g_times⟩ := F.d_times.get X g
  obtain ⟨f_moved_by, d_moved_by, F_moved_by, g_moved_by⟩ := F.d_moved_by.get X g
  obtain ⟨f_as_tuples, d_as_tuples, F_as_tuples, g_as_tuples⟩ := F.d_as_tuples.get X g
  obtain ⟨f_determinant_of, d_determinant_of, F_determinant_of, g_determinant_of⟩ := F.d_determinant_of.get X g
  obtain ⟨f_cofactors, d_cofactors, F_cofactors, g_cofactors⟩ := F.d_cofactors.get X g
  obtain ⟨f_beside, d_beside, F_beside, g_beside⟩ := F.d_beside.get X g
  obtain ⟨f_fault_of, d_fault_of, F_fault_of, g_fault_of⟩ := F.d_fault_of.get X g
  obtain ⟨f_told_form, d_told_form, F_told_form, g_told_form⟩ := F.d_told_form.get X g
  obtain ⟨f_told_table, d_told_table, F_told_table, g_told_table⟩ := F.d_told_table.get X g
  obtain ⟨f_moved, d_moved, F_moved, g_moved⟩ := F.d_moved.get X g
  obtain ⟨f_sum_of_forms, d_sum_of_forms, F_sum_of_forms, g_sum_of_forms⟩ := F.d_sum_of_forms.get X g
  obtain ⟨f_multiple, d_multiple, F_multiple, g_multiple⟩ := F.d_multiple.get X g
  obtain ⟨f_adjoint, d_adjoint, F_adjoint, g_adjoint⟩ := F.d_adjoint.get X g
  obtain ⟨f__law_pool, d__law_pool, F__law_pool, g__law_pool⟩ := F.d__law_pool.get X g
  obtain ⟨f__law_take, d__law_take, F__law_take, g__law_take⟩ := F.d__law_take.get X g
  obtain ⟨f__law_pick, d__law_pick, F__law_pick, g__law_pick⟩ := F.d__law_pick.get X g
  obtain ⟨f__law_is_integer, d__law_is_integer, F__law_is_integer, g__law_is_integer⟩ := F.d__law_is_integer.get X g
  obtain ⟨f__law_same, d__law_same, F__law_same, g__law_same⟩ := F.d__law_same.get X g
  obtain ⟨f__law_order, d__law_order, F__law_order, g__law_order⟩ := F.d__law_order.get X g
  obtain ⟨f__law_power, d__law_power, F__law_power, g__law_power⟩ := F.d__law_power.get X g
  obtain ⟨f__law_common, d__law_common, F__law_common, g__law_common⟩ := F.d__law_common.get X g
  obtain ⟨f__law_determinant, d__law_determinant, F__law_determinant, g__law_determinant⟩ := F.d__law_determinant.get X g
  obtain ⟨f__law_tuples, d__law_tuples, F__law_tuples, g__law_tuples⟩ := F.d__law_tuples.get X g
  obtain ⟨f__law_handed, d__law_handed, F__law_handed, g__law_handed⟩ := F.d__law_handed.get X g
  obtain ⟨f__law_dot, d__law_dot, F__law_dot, g__law_dot⟩ := F.d__law_dot.get X g
  obtain ⟨f__law_moved, d__law_moved, F__law_moved, g__law_moved⟩ := F.d__law_moved.get X g
  obtain ⟨f__law_unit, d__law_unit, F__law_unit, g__law_unit⟩ := F.d__law_unit.get X g
  obtain ⟨f__law_turn, d__law_turn, F__law_turn, g__law_turn⟩ := F.d__law_turn.get X g
  obtain ⟨f__law_skewed, d__law_skewed, F__law_skewed, g__law_skewed⟩ := F.d__law_skewed.get X g
  obtain ⟨f__law_beside, d__law_beside, F__law_beside, g__law_beside⟩ := F.d__law_beside.get X g
  obtain ⟨f__law_no_form, d__law_no_form, F__law_no_form, g__law_no_form⟩ := F.d__law_no_form.get X g
  obtain ⟨f__law_any_form, d__law_any_form, F__law_any_form, g__law_any_form⟩ := F.d__law_any_form.get X g
  obtain ⟨f__law_cofactors, d__law_cofactors, F__law_cofactors, g__law_cofactors⟩ := F.d__law_cofactors.get X g
  obtain ⟨f__law_told, d__law_told, F__law_told, g__law_told⟩ := F.d__law_told.get X g
  obtain ⟨f__law_adjoint, d__law_adjoint, F__law_adjoint, g__law_adjoint⟩ := F.d__law_adjoint.get X g
  obtain ⟨f__law_so, d__law_so, F__law_so, g__law_so⟩ := F.d__law_so.get X g
  obtain ⟨f__law_adjoints_so, d__law_adjoints_so, F__law_adjoints_so, g__law_adjoints_so⟩ := F.d__law_adjoints_so.get X g
  obtain ⟨f_law, d_law, F_law, g_law⟩ := F.d_law.get X g
  obtain ⟨t_MOST_NUMBER, v_MOST_NUMBER⟩ := F.v_MOST_NUMBER.get X g
  obtain ⟨t_MOST_VARIABLES, v_MOST_VARIABLES⟩ := F.v_MOST_VARIABLES.get X g
  obtain ⟨C_BadForm, C_BadTable, C_FormError, C_TooGreat, e_BadForm, e_BadTable, e_FormError, e_TooGreat, s_BadForm_BadForm, s_BadForm_BadTable, s_BadForm_FormError, s_BadForm_TooGreat, s_BadTable_BadForm, s_BadTable_BadTable, s_BadTable_FormError, s_BadTable_TooGreat, s_FormError_BadForm, s_FormError_BadTable, s_FormError_FormError, s_FormError_TooGreat, s_TooGreat_BadForm, s_TooGreat_BadTable, s_TooGreat_FormError, s_TooGreat_TooGreat, su_BadForm, nf_BadForm_reason, nf_BadTable_reason, nf_FormError_reason, nf_TooGreat_reason⟩ := F.xs
  obtain ⟨fI_BadForm, fl_BadForm, fd_BadForm, su_BadForm, sl_BadForm⟩ := su_BadForm
  let G : Gd := ⟨K, fun s => if s = "BadForm" then C_BadForm else if s = "BadTable" then C_BadTable else if s = "FormError" then C_FormError else if s = "TooGreat" then C_TooGreat else 0, [pT_fault_of]⟩
  have ca_BadForm : G.ca "BadForm" = C_BadForm := by simp [G]
  have ca_BadTable : G.ca "BadTable" = C_BadTable := by simp [G]
  have ca_FormError : G.ca "FormError" = C_FormError := by simp [G]
  have ca_TooGreat : G.ca "TooGreat" = C_TooGreat := by simp [G]
  refine ⟨G, [(cT_fault_of, pT_fault_of)], rfl, rfl, fun p hp => ?_, fun base TB => ⟨{ f_is_whole := f_is_whole, d_is_whole := d_is_whole, F_is_whole := F_is_whole, g_is_whole := g_is_whole, f_is_row := f_is_row, d_is_row := d_is_row, F_is_row := F_is_row, g_is_row := g_is_row, f_is_whole_row := f_is_whole_row, d_is_whole_row := d_is_whole_row, F_is_whole_row := F_is_whole_row, g_is_whole_row := g_is_whole_row, f_is_square := f_is_square, d_is_square := d_is_square, F_is_square := F_is_square, g_is_square := g_is_square, f_dot := f_dot, d_dot := d_dot, F_dot := F_dot, g_dot := g_dot, f_turned_over := f_turned_over, d_turned_over := d_turned_over, F_turned_over := F_turned_over, g_turned_over := g_turned_over, f_times := f_times, d_times := d_times, F_times := F_times, g_times := g_times, f_moved_by := f_moved_by, d_moved_by := d_moved_by, F_moved_by := F_moved_by, g_moved_by := g_moved_by, f_as_tuples := f_as_tuples, d_as_tuples := d_as_tuples, F_as_tuples := F_as_tuples, g_as_tuples := g_as_tuples, f_determinant_of := f_determinant_of, d_determinant_of := d_determinant_of, F_determinant_of := F_determinant_of, g_determinant_of := g_determinant_of, f_cofactors := f_cofactors, d_cofactors := d_cofactors, F_cofactors := F_cofactors, g_cofactors := g_cofactors, f_beside := f_beside, d_beside := d_beside, F_beside := F_beside, g_beside := g_beside, f_fault_of := f_fault_of, d_fault_of := d_fault_of, F_fault_of := F_fault_of, g_fault_of := g_fault_of, f_told_form := f_told_form, d_told_form := d_told_form, F_told_form := F_told_form, g_told_form := g_told_form, f_told_table := f_told_table, d_told_table := d_told_table, F_told_table := F_told_table, g_told_table := g_told_table, f_moved := f_moved, d_moved := d_moved, F_moved := F_moved, g_moved := g_moved, f_sum_of_forms := f_sum_of_forms, d_sum_of_forms := d_sum_of_forms, F_sum_of_forms := F_sum_of_forms, g_sum_of_forms := g_sum_of_forms, f_multiple := f_multiple, d_multiple := d_multiple, F_multiple := F_multiple, g_multiple := g_multiple, f_adjoint := f_adjoint, d_adjoint := d_adjoint, F_adjoint := F_adjoint, g_adjoint := g_adjoint, f__law_pool := f__law_pool, d__law_pool := d__law_pool, F__law_pool := F__law_pool, g__law_pool := g__law_pool, f__law_take := f__law_take, d__law_take := d__law_take, F__law_take := F__law_take, g__law_take := g__law_take, f__law_pick := f__law_pick, d__law_pick := d__law_pick, F__law_pick := F__law_pick, g__law_pick := g__law_pick, f__law_is_integer := f__law_is_integer, d__law_is_integer := d__law_is_integer, F__law_is_integer := F__law_is_integer, g__law_is_integer := g__law_is_integer, f__law_same := f__law_same, d__law_same := d__law_same, F__law_same := F__law_same, g__law_same := g__law_same, f__law_order := f__law_order, d__law_order := d__law_order, F__law_order := F__law_order, g__law_order := g__law_order, f__law_power := f__law_power, d__law_power := d__law_power, F__law_power := F__law_power, g__law_power := g__law_power, f__law_common := f__law_common, d__law_common := d__law_common, F__law_common := F__law_common, g__law_common := g__law_common, f__law_determinant := f__law_determinant, d__law_determinant := d__law_determinant, F__law_determinant := F__law_determinant, g__law_determinant := g__law_determinant, f__law_tuples := f__law_tuples, d__law_tuples := d__law_tuples, F__law_tuples := F__law_tuples, g__law_tuples := g__law_tuples, f__law_handed := f__law_handed, d__law_handed := d__law_handed, F__law_handed := F__law_handed, g__law_handed := g__law_handed, f__law_dot := f__law_dot, d__law_dot := d__law_dot, F__law_dot := F__law_dot, g__law_dot := g__law_dot, f__law_moved := f__law_moved, d__law_moved := d__law_moved, F__law_moved := F__law_moved, g__law_moved := g__law_moved, f__law_unit := f__law_unit, d__law_unit := d__law_unit, F__law_unit := F__law_unit, g__law_unit := g__law_unit, f__law_turn := f__law_turn, d__law_turn := d__law_turn, F__law_turn := F__law_turn, g__law_turn := g__law_turn, f__law_skewed := f__law_skewed, d__law_skewed := d__law_skewed, F__law_skewed := F__law_skewed, g__law_skewed := g__law_skewed, f__law_beside := f__law_beside, d__law_beside := d__law_beside, F__law_beside := F__law_beside, g__law_beside := g__law_beside, f__law_no_form := f__law_no_form, d__law_no_form := d__law_no_form, F__law_no_form := F__law_no_form, g__law_no_form := g__law_no_form, f__law_any_form := f__law_any_form, d__law_any_form := d__law_any_form, F__law_any_form := F__law_any_form, g__law_any_form := g__law_any_form, f__law_cofactors := f__law_cofactors, d__law_cofactors := d__law_cofactors, F__law_cofactors := F__law_cofactors, g__law_cofactors := g__law_cofactors, f__law_told := f__law_told, d__law_told := d__law_told, F__law_told := F__law_told, g__law_told := g__law_told, f__law_adjoint := f__law_adjoint, d__law_adjoint := d__law_adjoint, F__law_adjoint := F__law_adjoint, g__law_adjoint := g__law_adjoint, f__law_so := f__law_so, d__law_so := d__law_so, F__law_so := F__law_so, g__law_so := g__law_so, f__law_adjoints_so := f__law_adjoints_so, d__law_adjoints_so := d__law_adjoints_so, F__law_adjoints_so := F__law_adjoints_so, g__law_adjoints_so := g__law_adjoints_so, f_law := f_law, d_law := d_law, F_law := F_law, g_law := g_law, n_abs := F.n_abs.get X g, n_all := F.n_all.get X g, n_any := F.n_any.get X g, n_bool := F.n_bool.get X g, n_enumerate := F.n_enumerate.get X g, n_int := F.n_int.get X g, n_isinstance := F.n_isinstance.get X g, n_len := F.n_len.get X g, n_list := F.n_list.get X g, n_max := F.n_max.get X g, n_range := F.n_range.get X g, n_str := F.n_str.get X g, n_sum := F.n_sum.get X g, n_tuple := F.n_tuple.get X g, n_zip := F.n_zip.get X g, i_gcd := F.i_gcd.get X g, t_MOST_NUMBER := t_MOST_NUMBER, v_MOST_NUMBER := v_MOST_NUMBER, t_MOST_VARIABLES := t_MOST_VARIABLES, v_MOST_VARIABLES := v_MOST_VARIABLES, C_BadForm := C_BadForm, g_BadForm := PySem.W.mg_of X g e_BadForm.at_, a_BadForm := ca_BadForm, e_BadForm := fun cn b h => by unfold is_BadForm at h; split at h <;> cases h <;> simp only [ca_BadForm, ca_BadTable, ca_FormError, ca_TooGreat] <;> first | exact e_BadForm.exm s_BadForm_BadForm | exact e_BadForm.exm s_BadTable_BadForm | exact e_BadForm.exm s_FormError_BadForm | exact e_BadForm.exm s_TooGreat_BadForm, s_BadForm := fun cn b h => by unfold is_BadForm at h; split at h <;> cases h <;> simp only [ca_BadForm, ca_BadTable, ca_FormError, ca_TooGreat] <;> first | exact e_BadForm.kit s_BadForm_BadForm s_BadForm_BadForm | exact e_BadForm.kit s_BadTable_BadForm s_BadForm_BadForm | exact e_BadForm.kit s_FormError_BadForm s_BadForm_BadForm | exact e_BadForm.kit s_TooGreat_BadForm s_BadForm_BadForm, C_BadTable := C_BadTable, g_BadTable := PySem.W.mg_of X g e_BadTable.at_, a_BadTable := ca_BadTable, q_BadTable := e_BadTable.q, k_BadTable := e_BadTable.k, b_BadTable := e_BadTable.b, t_BadTable := e_BadTable.t, e_BadTable := fun cn b h => by unfold is_BadTable at h; split at h <;> cases h <;> simp only [ca_BadForm, ca_BadTable, ca_FormError, ca_TooGreat] <;> first | exact e_BadTable.exm s_BadForm_BadTable | exact e_BadTable.exm s_BadTable_BadTable | exact e_BadTable.exm s_FormError_BadTable | exact e_BadTable.exm s_TooGreat_BadTable, s_BadTable := fun cn b h => by unfold is_BadTable at h; split at h <;> cases h <;> simp only [ca_BadForm, ca_BadTable, ca_FormError, ca_TooGreat] <;> first | exact e_BadTable.kit s_BadForm_BadTable s_BadTable_BadTable | exact e_BadTable.kit s_BadTable_BadTable s_BadTable_BadTable | exact e_BadTable.kit s_FormError_BadTable s_BadTable_BadTable | exact e_BadTable.kit s_TooGreat_BadTable s_BadTable_BadTable, C_FormError := C_FormError, g_FormError := PySem.W.mg_of X g e_FormError.at_, a_FormError := ca_FormError, e_FormError := fun cn b h => by unfold is_FormError at h; split at h <;> cases h <;> simp only [ca_BadForm, ca_BadTable, ca_FormError, ca_TooGreat] <;> first | exact e_FormError.exm s_BadForm_FormError | exact e_FormError.exm s_BadTable_FormError | exact e_FormError.exm s_FormError_FormError | exact e_FormError.exm s_TooGreat_FormError, s_FormError := fun cn b h => by unfold is_FormError at h; split at h <;> cases h <;> simp only [ca_BadForm, ca_BadTable, ca_FormError, ca_TooGreat] <;> first | exact e_FormError.kit s_BadForm_FormError s_FormError_FormError | exact e_FormError.kit s_BadTable_FormError s_FormError_FormError | exact e_FormError.kit s_FormError_FormError s_FormError_FormError | exact e_FormError.kit s_TooGreat_FormError s_FormError_FormError, C_TooGreat := C_TooGreat, g_TooGreat := PySem.W.mg_of X g e_TooGreat.at_, a_TooGreat := ca_TooGreat, q_TooGreat := e_TooGreat.q, k_TooGreat := e_TooGreat.k, b_TooGreat := e_TooGreat.b, t_TooGreat := e_TooGreat.t, e_TooGreat := fun cn b h => by unfold is_TooGreat at h; split at h <;> cases h <;> simp only [ca_BadForm, ca_BadTable, ca_FormError, ca_TooGreat] <;> first | exact e_TooGreat.exm s_BadForm_TooGreat | exact e_TooGreat.exm s_BadTable_TooGreat | exact e_TooGreat.exm s_FormError_TooGreat | exact e_TooGreat.exm s_TooGreat_TooGreat, s_TooGreat := fun cn b h => by unfold is_TooGreat at h; split at h <;> cases h <;> simp only [ca_BadForm, ca_BadTable, ca_FormError, ca_TooGreat] <;> first | exact e_TooGreat.kit s_BadForm_TooGreat s_TooGreat_TooGreat | exact e_TooGreat.kit s_BadTable_TooGreat s_TooGreat_TooGreat | exact e_TooGreat.kit s_FormError_TooGreat s_TooGreat_TooGreat | exact e_TooGreat.kit s_TooGreat_TooGreat s_TooGreat_TooGreat, fI_BadForm := fI_BadForm, fl_BadForm := fl_BadForm, fd_BadForm := fd_BadForm, su_BadForm := su_BadForm, sl_BadForm := sl_BadForm, cT_fault_of := cT_fault_of, pT_fault_of := pT_fault_of, tb_fault_of := TB (cT_fault_of, pT_fault_of) (by simp), tm_fault_of := by simp [G], tc_fault_of := tab_code F_fault_of X g g_fault_of tI_fault_of, nf_reason := fun cn h => by simp only [exNames, List.mem_cons, List.not_mem_nil, or_false] at h; rcases h with rfl | rfl | rfl | rfl <;> simp only [ca_BadForm, ca_BadTable, ca_FormError, ca_TooGreat] <;> first | exact nf_BadForm_reason | exact nf_BadTable_reason | exact nf_FormError_reason | exact nf_TooGreat_reason, xc := fun cn h => by simp only [exNames, List.mem_cons, List.not_mem_nil, or_false] at h; rcases h with rfl | rfl | rfl | rfl <;> simp only [ca_BadForm, ca_BadTable, ca_FormError, ca_TooGreat] <;> first | exact e_BadForm.x | exact e_BadTable.x | exact e_FormError.x | exact e_TooGreat.x }⟩⟩
  simp only [List.mem_cons, List.not_mem_nil, or_false] at hp
  subst hp
  exact TT "fault_of" (by simp [tabNs]) _ _ tI_fault_of
theorem fin {l : PySem.W.OpenLaw} (hp : l.prog = PP) {w : World} {K : PySem.W.Frag} {mg : Str → Option Value} {fa : Addr} {h : Heap} (F : Facts K) (hl : ∀ ns : List Int, ns.length ≤ 63 → ∃ M, m_law (startD N_law [.scr ns]) [] = .rt (.bl true) M) (X : K.In h) (g : h.Ns mainGlobals mg) (hf : mg "law" = some (.ref fa)) (TT : ∀ y ∈ tabNs, ∀ c Q, PySem.W.tabIn K y = some (c, Q) → PySem.W.CodeHd h c Q ∧ h.get? Q = some (PySem.W.tabObj #[])) :
    LamX.LawAtS l w K CX0 11 63 "script" mg fa h := by
  obtain ⟨G, cs, rfl, ht, hcs, mk⟩ := txt_mk F X g TT
  have mk0 : ∃ fd f, Fun G.K "law" "law" s_law f fd ∧ mg "law" = some (.ref f) := let ⟨f, fd, a, b⟩ := F.d_law.get X g; ⟨fd, f, a, b⟩
  obtain ⟨fd0, f0, FL, gL⟩ := mk0
  refine law_fin X g FL gL hf ht hcs F.nt (fun _ _ _ _ _ _ _ => rfl) fun base h1 h2 h3 => ?_
  obtain ⟨T⟩ := mk base h3
  have e1 := T.g_law
  rw [gL] at e1
  cases e1
  rw [hp]
  have e2 := fun_same FL T.F_law
  subst e2
  exact ok_law T hl
end K02

open PySem PySem.W PyProof.Rows
set_option maxHeartbeats 0 in
theorem PySem.Challenge.cw_generaproved_k02_whole_moves_and_adjoint_holds : PySem.Challenge.rw_generaproved_k02_whole_moves_and_adjoint.Holds := by
  w_on; o_law; k_head; (case hw => w_witness2)
  k_fill
  refine DM.walk_tab (l := PySem.Challenge.rw_generaproved_k02_whole_moves_and_adjoint) (n := 63) (k := 11) (x := "script") (xs := K02.tabNs) rfl (by decide) rfl ⟨rfl, by decide, by decide⟩ K02.hrec (fun w h Y => PySem.W.kIn_of Y) ?F
  case F =>
    intro w mg fa h KX G hmg TT
    refine' K02.fin rfl ⟨?d_is_whole, ?d_is_row, ?d_is_whole_row, ?d_is_square, ?d_dot, ?d_turned_over, ?d_times, ?d_moved_by, ?d_as_tuples, ?d_determinant_of, ?d_cofactors, ?d_beside, ?d_fault_of, ?d_told_form, ?d_told_table, ?d_moved, ?d_sum_of_forms, ?d_multiple, ?d_adjoint, ?d__law_pool, ?d__law_take, ?d__law_pick, ?d__law_is_integer, ?d__law_same, ?d__law_order, ?d__law_power, ?d__law_common, ?d__law_determinant, ?d__law_tuples, ?d__law_handed, ?d__law_dot, ?d__law_moved, ?d__law_unit, ?d__law_turn, ?d__law_skewed, ?d__law_beside, ?d__law_no_form, ?d__law_any_form, ?d__law_cofactors, ?d__law_told, ?d__law_adjoint, ?d__law_so, ?d__law_adjoints_so, ?d_law, ?n_abs, ?n_all, ?n_any, ?n_bool, ?n_enumerate, ?n_int, ?n_isinstance, ?n_len, ?n_list, ?n_max, ?n_range, ?n_str, ?n_sum, ?n_tuple, ?n_zip, ?i_gcd, ?v_MOST_NUMBER, ?v_MOST_VARIABLES, ?xs, ?tb_fault_of, ?nt⟩ K02.law_true KX G hmg TT
    (case d_is_whole => refine' DM.Def1.mk1 KX ?a ?b ?c ?d; (case a => k_is); (case b => k_is); (case c => k_is); (case d => k_is))
    (case d_is_row => refine' DM.Def1.mk1 KX ?a ?b ?c ?d; (case a => k_is); (case b => k_is); (case c => k_is); (case d => k_is))
    (case d_is_whole_row => refine' DM.Def1.mk1 KX ?a ?b ?c ?d; (case a => k_is); (case b => k_is); (case c => k_is); (case d => k_is))
    (case d_is_square => refine' DM.Def1.mk1 KX ?a ?b ?c ?d; (case a => k_is); (case b => k_is); (case c => k_is); (case d => k_is))
    (case d_dot => refine' DM.Def1.mk1 KX ?a ?b ?c ?d; (case a => k_is); (case b => k_is); (case c => k_is); (case d => k_is))
    (case d_turned_over => refine' DM.Def1.mk1 KX ?a ?b ?c ?d; (case a => k_is); (case b => k_is); (case c => k_is); (case d => k_is))
    (case d_times => refine' DM.Def1.mk1 KX ?a ?b ?c ?d; (case a => k_is); (case b => k_is); (case c => k_is); (case d => k_is))
    (case d_moved_by => refine' DM.Def1.mk1 KX ?a ?b ?c ?d; (case a => k_is); (case b => k_is); (case c => k_is); (case d => k_is))
    (case d_as_tuples => refine' DM.Def1.mk1 KX ?a ?b ?c ?d; (case a => k_is); (case b => k_is); (case c => k_is); (case d => k_is))
    (case d_determinant_of => refine' DM.Def1.mk1 KX ?a ?b ?c ?d; (case a => k_is); (case b => k_is); (case c => k_is); (case d => k_is))
    (case d_cofactors => refine' DM.Def1.mk1 KX ?a ?b ?c ?d; (case a => k_is); (case b => k_is); (case c => k_is); (case d => k_is))
    (case d_beside => refine' DM.Def1.mk1 KX ?a ?b ?c ?d; (case a => k_is); (case b => k_is); (case c => k_is); (case d => k_is))
    (case d_fault_of => refine' DM.Def1.mk1 KX ?a ?b ?c ?d; (case a => k_is); (case b => k_is); (case c => k_is); (case d => k_is))
    (case d_told_form => refine' DM.Def1.mk1 KX ?a ?b ?c ?d; (case a => k_is); (case b => k_is); (case c => k_is); (case d => k_is))
    (case d_told_table => refine' DM.Def1.mk1 KX ?a ?b ?c ?d; (case a => k_is); (case b => k_is); (case c => k_is); (case d => k_is))
    (case d_moved => refine' DM.Def1.mk1 KX ?a ?b ?c ?d; (case a => k_is); (case b => k_is); (case c => k_is); (case d => k_is))
    (case d_sum_of_forms => refine' DM.Def1.mk1 KX ?a ?b ?c ?d; (case a => k_is); (case b => k_is); (case c => k_is); (case d => k_is))
    (case d_multiple => refine' DM.Def1.mk1 KX ?a ?b ?c ?d; (case a => k_is); (case b => k_is); (case c => k_is); (case d => k_is))
    (case d_adjoint => refine' DM.Def1.mk1 KX ?a ?b ?c ?d; (case a => k_is); (case b => k_is); (case c => k_is); (case d => k_is))
    (case d__law_pool => refine' DM.Def1.mk1 KX ?a ?b ?c ?d; (case a => k_is); (case b => k_is); (case c => k_is); (case d => k_is))
    (case d__law_take => refine' DM.Def1.mk1 KX ?a ?b ?c ?d; (case a => k_is); (case b => k_is); (case c => k_is); (case d => k_is))
    (case d__law_pick => refine' DM.Def1.mk1 KX ?a ?b ?c ?d; (case a => k_is); (case b => k_is); (case c => k_is); (case d => k_is))
    (case d__law_is_integer => refine' DM.Def1.mk1 KX ?a ?b ?c ?d; (case a => k_is); (case b => k_is); (case c => k_is); (case d => k_is))
    (case d__law_same => refine' DM.Def1.mk1 KX ?a ?b ?c ?d; (case a => k_is); (case b => k_is); (case c => k_is); (case d => k_is))
    (case d__law_order => refine' DM.Def1.mk1 KX ?a ?b ?c ?d; (case a => k_is); (case b => k_is); (case c => k_is); (case d => k_is))
    (case d__law_power => refine' DM.Def1.mk1 KX ?a ?b ?c ?d; (case a => k_is); (case b => k_is); (case c => k_is); (case d => k_is))
    (case d__law_common => refine' DM.Def1.mk1 KX ?a ?b ?c ?d; (case a => k_is); (case b => k_is); (case c => k_is); (case d => k_is))
    (case d__law_determinant => refine' DM.Def1.mk1 KX ?a ?b ?c ?d; (case a => k_is); (case b => k_is); (case c => k_is); (case d => k_is))
    (case d__law_tuples => refine' DM.Def1.mk1 KX ?a ?b ?c ?d; (case a => k_is); (case b => k_is); (case c => k_is); (case d => k_is))
    (case d__law_handed => refine' DM.Def1.mk1 KX ?a ?b ?c ?d; (case a => k_is); (case b => k_is); (case c => k_is); (case d => k_is))
    (case d__law_dot => refine' DM.Def1.mk1 KX ?a ?b ?c ?d; (case a => k_is); (case b => k_is); (case c => k_is); (case d => k_is))
    (case d__law_moved => refine' DM.Def1.mk1 KX ?a ?b ?c ?d; (case a => k_is); (case b => k_is); (case c => k_is); (case d => k_is))
    (case d__law_unit => refine' DM.Def1.mk1 KX ?a ?b ?c ?d; (case a => k_is); (case b => k_is); (case c => k_is); (case d => k_is))
    (case d__law_turn => refine' DM.Def1.mk1 KX ?a ?b ?c ?d; (case a => k_is); (case b => k_is); (case c => k_is); (case d => k_is))
    (case d__law_skewed => refine' DM.Def1.mk1 KX ?a ?b ?c ?d; (case a => k_is); (case b => k_is); (case c => k_is); (case d => k_is))
    (case d__law_beside => refine' DM.Def1.mk1 KX ?a ?b ?c ?d; (case a => k_is); (case b => k_is); (case c => k_is); (case d => k_is))
    (case d__law_no_form => refine' DM.Def1.mk1 KX ?a ?b ?c ?d; (case a => k_is); (case b => k_is); (case c => k_is); (case d => k_is))
    (case d__law_any_form => refine' DM.Def1.mk1 KX ?a ?b ?c ?d; (case a => k_is); (case b => k_is); (case c => k_is); (case d => k_is))
    (case d__law_cofactors => refine' DM.Def1.mk1 KX ?a ?b ?c ?d; (case a => k_is); (case b => k_is); (case c => k_is); (case d => k_is))
    (case d__law_told => refine' DM.Def1.mk1 KX ?a ?b ?c ?d; (case a => k_is); (case b => k_is); (case c => k_is); (case d => k_is))
    (case d__law_adjoint => refine' DM.Def1.mk1 KX ?a ?b ?c ?d; (case a => k_is); (case b => k_is); (case c => k_is); (case d => k_is))
    (case d__law_so => refine' DM.Def1.mk1 KX ?a ?b ?c ?d; (case a => k_is); (case b => k_is); (case c => k_is); (case d => k_is))
    (case d__law_adjoints_so => refine' DM.Def1.mk1 KX ?a ?b ?c ?d; (case a => k_is); (case b => k_is); (case c => k_is); (case d => k_is))
    (case d_law => refine' DM.Def1.mk1 KX ?a ?b ?c ?d; (case a => k_is); (case b => k_is); (case c => k_is); (case d => k_is))
    (case n_abs => refine' DM.No1.mk1 KX ?a; (case a => k_is))
    (case n_all => refine' DM.No1.mk1 KX ?a; (case a => k_is))
    (case n_any => refine' DM.No1.mk1 KX ?a; (case a => k_is))
    (case n_bool => refine' DM.No1.mk1 KX ?a; (case a => k_is))
    (case n_enumerate => refine' DM.No1.mk1 KX ?a; (case a => k_is))
    (case n_int => refine' DM.No1.mk1 KX ?a; (case a => k_is))
    (case n_isinstance => refine' DM.No1.mk1 KX ?a; (case a => k_is))
    (case n_len => refine' DM.No1.mk1 KX ?a; (case a => k_is))
    (case n_list => refine' DM.No1.mk1 KX ?a; (case a => k_is))
    (case n_max => refine' DM.No1.mk1 KX ?a; (case a => k_is))
    (case n_range => refine' DM.No1.mk1 KX ?a; (case a => k_is))
    (case n_str => refine' DM.No1.mk1 KX ?a; (case a => k_is))
    (case n_sum => refine' DM.No1.mk1 KX ?a; (case a => k_is))
    (case n_tuple => refine' DM.No1.mk1 KX ?a; (case a => k_is))
    (case n_zip => refine' DM.No1.mk1 KX ?a; (case a => k_is))
    (case i_gcd => refine' DM.Blt1.mk1 KX ?a; (case a => k_is))
    (case v_MOST_NUMBER => refine' DM.Int1.mk1 KX ?a; (case a => k_is))
    (case v_MOST_VARIABLES => refine' DM.Int1.mk1 KX ?a; (case a => k_is))
    (case xs => refine' K02.Xs.mk1 KX ?e_BadForm ?e_BadTable ?e_FormError ?e_TooGreat ?s_BadForm_BadForm ?s_BadForm_BadTable ?s_BadForm_FormError ?s_BadForm_TooGreat ?s_BadTable_BadForm ?s_BadTable_BadTable ?s_BadTable_FormError ?s_BadTable_TooGreat ?s_FormError_BadForm ?s_FormError_BadTable ?s_FormError_FormError ?s_FormError_TooGreat ?s_TooGreat_BadForm ?s_TooGreat_BadTable ?s_TooGreat_FormError ?s_TooGreat_TooGreat ?su_BadForm ?nf_BadForm_reason ?nf_BadTable_reason ?nf_FormError_reason ?nf_TooGreat_reason; (case e_BadForm => refine' DM.Exc0.mk1 KX ?x0 ?x1 ?x2 ?x3 ?x4 ?x5 ?x6 ?x7 ?x8 ?x9 ?x10; (case x0 => k_is); (case x1 => k_is); (case x2 => k_is); (case x3 => k_is); (case x4 => k_is); (case x5 => k_is); (case x6 => k_is); (case x7 => k_is); (case x8 => k_is); (case x9 => k_is); (case x10 => k_is)); (case e_BadTable => refine' DM.Exc1.mk1 KX ?x0 ?x1 ?x2 ?x3 ?x4 ?x5 ?x6 ?x7 ?x8 ?x9 ?x10 ?x11; (case x0 => k_is); (case x1 => k_exc); (case x2 => k_is); (case x3 => k_is); (case x4 => k_is); (case x5 => k_is); (case x6 => k_is); (case x7 => k_is); (case x8 => k_is); (case x9 => k_is); (case x10 => k_is); (case x11 => k_is)); (case e_FormError => refine' DM.Exc1.mk1 KX ?x0 ?x1 ?x2 ?x3 ?x4 ?x5 ?x6 ?x7 ?x8 ?x9 ?x10 ?x11; (case x0 => k_is); (case x1 => k_exc); (case x2 => k_is); (case x3 => k_is); (case x4 => k_is); (case x5 => k_is); (case x6 => k_is); (case x7 => k_is); (case x8 => k_is); (case x9 => k_is); (case x10 => k_is); (case x11 => k_is)); (case e_TooGreat => refine' DM.Exc1.mk1 KX ?x0 ?x1 ?x2 ?x3 ?x4 ?x5 ?x6 ?x7 ?x8 ?x9 ?x10 ?x11; (case x0 => k_is); (case x1 => k_exc); (case x2 => k_is); (case x3 => k_is); (case x4 => k_is); (case x5 => k_is); (case x6 => k_is); (case x7 => k_is); (case x8 => k_is); (case x9 => k_is); (case x10 => k_is); (case x11 => k_is)); (case s_BadForm_BadForm => k_is); (case s_BadForm_BadTable => k_is); (case s_BadForm_FormError => k_is); (case s_BadForm_TooGreat => k_is); (case s_BadTable_BadForm => k_is); (case s_BadTable_BadTable => k_is); (case s_BadTable_FormError => k_is); (case s_BadTable_TooGreat => k_is); (case s_FormError_BadForm => k_is); (case s_FormError_BadTable => k_is); (case s_FormError_FormError => k_is); (case s_FormError_TooGreat => k_is); (case s_TooGreat_BadForm => k_is); (case s_TooGreat_BadTable => k_is); (case s_TooGreat_FormError => k_is); (case s_TooGreat_TooGreat => k_is); (case su_BadForm => refine' DM.SupF.mk1 KX ?a1 ?a2 ?a3 ?a4 ?a5 ?a6 ?b1 ?b2 ?b3 ?b4 ?b5 ?b6 ?b7 ?c1 ?c2 ?c3 ?c4 ?c5 ?c6 ?c7; (case a1 => k_is); (case a2 => decide +kernel); (case a3 => k_is); (case a4 => k_is); (case a5 => k_is); (case a6 => k_is); (case b1 => k_is); (case b2 => k_is); (case b3 => k_is); (case b4 => k_is); (case b5 => k_is); (case b6 => exact rfl); (case b7 => k_is); (case c1 => k_is); (case c2 => k_is); (case c3 => k_is); (case c4 => first | ks_is | kernel_rfl | decide +kernel); (case c5 => k_is); (case c6 => k_is); (case c7 => first | rfl | decide +kernel)); (case nf_BadForm_reason => k_is); (case nf_BadTable_reason => k_is); (case nf_FormError_reason => k_is); (case nf_TooGreat_reason => k_is))
    (case tb_fault_of => refine' DM.TabF.mk1 KX ?a ?b ?c ?d ?e; (case a => k_is); (case b => k_is); (case c => exact rfl); (case d => k_is); (case e => exact rfl))
    (case nt => first | kernel_rfl | decide +kernel)

